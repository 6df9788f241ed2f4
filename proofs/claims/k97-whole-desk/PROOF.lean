import PyProof.Rows.All
import Wide.All
import OpenK.AllK
import Wide.FinOn
import HandS.ForMost
import HandS.Exc
import HandS.ExcIs
import HandS.ExcField
import HandS.Defaults
import HandS.HotCalls
import HandS.HeadHook2
import KE.KStateDown
import HandS.Base
import HandS.Call
import HandS.Ends
import HandS.More
import HandS.Words
import HandS.WordsExc
import HandS.Head0
import HandS.Head1
import HandS.Head2
import HandS.HeadEnd
import HandS.HeadHook1
import PySem.Challenge.RW_labeltill_k97_whole_desk_and_shop
import HandS.ExcInit
import HandS.ExcOwn
import KE.KExcSuper
import HandS.Property
import HandS.Style
import HandS.IsInst
import HandS.Iter
import HandS.Comp
import HandS.SortRule
import HandS.Star
import HandS.Deep
import KE.KAssignIn
import HandS.ExcCtx
import HandS.SuiteRaise
import HandS.Dict
import HandS.DictComp
import HandS.ListItems
import HandS.SetFor
import KE.KDictZip
import HandS.Zip
import HandS.Text
import PyProof.Rows.ReprOcc
set_option Elab.async false
set_option linter.all false
set_option maxRecDepth 100000
set_option maxHeartbeats 2000000
set_option autoImplicit false
/-! # Part A: plain data over the abstract heap; judgements as weakest preconditions over data -/
namespace K97
open PySem PySem.Spec PyProof.Rows L2

/-- the own classes whose instances are told -/
inductive Cl where
  | book | line | shop | desk
  deriving DecidableEq
def Cl.nm : Cl → Str
  | .book => "Book" | .line => "Line" | .shop => "Shop" | .desk => "Desk"
/-- plain data: what a Python value is worth; adr: an object that may change, told apart -/
inductive D where
  | non | bl (b : Bool) | int (i : Int) | str (x : Str)
  | lst (ds : List D) | tup (ds : List D) | dict (ks : List Str) (ds : List D)
  | obj (c : Cl) (ks : List Str) (ds : List D)
  | adr (a : Addr)
  | scr (ns : List Int) | ty (n : String)
/-- an object that may change: a list, an instance -/
inductive Ow where
  | lst (ds : List D) | ob (c : Cl) (ks : List Str) (ds : List D) | raw (o : HO)
abbrev Om := Addr → Option Ow
def Om.put (O : Om) (a : Addr) (o : Ow) : Om := fun b => if b = a then some o else O b
def Om.del (O : Om) (a : Addr) : Om := fun b => if b = a then none else O b
theorem Om.put_same {O : Om} {a : Addr} {o : Ow} : O.put a o a = some o := by unfold Om.put; rw [if_pos rfl]
theorem Om.put_ne {O : Om} {a b : Addr} {o : Ow} (h : b ≠ a) : O.put a o b = O b := by unfold Om.put; rw [if_neg h]
theorem Om.put_put {O : Om} {a : Addr} {o u : Ow} : (O.put a o).put a u = O.put a u := by
  funext b; unfold Om.put; split <;> rfl
theorem Om.put_del {O : Om} {a : Addr} {o : Ow} (h : O a = none) : (O.put a o).del a = O := by
  funext b
  show (if b = a then none else (if b = a then some o else O b)) = O b
  by_cases e : b = a
  · rw [if_pos e, e, h]
  · rw [if_neg e, if_neg e]
theorem Om.put_eq {O : Om} {a : Addr} {o : Ow} (h : O a = some o) : O.put a o = O := by
  funext b
  show (if b = a then some o else O b) = O b
  by_cases e : b = a
  · rw [if_pos e, e, h]
  · rw [if_neg e]

section
variable (K : PySem.W.Frag)
/-- the class's address -/
def ca (c : Cl) : Addr := He.ga K c.nm
def Le (F F' : Hp) : Prop := ∀ a o, F a = some o → F' a = some o
theorem Le.refl (F : Hp) : Le F F := fun _ _ h => h
theorem Le.trans {F F1 F2 : Hp} (a : Le F F1) (b : Le F1 F2) : Le F F2 := fun x o h => b x o (a x o h)
theorem Le.sqL {K : PySem.W.Frag} {F F' : Hp} {a : Addr} {xs : List V} (e : Le F F') (h : SqL K F a xs) : SqL K F' a xs := by
  rcases h with (h | ⟨o, h⟩) | h
  · exact .inl (.inl (e _ _ h))
  · exact .inl (.inr ⟨o, e _ _ h⟩)
  · exact .inr h
theorem Le.sqT {K : PySem.W.Frag} {F F' : Hp} {a : Addr} {xs : List V} (e : Le F F') (h : SqT K F a xs) : SqT K F' a xs := by
  rcases h with (h | ⟨o, h⟩) | h
  · exact .inl (.inl (e _ _ h))
  · exact .inl (.inr ⟨o, e _ _ h⟩)
  · exact .inr h
theorem Le.free {F F' : Hp} {a : Addr} (e : Le F F') (h : F' a = none) : F a = none := by
  cases q : F a with
  | none => rfl
  | some o => rw [e _ _ q] at h; cases h

mutual
/-- v is worth d, over the frozen part F of the heap -/
def Rep (F : Hp) : D → V → Prop
  | .non, v => v = .non
  | .bl b, v => v = .bl b
  | .int i, v => v = .int i
  | .str x, v => v = .str x
  | .adr a, v => v = .ref a
  | .ty n, v => v = .ty n
  | .lst ds, v => ∃ a xs, v = .ref a ∧ F a = some (.lst xs) ∧ Reps F ds xs
  | .scr ns, v => ∃ a, v = .ref a ∧ SqL K F a (ns.map V.int)
  | .tup ds, v => ∃ a xs, v = .ref a ∧ SqT K F a xs ∧ Reps F ds xs
  | .dict ks ds, v => ∃ a xs, v = .ref a ∧ F a = some (.dK ((ks.map Sum.inr).zip xs)) ∧ ks.length = xs.length ∧ Reps F ds xs
  | .obj c ks ds, v => ∃ a dx xs, v = .ref a ∧ F a = some (.ins (ca K c) dx (ks.zip xs)) ∧ F dx = some (.own a) ∧ ks.length = xs.length ∧ Reps F ds xs
def Reps (F : Hp) : List D → List V → Prop
  | [], xs => xs = []
  | d :: ds, xs => ∃ x r, xs = x :: r ∧ Rep F d x ∧ Reps F ds r
end

variable {K}
mutual
theorem Rep.mono {F F' : Hp} (e : Le F F') : ∀ {d : D} {v : V}, Rep K F d v → Rep K F' d v
  | .non, _, h => by rw [Rep] at h ⊢; exact h
  | .bl b, _, h => by rw [Rep] at h ⊢; exact h
  | .int b, _, h => by rw [Rep] at h ⊢; exact h
  | .str b, _, h => by rw [Rep] at h ⊢; exact h
  | .adr b, _, h => by rw [Rep] at h ⊢; exact h
  | .ty b, _, h => by rw [Rep] at h ⊢; exact h
  | .lst ds, _, h => by
    rw [Rep] at h ⊢
    obtain ⟨a, xs, h1, h2, h3⟩ := h
    exact ⟨a, xs, h1, e _ _ h2, Reps.mono e h3⟩
  | .scr ns, _, h => by
    rw [Rep] at h ⊢
    obtain ⟨a, h1, h2⟩ := h
    exact ⟨a, h1, e.sqL h2⟩
  | .tup ds, _, h => by
    rw [Rep] at h ⊢
    obtain ⟨a, xs, h1, h2, h3⟩ := h
    exact ⟨a, xs, h1, e.sqT h2, Reps.mono e h3⟩
  | .dict ks ds, _, h => by
    rw [Rep] at h ⊢
    obtain ⟨a, xs, h1, h2, h3, h4⟩ := h
    exact ⟨a, xs, h1, e _ _ h2, h3, Reps.mono e h4⟩
  | .obj c ks ds, _, h => by
    rw [Rep] at h ⊢
    obtain ⟨a, dx, xs, h1, h2, h3, h4, h5⟩ := h
    exact ⟨a, dx, xs, h1, e _ _ h2, e _ _ h3, h4, Reps.mono e h5⟩
theorem Reps.mono {F F' : Hp} (e : Le F F') : ∀ {ds : List D} {xs : List V}, Reps K F ds xs → Reps K F' ds xs
  | [], _, h => by rw [Reps] at h ⊢; exact h
  | d :: ds, _, h => by
    rw [Reps] at h ⊢
    obtain ⟨x, r, h1, h2, h3⟩ := h
    exact ⟨x, r, h1, Rep.mono e h2, Reps.mono e h3⟩
end
theorem Reps.nil {F : Hp} : Reps K F [] [] := by rw [Reps]
theorem Reps.cons {F : Hp} {d : D} {ds : List D} {x : V} {xs : List V} (h : Rep K F d x) (t : Reps K F ds xs) : Reps K F (d :: ds) (x :: xs) := by
  rw [Reps]; exact ⟨x, xs, rfl, h, t⟩
theorem Reps.nil_iff {F : Hp} {xs : List V} : Reps K F [] xs ↔ xs = [] := by rw [Reps]
theorem Reps.cons_iff {F : Hp} {d : D} {ds : List D} {xs : List V} : Reps K F (d :: ds) xs ↔ ∃ x r, xs = x :: r ∧ Rep K F d x ∧ Reps K F ds r := by rw [Reps]
theorem Reps.length {F : Hp} : ∀ {ds : List D} {xs : List V}, Reps K F ds xs → ds.length = xs.length
  | [], _, h => by rw [Reps.nil_iff] at h; subst h; rfl
  | d :: ds, _, h => by
    obtain ⟨x, r, rfl, _, t⟩ := Reps.cons_iff.mp h
    rw [List.length_cons, List.length_cons, Reps.length t]
theorem Reps.get {F : Hp} : ∀ {ds : List D} {xs : List V} {i : Nat} {d : D}, Reps K F ds xs → ds[i]? = some d → ∃ x, xs[i]? = some x ∧ Rep K F d x
  | [], _, _, _, _, e => by simp at e
  | d :: ds, _, 0, _, h, e => by
    obtain ⟨x, r, rfl, h1, t⟩ := Reps.cons_iff.mp h
    simp at e; subst e; exact ⟨x, rfl, h1⟩
  | d :: ds, _, i + 1, _, h, e => by
    obtain ⟨x, r, rfl, h1, t⟩ := Reps.cons_iff.mp h
    obtain ⟨y, e1, e2⟩ := Reps.get (i := i) t (by simpa using e)
    exact ⟨y, by simpa using e1, e2⟩
theorem Reps.getV {F : Hp} {ds : List D} {xs : List V} {i : Nat} {x : V} (h : Reps K F ds xs) (e : xs[i]? = some x) : ∃ d, ds[i]? = some d ∧ Rep K F d x := by
  have hl := h.length
  obtain ⟨hi, _⟩ := List.getElem?_eq_some_iff.mp e
  obtain ⟨y, e1, e2⟩ := h.get (i := i) (d := ds[i]) (List.getElem?_eq_getElem (by omega))
  rw [e] at e1; cases e1
  exact ⟨_, List.getElem?_eq_getElem (by omega), e2⟩
theorem Reps.append {F : Hp} : ∀ {ds es : List D} {xs ys : List V}, Reps K F ds xs → Reps K F es ys → Reps K F (ds ++ es) (xs ++ ys)
  | [], _, _, _, h, g => by rw [Reps.nil_iff] at h; subst h; exact g
  | d :: ds, _, _, _, h, g => by
    obtain ⟨x, r, rfl, h1, t⟩ := Reps.cons_iff.mp h
    exact .cons h1 (Reps.append t g)
theorem Reps.take {F : Hp} : ∀ {ds : List D} {xs : List V} (n : Nat), Reps K F ds xs → Reps K F (ds.take n) (xs.take n)
  | _, _, 0, _ => by simp [Reps.nil]
  | [], _, n + 1, h => by rw [Reps.nil_iff] at h; subst h; exact .nil
  | d :: ds, _, n + 1, h => by
    obtain ⟨x, r, rfl, h1, t⟩ := Reps.cons_iff.mp h
    exact .cons h1 (Reps.take n t)
theorem Reps.drop {F : Hp} : ∀ {ds : List D} {xs : List V} (n : Nat), Reps K F ds xs → Reps K F (ds.drop n) (xs.drop n)
  | _, _, 0, h => h
  | [], _, n + 1, h => by rw [Reps.nil_iff] at h; subst h; exact .nil
  | d :: ds, _, n + 1, h => by
    obtain ⟨x, r, rfl, h1, t⟩ := Reps.cons_iff.mp h
    exact Reps.drop n t
theorem Reps.set {F : Hp} {d : D} {x : V} (hx : Rep K F d x) : ∀ {ds : List D} {xs : List V} (n : Nat), Reps K F ds xs → Reps K F (ds.set n d) (xs.set n x)
  | [], _, n, h => by rw [Reps.nil_iff] at h; subst h; exact .nil
  | e :: ds, _, 0, h => by
    obtain ⟨y, r, rfl, h1, t⟩ := Reps.cons_iff.mp h
    exact .cons hx t
  | e :: ds, _, n + 1, h => by
    obtain ⟨y, r, rfl, h1, t⟩ := Reps.cons_iff.mp h
    exact .cons h1 (Reps.set hx n t)
theorem Reps.reverse {F : Hp} : ∀ {ds : List D} {xs : List V}, Reps K F ds xs → Reps K F ds.reverse xs.reverse
  | [], _, h => by rw [Reps.nil_iff] at h; subst h; exact .nil
  | d :: ds, _, h => by
    obtain ⟨x, r, rfl, h1, t⟩ := Reps.cons_iff.mp h
    rw [List.reverse_cons, List.reverse_cons]
    exact (Reps.reverse t).append (.cons h1 .nil)
theorem rep_non {F : Hp} {v : V} : Rep K F .non v ↔ v = .non := by rw [Rep]
theorem rep_bl {F : Hp} {b : Bool} {v : V} : Rep K F (.bl b) v ↔ v = .bl b := by rw [Rep]
theorem rep_int {F : Hp} {i : Int} {v : V} : Rep K F (.int i) v ↔ v = .int i := by rw [Rep]
theorem rep_str {F : Hp} {i : Str} {v : V} : Rep K F (.str i) v ↔ v = .str i := by rw [Rep]
theorem rep_adr {F : Hp} {i : Addr} {v : V} : Rep K F (.adr i) v ↔ v = .ref i := by rw [Rep]
theorem rep_ty {F : Hp} {i : String} {v : V} : Rep K F (.ty i) v ↔ v = .ty i := by rw [Rep]
theorem rep_lst {F : Hp} {ds : List D} {v : V} : Rep K F (.lst ds) v ↔ ∃ a xs, v = .ref a ∧ F a = some (.lst xs) ∧ Reps K F ds xs := by rw [Rep]
theorem rep_scr {F : Hp} {ns : List Int} {v : V} : Rep K F (.scr ns) v ↔ ∃ a, v = .ref a ∧ SqL K F a (ns.map V.int) := by rw [Rep]
theorem rep_tup {F : Hp} {ds : List D} {v : V} : Rep K F (.tup ds) v ↔ ∃ a xs, v = .ref a ∧ SqT K F a xs ∧ Reps K F ds xs := by rw [Rep]
theorem rep_dict {F : Hp} {ks : List Str} {ds : List D} {v : V} : Rep K F (.dict ks ds) v ↔ ∃ a xs, v = .ref a ∧ F a = some (.dK ((ks.map Sum.inr).zip xs)) ∧ ks.length = xs.length ∧ Reps K F ds xs := by rw [Rep]
theorem rep_obj {F : Hp} {c : Cl} {ks : List Str} {ds : List D} {v : V} : Rep K F (.obj c ks ds) v ↔ ∃ a dx xs, v = .ref a ∧ F a = some (.ins (ca K c) dx (ks.zip xs)) ∧ F dx = some (.own a) ∧ ks.length = xs.length ∧ Reps K F ds xs := by rw [Rep]

/-- an object that may change, as it stands in H -/
def OwAt (K : PySem.W.Frag) (F H : Hp) (a : Addr) : Ow → Prop
  | .lst ds => ∃ xs, H a = some (.lst xs) ∧ Reps K F ds xs
  | .ob c ks ds => ∃ dx xs, H a = some (.ins (ca K c) dx (ks.zip xs)) ∧ H dx = some (.own a) ∧ F dx = none ∧ ks.length = xs.length ∧ Reps K F ds xs
  | .raw o => H a = some o ∧ (∀ x, o ≠ .own x) ∧ ∀ f, o ≠ .xd f
theorem OwAt.ex {F H : Hp} {a : Addr} {o : Ow} (h : OwAt K F H a o) : ∃ u, H a = some u := by
  cases o with
  | lst ds => obtain ⟨xs, e, _⟩ := h; exact ⟨_, e⟩
  | ob c ks ds => obtain ⟨dx, xs, e, _⟩ := h; exact ⟨_, e⟩
  | raw u => exact ⟨u, h.1⟩
/-- the heap: F0 the frozen part at the entry, F now, H all, O what may change -/
structure Hx (K : PySem.W.Frag) (F0 F H : Hp) (O : Om) : Prop where
  f0 : Le F0 F
  fh : Le F H
  om : ∀ a o, O a = some o → F a = none ∧ OwAt K F H a o
abbrev St := L2.St
abbrev Rho := List (Option D)
/-- the def's names -/
structure En (K : PySem.W.Frag) (F : Hp) (r : Rho) (s : St) : Prop where
  len : s.length = r.length
  at_ : ∀ (i : Nat) (d : D), r[i]? = some (some d) → ∃ v, s[i]? = some (some v) ∧ Rep K F d v
theorem En.mono {F F' : Hp} {r : Rho} {s : St} (h : En K F r s) (e : Le F F') : En K F' r s :=
  ⟨h.len, fun i d q => let ⟨v, a, b⟩ := h.at_ i d q; ⟨v, a, b.mono e⟩⟩
theorem En.set {F : Hp} {r : Rho} {s : St} (h : En K F r s) {d : D} {v : V} (hv : Rep K F d v) (i : Nat) : En K F (r.set i (some d)) (s.set i (some v)) := by
  refine ⟨by rw [List.length_set, List.length_set]; exact h.len, fun j e q => ?_⟩
  by_cases hj : i = j
  · subst hj
    by_cases hl : i < r.length
    · rw [List.getElem?_set_self hl] at q
      cases q
      exact ⟨v, by rw [List.getElem?_set_self (by rw [h.len]; exact hl)], hv⟩
    · rw [List.getElem?_eq_none (by rw [List.length_set]; omega)] at q
      cases q
  · rw [List.getElem?_set_ne hj] at q
    obtain ⟨w, a, b⟩ := h.at_ j e q
    exact ⟨w, by rw [List.getElem?_set_ne hj]; exact a, b⟩
/-- what is forgotten -/
def wip (r : Rho) : List Nat → Rho
  | [] => r
  | v :: vs => (wip r vs).set v none
theorem En.wipe {F : Hp} {r : Rho} {s : St} (h : En K F r s) : ∀ vs : List Nat, En K F (wip r vs) (L2.wipe s vs)
  | [] => h
  | v :: vs => by
    have ih := En.wipe h vs
    show En K F ((wip r vs).set v none) ((L2.wipe s vs).set v none)
    refine ⟨by rw [List.length_set, List.length_set]; exact ih.len, fun j e q => ?_⟩
    by_cases hj : v = j
    · subst hj
      by_cases hl : v < (wip r vs).length
      · rw [List.getElem?_set_self hl] at q; cases q
      · rw [List.getElem?_eq_none (by rw [List.length_set]; omega)] at q; cases q
    · rw [List.getElem?_set_ne hj] at q
      obtain ⟨w, a, b⟩ := ih.at_ j e q
      exact ⟨w, by rw [List.getElem?_set_ne hj]; exact a, b⟩
section
variable {F0 F H : Hp} {O : Om}
theorem Hx.gone (h : Hx K F0 F H O) {p : Addr} (hp : H p = none) : F p = none ∧ O p = none := by
  refine ⟨h.fh.free hp, ?_⟩
  cases q : O p with
  | none => rfl
  | some o =>
    obtain ⟨u, e⟩ := (h.om p o q).2.ex
    rw [e] at hp; cases hp
theorem OwAt.grow {a : Addr} {o : Ow} {F' H' : Hp} (h : OwAt K F H a o) (e : Le F F') (e2 : ∀ b, (∃ u, H b = some u) → H' b = H b) (e3 : ∀ b, (∃ u, H b = some u) → F b = none → F' b = none) : OwAt K F' H' a o := by
  cases o with
  | lst ds =>
    obtain ⟨xs, h1, h2⟩ := h
    exact ⟨xs, by rw [e2 a ⟨_, h1⟩]; exact h1, h2.mono e⟩
  | ob c ks ds =>
    obtain ⟨dx, xs, h1, h2, h3, h4, h5⟩ := h
    exact ⟨dx, xs, by rw [e2 a ⟨_, h1⟩]; exact h1, by rw [e2 dx ⟨_, h2⟩]; exact h2, e3 dx ⟨_, h2⟩ h3, h4, h5.mono e⟩
  | raw u =>
    exact ⟨by rw [e2 a ⟨_, h.1⟩]; exact h.1, h.2⟩
/-- a new frozen object -/
theorem Hx.new (h : Hx K F0 F H O) {p : Addr} (hp : H p = Option.none) (o : HO) : Hx K F0 (upd F p o) (upd H p o) O ∧ Le F (upd F p o) := by
  have hF := h.fh.free hp
  have le : Le F (upd F p o) := fun a u q => by rw [upd_ne (ne_of_none q hF)]; exact q
  have ne : ∀ b, (∃ u, H b = some u) → b ≠ p := fun b ⟨u, q⟩ => ne_of_none q hp
  refine ⟨⟨h.f0.trans le, fun a u q => ?_, fun a u q => ?_⟩, le⟩
  · by_cases e : a = p
    · subst e; rw [upd_same] at q ⊢; exact q
    · rw [upd_ne e] at q ⊢; exact h.fh _ _ q
  · obtain ⟨h1, h2⟩ := h.om a u q
    have na := ne a h2.ex
    exact ⟨by rw [upd_ne na]; exact h1, h2.grow le (fun b hb => upd_ne (ne b hb)) fun b hb q => by rw [upd_ne (ne b hb)]; exact q⟩
/-- a new own list -/
theorem Hx.newL (h : Hx K F0 F H O) {p : Addr} (hp : H p = Option.none) {ds : List D} {xs : List V} (hr : Reps K F ds xs) : Hx K F0 F (upd H p (.lst xs)) (O.put p (.lst ds)) := by
  have hF := h.fh.free hp
  have ne : ∀ b, (∃ u, H b = some u) → b ≠ p := fun b ⟨u, q⟩ => ne_of_none q hp
  refine ⟨h.f0, fun a u q => by rw [upd_ne (ne a ⟨_, h.fh _ _ q⟩)]; exact h.fh _ _ q, fun a u q => ?_⟩
  by_cases e : a = p
  · subst e
    rw [Om.put_same] at q
    cases q
    exact ⟨hF, xs, upd_same, hr⟩
  · rw [Om.put_ne e] at q
    obtain ⟨h1, h2⟩ := h.om a u q
    exact ⟨h1, h2.grow (Le.refl F) (fun b hb => upd_ne (ne b hb)) fun _ _ q => q⟩
/-- an own list is written -/
theorem Hx.setL (h : Hx K F0 F H O) {p : Addr} {es ds : List D} {xs : List V} (hp : O p = some (.lst es)) (hr : Reps K F ds xs) : Hx K F0 F (upd H p (.lst xs)) (O.put p (.lst ds)) := by
  obtain ⟨hF, ys, hy, _⟩ := h.om p _ hp
  refine ⟨h.f0, fun a u q => ?_, fun a u q => ?_⟩
  · rw [upd_ne (by rintro rfl; rw [hF] at q; cases q)]; exact h.fh _ _ q
  · by_cases e : a = p
    · subst e
      rw [Om.put_same] at q
      cases q
      exact ⟨hF, xs, upd_same, hr⟩
    · rw [Om.put_ne e] at q
      obtain ⟨h1, h2⟩ := h.om a u q
      refine ⟨h1, ?_⟩
      cases u with
      | lst fs => obtain ⟨zs, q1, q2⟩ := h2; exact ⟨zs, by rw [upd_ne e]; exact q1, q2⟩
      | ob c ks fs =>
        obtain ⟨dx, zs, q1, q2, q3⟩ := h2
        exact ⟨dx, zs, by rw [upd_ne e]; exact q1, by rw [upd_ne (by rintro rfl; rw [hy] at q2; cases q2)]; exact q2, q3⟩
      | raw u => exact ⟨by rw [upd_ne e]; exact h2.1, h2.2⟩
/-- an own list is frozen -/
theorem Hx.frzL (h : Hx K F0 F H O) {p : Addr} {ds : List D} (hp : O p = some (.lst ds)) : ∃ F', Hx K F0 F' H (O.del p) ∧ Le F F' ∧ Rep K F' (.lst ds) (.ref p) := by
  obtain ⟨hF, xs, hx, hr⟩ := h.om p _ hp
  have le : Le F (upd F p (.lst xs)) := fun a u q => by rw [upd_ne (ne_of_none q hF)]; exact q
  refine ⟨upd F p (.lst xs), ⟨h.f0.trans le, fun a u q => ?_, fun a u q => ?_⟩, le, rep_lst.mpr ⟨p, xs, rfl, upd_same, hr.mono le⟩⟩
  · by_cases e : a = p
    · subst e; rw [upd_same] at q; rw [hx]; exact q
    · rw [upd_ne e] at q; exact h.fh _ _ q
  · unfold Om.del at q
    by_cases e : a = p
    · rw [if_pos e] at q; cases q
    · rw [if_neg e] at q
      obtain ⟨h1, h2⟩ := h.om a u q
      refine ⟨by rw [upd_ne e]; exact h1, ?_⟩
      cases u with
      | lst fs => obtain ⟨zs, q1, q2⟩ := h2; exact ⟨zs, q1, q2.mono le⟩
      | ob c ks fs =>
        obtain ⟨dx, zs, q1, q2, q3, q4, q5⟩ := h2
        exact ⟨dx, zs, q1, q2, by rw [upd_ne (by rintro rfl; rw [hx] at q2; cases q2)]; exact q3, q4, q5.mono le⟩
      | raw u => exact h2
end
end
end K97
/-! # the defs of the text -/
namespace K97
open PySem PySem.Spec PyProof.Rows L2
def top (i : Nat) : Stmt := PySem.Challenge.pw_labeltill_k97_whole_desk_and_shop.main.body.getD i (.Pass ⟨0, 0, 0, 0⟩)
/-- where a def stands -/
inductive Pa where
  | glo (x : Str) | meth (c m : Str) | prop (c m : Str)
def getterOf (K : PySem.W.Frag) (p : Addr) : Addr := match PySem.W.recIn K p "property" with
  | some (.ref g :: _) => g
  | _ => 0
def Pa.ad (K : PySem.W.Frag) : Pa → Addr
  | .glo x => He.ga K x
  | .meth c m => He.ma K (He.ga K c) m
  | .prop c m => getterOf K (He.ma K (He.ga K c) m)
structure DefX where
  pa : Pa
  name : Str
  qual : Str
  st : Stmt
  dfl : List He.Dv := []
def fnAt (K : PySem.W.Frag) (a : Addr) : He.FnW := match K.lookup a with
  | some ⟨_, _, .func fd, _⟩ => some (fd.name, fd.qualname, fd.params, fd.body, fd.scope, fd.globals, fd.closure, fd.builtins)
  | _ => none
def DefX.val (d : DefX) : He.FnW := some (d.name, d.qual, defArgs d.st, .stmts (defBody d.st), defScope d.st, mainGlobals, [], builtinsNs)
def DefX.dvs (K : PySem.W.Frag) (d : DefX) : List V := d.dfl.map (He.Dv.v K)
def DefX.ok (K : PySem.W.Frag) (d : DefX) : Bool := PySem.W.keepIn K (.ref (d.pa.ad K)) && (match K.lookup (d.pa.ad K) with
  | some ⟨_, _, .func fd, _⟩ => PySem.W.codeIn K fd.code d.qual && He.dflB K fd.defaults (d.dvs K)
  | _ => false)
theorem DefX.funD {K : PySem.W.Frag} {d : DefX} (e : fnAt K (d.pa.ad K) = d.val) (c : d.ok K = true) : ∃ fd, FunD K d.name d.qual (defArgs d.st) (defBody d.st) (defScope d.st) (d.dvs K) [] (d.pa.ad K) fd := by
  obtain ⟨kp, c2⟩ := He.ba c
  unfold fnAt at e
  cases q : K.lookup (d.pa.ad K) with
  | none => rw [q] at c2; cases c2
  | some o =>
    obtain ⟨oc, od, dt, osl⟩ := o
    rw [q] at c2 e
    cases dt with
    | func fd =>
      obtain ⟨n1, n2, n3, n4, n5, n6, n7, n8, n9, n10, n11, n12, n13, n14, n15⟩ := fd
      have e2 : (some (n1, n2, n3, n4, n5, n6, n7, n15) : He.FnW) = some (d.name, d.qual, defArgs d.st, .stmts (defBody d.st), defScope d.st, mainGlobals, [], builtinsNs) := e
      simp only [Option.some.injEq, Prod.mk.injEq] at e2
      obtain ⟨h1, h2, h3, h4, h5, h6, h7, h8⟩ := e2
      subst h1 h2 h3 h4 h5 h6 h7 h8
      obtain ⟨k1, k2⟩ := He.ba (show (PySem.W.codeIn K n13 d.qual && He.dflB K n8 (d.dvs K)) = true from c2)
      exact ⟨_, ⟨oc, od, n8, n9, n10, n11, n12, n13, n14, osl, rfl, q, k1, He.dflB_ok k2, .inl rfl⟩, kp⟩
    | _ => cases c2
def bookD (K : PySem.W.Frag) : Addr := He.dflAt ("Book", some "__init__") 0 K
def d_show_sighting : DefX := ⟨.glo "show_sighting", "show_sighting", "show_sighting", (top 15), []⟩
abbrev N_show_sighting : List Str := ["sighting"]
abbrev P_show_sighting : List Str := ["sighting"]
theorem sc_show_sighting : FnScope N_show_sighting P_show_sighting (defScope (top 15)) := ⟨rfl, rfl, rfl, by decide +kernel, rfl, by decide +kernel, by decide +kernel⟩
def d_show_book : DefX := ⟨.glo "show_book", "show_book", "show_book", (top 16), []⟩
abbrev N_show_book : List Str := ["book", "change"]
abbrev P_show_book : List Str := ["book"]
theorem sc_show_book : FnScope N_show_book P_show_book (defScope (top 16)) := ⟨rfl, rfl, rfl, by decide +kernel, rfl, by decide +kernel, by decide +kernel⟩
def d_show_board : DefX := ⟨.glo "show_board", "show_board", "show_board", (top 17), []⟩
abbrev N_show_board : List Str := ["board"]
abbrev P_show_board : List Str := ["board"]
theorem sc_show_board : FnScope N_show_board P_show_board (defScope (top 17)) := ⟨rfl, rfl, rfl, by decide +kernel, rfl, by decide +kernel, by decide +kernel⟩
def d_show_moments : DefX := ⟨.glo "show_moments", "show_moments", "show_moments", (top 18), []⟩
abbrev N_show_moments : List Str := ["moments", "moment"]
abbrev P_show_moments : List Str := ["moments"]
theorem sc_show_moments : FnScope N_show_moments P_show_moments (defScope (top 18)) := ⟨rfl, rfl, rfl, by decide +kernel, rfl, by decide +kernel, by decide +kernel⟩
def d_show_deed : DefX := ⟨.glo "show_deed", "show_deed", "show_deed", (top 19), []⟩
abbrev N_show_deed : List Str := ["deed"]
abbrev P_show_deed : List Str := ["deed"]
theorem sc_show_deed : FnScope N_show_deed P_show_deed (defScope (top 19)) := ⟨rfl, rfl, rfl, by decide +kernel, rfl, by decide +kernel, by decide +kernel⟩
def d_show_window : DefX := ⟨.glo "show_window", "show_window", "show_window", (top 20), []⟩
abbrev N_show_window : List Str := ["window", "begin", "end", "moment"]
abbrev P_show_window : List Str := ["window"]
theorem sc_show_window : FnScope N_show_window P_show_window (defScope (top 20)) := ⟨rfl, rfl, rfl, by decide +kernel, rfl, by decide +kernel, by decide +kernel⟩
def d_is_integer : DefX := ⟨.glo "is_integer", "is_integer", "is_integer", (top 22), []⟩
abbrev N_is_integer : List Str := ["thing"]
abbrev P_is_integer : List Str := ["thing"]
theorem sc_is_integer : FnScope N_is_integer P_is_integer (defScope (top 22)) := ⟨rfl, rfl, rfl, by decide +kernel, rfl, by decide +kernel, by decide +kernel⟩
def d_is_price : DefX := ⟨.glo "is_price", "is_price", "is_price", (top 23), []⟩
abbrev N_is_price : List Str := ["thing"]
abbrev P_is_price : List Str := ["thing"]
theorem sc_is_price : FnScope N_is_price P_is_price (defScope (top 23)) := ⟨rfl, rfl, rfl, by decide +kernel, rfl, by decide +kernel, by decide +kernel⟩
def d_is_board : DefX := ⟨.glo "is_board", "is_board", "is_board", (top 24), []⟩
abbrev N_is_board : List Str := ["thing"]
abbrev P_is_board : List Str := ["thing"]
theorem sc_is_board : FnScope N_is_board P_is_board (defScope (top 24)) := ⟨rfl, rfl, rfl, by decide +kernel, rfl, by decide +kernel, by decide +kernel⟩
def d_is_change : DefX := ⟨.glo "is_change", "is_change", "is_change", (top 25), []⟩
abbrev N_is_change : List Str := ["thing"]
abbrev P_is_change : List Str := ["thing"]
theorem sc_is_change : FnScope N_is_change P_is_change (defScope (top 25)) := ⟨rfl, rfl, rfl, by decide +kernel, rfl, by decide +kernel, by decide +kernel⟩
def d_is_index : DefX := ⟨.glo "is_index", "is_index", "is_index", (top 26), []⟩
abbrev N_is_index : List Str := ["thing", "many"]
abbrev P_is_index : List Str := ["thing", "many"]
theorem sc_is_index : FnScope N_is_index P_is_index (defScope (top 26)) := ⟨rfl, rfl, rfl, by decide +kernel, rfl, by decide +kernel, by decide +kernel⟩
def d_Book_init : DefX := ⟨.meth "Book" "__init__", "__init__", "Book.__init__", (inClass (top 28) 0), [.adr bookD]⟩
abbrev N_Book_init : List Str := ["self", "first", "changes", "index", "change", "moment", "price"]
abbrev P_Book_init : List Str := ["self", "first", "changes"]
theorem sc_Book_init : FnScope N_Book_init P_Book_init (defScope (inClass (top 28) 0)) := ⟨rfl, rfl, rfl, by decide +kernel, rfl, by decide +kernel, by decide +kernel⟩
def d_Book_len : DefX := ⟨.meth "Book" "__len__", "__len__", "Book.__len__", (inClass (top 28) 1), []⟩
abbrev N_Book_len : List Str := ["self"]
abbrev P_Book_len : List Str := ["self"]
theorem sc_Book_len : FnScope N_Book_len P_Book_len (defScope (inClass (top 28) 1)) := ⟨rfl, rfl, rfl, by decide +kernel, rfl, by decide +kernel, by decide +kernel⟩
def d_Book_getitem : DefX := ⟨.meth "Book" "__getitem__", "__getitem__", "Book.__getitem__", (inClass (top 28) 3), []⟩
abbrev N_Book_getitem : List Str := ["self", "number"]
abbrev P_Book_getitem : List Str := ["self", "number"]
theorem sc_Book_getitem : FnScope N_Book_getitem P_Book_getitem (defScope (inClass (top 28) 3)) := ⟨rfl, rfl, rfl, by decide +kernel, rfl, by decide +kernel, by decide +kernel⟩
def d_Book_eq : DefX := ⟨.meth "Book" "__eq__", "__eq__", "Book.__eq__", (inClass (top 28) 4), []⟩
abbrev N_Book_eq : List Str := ["self", "other"]
abbrev P_Book_eq : List Str := ["self", "other"]
theorem sc_Book_eq : FnScope N_Book_eq P_Book_eq (defScope (inClass (top 28) 4)) := ⟨rfl, rfl, rfl, by decide +kernel, rfl, by decide +kernel, by decide +kernel⟩
def d_Book_changes : DefX := ⟨.meth "Book" "changes", "changes", "Book.changes", (inClass (top 28) 5), []⟩
abbrev N_Book_changes : List Str := ["self"]
abbrev P_Book_changes : List Str := ["self"]
theorem sc_Book_changes : FnScope N_Book_changes P_Book_changes (defScope (inClass (top 28) 5)) := ⟨rfl, rfl, rfl, by decide +kernel, rfl, by decide +kernel, by decide +kernel⟩
def d_Book_moments : DefX := ⟨.meth "Book" "moments", "moments", "Book.moments", (inClass (top 28) 6), []⟩
abbrev N_Book_moments : List Str := ["self", "moment", "price"]
abbrev P_Book_moments : List Str := ["self"]
theorem sc_Book_moments : FnScope N_Book_moments P_Book_moments (defScope (inClass (top 28) 6)) := ⟨rfl, rfl, rfl, by decide +kernel, rfl, by decide +kernel, by decide +kernel⟩
def d_Book_prices : DefX := ⟨.meth "Book" "prices", "prices", "Book.prices", (inClass (top 28) 7), []⟩
abbrev N_Book_prices : List Str := ["self"]
abbrev P_Book_prices : List Str := ["self"]
theorem sc_Book_prices : FnScope N_Book_prices P_Book_prices (defScope (inClass (top 28) 7)) := ⟨rfl, rfl, rfl, by decide +kernel, rfl, by decide +kernel, by decide +kernel⟩
def d_Book_with_change : DefX := ⟨.meth "Book" "with_change", "with_change", "Book.with_change", (inClass (top 28) 12), []⟩
abbrev N_Book_with_change : List Str := ["self", "moment", "price", "others", "change"]
abbrev P_Book_with_change : List Str := ["self", "moment", "price"]
theorem sc_Book_with_change : FnScope N_Book_with_change P_Book_with_change (defScope (inClass (top 28) 12)) := ⟨rfl, rfl, rfl, by decide +kernel, rfl, by decide +kernel, by decide +kernel⟩
def d_is_number_text : DefX := ⟨.glo "is_number_text", "is_number_text", "is_number_text", (top 31), []⟩
abbrev N_is_number_text : List Str := ["text", "sign"]
abbrev P_is_number_text : List Str := ["text"]
theorem sc_is_number_text : FnScope N_is_number_text P_is_number_text (defScope (top 31)) := ⟨rfl, rfl, rfl, by decide +kernel, rfl, by decide +kernel, by decide +kernel⟩
def d_is_moment_text : DefX := ⟨.glo "is_moment_text", "is_moment_text", "is_moment_text", (top 32), []⟩
abbrev N_is_moment_text : List Str := ["text"]
abbrev P_is_moment_text : List Str := ["text"]
theorem sc_is_moment_text : FnScope N_is_moment_text P_is_moment_text (defScope (top 32)) := ⟨rfl, rfl, rfl, by decide +kernel, rfl, by decide +kernel, by decide +kernel⟩
def d_sighting_in : DefX := ⟨.glo "sighting_in", "sighting_in", "sighting_in", (top 33), []⟩
abbrev N_sighting_in : List Str := ["text", "words"]
abbrev P_sighting_in : List Str := ["text"]
theorem sc_sighting_in : FnScope N_sighting_in P_sighting_in (defScope (top 33)) := ⟨rfl, rfl, rfl, by decide +kernel, rfl, by decide +kernel, by decide +kernel⟩
def d_read_deed : DefX := ⟨.glo "read_deed", "read_deed", "read_deed", (top 34), []⟩
abbrev N_read_deed : List Str := ["text", "words", "found"]
abbrev P_read_deed : List Str := ["text"]
theorem sc_read_deed : FnScope N_read_deed P_read_deed (defScope (top 34)) := ⟨rfl, rfl, rfl, by decide +kernel, rfl, by decide +kernel, by decide +kernel⟩
def d_are_moments : DefX := ⟨.glo "are_moments", "are_moments", "are_moments", (top 36), []⟩
abbrev N_are_moments : List Str := ["thing", "many", "one"]
abbrev P_are_moments : List Str := ["thing", "many"]
theorem sc_are_moments : FnScope N_are_moments P_are_moments (defScope (top 36)) := ⟨rfl, rfl, rfl, by decide +kernel, rfl, by decide +kernel, by decide +kernel⟩
def d_Line_init : DefX := ⟨.meth "Line" "__init__", "__init__", "Line.__init__", (inClass (top 37) 0), [.non]⟩
abbrev N_Line_init : List Str := ["self", "book", "board", "sent", "moments", "told", "index", "moment"]
abbrev P_Line_init : List Str := ["self", "book", "board", "sent"]
theorem sc_Line_init : FnScope N_Line_init P_Line_init (defScope (inClass (top 37) 0)) := ⟨rfl, rfl, rfl, by decide +kernel, rfl, by decide +kernel, by decide +kernel⟩
def d_Line_book : DefX := ⟨.prop "Line" "book", "book", "Line.book", (inClass (top 37) 1), []⟩
abbrev N_Line_book : List Str := ["self"]
abbrev P_Line_book : List Str := ["self"]
theorem sc_Line_book : FnScope N_Line_book P_Line_book (defScope (inClass (top 37) 1)) := ⟨rfl, rfl, rfl, by decide +kernel, rfl, by decide +kernel, by decide +kernel⟩
def d_Line_board : DefX := ⟨.prop "Line" "board", "board", "Line.board", (inClass (top 37) 2), []⟩
abbrev N_Line_board : List Str := ["self"]
abbrev P_Line_board : List Str := ["self"]
theorem sc_Line_board : FnScope N_Line_board P_Line_board (defScope (inClass (top 37) 2)) := ⟨rfl, rfl, rfl, by decide +kernel, rfl, by decide +kernel, by decide +kernel⟩
def d_Line_earliest : DefX := ⟨.meth "Line" "earliest", "earliest", "Line.earliest", (inClass (top 37) 5), []⟩
abbrev N_Line_earliest : List Str := ["self", "moment"]
abbrev P_Line_earliest : List Str := ["self"]
theorem sc_Line_earliest : FnScope N_Line_earliest P_Line_earliest (defScope (inClass (top 37) 5)) := ⟨rfl, rfl, rfl, by decide +kernel, rfl, by decide +kernel, by decide +kernel⟩
def d_Line_latest : DefX := ⟨.meth "Line" "latest", "latest", "Line.latest", (inClass (top 37) 6), []⟩
abbrev N_Line_latest : List Str := ["self", "moment"]
abbrev P_Line_latest : List Str := ["self"]
theorem sc_Line_latest : FnScope N_Line_latest P_Line_latest (defScope (inClass (top 37) 6)) := ⟨rfl, rfl, rfl, by decide +kernel, rfl, by decide +kernel, by decide +kernel⟩
def d_Line_window : DefX := ⟨.meth "Line" "window", "window", "Line.window", (inClass (top 37) 7), []⟩
abbrev N_Line_window : List Str := ["self", "number", "begin", "end"]
abbrev P_Line_window : List Str := ["self", "number"]
theorem sc_Line_window : FnScope N_Line_window P_Line_window (defScope (inClass (top 37) 7)) := ⟨rfl, rfl, rfl, by decide +kernel, rfl, by decide +kernel, by decide +kernel⟩
def d_Line_stretch : DefX := ⟨.meth "Line" "stretch", "stretch", "Line.stretch", (inClass (top 37) 9), []⟩
abbrev N_Line_stretch : List Str := ["self", "moment", "low", "one"]
abbrev P_Line_stretch : List Str := ["self", "moment"]
theorem sc_Line_stretch : FnScope N_Line_stretch P_Line_stretch (defScope (inClass (top 37) 9)) := ⟨rfl, rfl, rfl, by decide +kernel, rfl, by decide +kernel, by decide +kernel⟩
def d_numbers_of : DefX := ⟨.glo "numbers_of", "numbers_of", "numbers_of", (top 39), []⟩
abbrev N_numbers_of : List Str := ["line", "sighting", "moment", "price", "low", "high", "number"]
abbrev P_numbers_of : List Str := ["line", "sighting"]
theorem sc_numbers_of : FnScope N_numbers_of P_numbers_of (defScope (top 39)) := ⟨rfl, rfl, rfl, by decide +kernel, rfl, by decide +kernel, by decide +kernel⟩
def d_swept : DefX := ⟨.glo "swept", "swept", "swept", (top 40), []⟩
abbrev N_swept : List Str := ["line", "sightings", "found", "least", "sighting", "some", "number"]
abbrev P_swept : List Str := ["line", "sightings"]
theorem sc_swept : FnScope N_swept P_swept (defScope (top 40)) := ⟨rfl, rfl, rfl, by decide +kernel, rfl, by decide +kernel, by decide +kernel⟩
def d_is_seen : DefX := ⟨.glo "is_seen", "is_seen", "is_seen", (top 41), []⟩
abbrev N_is_seen : List Str := ["line", "sightings"]
abbrev P_is_seen : List Str := ["line", "sightings"]
theorem sc_is_seen : FnScope N_is_seen P_is_seen (defScope (top 41)) := ⟨rfl, rfl, rfl, by decide +kernel, rfl, by decide +kernel, by decide +kernel⟩
def d_least_numbers : DefX := ⟨.glo "least_numbers", "least_numbers", "least_numbers", (top 42), []⟩
abbrev N_least_numbers : List Str := ["line", "sightings"]
abbrev P_least_numbers : List Str := ["line", "sightings"]
theorem sc_least_numbers : FnScope N_least_numbers P_least_numbers (defScope (top 42)) := ⟨rfl, rfl, rfl, by decide +kernel, rfl, by decide +kernel, by decide +kernel⟩
def d_greatest_numbers : DefX := ⟨.glo "greatest_numbers", "greatest_numbers", "greatest_numbers", (top 43), []⟩
abbrev N_greatest_numbers : List Str := ["line", "sightings", "found", "greatest", "sighting", "number"]
abbrev P_greatest_numbers : List Str := ["line", "sightings"]
theorem sc_greatest_numbers : FnScope N_greatest_numbers P_greatest_numbers (defScope (top 43)) := ⟨rfl, rfl, rfl, by decide +kernel, rfl, by decide +kernel, by decide +kernel⟩
def d_numbers_at : DefX := ⟨.glo "numbers_at", "numbers_at", "numbers_at", (top 44), []⟩
abbrev N_numbers_at : List Str := ["line", "sightings", "moment", "least", "greatest", "ahead", "upto", "low", "high", "found", "number", "one", "spot"]
abbrev P_numbers_at : List Str := ["line", "sightings", "moment"]
theorem sc_numbers_at : FnScope N_numbers_at P_numbers_at (defScope (top 44)) := ⟨rfl, rfl, rfl, by decide +kernel, rfl, by decide +kernel, by decide +kernel⟩
def d_prices_seen_at : DefX := ⟨.glo "prices_seen_at", "prices_seen_at", "prices_seen_at", (top 45), []⟩
abbrev N_prices_seen_at : List Str := ["line", "sightings", "moment", "number"]
abbrev P_prices_seen_at : List Str := ["line", "sightings", "moment"]
theorem sc_prices_seen_at : FnScope N_prices_seen_at P_prices_seen_at (defScope (top 45)) := ⟨rfl, rfl, rfl, by decide +kernel, rfl, by decide +kernel, by decide +kernel⟩
def d_surely_at : DefX := ⟨.glo "surely_at", "surely_at", "surely_at", (top 46), []⟩
abbrev N_surely_at : List Str := ["line", "sightings", "moment", "prices"]
abbrev P_surely_at : List Str := ["line", "sightings", "moment"]
theorem sc_surely_at : FnScope N_surely_at P_surely_at (defScope (top 46)) := ⟨rfl, rfl, rfl, by decide +kernel, rfl, by decide +kernel, by decide +kernel⟩
def d_is_deed : DefX := ⟨.glo "is_deed", "is_deed", "is_deed", (top 49), []⟩
abbrev N_is_deed : List Str := ["thing"]
abbrev P_is_deed : List Str := ["thing"]
theorem sc_is_deed : FnScope N_is_deed P_is_deed (defScope (top 49)) := ⟨rfl, rfl, rfl, by decide +kernel, rfl, by decide +kernel, by decide +kernel⟩
def d_Shop_init : DefX := ⟨.meth "Shop" "__init__", "__init__", "Shop.__init__", (inClass (top 50) 0), []⟩
abbrev N_Shop_init : List Str := ["self", "first", "label", "till"]
abbrev P_Shop_init : List Str := ["self", "first", "label", "till"]
theorem sc_Shop_init : FnScope N_Shop_init P_Shop_init (defScope (inClass (top 50) 0)) := ⟨rfl, rfl, rfl, by decide +kernel, rfl, by decide +kernel, by decide +kernel⟩
def d_Shop_book : DefX := ⟨.prop "Shop" "book", "book", "Shop.book", (inClass (top 50) 1), []⟩
abbrev N_Shop_book : List Str := ["self"]
abbrev P_Shop_book : List Str := ["self"]
theorem sc_Shop_book : FnScope N_Shop_book P_Shop_book (defScope (inClass (top 50) 1)) := ⟨rfl, rfl, rfl, by decide +kernel, rfl, by decide +kernel, by decide +kernel⟩
def d_Shop_line : DefX := ⟨.meth "Shop" "line", "line", "Shop.line", (inClass (top 50) 2), []⟩
abbrev N_Shop_line : List Str := ["self", "place"]
abbrev P_Shop_line : List Str := ["self", "place"]
theorem sc_Shop_line : FnScope N_Shop_line P_Shop_line (defScope (inClass (top 50) 2)) := ⟨rfl, rfl, rfl, by decide +kernel, rfl, by decide +kernel, by decide +kernel⟩
def d_Shop_sightings : DefX := ⟨.meth "Shop" "sightings", "sightings", "Shop.sightings", (inClass (top 50) 3), []⟩
abbrev N_Shop_sightings : List Str := ["self", "place"]
abbrev P_Shop_sightings : List Str := ["self", "place"]
theorem sc_Shop_sightings : FnScope N_Shop_sightings P_Shop_sightings (defScope (inClass (top 50) 3)) := ⟨rfl, rfl, rfl, by decide +kernel, rfl, by decide +kernel, by decide +kernel⟩
def d_Shop_behind : DefX := ⟨.meth "Shop" "behind", "behind", "Shop.behind", (inClass (top 50) 4), []⟩
abbrev N_Shop_behind : List Str := ["self", "deed", "word", "moment", "price", "book", "seen", "place"]
abbrev P_Shop_behind : List Str := ["self", "deed"]
theorem sc_Shop_behind : FnScope N_Shop_behind P_Shop_behind (defScope (inClass (top 50) 4)) := ⟨rfl, rfl, rfl, by decide +kernel, rfl, by decide +kernel, by decide +kernel⟩
def d_Shop_do : DefX := ⟨.meth "Shop" "do", "do", "Shop.do", (inClass (top 50) 5), []⟩
abbrev N_Shop_do : List Str := ["self", "deed", "state"]
abbrev P_Shop_do : List Str := ["self", "deed"]
theorem sc_Shop_do : FnScope N_Shop_do P_Shop_do (defScope (inClass (top 50) 5)) := ⟨rfl, rfl, rfl, by decide +kernel, rfl, by decide +kernel, by decide +kernel⟩
def d_Shop_back : DefX := ⟨.meth "Shop" "back", "back", "Shop.back", (inClass (top 50) 7), []⟩
abbrev N_Shop_back : List Str := ["self"]
abbrev P_Shop_back : List Str := ["self"]
theorem sc_Shop_back : FnScope N_Shop_back P_Shop_back (defScope (inClass (top 50) 7)) := ⟨rfl, rfl, rfl, by decide +kernel, rfl, by decide +kernel, by decide +kernel⟩
def d_Shop_again : DefX := ⟨.meth "Shop" "again", "again", "Shop.again", (inClass (top 50) 8), []⟩
abbrev N_Shop_again : List Str := ["self"]
abbrev P_Shop_again : List Str := ["self"]
theorem sc_Shop_again : FnScope N_Shop_again P_Shop_again (defScope (inClass (top 50) 8)) := ⟨rfl, rfl, rfl, by decide +kernel, rfl, by decide +kernel, by decide +kernel⟩
def d_Shop_log : DefX := ⟨.meth "Shop" "log", "log", "Shop.log", (inClass (top 50) 9), []⟩
abbrev N_Shop_log : List Str := ["self"]
abbrev P_Shop_log : List Str := ["self"]
theorem sc_Shop_log : FnScope N_Shop_log P_Shop_log (defScope (inClass (top 50) 9)) := ⟨rfl, rfl, rfl, by decide +kernel, rfl, by decide +kernel, by decide +kernel⟩
def d_Shop_numbers : DefX := ⟨.meth "Shop" "numbers", "numbers", "Shop.numbers", (inClass (top 50) 11), []⟩
abbrev N_Shop_numbers : List Str := ["self", "place", "moment"]
abbrev P_Shop_numbers : List Str := ["self", "place", "moment"]
theorem sc_Shop_numbers : FnScope N_Shop_numbers P_Shop_numbers (defScope (inClass (top 50) 11)) := ⟨rfl, rfl, rfl, by decide +kernel, rfl, by decide +kernel, by decide +kernel⟩
def d_Shop_prices : DefX := ⟨.meth "Shop" "prices", "prices", "Shop.prices", (inClass (top 50) 12), []⟩
abbrev N_Shop_prices : List Str := ["self", "place", "moment"]
abbrev P_Shop_prices : List Str := ["self", "place", "moment"]
theorem sc_Shop_prices : FnScope N_Shop_prices P_Shop_prices (defScope (inClass (top 50) 12)) := ⟨rfl, rfl, rfl, by decide +kernel, rfl, by decide +kernel, by decide +kernel⟩
def d_Shop_surely : DefX := ⟨.meth "Shop" "surely", "surely", "Shop.surely", (inClass (top 50) 13), []⟩
abbrev N_Shop_surely : List Str := ["self", "place", "moment"]
abbrev P_Shop_surely : List Str := ["self", "place", "moment"]
theorem sc_Shop_surely : FnScope N_Shop_surely P_Shop_surely (defScope (inClass (top 50) 13)) := ⟨rfl, rfl, rfl, by decide +kernel, rfl, by decide +kernel, by decide +kernel⟩
def d_Shop_charged : DefX := ⟨.meth "Shop" "charged", "charged", "Shop.charged", (inClass (top 50) 14), []⟩
abbrev N_Shop_charged : List Str := ["self", "moment", "later", "label", "till"]
abbrev P_Shop_charged : List Str := ["self", "moment", "later"]
theorem sc_Shop_charged : FnScope N_Shop_charged P_Shop_charged (defScope (inClass (top 50) 14)) := ⟨rfl, rfl, rfl, by decide +kernel, rfl, by decide +kernel, by decide +kernel⟩
def d_Shop_overs : DefX := ⟨.meth "Shop" "overs", "overs", "Shop.overs", (inClass (top 50) 15), []⟩
abbrev N_Shop_overs : List Str := ["self", "moment", "later", "label", "till"]
abbrev P_Shop_overs : List Str := ["self", "moment", "later"]
theorem sc_Shop_overs : FnScope N_Shop_overs P_Shop_overs (defScope (inClass (top 50) 15)) := ⟨rfl, rfl, rfl, by decide +kernel, rfl, by decide +kernel, by decide +kernel⟩
def d_Desk_init : DefX := ⟨.meth "Desk" "__init__", "__init__", "Desk.__init__", (inClass (top 52) 0), []⟩
abbrev N_Desk_init : List Str := ["self", "first", "label", "till"]
abbrev P_Desk_init : List Str := ["self", "first", "label", "till"]
theorem sc_Desk_init : FnScope N_Desk_init P_Desk_init (defScope (inClass (top 52) 0)) := ⟨rfl, rfl, rfl, by decide +kernel, rfl, by decide +kernel, by decide +kernel⟩
def d_Desk_execute : DefX := ⟨.meth "Desk" "execute", "execute", "Desk.execute", (inClass (top 52) 1), []⟩
abbrev N_Desk_execute : List Str := ["self", "line", "deeds", "deed"]
abbrev P_Desk_execute : List Str := ["self", "line"]
theorem sc_Desk_execute : FnScope N_Desk_execute P_Desk_execute (defScope (inClass (top 52) 1)) := ⟨rfl, rfl, rfl, by decide +kernel, rfl, by decide +kernel, by decide +kernel⟩
def d_Desk_answer : DefX := ⟨.meth "Desk" "answer", "answer", "Desk.answer", (inClass (top 52) 2), []⟩
abbrev N_Desk_answer : List Str := ["self", "words", "word", "first", "second"]
abbrev P_Desk_answer : List Str := ["self", "words"]
theorem sc_Desk_answer : FnScope N_Desk_answer P_Desk_answer (defScope (inClass (top 52) 2)) := ⟨rfl, rfl, rfl, by decide +kernel, rfl, by decide +kernel, by decide +kernel⟩
def d_Desk_told_at : DefX := ⟨.meth "Desk" "told_at", "told_at", "Desk.told_at", (inClass (top 52) 3), []⟩
abbrev N_Desk_told_at : List Str := ["self", "word", "place", "moment", "price"]
abbrev P_Desk_told_at : List Str := ["self", "word", "place", "moment"]
theorem sc_Desk_told_at : FnScope N_Desk_told_at P_Desk_told_at (defScope (inClass (top 52) 3)) := ⟨rfl, rfl, rfl, by decide +kernel, rfl, by decide +kernel, by decide +kernel⟩
def d__law_bag : DefX := ⟨.glo "_law_bag", "_law_bag", "_law_bag", (top 54), []⟩
abbrev N__law_bag : List Str := ["_law_script", "_law_cell"]
abbrev P__law_bag : List Str := ["_law_script"]
theorem sc__law_bag : FnScope N__law_bag P__law_bag (defScope (top 54)) := ⟨rfl, rfl, rfl, by decide +kernel, rfl, by decide +kernel, by decide +kernel⟩
def d__law_take : DefX := ⟨.glo "_law_take", "_law_take", "_law_take", (top 55), []⟩
abbrev N__law_take : List Str := ["_law_bag_here", "_law_many", "_law_cell", "_law_mixed", "_law_drawn", "_law_early", "_law_second"]
abbrev P__law_take : List Str := ["_law_bag_here", "_law_many"]
theorem sc__law_take : FnScope N__law_take P__law_take (defScope (top 55)) := ⟨rfl, rfl, rfl, by decide +kernel, rfl, by decide +kernel, by decide +kernel⟩
def d__law_alike : DefX := ⟨.glo "_law_alike", "_law_alike", "_law_alike", (top 56), []⟩
abbrev N__law_alike : List Str := ["_law_found", "_law_due_here"]
abbrev P__law_alike : List Str := ["_law_found", "_law_due_here"]
theorem sc__law_alike : FnScope N__law_alike P__law_alike (defScope (top 56)) := ⟨rfl, rfl, rfl, by decide +kernel, rfl, by decide +kernel, by decide +kernel⟩
def d__law_one : DefX := ⟨.glo "_law_one", "_law_one", "_law_one", (top 57), []⟩
abbrev N__law_one : List Str := ["_law_bag_here", "_law_things"]
abbrev P__law_one : List Str := ["_law_bag_here", "_law_things"]
theorem sc__law_one : FnScope N__law_one P__law_one (defScope (top 57)) := ⟨rfl, rfl, rfl, by decide +kernel, rfl, by decide +kernel, by decide +kernel⟩
def d__law_gap_of : DefX := ⟨.glo "_law_gap_of", "_law_gap_of", "_law_gap_of", (top 58), []⟩
abbrev N__law_gap_of : List Str := ["_law_bag_here", "_law_way"]
abbrev P__law_gap_of : List Str := ["_law_bag_here"]
theorem sc__law_gap_of : FnScope N__law_gap_of P__law_gap_of (defScope (top 58)) := ⟨rfl, rfl, rfl, by decide +kernel, rfl, by decide +kernel, by decide +kernel⟩
def d__law_board : DefX := ⟨.glo "_law_board", "_law_board", "_law_board", (top 59), []⟩
abbrev N__law_board : List Str := ["_law_bag_here", "_law_way", "_law_least"]
abbrev P__law_board : List Str := ["_law_bag_here"]
theorem sc__law_board : FnScope N__law_board P__law_board (defScope (top 59)) := ⟨rfl, rfl, rfl, by decide +kernel, rfl, by decide +kernel, by decide +kernel⟩
def d__law_prices : DefX := ⟨.glo "_law_prices", "_law_prices", "_law_prices", (top 60), []⟩
abbrev N__law_prices : List Str := ["_law_book", "_law_moment", "_law_price"]
abbrev P__law_prices : List Str := ["_law_book"]
theorem sc__law_prices : FnScope N__law_prices P__law_prices (defScope (top 60)) := ⟨rfl, rfl, rfl, by decide +kernel, rfl, by decide +kernel, by decide +kernel⟩
def d__law_windows : DefX := ⟨.glo "_law_windows", "_law_windows", "_law_windows", (top 61), []⟩
abbrev N__law_windows : List Str := ["_law_sent", "_law_board_here", "_law_begins", "_law_ends", "_law_moment"]
abbrev P__law_windows : List Str := ["_law_sent", "_law_board_here"]
theorem sc__law_windows : FnScope N__law_windows P__law_windows (defScope (top 61)) := ⟨rfl, rfl, rfl, by decide +kernel, rfl, by decide +kernel, by decide +kernel⟩
def d__law_within : DefX := ⟨.glo "_law_within", "_law_within", "_law_within", (top 62), []⟩
abbrev N__law_within : List Str := ["_law_window", "_law_moment", "_law_begin", "_law_end"]
abbrev P__law_within : List Str := ["_law_window", "_law_moment"]
theorem sc__law_within : FnScope N__law_within P__law_within (defScope (top 62)) := ⟨rfl, rfl, rfl, by decide +kernel, rfl, by decide +kernel, by decide +kernel⟩
def d__law_stretch : DefX := ⟨.glo "_law_stretch", "_law_stretch", "_law_stretch", (top 63), []⟩
abbrev N__law_stretch : List Str := ["_law_windows_here", "_law_moment", "_law_some", "_law_number"]
abbrev P__law_stretch : List Str := ["_law_windows_here", "_law_moment"]
theorem sc__law_stretch : FnScope N__law_stretch P__law_stretch (defScope (top 63)) := ⟨rfl, rfl, rfl, by decide +kernel, rfl, by decide +kernel, by decide +kernel⟩
def d__law_numbers_by : DefX := ⟨.glo "_law_numbers_by", "_law_numbers_by", "_law_numbers_by", (top 64), []⟩
abbrev N__law_numbers_by : List Str := ["_law_book", "_law_windows_here", "_law_sighting", "_law_prices_here", "_law_some", "_law_number"]
abbrev P__law_numbers_by : List Str := ["_law_book", "_law_windows_here", "_law_sighting"]
theorem sc__law_numbers_by : FnScope N__law_numbers_by P__law_numbers_by (defScope (top 64)) := ⟨rfl, rfl, rfl, by decide +kernel, rfl, by decide +kernel, by decide +kernel⟩
def d__law_chained : DefX := ⟨.glo "_law_chained", "_law_chained", "_law_chained", (top 65), []⟩
abbrev N__law_chained : List Str := ["_law_rows", "_law_ahead", "_law_behind_here", "_law_row", "_law_one_here", "_law_other", "_law_k"]
abbrev P__law_chained : List Str := ["_law_rows"]
theorem sc__law_chained : FnScope N__law_chained P__law_chained (defScope (top 65)) := ⟨rfl, rfl, rfl, by decide +kernel, rfl, by decide +kernel, by decide +kernel⟩
def d__law_seen : DefX := ⟨.glo "_law_seen", "_law_seen", "_law_seen", (top 66), []⟩
abbrev N__law_seen : List Str := ["_law_book", "_law_windows_here", "_law_sightings", "_law_found", "_law_sighting"]
abbrev P__law_seen : List Str := ["_law_book", "_law_windows_here", "_law_sightings"]
theorem sc__law_seen : FnScope N__law_seen P__law_seen (defScope (top 66)) := ⟨rfl, rfl, rfl, by decide +kernel, rfl, by decide +kernel, by decide +kernel⟩
def d__law_shop_price : DefX := ⟨.glo "_law_shop_price", "_law_shop_price", "_law_shop_price", (top 67), []⟩
abbrev N__law_shop_price : List Str := ["_law_bag_here"]
abbrev P__law_shop_price : List Str := ["_law_bag_here"]
theorem sc__law_shop_price : FnScope N__law_shop_price P__law_shop_price (defScope (top 67)) := ⟨rfl, rfl, rfl, by decide +kernel, rfl, by decide +kernel, by decide +kernel⟩
def d__law_empty : DefX := ⟨.glo "_law_empty", "_law_empty", "_law_empty", (top 68), []⟩
abbrev N__law_empty : List Str := ["_law_bag_here", "_law_boards"]
abbrev P__law_empty : List Str := ["_law_bag_here"]
theorem sc__law_empty : FnScope N__law_empty P__law_empty (defScope (top 68)) := ⟨rfl, rfl, rfl, by decide +kernel, rfl, by decide +kernel, by decide +kernel⟩
def d__law_shop_windows : DefX := ⟨.glo "_law_shop_windows", "_law_shop_windows", "_law_shop_windows", (top 69), []⟩
abbrev N__law_shop_windows : List Str := ["_law_shop", "_law_place", "_law_moment", "_law_price"]
abbrev P__law_shop_windows : List Str := ["_law_shop", "_law_place"]
theorem sc__law_shop_windows : FnScope N__law_shop_windows P__law_shop_windows (defScope (top 69)) := ⟨rfl, rfl, rfl, by decide +kernel, rfl, by decide +kernel, by decide +kernel⟩
def d__law_shop_can : DefX := ⟨.glo "_law_shop_can", "_law_shop_can", "_law_shop_can", (top 70), []⟩
abbrev N__law_shop_can : List Str := ["_law_shop", "_law_place"]
abbrev P__law_shop_can : List Str := ["_law_shop"]
theorem sc__law_shop_can : FnScope N__law_shop_can P__law_shop_can (defScope (top 70)) := ⟨rfl, rfl, rfl, by decide +kernel, rfl, by decide +kernel, by decide +kernel⟩
def d__law_behind : DefX := ⟨.glo "_law_behind", "_law_behind", "_law_behind", (top 71), []⟩
abbrev N__law_behind : List Str := ["_law_shop", "_law_deed_here", "_law_word_here", "_law_moment", "_law_price", "_law_first", "_law_boards", "_law_changes", "_law_seen_here", "_law_found", "_law_later"]
abbrev P__law_behind : List Str := ["_law_shop", "_law_deed_here"]
theorem sc__law_behind : FnScope N__law_behind P__law_behind (defScope (top 71)) := ⟨rfl, rfl, rfl, by decide +kernel, rfl, by decide +kernel, by decide +kernel⟩
def d__law_shop_moment : DefX := ⟨.glo "_law_shop_moment", "_law_shop_moment", "_law_shop_moment", (top 72), []⟩
abbrev N__law_shop_moment : List Str := ["_law_bag_here", "_law_shop", "_law_some", "_law_moment", "_law_price", "_law_board_here"]
abbrev P__law_shop_moment : List Str := ["_law_bag_here", "_law_shop"]
theorem sc__law_shop_moment : FnScope N__law_shop_moment P__law_shop_moment (defScope (top 72)) := ⟨rfl, rfl, rfl, by decide +kernel, rfl, by decide +kernel, by decide +kernel⟩
def d__law_deed : DefX := ⟨.glo "_law_deed", "_law_deed", "_law_deed", (top 73), []⟩
abbrev N__law_deed : List Str := ["_law_bag_here", "_law_shop", "_law_changes", "_law_seen_here", "_law_more", "_law_early", "_law_place", "_law_moment", "_law_low", "_law_high", "_law_price"]
abbrev P__law_deed : List Str := ["_law_bag_here", "_law_shop"]
theorem sc__law_deed : FnScope N__law_deed P__law_deed (defScope (top 73)) := ⟨rfl, rfl, rfl, by decide +kernel, rfl, by decide +kernel, by decide +kernel⟩
def d__law_error : DefX := ⟨.glo "_law_error", "_law_error", "_law_error", (top 74), []⟩
abbrev N__law_error : List Str := ["_law_e"]
abbrev P__law_error : List Str := ["_law_e"]
theorem sc__law_error : FnScope N__law_error P__law_error (defScope (top 74)) := ⟨rfl, rfl, rfl, by decide +kernel, rfl, by decide +kernel, by decide +kernel⟩
def d__law_shop_right : DefX := ⟨.glo "_law_shop_right", "_law_shop_right", "_law_shop_right", (top 75), []⟩
abbrev N__law_shop_right : List Str := ["_law_made", "_law_shop"]
abbrev P__law_shop_right : List Str := ["_law_made", "_law_shop"]
theorem sc__law_shop_right : FnScope N__law_shop_right P__law_shop_right (defScope (top 75)) := ⟨rfl, rfl, rfl, by decide +kernel, rfl, by decide +kernel, by decide +kernel⟩
def d__law_number_text : DefX := ⟨.glo "_law_number_text", "_law_number_text", "_law_number_text", (top 76), []⟩
abbrev N__law_number_text : List Str := ["_law_number"]
abbrev P__law_number_text : List Str := ["_law_number"]
theorem sc__law_number_text : FnScope N__law_number_text P__law_number_text (defScope (top 76)) := ⟨rfl, rfl, rfl, by decide +kernel, rfl, by decide +kernel, by decide +kernel⟩
def d__law_sighting_text : DefX := ⟨.glo "_law_sighting_text", "_law_sighting_text", "_law_sighting_text", (top 77), []⟩
abbrev N__law_sighting_text : List Str := ["_law_sighting"]
abbrev P__law_sighting_text : List Str := ["_law_sighting"]
theorem sc__law_sighting_text : FnScope N__law_sighting_text P__law_sighting_text (defScope (top 77)) := ⟨rfl, rfl, rfl, by decide +kernel, rfl, by decide +kernel, by decide +kernel⟩
def d__law_book_text : DefX := ⟨.glo "_law_book_text", "_law_book_text", "_law_book_text", (top 78), []⟩
abbrev N__law_book_text : List Str := ["_law_book", "_law_change"]
abbrev P__law_book_text : List Str := ["_law_book"]
theorem sc__law_book_text : FnScope N__law_book_text P__law_book_text (defScope (top 78)) := ⟨rfl, rfl, rfl, by decide +kernel, rfl, by decide +kernel, by decide +kernel⟩
def d__law_moments_text : DefX := ⟨.glo "_law_moments_text", "_law_moments_text", "_law_moments_text", (top 79), []⟩
abbrev N__law_moments_text : List Str := ["_law_moments", "_law_moment"]
abbrev P__law_moments_text : List Str := ["_law_moments"]
theorem sc__law_moments_text : FnScope N__law_moments_text P__law_moments_text (defScope (top 79)) := ⟨rfl, rfl, rfl, by decide +kernel, rfl, by decide +kernel, by decide +kernel⟩
def d__law_board_text : DefX := ⟨.glo "_law_board_text", "_law_board_text", "_law_board_text", (top 80), []⟩
abbrev N__law_board_text : List Str := ["_law_board_here"]
abbrev P__law_board_text : List Str := ["_law_board_here"]
theorem sc__law_board_text : FnScope N__law_board_text P__law_board_text (defScope (top 80)) := ⟨rfl, rfl, rfl, by decide +kernel, rfl, by decide +kernel, by decide +kernel⟩
def d__law_deed_text : DefX := ⟨.glo "_law_deed_text", "_law_deed_text", "_law_deed_text", (top 81), []⟩
abbrev N__law_deed_text : List Str := ["_law_deed_here"]
abbrev P__law_deed_text : List Str := ["_law_deed_here"]
theorem sc__law_deed_text : FnScope N__law_deed_text P__law_deed_text (defScope (top 81)) := ⟨rfl, rfl, rfl, by decide +kernel, rfl, by decide +kernel, by decide +kernel⟩
def d__law_window_text : DefX := ⟨.glo "_law_window_text", "_law_window_text", "_law_window_text", (top 82), []⟩
abbrev N__law_window_text : List Str := ["_law_window", "_law_moment"]
abbrev P__law_window_text : List Str := ["_law_window"]
theorem sc__law_window_text : FnScope N__law_window_text P__law_window_text (defScope (top 82)) := ⟨rfl, rfl, rfl, by decide +kernel, rfl, by decide +kernel, by decide +kernel⟩
def d__law_word : DefX := ⟨.glo "_law_word", "_law_word", "_law_word", (top 83), []⟩
abbrev N__law_word : List Str := ["_law_e"]
abbrev P__law_word : List Str := ["_law_e"]
theorem sc__law_word : FnScope N__law_word P__law_word (defScope (top 83)) := ⟨rfl, rfl, rfl, by decide +kernel, rfl, by decide +kernel, by decide +kernel⟩
def d__law_said : DefX := ⟨.glo "_law_said", "_law_said", "_law_said", (top 84), []⟩
abbrev N__law_said : List Str := ["_law_desk", "_law_line", "_law_e"]
abbrev P__law_said : List Str := ["_law_desk", "_law_line"]
theorem sc__law_said : FnScope N__law_said P__law_said (defScope (top 84)) := ⟨rfl, rfl, rfl, by decide +kernel, rfl, by decide +kernel, by decide +kernel⟩
def d__law_led_by : DefX := ⟨.glo "_law_led_by", "_law_led_by", "_law_led_by", (top 85), []⟩
abbrev N__law_led_by : List Str := ["_law_made", "_law_line", "_law_deed_here", "_law_e"]
abbrev P__law_led_by : List Str := ["_law_made", "_law_line", "_law_deed_here"]
theorem sc__law_led_by : FnScope N__law_led_by P__law_led_by (defScope (top 85)) := ⟨rfl, rfl, rfl, by decide +kernel, rfl, by decide +kernel, by decide +kernel⟩
def d__law_due : DefX := ⟨.glo "_law_due", "_law_due", "_law_due", (top 86), []⟩
abbrev N__law_due : List Str := ["_law_made", "_law_shop", "_law_words", "_law_word_here", "_law_first", "_law_second", "_law_told", "_law_windows_here", "_law_price"]
abbrev P__law_due : List Str := ["_law_made", "_law_shop", "_law_words"]
theorem sc__law_due : FnScope N__law_due P__law_due (defScope (top 86)) := ⟨rfl, rfl, rfl, by decide +kernel, rfl, by decide +kernel, by decide +kernel⟩
def d__law_question : DefX := ⟨.glo "_law_question", "_law_question", "_law_question", (top 87), []⟩
abbrev N__law_question : List Str := ["_law_bag_here", "_law_shop", "_law_word_here", "_law_moment", "_law_place", "_law_number"]
abbrev P__law_question : List Str := ["_law_bag_here", "_law_shop"]
theorem sc__law_question : FnScope N__law_question P__law_question (defScope (top 87)) := ⟨rfl, rfl, rfl, by decide +kernel, rfl, by decide +kernel, by decide +kernel⟩
def d__law_asked_right : DefX := ⟨.glo "_law_asked_right", "_law_asked_right", "_law_asked_right", (top 88), []⟩
abbrev N__law_asked_right : List Str := ["_law_desk", "_law_made", "_law_shop", "_law_words", "_law_texts", "_law_due_here", "_law_one_here"]
abbrev P__law_asked_right : List Str := ["_law_desk", "_law_made", "_law_shop", "_law_words"]
theorem sc__law_asked_right : FnScope N__law_asked_right P__law_asked_right (defScope (top 88)) := ⟨rfl, rfl, rfl, by decide +kernel, rfl, by decide +kernel, by decide +kernel⟩
def d_law : DefX := ⟨.glo "law", "law", "law", (top 89), []⟩
abbrev N_law : List Str := ["_law_script", "_law_bag_here", "_law_shop", "_law_desk", "_law_made", "_law_states", "_law_spot", "_law_k", "_law_way", "_law_deed_here", "_law_line", "_law_found", "_law_due_here", "_law_deeds", "_law_texts", "_law_j", "_law_one_here"]
abbrev P_law : List Str := ["_law_script"]
theorem sc_law : FnScope N_law P_law (defScope (top 89)) := ⟨rfl, rfl, rfl, by decide +kernel, rfl, by decide +kernel, by decide +kernel⟩
def fn0 : List DefX := [d_show_sighting, d_show_book, d_show_board, d_show_moments, d_show_deed, d_show_window, d_is_integer, d_is_price, d_is_board, d_is_change, d_is_index, d_Book_init, d_Book_len, d_Book_getitem, d_Book_eq, d_Book_changes, d_Book_moments, d_Book_prices, d_Book_with_change, d_is_number_text, d_is_moment_text, d_sighting_in, d_read_deed, d_are_moments, d_Line_init, d_Line_book, d_Line_board, d_Line_earliest, d_Line_latest, d_Line_window]
def fn1 : List DefX := [d_Line_stretch, d_numbers_of, d_swept, d_is_seen, d_least_numbers, d_greatest_numbers, d_numbers_at, d_prices_seen_at, d_surely_at, d_is_deed, d_Shop_init, d_Shop_book, d_Shop_line, d_Shop_sightings, d_Shop_behind, d_Shop_do, d_Shop_back, d_Shop_again, d_Shop_log, d_Shop_numbers, d_Shop_prices, d_Shop_surely, d_Shop_charged, d_Shop_overs, d_Desk_init, d_Desk_execute, d_Desk_answer, d_Desk_told_at, d__law_bag, d__law_take]
def fn2 : List DefX := [d__law_alike, d__law_one, d__law_gap_of, d__law_board, d__law_prices, d__law_windows, d__law_within, d__law_stretch, d__law_numbers_by, d__law_chained, d__law_seen, d__law_shop_price, d__law_empty, d__law_shop_windows, d__law_shop_can, d__law_behind, d__law_shop_moment, d__law_deed, d__law_error, d__law_shop_right, d__law_number_text, d__law_sighting_text, d__law_book_text, d__law_moments_text, d__law_board_text, d__law_deed_text, d__law_window_text, d__law_word, d__law_said, d__law_led_by]
def fn3 : List DefX := [d__law_due, d__law_question, d__law_asked_right, d_law]
def fn : List DefX := fn0 ++ fn1 ++ fn2 ++ fn3
def gls0 : List Str := ["LabelError", "Wrong", "NotLater", "Early", "NoNumber", "NoChange", "NoPlace", "Passed", "Clash", "Nothing", "NoText", "NoCommand", "show_sighting", "show_book", "show_board", "show_moments", "show_deed", "show_window", "is_integer", "is_price", "is_board", "is_change", "is_index", "Book", "is_number_text", "is_moment_text", "sighting_in", "read_deed", "are_moments", "Line"]
def gls1 : List Str := ["numbers_of", "swept", "is_seen", "least_numbers", "greatest_numbers", "numbers_at", "prices_seen_at", "surely_at", "is_deed", "Shop", "Desk", "_law_bag", "_law_take", "_law_alike", "_law_one", "_law_gap_of", "_law_board", "_law_prices", "_law_windows", "_law_within", "_law_stretch", "_law_numbers_by", "_law_chained", "_law_seen", "_law_shop_price", "_law_empty", "_law_shop_windows", "_law_shop_can", "_law_behind", "_law_shop_moment"]
def gls2 : List Str := ["_law_deed", "_law_error", "_law_shop_right", "_law_number_text", "_law_sighting_text", "_law_book_text", "_law_moments_text", "_law_board_text", "_law_deed_text", "_law_window_text", "_law_word", "_law_said", "_law_led_by", "_law_due", "_law_question", "_law_asked_right", "law", "PLACES", "WORDS"]
def gls : List Str := gls0 ++ gls1 ++ gls2
def fres0 : List Str := ["len", "isinstance", "int", "bool", "str", "list", "tuple", "all", "range", "enumerate", "reversed", "sorted", "set", "min", "max", "abs", "dict", "repr", "zip", "super"]
def fres : List Str := fres0
end K97
/-! # what is asked of the module -/
namespace K97
open PySem PySem.Spec PyProof.Rows L2
/-- fields, methods, properties of the own classes -/
def flds : List (Cl × Str) := [(.book, "its_changes"), (.book, "its_prices"), (.line, "its_book"), (.line, "its_board"), (.line, "its_sent"), (.shop, "its_boards"), (.shop, "its_states"), (.shop, "its_deeds"), (.shop, "its_spot"), (.desk, "its_shop")]
def mths : List (Cl × Str) := [(.book, "__len__"), (.book, "__getitem__"), (.book, "__eq__"), (.book, "changes"), (.book, "moments"), (.book, "prices"), (.book, "with_change"), (.line, "earliest"), (.line, "latest"), (.line, "window"), (.line, "stretch"),
  (.shop, "line"), (.shop, "sightings"), (.shop, "behind"), (.shop, "do"), (.shop, "back"), (.shop, "again"), (.shop, "log"), (.shop, "numbers"), (.shop, "prices"), (.shop, "surely"), (.shop, "charged"), (.shop, "overs"), (.desk, "execute"), (.desk, "answer"), (.desk, "told_at")]
def prps : List (Cl × Str) := [(.line, "book"), (.line, "board"), (.shop, "book")]
/-- an own exception class that is handed one value: its field, its parameter -/
def xcs : List (Str × Str) := [("NotLater", "index"), ("NoNumber", "number"), ("Passed", "moment"), ("Clash", "deed"), ("NoText", "index")]
/-- the exception classes that are reached -/
def xns : List Str := ["NotLater", "NoNumber", "Passed", "Clash", "NoText", "Nothing"]
end K97
/-! # the head: the facts of the module as one test -/
namespace K97Hd
open K97
open PySem PySem.Spec PyProof.Rows L2
abbrev PWm : Program := PySem.Challenge.pw_labeltill_k97_whole_desk_and_shop
abbrev FnT : Type := Option (Str × Str × Arguments × FuncBody × Scope × Addr × Addr)
def fnT (K : PySem.W.Frag) (a : Addr) : FnT := match K.lookup a with
  | some ⟨_, _, .func fd, _⟩ => some (fd.name, fd.qualname, fd.params, fd.body, fd.scope, fd.globals, fd.builtins)
  | _ => none
/-- an own exception class with one field -/
structure ExX where
  c : Str
  f : Str
  q : Str
  i : Nat
def exs : List ExX := [⟨"NotLater", "index", "NotLater.__init__", 4⟩, ⟨"NoNumber", "number", "NoNumber.__init__", 6⟩, ⟨"Passed", "moment", "Passed.__init__", 9⟩, ⟨"Clash", "deed", "Clash.__init__", 10⟩, ⟨"NoText", "index", "NoText.__init__", 12⟩]
def ExX.st (e : ExX) : Stmt := inClass (top e.i) 0
def ExX.val (e : ExX) : FnT := some ("__init__", e.q, defArgs e.st, .stmts (defBody e.st), defScope e.st, mainGlobals, builtinsNs)
def ExX.at_ (K : PySem.W.Frag) (e : ExX) : Addr := He.ma K (He.ga K e.c) "__init__"
def allCl : List Cl := [.book, .line, .shop, .desk]
theorem allCl_in (c : Cl) : c ∈ allCl := by cases c <;> decide
/-! ## the tests -/
section
variable (K : PySem.W.Frag)
def oexB (C : Addr) : Bool := (match K.lookup C with
  | some ⟨.type "type", _, .cls cd, sl⟩ => (match cd.mro, sl.toList with
    | .ref C' :: bm, [_, _, _, _, some (.builtin n), _] => C' == C && n == "ValueError.__new__" && !cd.hasDel && cd.hasDict && PySem.HandSPX.refsVE bm
    | _, _ => false)
  | _ => false) && (He.eqO (PySem.W.findIn K (.ref C) "__setattr__") (some (some (.builtin "object.__setattr__"))) && (decide (PySem.W.subIn K (.ref C) (.type "BaseException") = some true) && (decide (PySem.W.typeIn K (.ref C) = some (.type "type")) && PySem.W.keepIn K (.ref C))))
def cellB (cc C : Addr) : Bool := match K.lookup cc with
  | some ⟨_, _, .cell (some (.ref D)), _⟩ => D == C
  | _ => false
def fileB (cda : Addr) : Bool := match K.lookup cda with
  | some ⟨_, _, .fields vs, _⟩ => (match (vs[2]? : Option Value) with
    | some (.str file _) => (PWm.main.file : Str) == file
    | _ => false)
  | _ => false
def xcB (e : ExX) : Bool := He.eqO (PySem.W.findIn K (.ref (He.ga K e.c)) "__init__") (some (some (.ref (e.at_ K)))) && (decide (PySem.W.typeIn K (.ref (e.at_ K)) = some (.type "function")) && ((match K.lookup (e.at_ K) with
  | some ⟨_, _, .func fd, _⟩ => (match fd.closure, fd.code, fd.defaults with
    | [(y, cc)], .ref cda, .none => decide (y = "__class__") && (PySem.W.codeIn K (.ref cda) e.q && (cellB K cc (He.ga K e.c) && fileB K cda))
    | _, _, _ => false)
  | _ => false) && (oexB K (He.ga K e.c) && (decide (PySem.W.mroIn K (He.ga K e.c) (.ref (He.ga K e.c)) = some true) && (He.eqO (PySem.W.ks_superIn K (He.ga K e.c) (He.ga K e.c) "__init__") (some (some (.builtin "ValueError.__init__"))) &&
  (decide (PySem.W.subIn K (.ref (He.ga K e.c)) (.type "ValueError") = some true) && He.eqO (PySem.W.findIn K (.ref (He.ga K e.c)) e.f) (some none)))))))
def prpB (C : Addr) (x : Str) : Bool := He.eqO (PySem.W.findIn K (.ref C) x) (some (some (.ref (He.ma K C x)))) && (He.eqO (PySem.W.specialIn K (.ref (He.ma K C x)) "__get__") (some (some (.builtin "property.__get__"))) && (decide (PySem.W.takesIn K (.ref (He.ma K C x)) = some true) && (match PySem.W.recIn K (He.ma K C x) "property" with
  | some (.ref _ :: _) => true
  | _ => false)))
def isiB (C : Addr) : Bool := He.eqO (PySem.W.findIn K (.ref C) "__class__") (some (some (.builtin "object.__class__"))) && (He.eqO (PySem.W.specialIn K (.builtin "object.__class__") "__get__") (some (some (.builtin "getset_descriptor.__get__"))) && (decide (PySem.W.takesIn K (.builtin "object.__class__") = some true) && decide (PySem.W.mroIn K C (.type "object") = some true)))
def nebB (C : Addr) : Bool := He.eqO (PySem.W.findIn K (.ref C) "__ne__") (some (some (.builtin "object.__ne__"))) && decide (PySem.W.mroIn K C (.type "object") = some true)
def xiB (D : Addr) : Bool := He.eqO (PySem.W.findIn K (.ref D) "__getattribute__") (some (some (.builtin "BaseException.__getattribute__"))) && (He.eqO (PySem.W.findIn K (.ref D) "__getattr__") (some none) && (decide (PySem.W.subIn K (.ref D) (.type "BaseException") = some true) && (PySem.W.hasDictIn K D && isiB K D)))
def tupE (a : Addr) : Bool := match K.lookup a with
  | some ⟨.type c, _, .seq its _, _⟩ => decide (c = "tuple") && decide (its.size = 0)
  | _ => false
/-- all of them -/
def wdB : Bool := (gls.all fun x => (He.Fa.glo x).ok K) && ((fres.all fun x => (He.Fa.free x).ok K) && ((allCl.all fun c => (He.Fa.cls c.nm).ok K && ((He.Fa.mkr c.nm).ok K && isiB K (ca K c))) && ((flds.all fun p => (He.Fa.noat p.1.nm p.2).ok K) && ((mths.all fun p => (He.Fa.meth p.1.nm p.2).ok K) &&
  (PySem.W.fnIn K (He.ma K (ca K .book) "__getitem__") && ((prps.all fun p => prpB K (ca K p.1) p.2) && (decide (PySem.W.kitOne K (.ref (ca K .book)) (.ref (ca K .book)) = some true) && (nebB K (ca K .book) && ((exs.all fun e => xcB K e) &&
  (He.eqO (PySem.W.nsIn K cStatics "thirdparty.any") (some none) && (PySem.W.excIn K (He.ga K "Nothing") He.veBase "ValueError.__new__" && (PySem.W.keepIn K (.ref (He.ga K "Nothing")) && ((xcs.all fun p => xfB K (He.ga K p.1) && decide (PySem.W.findIn K (.ref (He.ga K p.1)) p.2 = some none)) &&
  ((xns.all fun c => xiB K (He.ga K c) && (xns.all fun c2 => decide (PySem.W.kitOne K (.ref (He.ga K c)) (.ref (He.ga K c2)) = some (c == c2)))) && ((xns.all fun c => decide (PySem.W.exmOne K (.ref (He.ga K c)) (.ref (He.ga K "NoText")) = some (c == "NoText")) && decide (PySem.W.exmOne K (.ref (He.ga K c)) (.ref (He.ga K "LabelError")) = some true)) &&
  (tupE K (bookD K) && (He.tupB K "WORDS" [.str "change", .str "label", .str "till"] && (He.tupB K "PLACES" [.str "label", .str "till"] && fn.all fun d => d.ok K))))))))))))))))))
end
end K97Hd
set_option maxHeartbeats 0
/-! # the head's run -/
namespace K97Hd
open K97
open PySem PySem.Spec PyProof.Rows L2
def loose0 : List Str := ["_wall", "LabelError", "Wrong", "NotLater", "Early", "NoNumber", "NoChange", "NoPlace", "Passed", "Clash", "Nothing", "NoText", "NoCommand", "show_sighting", "show_book", "show_board", "show_moments", "show_deed", "show_window", "is_integer", "is_price", "is_board", "is_change", "is_index", "Book", "WORDS", "is_number_text", "is_moment_text", "sighting_in", "read_deed"]
def loose1 : List Str := ["are_moments", "Line", "numbers_of", "swept", "is_seen", "least_numbers", "greatest_numbers", "numbers_at", "prices_seen_at", "surely_at", "PLACES", "is_deed", "Shop", "Desk", "_law_bag", "_law_take", "_law_alike", "_law_one", "_law_gap_of", "_law_board", "_law_prices", "_law_windows", "_law_within", "_law_stretch", "_law_numbers_by", "_law_chained", "_law_seen", "_law_shop_price", "_law_empty", "_law_shop_windows"]
def loose2 : List Str := ["_law_shop_can", "_law_behind", "_law_shop_moment", "_law_deed", "_law_error", "_law_shop_right", "_law_number_text", "_law_sighting_text", "_law_book_text", "_law_moments_text", "_law_board_text", "_law_deed_text", "_law_window_text", "_law_word", "_law_said", "_law_led_by", "_law_due", "_law_question", "_law_asked_right"]
def loose : List Str := loose0 ++ loose1 ++ loose2
def refsX (o : Obj) : List Addr := match o.data with
  | .func fd => He.refV fd.code ++ He.refV fd.defaults ++ fd.closure.map (·.2)
  | .cls cd => [cd.ns]
  | .dict es _ => es.toList.flatMap fun e => He.refV e.val
  | .seq its _ => its.toList.flatMap He.refV
  | .fields vs => (match o.cls with
    | .type n => (match n == "property" with
      | true => vs.toList.flatMap He.refV
      | false => [])
    | _ => [])
  | _ => []
def stepX (g : Addr → Option Obj) (as : List Addr) : List Addr := as.flatMap fun a => match g a with
  | some o => refsX o
  | none => []
def asX (g : Addr → Option Obj) : List Addr :=
  let a1 := stepX g [mainGlobals]
  let a2 := stepX g a1
  let a3 := stepX g a2
  let a4 := stepX g a3
  let a5 := stepX g a4
  mainGlobals :: cStatics :: (a1 ++ (a2 ++ (a3 ++ (a4 ++ a5))))
abbrev AlW : Type := Bool × List He.FnW × List FnT
def obsW (K : PySem.W.Frag) : AlW := (wdB K, fn.map fun d => fnAt K (d.pa.ad K), exs.map fun e => fnT K (e.at_ K))
def valW : AlW := (true, fn.map DefX.val, exs.map ExX.val)
abbrev R : PySem.W.OpenRow := PySem.W.OpenLaw.row PySem.Challenge.rw_labeltill_k97_whole_desk_and_shop
def hk : PySem.W.Hook where
  α := AlW
  obs := fun s => obsW (He.frG s.heap.get? (asX s.heap.get?))
  val := fun _ => valW
  says := fun _ h => ∃ K : PySem.W.Frag, K.In h ∧ obsW K = valW
  of := fun _ _ e => ⟨_, He.frG_in, e⟩
  keeps := fun _ _ _ ⟨K, hK, c⟩ k => ⟨K, PySem.W.Frag.In.keeps hK k, c⟩
def ob (s : PySem.W.SharedT) : AlW := obsW (He.frG (HandSHeadRun.getT s) (asX (HandSHeadRun.getT s)))
theorem ob_eq (s : PySem.W.SharedT) : ob s = hk.obs s.abs := by
  have e : HandSHeadRun.getT s = s.abs.heap.get? := funext (HandSHeadRun.getT_eq s)
  show obsW (He.frG (HandSHeadRun.getT s) (asX (HandSHeadRun.getT s))) = obsW (He.frG s.abs.heap.get? (asX s.abs.heap.get?))
  rw [e]
theorem run (w : World) : HandSHeadRun.RunEq R (PySem.W.view R.prog [89]) hk ob 20000 loose w := by
  intro os
  kernel_rfl
end K97Hd

set_option maxHeartbeats 2000000
/-! # the head's end -/
namespace K97Hd
open K97
open PySem PySem.W PySem.Calls PyProof.Rows
theorem holds_of (hc : WalkO (view R.prog [89]) loose (XL (view R.prog [89]) []) hk.says R.toRowW (HandSHeadRun.topDef R.prog 89) [] fun f vs => PySem.call f vs) : PySem.Challenge.rw_labeltill_k97_whole_desk_and_shop.Holds := by
  w_on; o_law
  refine HandSHeadRun.head_any (r := R) (q := view R.prog [89]) (H := hk) (ob := ob) (M := 20000) (loose := loose) (d := HandSHeadRun.topDef R.prog 89) (kwd := []) ob_eq
    (by kernel_rfl) (fun s => by kernel_rfl) run (by kernel_rfl) (by kernel_rfl) (by kernel_rfl) (by rfl) (by first | assumption | decide +kernel) (by decide +kernel) ⟨rfl, rfl, rfl, rfl, rfl, by decide +kernel⟩ ?hw hc
  case hw => w_witness2
theorem no_dfl : (HandSHeadRun.topDef R.prog 89).params.defaults = [] := by kernel_rfl
theorem law_name : (HandSHeadRun.topDef R.prog 89).name = ("law" : PySem.Str) := by kernel_rfl
end K97Hd
/-! # Part B: the judgements; names, constants, arguments, tests, plain statements -/
namespace K97
open PySem PySem.Spec PyProof.Rows L2

/-! ## the strongest readings -/
def tS (X : Cx) (e : Expr) : TE := fun σ H Q => ∀ pins s, Inv X pins σ H s → wpAny (model X.prog X.w) X.A (eval e X.env) (EP X pins σ Q) X.xe s
def tTS (X : Cx) (e : Expr) : TT := fun σ H Q => ∀ pins s, Inv X pins σ H s → wpAny (model X.prog X.w) X.A (isTrue e X.env (eval e X.env)) (TP X pins σ Q) X.xe s
def tWS (X : Cx) (e : Expr) : TT := fun σ H Q => ∀ whole pins s, Inv X pins σ H s → wpAny (model X.prog X.w) X.A (isTrue e X.env whole) (TP X pins σ Q) X.xe s
def tAS (X : Cx) (es : List Expr) : TA := fun σ H Q => ∀ pos pins s, Inv X pins σ H s → wpAny (model X.prog X.w) X.A (spliced (backTo pos (starEach es X.env))) (AP X pins σ Q) X.xe s
def tSS (X : Cx) (st : Stmt) : TS := fun C σ H => ∀ pins s, Inv X pins σ H s → wpAny (model X.prog X.w) X.A (exec st X.env) (SP X pins C) X.xe s
def tSSs (X : Cx) (st : List Stmt) : TS := fun C σ H => ∀ pins s, Inv X pins σ H s → wpAny (model X.prog X.w) X.A (execs st X.env) (SP X pins C) X.xe s
def tGS (X : Cx) (tg : Expr) : TG := fun v σ H Q => ∀ pins s u, Inv X pins σ H s → RelV v u → wpAny (model X.prog X.w) X.A (assign tg X.env u) (fun _ s' => ∃ σ' H', Inv X pins σ' H' s' ∧ Q σ' H') X.xe s
section
variable {X : Cx} {e : Expr} {es : List Expr} {st : Stmt} {sts : List Stmt} {σ : St} {H : Hp}
theorem peS : PE X e (tS X e) := ⟨fun pins s _ _ _ I h => h pins s I⟩
theorem ptS : PT X e (tTS X e) := ⟨fun pins s _ _ _ I h => h pins s I⟩
theorem pwS : PW X e (tWS X e) := ⟨fun wh pins s _ _ _ I h => h wh pins s I⟩
theorem paS : PA X es (tAS X es) := ⟨fun pos pins s _ _ _ I h => h pos pins s I⟩
theorem psS : PS X st (tSS X st) := ⟨fun pins s _ _ _ I h => h pins s I⟩
theorem pssS : PSs X sts (tSSs X sts) := ⟨fun pins s _ _ _ I h => h pins s I⟩
theorem pgS : PG X e (tGS X e) := ⟨fun pins s _ _ _ u _ I r h => h pins s u I r⟩
theorem tS_of {t : TE} {Q : VK} (p : PE X e t) (h : t σ H Q) : tS X e σ H Q := fun pins s I => p.run pins s σ H Q I h
theorem tTS_of {t : TT} {Q : Bool → Hp → Prop} (p : PT X e t) (h : t σ H Q) : tTS X e σ H Q := fun pins s I => p.run pins s σ H Q I h
theorem tWS_of {t : TT} {Q : Bool → Hp → Prop} (p : PW X e t) (h : t σ H Q) : tWS X e σ H Q := fun wh pins s I => p.run wh pins s σ H Q I h
theorem tAS_of {t : TA} {Q : List V → Hp → Prop} (p : PA X es t) (h : t σ H Q) : tAS X es σ H Q := fun pos pins s I => p.run pos pins s σ H Q I h
theorem tSS_of {t : TS} {C : Ends} (p : PS X st t) (h : t C σ H) : tSS X st C σ H := fun pins s I => p.run pins s σ H C I h
theorem tSSs_of {t : TS} {C : Ends} (p : PSs X sts t) (h : t C σ H) : tSSs X sts C σ H := fun pins s I => p.run pins s σ H C I h
theorem tGS_of {t : TG} {v : V} {Q : St → Hp → Prop} (p : PG X e t) (h : t v σ H Q) : tGS X e v σ H Q := fun pins s u I r => p.run pins s σ H v u Q I r h
theorem ep_imp {pins : List (Addr × Obj)} {Q Q' : VK} {u : Value} {s : Shared} (h : EP X pins σ Q u s) (f : ∀ v H', Q v H' → Q' v H') : EP X pins σ Q' u s := by
  obtain ⟨v, H', I, r, q⟩ := h
  exact ⟨v, H', I, r, f _ _ q⟩
theorem tS_mono {Q Q' : VK} (h : tS X e σ H Q) (f : ∀ v H', Q v H' → Q' v H') : tS X e σ H Q' := fun pins s I => thn (h pins s I) fun u s1 q => ep_imp q f
theorem tTS_mono {Q Q' : Bool → Hp → Prop} (h : tTS X e σ H Q) (f : ∀ v H', Q v H' → Q' v H') : tTS X e σ H Q' := fun pins s I => thn (h pins s I) fun u s1 ⟨H1, I1, q⟩ => ⟨H1, I1, f _ _ q⟩
theorem tWS_mono {Q Q' : Bool → Hp → Prop} (h : tWS X e σ H Q) (f : ∀ v H', Q v H' → Q' v H') : tWS X e σ H Q' := fun wh pins s I => thn (h wh pins s I) fun u s1 ⟨H1, I1, q⟩ => ⟨H1, I1, f _ _ q⟩
theorem tAS_mono {Q Q' : List V → Hp → Prop} (h : tAS X es σ H Q) (f : ∀ v H', Q v H' → Q' v H') : tAS X es σ H Q' := fun pos pins s I => thn (h pos pins s I) fun u s1 ⟨v, H1, I1, r, q⟩ => ⟨v, H1, I1, r, f _ _ q⟩
theorem tGS_mono {v : V} {Q Q' : St → Hp → Prop} (h : tGS X e v σ H Q) (f : ∀ v H', Q v H' → Q' v H') : tGS X e v σ H Q' := fun pins s u I r => thn (h pins s u I r) fun u s1 ⟨v, H1, I1, q⟩ => ⟨v, H1, I1, f _ _ q⟩
structure EImp (C C' : Ends) : Prop where
  nx : ∀ σ H, C.nx σ H → C'.nx σ H
  rt : ∀ v H, C.rt v H → C'.rt v H
  bk : ∀ σ H, C.bk σ H → C'.bk σ H
  ct : ∀ σ H, C.ct σ H → C'.ct σ H
theorem sp_imp {pins : List (Addr × Obj)} {C C' : Ends} {f : Flow} {s : Shared} (h : SP X pins C f s) (e : EImp C C') : SP X pins C' f s := by
  cases f with
  | next => obtain ⟨a, b, c, d⟩ := h; exact ⟨a, b, c, e.nx _ _ d⟩
  | brk => obtain ⟨a, b, c, d⟩ := h; exact ⟨a, b, c, e.bk _ _ d⟩
  | cont => obtain ⟨a, b, c, d⟩ := h; exact ⟨a, b, c, e.ct _ _ d⟩
  | ret u => obtain ⟨a, b, c, d, r, q⟩ := h; exact ⟨a, b, c, d, r, e.rt _ _ q⟩
theorem tSS_mono {C C' : Ends} (h : tSS X st C σ H) (f : EImp C C') : tSS X st C' σ H := fun pins s I => thn (h pins s I) fun u s1 q => sp_imp q f
theorem tSSs_mono {C C' : Ends} (h : tSSs X sts C σ H) (f : EImp C C') : tSSs X sts C' σ H := fun pins s I => thn (h pins s I) fun u s1 q => sp_imp q f
end

/-! ## the judgements over data -/
def Po (X : Cx) (F0 F : Hp) (Q : D → Om → Prop) : VK := fun v H' => ∃ d O' F', Q d O' ∧ Rep X.K F' d v ∧ Hx X.K F0 F' H' O' ∧ Le F F'
def Bo (X : Cx) (F0 F : Hp) (Q : Bool → Om → Prop) : Bool → Hp → Prop := fun b H' => ∃ O' F', Q b O' ∧ Hx X.K F0 F' H' O' ∧ Le F F'
def Ao (X : Cx) (F0 F : Hp) (Q : List D → Om → Prop) : List V → Hp → Prop := fun vs H' => ∃ ds O' F', Q ds O' ∧ Reps X.K F' ds vs ∧ Hx X.K F0 F' H' O' ∧ Le F F'
def Go (X : Cx) (F0 F : Hp) (Q : Rho → Om → Prop) : St → Hp → Prop := fun σ H' => ∃ r O' F', Q r O' ∧ Hx X.K F0 F' H' O' ∧ Le F F' ∧ En X.K F' r σ
/-- an expression is worth what Q wants -/
def Ev (X : Cx) (F0 : Hp) (e : Expr) (r : Rho) (O : Om) (Q : D → Om → Prop) : Prop := ∀ σ H F, Hx X.K F0 F H O → En X.K F r σ → tS X e σ H (Po X F0 F Q)
def Tv (X : Cx) (F0 : Hp) (e : Expr) (r : Rho) (O : Om) (Q : Bool → Om → Prop) : Prop := ∀ σ H F, Hx X.K F0 F H O → En X.K F r σ → tTS X e σ H (Bo X F0 F Q)
def Tw (X : Cx) (F0 : Hp) (e : Expr) (r : Rho) (O : Om) (Q : Bool → Om → Prop) : Prop := ∀ σ H F, Hx X.K F0 F H O → En X.K F r σ → tWS X e σ H (Bo X F0 F Q)
def Av (X : Cx) (F0 : Hp) (es : List Expr) (r : Rho) (O : Om) (Q : List D → Om → Prop) : Prop := ∀ σ H F, Hx X.K F0 F H O → En X.K F r σ → tAS X es σ H (Ao X F0 F Q)
/-- a target takes data -/
def Gv (X : Cx) (F0 : Hp) (tg : Expr) (d : D) (r : Rho) (O : Om) (Q : Rho → Om → Prop) : Prop := ∀ σ H F v, Hx X.K F0 F H O → En X.K F r σ → Rep X.K F d v → tGS X tg v σ H (Go X F0 F Q)
structure Co where
  nx : Rho → Om → Prop
  rt : D → Om → Prop
  bk : Rho → Om → Prop := fun _ _ => False
  ct : Rho → Om → Prop := fun _ _ => False
def ends (X : Cx) (F0 F : Hp) (C : Co) : Ends where
  nx := Go X F0 F C.nx
  rt := Po X F0 F C.rt
  bk := Go X F0 F C.bk
  ct := Go X F0 F C.ct
def Sv (X : Cx) (F0 : Hp) (st : Stmt) (r : Rho) (O : Om) (C : Co) : Prop := ∀ σ H F, Hx X.K F0 F H O → En X.K F r σ → tSS X st (ends X F0 F C) σ H
def Ssv (X : Cx) (F0 : Hp) (st : List Stmt) (r : Rho) (O : Om) (C : Co) : Prop := ∀ σ H F, Hx X.K F0 F H O → En X.K F r σ → tSSs X st (ends X F0 F C) σ H

section
variable {X : Cx} {F0 F F1 : Hp}
theorem Po.up {Q : D → Om → Prop} (l : Le F F1) : ∀ {v : V} {H : Hp}, Po X F0 F1 Q v H → Po X F0 F Q v H := fun ⟨d, O, F', q, r, h, e⟩ => ⟨d, O, F', q, r, h, l.trans e⟩
theorem Bo.up {Q : Bool → Om → Prop} (l : Le F F1) : ∀ {v : Bool} {H : Hp}, Bo X F0 F1 Q v H → Bo X F0 F Q v H := fun ⟨O, F', q, h, e⟩ => ⟨O, F', q, h, l.trans e⟩
theorem Ao.up {Q : List D → Om → Prop} (l : Le F F1) : ∀ {v : List V} {H : Hp}, Ao X F0 F1 Q v H → Ao X F0 F Q v H := fun ⟨d, O, F', q, r, h, e⟩ => ⟨d, O, F', q, r, h, l.trans e⟩
theorem Go.up {Q : Rho → Om → Prop} (l : Le F F1) : ∀ {v : St} {H : Hp}, Go X F0 F1 Q v H → Go X F0 F Q v H := fun ⟨d, O, F', q, h, e, n⟩ => ⟨d, O, F', q, h, l.trans e, n⟩
theorem ends.up {C : Co} (l : Le F F1) : EImp (ends X F0 F1 C) (ends X F0 F C) := ⟨fun _ _ h => h.up l, fun _ _ h => h.up l, fun _ _ h => h.up l, fun _ _ h => h.up l⟩
variable {e a b c : Expr} {es : List Expr} {st : Stmt} {sts : List Stmt} {r : Rho} {O : Om} {Q Q' : D → Om → Prop} {pos : Pos}
theorem Ev.mono (h : Ev X F0 e r O Q) (f : ∀ d O', Q d O' → Q' d O') : Ev X F0 e r O Q' := fun σ H F hx en => tS_mono (h σ H F hx en) fun _ _ ⟨d, O', F', q, x⟩ => ⟨d, O', F', f _ _ q, x⟩
theorem Tv.mono {Q Q' : Bool → Om → Prop} (h : Tv X F0 e r O Q) (f : ∀ d O', Q d O' → Q' d O') : Tv X F0 e r O Q' := fun σ H F hx en => tTS_mono (h σ H F hx en) fun _ _ ⟨O', F', q, x⟩ => ⟨O', F', f _ _ q, x⟩
theorem Av.mono {Q Q' : List D → Om → Prop} (h : Av X F0 es r O Q) (f : ∀ d O', Q d O' → Q' d O') : Av X F0 es r O Q' := fun σ H F hx en => tAS_mono (h σ H F hx en) fun _ _ ⟨d, O', F', q, x⟩ => ⟨d, O', F', f _ _ q, x⟩
/-- a value has come: what follows, at the grown heap -/
theorem Ev.bind {σ : St} {H F : Hp} {R : VK} (h : Ev X F0 e r O Q) (hx : Hx X.K F0 F H O) (en : En X.K F r σ)
    (k : ∀ d O1 F1 H1 v, Q d O1 → Rep X.K F1 d v → Hx X.K F0 F1 H1 O1 → En X.K F1 r σ → Le F F1 → R v H1) : tS X e σ H R :=
  tS_mono (h σ H F hx en) fun _ _ ⟨d, O1, F1, q, rp, hx1, l⟩ => k d O1 F1 _ _ q rp hx1 (en.mono l) l
theorem Tv.bind {σ : St} {H F : Hp} {R : Bool → Hp → Prop} {Q : Bool → Om → Prop} (h : Tv X F0 e r O Q) (hx : Hx X.K F0 F H O) (en : En X.K F r σ)
    (k : ∀ b O1 F1 H1, Q b O1 → Hx X.K F0 F1 H1 O1 → En X.K F1 r σ → Le F F1 → R b H1) : tTS X e σ H R :=
  tTS_mono (h σ H F hx en) fun _ _ ⟨O1, F1, q, hx1, l⟩ => k _ O1 F1 _ q hx1 (en.mono l) l
theorem Av.bind {σ : St} {H F : Hp} {R : List V → Hp → Prop} {Q : List D → Om → Prop} (h : Av X F0 es r O Q) (hx : Hx X.K F0 F H O) (en : En X.K F r σ)
    (k : ∀ ds O1 F1 H1 vs, Q ds O1 → Reps X.K F1 ds vs → Hx X.K F0 F1 H1 O1 → En X.K F1 r σ → Le F F1 → R vs H1) : tAS X es σ H R :=
  tAS_mono (h σ H F hx en) fun _ _ ⟨d, O1, F1, q, rp, hx1, l⟩ => k d O1 F1 _ _ q rp hx1 (en.mono l) l

/-! ## names and constants -/
theorem ev_name {i : Nat} {x : Str} {d : D} (hr : r[i]? = some (some d)) (q : Q d O) (hN : X.N[i]? = some x := by rfl)
    (hv : Vis X.env.scope x := by first | exact Or.inl rfl | exact Or.inr (Or.inl rfl) | exact Or.inr (Or.inr rfl))
    (hd : (x == ("__debug__" : Str)) = false := by decide) (hcd : (x == ("__classdict__" : Str)) = false := by decide) : Ev X F0 (.Name x pos) r O Q := by
  intro σ H F hx en
  obtain ⟨v, e1, e2⟩ := en.at_ i d hr
  exact tS_of (pe_var hN hv hd hcd) ⟨v, e1, d, O, F, q, e2, hx, Le.refl F⟩
theorem ev_int {i : Int} {j : Nat} (q : Q (.int i) O) : Ev X F0 (.Constant (.int i) j pos) r O Q := fun σ H F hx en => tS_of pe_int ⟨_, O, F, q, rep_int.mpr rfl, hx, Le.refl F⟩
theorem ev_bl {b : Bool} {j : Nat} (q : Q (.bl b) O) : Ev X F0 (.Constant (.bool b) j pos) r O Q := fun σ H F hx en => tS_of pe_bl ⟨_, O, F, q, rep_bl.mpr rfl, hx, Le.refl F⟩
theorem ev_non {j : Nat} (q : Q .non O) : Ev X F0 (.Constant .none j pos) r O Q := fun σ H F hx en => tS_of pe_non ⟨_, O, F, q, rep_non.mpr rfl, hx, Le.refl F⟩
theorem ev_str {x : Str} {j : Nat} (q : Q (.str x) O) : Ev X F0 (.Constant (.str x) j pos) r O Q := fun σ H F hx en => tS_of pe_str ⟨_, O, F, q, rep_str.mpr rfl, hx, Le.refl F⟩
/-- a module's constant -/
theorem ev_glob {x : Str} {d : D} {v : V} {u : Value} (hm : X.mg x = some u) (rl : RelV v u) (hr : ∀ F, Rep X.K F d v) (q : Q d O) (hg : Gl X x := by rfl) (hd : (x == ("__debug__" : Str)) = false := by decide) : Ev X F0 (.Name x pos) r O Q :=
  fun σ H F hx en => tS_of (pe_glob hg hm rl hd) ⟨d, O, F, q, hr F, hx, Le.refl F⟩

/-! ## arguments -/
theorem av_nil {Q : List D → Om → Prop} (q : Q [] O) : Av X F0 [] r O Q := fun σ H F hx en => tAS_of pa_nil ⟨[], O, F, q, .nil, hx, Le.refl F⟩
theorem av_cons {Q : List D → Om → Prop} (h : Ev X F0 e r O fun d O1 => Av X F0 es r O1 fun ds O2 => Q (d :: ds) O2)
    (hs : starEach (e :: es) X.env = (false, eval e X.env) :: starEach es X.env := by rfl) : Av X F0 (e :: es) r O Q := by
  intro σ H F hx en
  refine tAS_of (pa_cons peS paS hs) ?_
  refine h.bind hx en fun d O1 F1 H1 v q rp hx1 en1 l1 => ?_
  exact q.bind hx1 en1 fun ds O2 F2 H2 vs q2 rp2 hx2 en2 l2 => ⟨_, O2, F2, q2, .cons (rp.mono l2) rp2, hx2, l1.trans l2⟩

/-! ## tests -/
theorem tv_val {Q : Bool → Om → Prop} (h : Ev X F0 e r O fun d O1 => ∃ k, d = .bl k ∧ Q k O1) (he : ∀ whole, isTrue e X.env whole = (do let v ← whole; standAt e.pos; holding [v] (truthy v)) := by intro _; rfl) : Tv X F0 e r O Q := by
  intro σ H F hx en
  refine tTS_of (pt_val peS he) ?_
  refine h.bind hx en fun d O1 F1 H1 v q rp hx1 en1 l1 => ?_
  obtain ⟨k, rfl, q⟩ := q
  exact ⟨k, rep_bl.mp rp, O1, F1, q, hx1, l1⟩
theorem tv_w {Q : Bool → Om → Prop} (h : Tw X F0 e r O Q) : Tv X F0 e r O Q := fun σ H F hx en pins s I => h σ H F hx en _ pins s I
theorem tv_not {Q : Bool → Om → Prop} (h : Tv X F0 e r O fun k O1 => Q (!k) O1) : Tv X F0 (.UnaryOp .Not e pos) r O Q := by
  intro σ H F hx en
  refine tTS_of (pt_not ptS) ?_
  exact h.bind hx en fun b O1 F1 H1 q hx1 en1 l1 => ⟨O1, F1, q, hx1, l1⟩
theorem tw_and1 {Q : Bool → Om → Prop} (h : Tv X F0 e r O Q) : Tw X F0 (.BoolOp .And [e] pos) r O Q := fun σ H F hx en => tWS_of (pw_and1 ptS) (h σ H F hx en)
theorem tw_or1 {Q : Bool → Om → Prop} (h : Tv X F0 e r O Q) : Tw X F0 (.BoolOp .Or [e] pos) r O Q := fun σ H F hx en => tWS_of (pw_or1 ptS) (h σ H F hx en)
theorem tw_and {Q : Bool → Om → Prop} {rest : List Expr} (h : Tv X F0 a r O fun k O1 => (k = true → Tw X F0 (.BoolOp .And (b :: rest) pos) r O1 Q) ∧ (k = false → Q false O1)) : Tw X F0 (.BoolOp .And (a :: b :: rest) pos) r O Q := by
  intro σ H F hx en
  refine tWS_of (pw_and ptS pwS) ?_
  refine h.bind hx en fun k O1 F1 H1 q hx1 en1 l1 => ?_
  cases k with
  | true => exact iteT (tWS_mono (q.1 rfl σ H1 F1 hx1 en1) fun _ _ z => z.up l1)
  | false => exact iteF ⟨O1, F1, q.2 rfl, hx1, l1⟩
theorem tw_or {Q : Bool → Om → Prop} {rest : List Expr} (h : Tv X F0 a r O fun k O1 => (k = false → Tw X F0 (.BoolOp .Or (b :: rest) pos) r O1 Q) ∧ (k = true → Q true O1)) : Tw X F0 (.BoolOp .Or (a :: b :: rest) pos) r O Q := by
  intro σ H F hx en
  refine tWS_of (pw_or ptS pwS) ?_
  refine h.bind hx en fun k O1 F1 H1 q hx1 en1 l1 => ?_
  cases k with
  | true => exact iteT ⟨O1, F1, q.2 rfl, hx1, l1⟩
  | false => exact iteF (tWS_mono (q.1 rfl σ H1 F1 hx1 en1) fun _ _ z => z.up l1)
/-! .. as values -/
theorem ev_one {op : BoolOp} (h : Ev X F0 a r O Q) : Ev X F0 (.BoolOp op [a] pos) r O Q := fun σ H F hx en => tS_of (pe_one peS) (h σ H F hx en)
theorem ev_and {rest : List Expr} (h : Ev X F0 a r O fun d O1 => ∃ k, d = .bl k ∧ (k = true → Ev X F0 (.BoolOp .And (b :: rest) pos) r O1 Q) ∧ (k = false → Q (.bl false) O1)) : Ev X F0 (.BoolOp .And (a :: b :: rest) pos) r O Q := by
  intro σ H F hx en
  refine tS_of (pe_and peS peS) ?_
  refine h.bind hx en fun d O1 F1 H1 v q rp hx1 en1 l1 => ?_
  obtain ⟨k, rfl, q1, q2⟩ := q
  refine ⟨k, rep_bl.mp rp, ?_⟩
  cases k with
  | true => exact iteT (tS_mono (q1 rfl σ H1 F1 hx1 en1) fun _ _ z => z.up l1)
  | false => exact iteF ⟨_, O1, F1, q2 rfl, rep_bl.mpr rfl, hx1, l1⟩
theorem ev_or {rest : List Expr} (h : Ev X F0 a r O fun d O1 => ∃ k, d = .bl k ∧ (k = false → Ev X F0 (.BoolOp .Or (b :: rest) pos) r O1 Q) ∧ (k = true → Q (.bl true) O1)) : Ev X F0 (.BoolOp .Or (a :: b :: rest) pos) r O Q := by
  intro σ H F hx en
  refine tS_of (pe_or peS peS) ?_
  refine h.bind hx en fun d O1 F1 H1 v q rp hx1 en1 l1 => ?_
  obtain ⟨k, rfl, q1, q2⟩ := q
  refine ⟨k, rep_bl.mp rp, ?_⟩
  cases k with
  | false => exact iteF (tS_mono (q1 rfl σ H1 F1 hx1 en1) fun _ _ z => z.up l1)
  | true => exact iteT ⟨_, O1, F1, q2 rfl, rep_bl.mpr rfl, hx1, l1⟩
theorem ev_not (h : Ev X F0 a r O fun d O1 => ∃ k, d = .bl k ∧ Q (.bl (!k)) O1) : Ev X F0 (.UnaryOp .Not a pos) r O Q := by
  intro σ H F hx en
  refine tS_of (pe_not peS) ?_
  refine h.bind hx en fun d O1 F1 H1 v q rp hx1 en1 l1 => ?_
  obtain ⟨k, rfl, q1⟩ := q
  exact ⟨k, rep_bl.mp rp, _, O1, F1, q1, rep_bl.mpr rfl, hx1, l1⟩
theorem ev_if (h : Tv X F0 c r O fun k O1 => (k = true → Ev X F0 a r O1 Q) ∧ (k = false → Ev X F0 b r O1 Q)) : Ev X F0 (.IfExp c a b pos) r O Q := by
  intro σ H F hx en
  refine tS_of (pe_ifExp ptS peS peS) ?_
  refine h.bind hx en fun k O1 F1 H1 q hx1 en1 l1 => ?_
  cases k with
  | true => exact iteT (tS_mono (q.1 rfl σ H1 F1 hx1 en1) fun _ _ z => z.up l1)
  | false => exact iteF (tS_mono (q.2 rfl σ H1 F1 hx1 en1) fun _ _ z => z.up l1)

/-! ## statements -/
variable {C : Co}
theorem ss_nil (q : C.nx r O) : Ssv X F0 [] r O C := fun σ H F hx en => tSSs_of pss_nil ⟨r, O, F, q, hx, Le.refl F, en⟩
theorem ss_cons (h : Sv X F0 st r O { C with nx := fun r1 O1 => Ssv X F0 sts r1 O1 C }) : Ssv X F0 (st :: sts) r O C := by
  intro σ H F hx en
  refine tSSs_of (pss_cons psS pssS) ?_
  refine tSS_mono (h σ H F hx en) ⟨fun σ1 H1 ⟨r1, O1, F1, q, hx1, l1, en1⟩ => ?_, fun _ _ q => q, fun _ _ q => q, fun _ _ q => q⟩
  exact tSSs_mono (q σ1 H1 F1 hx1 en1) (ends.up l1)
theorem s_expr (h : Ev X F0 e r O fun _ O1 => C.nx r O1) (hs : swapsWith e none pos.line X.env = pure false := by rfl) : Sv X F0 (.Expr e pos) r O C := by
  intro σ H F hx en
  refine tSS_of (ps_expr peS hs) ?_
  exact h.bind hx en fun d O1 F1 H1 v q rp hx1 en1 l1 => ⟨r, O1, F1, q, hx1, l1, en1⟩
theorem s_ret (h : Ev X F0 e r O C.rt) : Sv X F0 (.Return (some e) pos) r O C := by
  intro σ H F hx en
  refine tSS_of (ps_ret peS) ?_
  exact h.bind hx en fun d O1 F1 H1 v q rp hx1 en1 l1 => ⟨d, O1, F1, q, rp, hx1, l1⟩
/-- an own list is handed back: it is frozen -/
theorem s_retL (h : Ev X F0 e r O fun d O1 => ∃ p ds, d = .adr p ∧ O1 p = some (.lst ds) ∧ C.rt (.lst ds) (O1.del p)) : Sv X F0 (.Return (some e) pos) r O C := by
  intro σ H F hx en
  refine tSS_of (ps_ret peS) ?_
  refine h.bind hx en fun d O1 F1 H1 v q rp hx1 en1 l1 => ?_
  obtain ⟨p, ds, rfl, hp, q⟩ := q
  obtain ⟨F2, hx2, l2, rp2⟩ := hx1.frzL hp
  rw [rep_adr.mp rp]
  exact ⟨_, _, F2, q, rp2, hx2, l1.trans l2⟩
theorem s_if {x y : List Stmt} (h : Tv X F0 c r O fun k O1 => (k = true → Ssv X F0 x r O1 C) ∧ (k = false → Ssv X F0 y r O1 C)) : Sv X F0 (.If c x y pos) r O C := by
  intro σ H F hx en
  refine tSS_of (ps_if ptS pssS pssS) ?_
  refine h.bind hx en fun k O1 F1 H1 q hx1 en1 l1 => ?_
  cases k with
  | true => exact iteT (tSSs_mono (q.1 rfl σ H1 F1 hx1 en1) (ends.up l1))
  | false => exact iteF (tSSs_mono (q.2 rfl σ H1 F1 hx1 en1) (ends.up l1))
theorem s_set {i : Nat} {x : Str} {pos' : Pos} (h : Ev X F0 e r O fun d O1 => C.nx (r.set i (some d)) O1) (hN : X.N.Nodup) (hi : X.N[i]? = some x := by rfl) (hl : Loc X.env.scope x := by first | exact Or.inl rfl | exact Or.inr rfl)
    (hs : swapsWith e (some (.Name x pos')) pos.line X.env = pure false := by rfl) (hf : X.fn x = true ∨ X.env.scope.names.lookup x = some .local := by first | exact .inl rfl | exact .inr rfl | assumption) : Sv X F0 (.Assign [.Name x pos'] e pos) r O C := by
  intro σ H F hx en
  refine tSS_of (ps_set hN hi hl peS hs hf) ?_
  exact h.bind hx en fun d O1 F1 H1 v q rp hx1 en1 l1 => ⟨_, O1, F1, q, hx1, l1, en1.set rp i⟩
end
end K97
/-! # Part C: operators, comparisons, subscripts, slices, displays -/
namespace K97
open PySem PySem.Spec PyProof.Rows L2

/-! ## the strongest readings of operations on values -/
def rf (X : Cx) (f : Value → Value → Sem Value) : R2 := fun x y H Q => ∀ pins s σ u v, Inv X pins σ H s → RelV x u → RelV y v → wpAny (model X.prog X.w) X.A (f u v) (EP X pins σ Q) X.xe s
def ru (X : Cx) (f : Value → Sem Value) : V → Hp → VK → Prop := fun x H Q => ∀ pins s σ u, Inv X pins σ H s → RelV x u → wpAny (model X.prog X.w) X.A (f u) (EP X pins σ Q) X.xe s
def rx (X : Cx) : R2 := fun x y H Q => ∀ value slice pins s σ v u, Inv X pins σ H s → RelV x v → RelV y u → subscripted slice false v u = operate [v, u] (getItem v u) → wpAny (model X.prog X.w) X.A (subscriptTail value slice v u) (EP X pins σ Q) X.xe s
def rc (X : Cx) (f : Value) : List V → Hp → VK → Prop := fun xs H Q => ∀ pins s σ us, Inv X pins σ H s → Vals xs us → wpAny (model X.prog X.w) X.A (call f us) (EP X pins σ Q) X.xe s
def rm (X : Cx) (id : String) : V → List V → Hp → VK → Prop := fun x xs H Q => ∀ pins s σ v us, Inv X pins σ H s → RelV x v → Vals xs us → wpAny (model X.prog X.w) X.A (call (.builtin id) (v :: us)) (EP X pins σ Q) X.xe s
section
variable {X : Cx}
theorem opS {f : Value → Value → Sem Value} : OpR X f (rf X f) := fun pins s σ H x y v u Q I r1 r2 h => h pins s σ v u I r1 r2
theorem unS {f : Value → Sem Value} : UnR X f (ru X f) := fun pins s σ H x v Q I r h => h pins s σ v I r
theorem ixS : IxR X (rx X) := fun value slice pins s σ H x y v u Q I r1 r2 h hs => h value slice pins s σ v u I r1 r2 hs
theorem clS {f : Value} : CallR X f (rc X f) := fun pins s σ H xs us Q I r h => h pins s σ us I r
theorem mtS {id : String} : MtR X id (rm X id) := fun pins s σ H x xs v us Q I r1 r2 h => h pins s σ v us I r1 r2
theorem rf_of {f : Value → Value → Sem Value} {r : R2} (o : OpR X f r) {x y : V} {H : Hp} {Q : VK} (h : r x y H Q) : rf X f x y H Q := fun pins s σ u v I r1 r2 => o pins s σ H x y u v Q I r1 r2 h
theorem ru_of {f : Value → Sem Value} {r : V → Hp → VK → Prop} (o : UnR X f r) {x : V} {H : Hp} {Q : VK} (h : r x H Q) : ru X f x H Q := fun pins s σ u I r1 => o pins s σ H x u Q I r1 h
theorem rx_of {r : R2} (o : IxR X r) {x y : V} {H : Hp} {Q : VK} (h : r x y H Q) : rx X x y H Q := fun value slice pins s σ v u I r1 r2 hs => o value slice pins s σ H x y v u Q I r1 r2 h hs
theorem rc_of {f : Value} {r : List V → Hp → VK → Prop} (o : CallR X f r) {xs : List V} {H : Hp} {Q : VK} (h : r xs H Q) : rc X f xs H Q := fun pins s σ us I r1 => o pins s σ H xs us Q I r1 h
theorem rm_of {id : String} {r : V → List V → Hp → VK → Prop} (o : MtR X id r) {x : V} {xs : List V} {H : Hp} {Q : VK} (h : r x xs H Q) : rm X id x xs H Q := fun pins s σ v us I r1 r2 => o pins s σ H x xs v us Q I r1 r2 h
theorem rf_mono {f : Value → Value → Sem Value} {x y : V} {H : Hp} {Q Q' : VK} (h : rf X f x y H Q) (g : ∀ v H', Q v H' → Q' v H') : rf X f x y H Q' := fun pins s σ u v I r1 r2 => thn (h pins s σ u v I r1 r2) fun _ _ z => ep_imp z g
theorem ru_mono {f : Value → Sem Value} {x : V} {H : Hp} {Q Q' : VK} (h : ru X f x H Q) (g : ∀ v H', Q v H' → Q' v H') : ru X f x H Q' := fun pins s σ u I r1 => thn (h pins s σ u I r1) fun _ _ z => ep_imp z g
theorem rx_mono {x y : V} {H : Hp} {Q Q' : VK} (h : rx X x y H Q) (g : ∀ v H', Q v H' → Q' v H') : rx X x y H Q' := fun value slice pins s σ u v I r1 r2 hs => thn (h value slice pins s σ u v I r1 r2 hs) fun _ _ z => ep_imp z g
theorem rc_mono {f : Value} {xs : List V} {H : Hp} {Q Q' : VK} (h : rc X f xs H Q) (g : ∀ v H', Q v H' → Q' v H') : rc X f xs H Q' := fun pins s σ us I r1 => thn (h pins s σ us I r1) fun _ _ z => ep_imp z g
theorem rm_mono {id : String} {x : V} {xs : List V} {H : Hp} {Q Q' : VK} (h : rm X id x xs H Q) (g : ∀ v H', Q v H' → Q' v H') : rm X id x xs H Q' := fun pins s σ v us I r1 r2 => thn (h pins s σ v us I r1 r2) fun _ _ z => ep_imp z g
end
/-- over data: f of x and y is worth z; nothing changes -/
def OpD (X : Cx) (f : Value → Value → Sem Value) (O : Om) (x y z : D) : Prop := ∀ F0 F H vx vy, Hx X.K F0 F H O → Rep X.K F x vx → Rep X.K F y vy → rf X f vx vy H (Po X F0 F fun d O' => d = z ∧ O' = O)
def UnD (X : Cx) (f : Value → Sem Value) (O : Om) (x z : D) : Prop := ∀ F0 F H vx, Hx X.K F0 F H O → Rep X.K F x vx → ru X f vx H (Po X F0 F fun d O' => d = z ∧ O' = O)
def IxD (X : Cx) (O : Om) (x y z : D) : Prop := ∀ F0 F H vx vy, Hx X.K F0 F H O → Rep X.K F x vx → Rep X.K F y vy → rx X vx vy H (Po X F0 F fun d O' => d = z ∧ O' = O)
def ClD (X : Cx) (f : Value) (O : Om) (xs : List D) (Q : D → Om → Prop) : Prop := ∀ F0 F H vs, Hx X.K F0 F H O → Reps X.K F xs vs → rc X f vs H (Po X F0 F Q)

section
variable {X : Cx} {F0 F : Hp} {r : Rho} {O : Om} {Q : D → Om → Prop} {a b c e : Expr} {es : List Expr} {pos : Pos}
theorem Po.of {F1 H1 : Hp} {Q Q' : D → Om → Prop} {v : V} (h : Po X F0 F1 Q v H1) (l : Le F F1) (f : ∀ d O', Q d O' → Q' d O') : Po X F0 F Q' v H1 := let ⟨d, O', F', q, rp, hx, l'⟩ := h; ⟨d, O', F', f _ _ q, rp, hx, l.trans l'⟩
/-- nothing new -/
theorem Po.here {H : Hp} {d : D} {v : V} (hx : Hx X.K F0 F H O) (rp : Rep X.K F d v) : Po X F0 F (fun d' O' => d' = d ∧ O' = O) v H := ⟨d, O, F, ⟨rfl, rfl⟩, rp, hx, Le.refl F⟩
/-- a new list, a new tuple -/
theorem Po.newL {H : Hp} {ds : List D} {xs : List V} (hx : Hx X.K F0 F H O) (rp : Reps X.K F ds xs) : ∀ p, H p = none → Po X F0 F (fun d' O' => d' = .lst ds ∧ O' = O) (.ref p) (upd H p (.lst xs)) := fun p hp => by
  obtain ⟨hx1, l⟩ := hx.new hp (.lst xs)
  exact ⟨_, O, _, ⟨rfl, rfl⟩, rep_lst.mpr ⟨p, xs, rfl, upd_same, rp.mono l⟩, hx1, l⟩
theorem Po.newT {H : Hp} {ds : List D} {xs : List V} (hx : Hx X.K F0 F H O) (rp : Reps X.K F ds xs) : ∀ p, H p = none → Po X F0 F (fun d' O' => d' = .tup ds ∧ O' = O) (.ref p) (upd H p (.tup xs)) := fun p hp => by
  obtain ⟨hx1, l⟩ := hx.new hp (.tup xs)
  exact ⟨_, O, _, ⟨rfl, rfl⟩, rep_tup.mpr ⟨p, xs, rfl, .inl (.inl upd_same), rp.mono l⟩, hx1, l⟩

/-! ## the rules of the syntax -/
theorem ev_op {op : Operator} (h : Ev X F0 a r O fun x O1 => Ev X F0 b r O1 fun y O2 => ∃ z, OpD X (binaryOp op) O2 x y z ∧ Q z O2) : Ev X F0 (.BinOp a op b pos) r O Q := by
  intro σ H F hx en
  refine tS_of (pe_op opS peS peS) ?_
  refine h.bind hx en fun x O1 F1 H1 v q rp hx1 en1 l1 => ?_
  refine q.bind hx1 en1 fun y O2 F2 H2 u ⟨z, ho, q2⟩ rp2 hx2 en2 l2 => ?_
  exact rf_mono (ho F0 F2 H2 v u hx2 (rp.mono l2) rp2) fun _ _ p => p.of (l1.trans l2) fun d O' ⟨e1, e2⟩ => by rw [e1, e2]; exact q2
theorem ev_un {op : UnaryOp} (h : Ev X F0 a r O fun x O1 => ∃ z, UnD X (unaryOp op) O1 x z ∧ Q z O1) : Ev X F0 (.UnaryOp op a pos) r O Q := by
  intro σ H F hx en
  refine tS_of (pe_un unS peS) ?_
  refine h.bind hx en fun x O1 F1 H1 v ⟨z, ho, q⟩ rp hx1 en1 l1 => ?_
  exact ru_mono (ho F0 F1 H1 v hx1 rp) fun _ _ p => p.of l1 fun d O' ⟨e1, e2⟩ => by rw [e1, e2]; exact q
theorem ev_cmp {op : CmpOp} (h : Ev X F0 a r O fun x O1 => Ev X F0 b r O1 fun y O2 => ∃ z, OpD X (compareOp op) O2 x y z ∧ Q z O2) (hm : behindInMarks op b = false := by first | exact nomark _ | rfl) : Ev X F0 (.Compare a [op] [b] pos) r O Q := by
  intro σ H F hx en
  refine tS_of (pe_cmpR opS peS peS hm) ?_
  refine h.bind hx en fun x O1 F1 H1 v q rp hx1 en1 l1 => ?_
  refine q.bind hx1 en1 fun y O2 F2 H2 u ⟨z, ho, q2⟩ rp2 hx2 en2 l2 => ?_
  exact rf_mono (ho F0 F2 H2 v u hx2 (rp.mono l2) rp2) fun _ _ p => p.of (l1.trans l2) fun d O' ⟨e1, e2⟩ => by rw [e1, e2]; exact q2
theorem tv_cmp {op : CmpOp} {Q : Bool → Om → Prop} (h : Ev X F0 a r O fun x O1 => Ev X F0 b r O1 fun y O2 => ∃ k, OpD X (compareOp op) O2 x y (.bl k) ∧ Q k O2) (hm : behindInMarks op b = false := by first | exact nomark _ | rfl) : Tv X F0 (.Compare a [op] [b] pos) r O Q := by
  intro σ H F hx en
  refine tTS_of (pt_cmpR opS peS peS hm) ?_
  refine h.bind hx en fun x O1 F1 H1 v q rp hx1 en1 l1 => ?_
  refine q.bind hx1 en1 fun y O2 F2 H2 u ⟨k, ho, q2⟩ rp2 hx2 en2 l2 => ?_
  refine rf_mono (ho F0 F2 H2 v u hx2 (rp.mono l2) rp2) fun w H3 p => ?_
  obtain ⟨d, O', F', ⟨rfl, rfl⟩, rp3, hx3, l3⟩ := p
  exact ⟨k, rep_bl.mp rp3, O', F', q2, hx3, (l1.trans l2).trans l3⟩
/-- a op1 b op2 c -/
theorem tv_chain {op op' : CmpOp} {Q : Bool → Om → Prop} (h : Ev X F0 a r O fun x O1 => Ev X F0 b r O1 fun y O2 => ∃ k, OpD X (compareOp op) O2 x y (.bl k) ∧
      (k = true → Ev X F0 c r O2 fun z O3 => ∃ k', OpD X (compareOp op') O3 y z (.bl k') ∧ Q k' O3) ∧ (k = false → Q false O2))
    (hm : lastMarks [op, op'] [b, c] = false := by with_unfolding_all rfl) : Tv X F0 (.Compare a [op, op'] [b, c] pos) r O Q := by
  intro σ H F hx en
  refine tTS_of (pt_chain opS opS peS peS peS hm) ?_
  refine h.bind hx en fun x O1 F1 H1 v q rp hx1 en1 l1 => ?_
  refine q.bind hx1 en1 fun y O2 F2 H2 u ⟨k, ho, q2, q3⟩ rp2 hx2 en2 l2 => ?_
  refine rf_mono (ho F0 F2 H2 v u hx2 (rp.mono l2) rp2) fun w H3 p => ?_
  obtain ⟨d, O', F3, ⟨rfl, rfl⟩, rp3, hx3, l3⟩ := p
  have l13 := (l1.trans l2).trans l3
  refine ⟨k, rep_bl.mp rp3, ?_⟩
  cases k with
  | true =>
    refine iteT ?_
    refine (q2 rfl).bind hx3 (en2.mono l3) fun z O4 F4 H4 t ⟨k', ho', q4⟩ rp4 hx4 en4 l4 => ?_
    refine rf_mono (ho' F0 F4 H4 u t hx4 (rp2.mono (l3.trans l4)) rp4) fun w' H5 p' => ?_
    obtain ⟨d, O', F5, ⟨rfl, rfl⟩, rp5, hx5, l5⟩ := p'
    exact ⟨k', rep_bl.mp rp5, O', F5, q4, hx5, (l13.trans l4).trans l5⟩
  | false => exact iteF ⟨false, rfl, _, F3, q3 rfl, hx3, l13⟩
/-- the same as a value -/
theorem ev_chain {op op' : CmpOp} (h : Ev X F0 a r O fun x O1 => Ev X F0 b r O1 fun y O2 => ∃ k, OpD X (compareOp op) O2 x y (.bl k) ∧
      (k = true → Ev X F0 c r O2 fun z O3 => ∃ k', OpD X (compareOp op') O3 y z (.bl k') ∧ Q (.bl k') O3) ∧ (k = false → Q (.bl false) O2))
    (hm : lastMarks [op, op'] [b, c] = false := by with_unfolding_all rfl) : Ev X F0 (.Compare a [op, op'] [b, c] pos) r O Q := by
  intro σ H F hx en
  refine tS_of (pe_chain opS opS peS peS peS hm) ?_
  refine h.bind hx en fun x O1 F1 H1 v q rp hx1 en1 l1 => ?_
  refine q.bind hx1 en1 fun y O2 F2 H2 u ⟨k, ho, q2, q3⟩ rp2 hx2 en2 l2 => ?_
  refine rf_mono (ho F0 F2 H2 v u hx2 (rp.mono l2) rp2) fun w H3 p => ?_
  obtain ⟨d, O', F3, ⟨rfl, rfl⟩, rp3, hx3, l3⟩ := p
  have l13 := (l1.trans l2).trans l3
  refine ⟨k, rep_bl.mp rp3, ?_⟩
  cases k with
  | true =>
    refine iteT ?_
    refine (q2 rfl).bind hx3 (en2.mono l3) fun z O4 F4 H4 t ⟨k', ho', q4⟩ rp4 hx4 en4 l4 => ?_
    refine rf_mono (ho' F0 F4 H4 u t hx4 (rp2.mono (l3.trans l4)) rp4) fun w' H5 p' => ?_
    exact p'.of (l13.trans l4) fun d O' ⟨e1, e2⟩ => by rw [e1, e2]; exact q4
  | false => exact iteF ⟨_, _, F3, q3 rfl, rep_bl.mpr rfl, hx3, l13⟩
theorem ev_ix (h : Ev X F0 a r O fun x O1 => Ev X F0 b r O1 fun y O2 => ∃ z, IxD X O2 x y z ∧ Q z O2) (hs : PlainIx b := by exact fun _ _ => rfl) : Ev X F0 (.Subscript a b pos) r O Q := by
  intro σ H F hx en
  refine tS_of (pe_ix ixS peS peS hs) ?_
  refine h.bind hx en fun x O1 F1 H1 v q rp hx1 en1 l1 => ?_
  refine q.bind hx1 en1 fun y O2 F2 H2 u ⟨z, ho, q2⟩ rp2 hx2 en2 l2 => ?_
  exact rx_mono (ho F0 F2 H2 v u hx2 (rp.mono l2) rp2) fun _ _ p => p.of (l1.trans l2) fun d O' ⟨e1, e2⟩ => by rw [e1, e2]; exact q2
theorem ev_tup {x1 : Nat} (h : Av X F0 es r O fun ds O1 => ds.length ≤ 100000 ∧ Q (.tup ds) O1) : Ev X F0 (.Tuple es x1 pos) r O Q := by
  intro σ H F hx en
  refine tS_of (pe_tup paS) ?_
  refine h.bind hx en fun ds O1 F1 H1 vs ⟨hl, q⟩ rp hx1 en1 l1 => ⟨?_, fun p hp => ?_⟩
  · rw [← rp.length, sizeLine_eq]; omega
  · exact (Po.newT hx1 rp p hp).of l1 fun d O' ⟨e1, e2⟩ => by rw [e1, e2]; exact q
theorem ev_lst (h : Av X F0 es r O fun ds O1 => ds.length ≤ 100000 ∧ Q (.lst ds) O1) : Ev X F0 (.List es pos) r O Q := by
  intro σ H F hx en
  refine tS_of (pe_lst paS) ?_
  refine h.bind hx en fun ds O1 F1 H1 vs ⟨hl, q⟩ rp hx1 en1 l1 => ⟨?_, fun p hp => ?_⟩
  · rw [← rp.length, sizeLine_eq]; omega
  · exact (Po.newL hx1 rp p hp).of l1 fun d O' ⟨e1, e2⟩ => by rw [e1, e2]; exact q
/-- a list display that will change -/
theorem ev_lstO (h : Av X F0 es r O fun ds O1 => ds.length ≤ 100000 ∧ ∀ p, O1 p = none → Q (.adr p) (O1.put p (.lst ds))) : Ev X F0 (.List es pos) r O Q := by
  intro σ H F hx en
  refine tS_of (pe_lst paS) ?_
  refine h.bind hx en fun ds O1 F1 H1 vs ⟨hl, q⟩ rp hx1 en1 l1 => ⟨?_, fun p hp => ?_⟩
  · rw [← rp.length, sizeLine_eq]; omega
  · exact ⟨_, _, F1, q p (hx1.gone hp).2, rep_adr.mpr rfl, hx1.newL hp rp, l1⟩

/-! ## operators over data -/
theorem int_op {f : Value → Value → Sem Value} {g : Int → Int → V} {C : Int → Int → Prop} {i j : Int} {z : D} (ho : OpR X f (rI C g)) (hc : C i j) (hz : ∀ F, Rep X.K F z (g i j)) : OpD X f O (.int i) (.int j) z := by
  intro F0 F H vx vy hx r1 r2
  exact rf_of ho ⟨i, j, rep_int.mp r1, rep_int.mp r2, hc, Po.here hx (hz F)⟩
theorem int_op0 {f : Value → Value → Sem Value} {g : Int → Int → V} {i j : Int} {z : D} (ho : OpR X f (rI0 g)) (hz : ∀ F, Rep X.K F z (g i j)) : OpD X f O (.int i) (.int j) z := by
  intro F0 F H vx vy hx r1 r2
  exact rf_of ho ⟨i, j, rep_int.mp r1, rep_int.mp r2, Po.here hx (hz F)⟩
theorem od_add {i j : Int} : OpD X (binaryOp .Add) O (.int i) (.int j) (.int (i + j)) := int_op0 op_add fun _ => rep_int.mpr rfl
theorem od_sub {i j : Int} : OpD X (binaryOp .Sub) O (.int i) (.int j) (.int (i - j)) := int_op0 op_sub fun _ => rep_int.mpr rfl
theorem od_mul {i j : Int} (h : CMul i j) : OpD X (binaryOp .Mult) O (.int i) (.int j) (.int (i * j)) := int_op op_mul h fun _ => rep_int.mpr rfl
theorem od_mod {i j : Int} (h : 0 < j) : OpD X (binaryOp .Mod) O (.int i) (.int j) (.int (i % j)) := int_op op_mod h fun _ => rep_int.mpr rfl
theorem od_div {i j : Int} (h : CDiv i j) : OpD X (binaryOp .FloorDiv) O (.int i) (.int j) (.int (i / j)) := int_op op_fdiv h fun _ => rep_int.mpr rfl
theorem od_pow {i j : Int} (h : CPow i j) : OpD X (binaryOp .Pow) O (.int i) (.int j) (.int (i ^ j.toNat)) := int_op op_pow h fun _ => rep_int.mpr rfl
theorem od_adds {x y : Str} (h : x.length + y.length ≤ 1000000) : OpD X (binaryOp .Add) O (.str x) (.str y) (.str (x ++ y)) := by
  intro F0 F H vx vy hx r1 r2
  exact rf_of op_add_str ⟨x, y, rep_str.mp r1, rep_str.mp r2, by rw [sizeLine_eq]; omega, Po.here hx (rep_str.mpr rfl)⟩
theorem od_lt {i j : Int} : OpD X (compareOp .Lt) O (.int i) (.int j) (.bl (decide (i < j))) := int_op0 op_lt fun _ => rep_bl.mpr rfl
theorem od_le {i j : Int} : OpD X (compareOp .LtE) O (.int i) (.int j) (.bl (decide (i ≤ j))) := int_op0 op_le fun _ => rep_bl.mpr rfl
theorem od_gt {i j : Int} : OpD X (compareOp .Gt) O (.int i) (.int j) (.bl (decide (j < i))) := int_op0 op_gt fun _ => rep_bl.mpr rfl
theorem od_ge {i j : Int} : OpD X (compareOp .GtE) O (.int i) (.int j) (.bl (decide (j ≤ i))) := int_op0 op_ge fun _ => rep_bl.mpr rfl
theorem od_eqi {i j : Int} : OpD X (compareOp .Eq) O (.int i) (.int j) (.bl (decide (i = j))) := by
  intro F0 F H vx vy hx r1 r2
  rw [rep_int.mp r1, rep_int.mp r2]
  refine rf_of op_eq ⟨rfl, ?_⟩
  rw [show decide (V.int i = V.int j) = decide (i = j) by simp]
  exact Po.here hx (rep_bl.mpr rfl)
theorem od_nei {i j : Int} : OpD X (compareOp .NotEq) O (.int i) (.int j) (.bl (!decide (i = j))) := by
  intro F0 F H vx vy hx r1 r2
  rw [rep_int.mp r1, rep_int.mp r2]
  refine rf_of op_ne ⟨rfl, ?_⟩
  rw [show decide (V.int i = V.int j) = decide (i = j) by simp]
  exact Po.here hx (rep_bl.mpr rfl)
theorem od_eqs {i j : Str} : OpD X (compareOp .Eq) O (.str i) (.str j) (.bl (decide (i = j))) := by
  intro F0 F H vx vy hx r1 r2
  rw [rep_str.mp r1, rep_str.mp r2]
  refine rf_of op_eq ⟨rfl, ?_⟩
  rw [show decide (V.str i = V.str j) = decide (i = j) by simp]
  exact Po.here hx (rep_bl.mpr rfl)
theorem od_nes {i j : Str} : OpD X (compareOp .NotEq) O (.str i) (.str j) (.bl (!decide (i = j))) := by
  intro F0 F H vx vy hx r1 r2
  rw [rep_str.mp r1, rep_str.mp r2]
  refine rf_of op_ne ⟨rfl, ?_⟩
  rw [show decide (V.str i = V.str j) = decide (i = j) by simp]
  exact Po.here hx (rep_bl.mpr rfl)
theorem ud_neg {i : Int} : UnD X (unaryOp .USub) O (.int i) (.int (-i)) := by
  intro F0 F H vx hx r1
  exact ru_of un_neg ⟨i, rep_int.mp r1, Po.here hx (rep_int.mpr rfl)⟩
def isNon : D → Bool
  | .non => true
  | _ => false
theorem rep_isNon {K : PySem.W.Frag} {F : Hp} {d : D} {v : V} (h : Rep K F d v) : decide (v = .non) = isNon d := by
  cases d with
  | non => rw [rep_non.mp h]; rfl
  | bl b => rw [rep_bl.mp h]; rfl
  | int b => rw [rep_int.mp h]; rfl
  | str b => rw [rep_str.mp h]; rfl
  | adr b => rw [rep_adr.mp h]; rfl
  | ty b => rw [rep_ty.mp h]; rfl
  | scr ns => obtain ⟨a, e, _⟩ := rep_scr.mp h; rw [e]; rfl
  | lst ds => obtain ⟨a, xs, e, _⟩ := rep_lst.mp h; rw [e]; rfl
  | tup ds => obtain ⟨a, xs, e, _⟩ := rep_tup.mp h; rw [e]; rfl
  | dict ks ds => obtain ⟨a, xs, e, _⟩ := rep_dict.mp h; rw [e]; rfl
  | obj c ks ds => obtain ⟨a, dx, xs, e, _⟩ := rep_obj.mp h; rw [e]; rfl
theorem od_isN {x : D} : OpD X (compareOp .Is) O x .non (.bl (isNon x)) := by
  intro F0 F H vx vy hx r1 r2
  refine rf_of op_isN ⟨rep_non.mp r2, ?_⟩
  rw [rep_isNon r1]
  exact Po.here hx (rep_bl.mpr rfl)
theorem od_isNot {x : D} : OpD X (compareOp .IsNot) O x .non (.bl (!isNon x)) := by
  intro F0 F H vx vy hx r1 r2
  refine rf_of op_notN ⟨rep_non.mp r2, ?_⟩
  rw [rep_isNon r1]
  exact Po.here hx (rep_bl.mpr rfl)

/-! ## deep data -/
mutual
def D.pd : D → PyData
  | .non => .none
  | .bl b => .bool b
  | .int i => .int i
  | .str x => .str x
  | .lst ds => .list (D.pds ds)
  | .tup ds => .tuple (D.pds ds)
  | .dict _ _ => .none
  | .obj _ _ _ => .none
  | .adr _ => .none
  | .scr _ => .none
  | .ty _ => .none
def D.pds : List D → List PyData
  | [] => []
  | d :: ds => d.pd :: D.pds ds
end
mutual
def D.plain : D → Bool
  | .non => true
  | .bl b => true
  | .int i => true
  | .str x => true
  | .lst ds => D.plains ds
  | .tup ds => D.plains ds
  | .dict _ _ => false
  | .obj _ _ _ => false
  | .adr _ => false
  | .scr _ => false
  | .ty _ => false
def D.plains : List D → Bool
  | [] => true
  | d :: ds => d.plain && D.plains ds
end
mutual
theorem dp_of {K : PySem.W.Frag} {F : Hp} : ∀ {d : D} {v : V}, d.plain = true → Rep K F d v → Dp K F v d.pd
  | .non, v, _, h => by rw [rep_non.mp h, D.pd]; exact .non
  | .bl b, v, _, h => by rw [rep_bl.mp h, D.pd]; exact .bl b
  | .int b, v, _, h => by rw [rep_int.mp h, D.pd]; exact .int b
  | .str b, v, _, h => by rw [rep_str.mp h, D.pd]; exact .str b
  | .lst ds, v, p, h => by
    obtain ⟨a, xs, rfl, h1, h2⟩ := rep_lst.mp h
    rw [D.plain] at p
    rw [D.pd]
    exact .lst (.inl (.inl h1)) (dps_of p h2)
  | .tup ds, v, p, h => by
    obtain ⟨a, xs, rfl, h1, h2⟩ := rep_tup.mp h
    rw [D.plain] at p
    rw [D.pd]
    exact .tup h1 (dps_of p h2)
  | .dict _ _, _, p, _ => by rw [D.plain] at p; cases p
  | .obj _ _ _, _, p, _ => by rw [D.plain] at p; cases p
  | .adr _, _, p, _ => by rw [D.plain] at p; cases p
  | .scr _, _, p, _ => by rw [D.plain] at p; cases p
  | .ty _, _, p, _ => by rw [D.plain] at p; cases p
theorem dps_of {K : PySem.W.Frag} {F : Hp} : ∀ {ds : List D} {xs : List V}, D.plains ds = true → Reps K F ds xs → DpAll K F xs (D.pds ds)
  | [], xs, _, h => by rw [Reps.nil_iff.mp h, D.pds]; exact .nil
  | d :: ds, xs, p, h => by
    obtain ⟨x, t, rfl, h1, h2⟩ := Reps.cons_iff.mp h
    rw [D.plains, Bool.and_eq_true] at p
    rw [D.pds]
    exact .cons (dp_of p.1 h1) (dps_of p.2 h2)
end
/-- what == and repr take -/
def D.ok (d : D) : Bool := d.plain && SeqAt.shaped d.pd
theorem od_eq {x y : D} (hu : X.A.units + 64 < cLine) (px : x.ok = true) (py : y.ok = true) : OpD X (compareOp .Eq) O x y (.bl (PyData.eqv x.pd y.pd)) := by
  intro F0 F H vx vy hx r1 r2
  obtain ⟨p1, p2⟩ := Bool.and_eq_true_iff.mp px
  obtain ⟨q1, q2⟩ := Bool.and_eq_true_iff.mp py
  exact rf_of (op_eqD hu) ⟨x.pd, y.pd, dp_of p1 (r1.mono hx.fh), dp_of q1 (r2.mono hx.fh), p2, q2, Po.here hx (rep_bl.mpr rfl)⟩
theorem od_ne {x y : D} (hu : X.A.units + 64 < cLine) (px : x.ok = true) (py : y.ok = true) : OpD X (compareOp .NotEq) O x y (.bl (!PyData.eqv x.pd y.pd)) := by
  intro F0 F H vx vy hx r1 r2
  obtain ⟨p1, p2⟩ := Bool.and_eq_true_iff.mp px
  obtain ⟨q1, q2⟩ := Bool.and_eq_true_iff.mp py
  exact rf_of (op_neD hu) ⟨x.pd, y.pd, dp_of p1 (r1.mono hx.fh), dp_of q1 (r2.mono hx.fh), p2, q2, Po.here hx (rep_bl.mpr rfl)⟩

/-! ## subscripts over data -/
theorem atI_reps {K : PySem.W.Frag} {F : Hp} {ds : List D} {xs : List V} {i : Int} {d : D} (h : Reps K F ds xs) (e : atI ds i = some d) : ∃ x, atI xs i = some x ∧ Rep K F d x := by
  unfold atI at e ⊢
  rw [← h.length]
  cases q : ixN ds.length i with
  | none => rw [q] at e; cases e
  | some j =>
    rw [q] at e
    exact h.get e
theorem xd_lst {ds : List D} {i : Int} {d : D} (e : atI ds i = some d) : IxD X O (.lst ds) (.int i) d := by
  intro F0 F H vx vy hx r1 r2
  obtain ⟨a, xs, rfl, h1, h2⟩ := rep_lst.mp r1
  obtain ⟨x, e1, e2⟩ := atI_reps h2 e
  exact rx_of ix_list ⟨a, xs, i, x, rfl, rep_int.mp r2, (.inl (.inl (hx.fh _ _ h1))), e1, Po.here hx e2⟩
theorem xd_tup {ds : List D} {i : Int} {d : D} (e : atI ds i = some d) : IxD X O (.tup ds) (.int i) d := by
  intro F0 F H vx vy hx r1 r2
  obtain ⟨a, xs, rfl, h1, h2⟩ := rep_tup.mp r1
  obtain ⟨x, e1, e2⟩ := atI_reps h2 e
  exact rx_of ix_tup ⟨a, xs, i, x, rfl, rep_int.mp r2, hx.fh |>.sqT h1, e1, Po.here hx e2⟩
theorem xd_str {x : Str} {i : Int} {c : Nat} (hl : x.length ≤ 1000000) (e : atI x.cps.toList i = some c) : IxD X O (.str x) (.int i) (.str ⟨#[c]⟩) := by
  intro F0 F H vx vy hx r1 r2
  exact rx_of ix_str ⟨x, i, c, rep_str.mp r1, rep_int.mp r2, by rw [sizeLine_eq]; omega, e, Po.here hx (rep_str.mpr rfl)⟩
/-- an own list's item -/
theorem xd_own {p : Addr} {ds : List D} {i : Int} {d : D} (hp : O p = some (.lst ds)) (e : atI ds i = some d) : IxD X O (.adr p) (.int i) d := by
  intro F0 F H vx vy hx r1 r2
  obtain ⟨_, xs, h1, h2⟩ := hx.om p _ hp
  obtain ⟨x, e1, e2⟩ := atI_reps h2 e
  exact rx_of ix_list ⟨p, xs, i, x, rep_adr.mp r1, rep_int.mp r2, .inl (.inl h1), e1, Po.here hx e2⟩
end
end K97
/-! # Part D: slices, dicts, built-in functions and methods -/
namespace K97
open PySem PySem.Spec PyProof.Rows L2

section
variable {K : PySem.W.Frag} {F0 F H : Hp} {O : Om}
/-- an object that stands by itself for a while -/
theorem Hx.newR (h : Hx K F0 F H O) {p : Addr} (hp : H p = none) (o : HO) (ho : (∀ x, o ≠ .own x) ∧ ∀ f, o ≠ .xd f) : Hx K F0 F (upd H p o) (O.put p (.raw o)) := by
  have hF := h.fh.free hp
  have ne : ∀ b, (∃ u, H b = some u) → b ≠ p := fun b ⟨u, q⟩ => ne_of_none q hp
  refine ⟨h.f0, fun a u q => by rw [upd_ne (ne a ⟨_, h.fh _ _ q⟩)]; exact h.fh _ _ q, fun a u q => ?_⟩
  by_cases e : a = p
  · subst e
    rw [Om.put_same] at q
    cases q
    exact ⟨hF, upd_same, ho⟩
  · rw [Om.put_ne e] at q
    obtain ⟨h1, h2⟩ := h.om a u q
    exact ⟨h1, h2.grow (Le.refl F) (fun b hb => upd_ne (ne b hb)) fun _ _ q => q⟩
/-- .. is frozen as u -/
theorem Hx.seal (h : Hx K F0 F H O) {p : Addr} {o : HO} (hp : O p = some (.raw o)) (ho : ∀ x, o ≠ .own x) (u : HO) : Hx K F0 (upd F p u) (upd H p u) (O.del p) ∧ Le F (upd F p u) := by
  obtain ⟨hF, hx⟩ := h.om p _ hp
  have hx : H p = some o := hx.1
  have le : Le F (upd F p u) := fun a u q => by rw [upd_ne (ne_of_none q hF)]; exact q
  refine ⟨⟨h.f0.trans le, fun a v q => ?_, fun a v q => ?_⟩, le⟩
  · by_cases e : a = p
    · subst e; rw [upd_same] at q ⊢; exact q
    · rw [upd_ne e] at q ⊢; exact h.fh _ _ q
  · unfold Om.del at q
    by_cases e : a = p
    · rw [if_pos e] at q; cases q
    · rw [if_neg e] at q
      obtain ⟨h1, h2⟩ := h.om a v q
      refine ⟨by rw [upd_ne e]; exact h1, ?_⟩
      cases v with
      | lst fs => obtain ⟨zs, q1, q2⟩ := h2; exact ⟨zs, by rw [upd_ne e]; exact q1, q2.mono le⟩
      | ob c ks fs =>
        obtain ⟨dx, zs, q1, q2, q3, q4, q5⟩ := h2
        have nd : dx ≠ p := by rintro rfl; rw [hx] at q2; exact ho _ (Option.some.inj q2)
        exact ⟨dx, zs, by rw [upd_ne e]; exact q1, by rw [upd_ne nd]; exact q2, by rw [upd_ne nd]; exact q3, q4, q5.mono le⟩
      | raw w => exact ⟨by rw [upd_ne e]; exact h2.1, h2.2⟩
end

/-! ## slices -/
def tPS (X : Cx) (e : Option Expr) : TO := fun σ H Q => ∀ pins s, Inv X pins σ H s → wpAny (model X.prog X.w) X.A (evalPart e X.env) (fun u s' => ∃ o H', Inv X pins σ H' s' ∧ IsPart u o ∧ Q o H') X.xe s
theorem poS {X : Cx} {e : Option Expr} : PO X e (tPS X e) := ⟨fun pins s σ H Q I h => h pins s I⟩
theorem tPS_of {X : Cx} {e : Option Expr} {t : TO} {σ : St} {H : Hp} {Q : Option Int → Hp → Prop} (p : PO X e t) (h : t σ H Q) : tPS X e σ H Q := fun pins s I => p.run pins s σ H Q I h
theorem tPS_mono {X : Cx} {e : Option Expr} {σ : St} {H : Hp} {Q Q' : Option Int → Hp → Prop} (h : tPS X e σ H Q) (f : ∀ v H', Q v H' → Q' v H') : tPS X e σ H Q' := fun pins s I => thn (h pins s I) fun u s1 ⟨o, H1, I1, r, q⟩ => ⟨o, H1, I1, r, f _ _ q⟩
def Oo (X : Cx) (F0 F : Hp) (Q : Option Int → Om → Prop) : Option Int → Hp → Prop := fun o H' => ∃ O' F', Q o O' ∧ Hx X.K F0 F' H' O' ∧ Le F F'
def Pv (X : Cx) (F0 : Hp) (e : Option Expr) (r : Rho) (O : Om) (Q : Option Int → Om → Prop) : Prop := ∀ σ H F, Hx X.K F0 F H O → En X.K F r σ → tPS X e σ H (Oo X F0 F Q)
def rsl (X : Cx) : V → Option Int → Option Int → Hp → VK → Prop := fun x lo hi H Q => ∀ pins s σ v vl vu sl, Inv X pins σ H s → RelV x v → s.heap.IsSliceOf sl vl vu .none → IsPart vl lo → IsPart vu hi →
    ∃ T id, typeLookup (.type T) "__getitem__" = pure (some (.builtin id)) ∧ s.TypeIs v T ∧ wpAny (model X.prog X.w) X.A (getItem v (.ref sl)) (EP X pins σ Q) X.xe s
theorem slS {X : Cx} : SlR X (rsl X) := fun pins s σ H x v vl vu lo hi sl Q I r hs pl pu h => h pins s σ v vl vu sl I r hs pl pu
theorem rsl_of {X : Cx} {r : V → Option Int → Option Int → Hp → VK → Prop} (o : SlR X r) {x : V} {lo hi : Option Int} {H : Hp} {Q : VK} (h : r x lo hi H Q) : rsl X x lo hi H Q := fun pins s σ v vl vu sl I r1 hs pl pu => o pins s σ H x v vl vu lo hi sl Q I r1 hs pl pu h
theorem rsl_mono {X : Cx} {x : V} {lo hi : Option Int} {H : Hp} {Q Q' : VK} (h : rsl X x lo hi H Q) (g : ∀ v H', Q v H' → Q' v H') : rsl X x lo hi H Q' := fun pins s σ v vl vu sl I r1 hs pl pu =>
  let ⟨T, id, a, b, c⟩ := h pins s σ v vl vu sl I r1 hs pl pu
  ⟨T, id, a, b, thn c fun _ _ z => ep_imp z g⟩
def SlD (X : Cx) (O : Om) (x : D) (lo hi : Option Int) (z : D) : Prop := ∀ F0 F H vx, Hx X.K F0 F H O → Rep X.K F x vx → rsl X vx lo hi H (Po X F0 F fun d O' => d = z ∧ O' = O)
/-- xs[lo:hi] of any list -/
def cutL {α : Type} (xs : List α) (lo hi : Option Int) : List α := (xs.drop (HT.sIx xs.length 0 lo)).take (HT.sIx xs.length xs.length hi - HT.sIx xs.length 0 lo)
section
variable {X : Cx} {F0 F : Hp} {r : Rho} {O : Om} {Q : D → Om → Prop} {a b c e : Expr} {es : List Expr} {pos p2 : Pos}
theorem pv_none {Q : Option Int → Om → Prop} (q : Q none O) : Pv X F0 none r O Q := fun σ H F hx en => tPS_of po_none ⟨O, F, q, hx, Le.refl F⟩
theorem pv_some {Q : Option Int → Om → Prop} (h : Ev X F0 e r O fun d O1 => ∃ i, d = .int i ∧ Q (some i) O1) : Pv X F0 (some e) r O Q := by
  intro σ H F hx en
  refine tPS_of (po_some peS) ?_
  refine h.bind hx en fun d O1 F1 H1 v ⟨i, hd, q⟩ rp hx1 en1 l1 => ?_
  subst hd
  exact ⟨i, rep_int.mp rp, O1, F1, q, hx1, l1⟩
theorem ev_slice {lo hi : Option Expr} (h : Ev X F0 a r O fun x O1 => Pv X F0 lo r O1 fun l O2 => Pv X F0 hi r O2 fun u O3 => ∃ z, SlD X O3 x l u z ∧ Q z O3) : Ev X F0 (.Subscript a (.Slice lo hi none p2) pos) r O Q := by
  intro σ H F hx en
  refine tS_of (pe_slice slS peS poS poS) ?_
  refine h.bind hx en fun x O1 F1 H1 v q rp hx1 en1 l1 => ?_
  refine tPS_mono (q σ H1 F1 hx1 en1) fun l H2 ⟨O2, F2, q2, hx2, l2⟩ => ?_
  refine tPS_mono (q2 σ H2 F2 hx2 (en1.mono l2)) fun u H3 ⟨O3, F3, ⟨z, hs, q3⟩, hx3, l3⟩ => ?_
  exact rsl_mono (hs F0 F3 H3 v hx3 (rp.mono (l2.trans l3))) fun _ _ p => p.of ((l1.trans l2).trans l3) fun d O' ⟨e1, e2⟩ => by rw [e1, e2]; exact q3
theorem reps_cut {K : PySem.W.Frag} {ds : List D} {xs : List V} (h : Reps K F ds xs) (lo hi : Option Int) : Reps K F (cutL ds lo hi) (cutV xs lo hi) := by
  unfold cutL cutV
  rw [h.length]
  exact (h.drop _).take _
theorem sd_lst {ds : List D} {lo hi : Option Int} : SlD X O (.lst ds) lo hi (.lst (cutL ds lo hi)) := by
  intro F0 F H vx hx r1
  obtain ⟨a, xs, rfl, h1, h2⟩ := rep_lst.mp r1
  exact rsl_of sl_list ⟨a, xs, rfl, .inl (.inl (hx.fh _ _ h1)), Po.newL hx (reps_cut h2 lo hi)⟩
theorem sd_own {p : Addr} {ds : List D} {lo hi : Option Int} (hp : O p = some (.lst ds)) : SlD X O (.adr p) lo hi (.lst (cutL ds lo hi)) := by
  intro F0 F H vx hx r1
  obtain ⟨_, xs, h1, h2⟩ := hx.om p _ hp
  exact rsl_of sl_list ⟨p, xs, rep_adr.mp r1, .inl (.inl h1), Po.newL hx (reps_cut h2 lo hi)⟩
theorem reps_ints {K : PySem.W.Frag} : ∀ {ns : List Int}, Reps K F (ns.map D.int) (ns.map V.int)
  | [] => .nil
  | n :: ns => .cons (rep_int.mpr rfl) reps_ints
theorem reps_ints' {K : PySem.W.Frag} : ∀ {ns : List Int} {xs : List V}, Reps K F (ns.map D.int) xs → xs = ns.map V.int
  | [], xs, h => Reps.nil_iff.mp h
  | n :: ns, xs, h => by
    obtain ⟨x, t, rfl, h1, h2⟩ := Reps.cons_iff.mp h
    rw [rep_int.mp h1, reps_ints' h2]
    rfl
theorem reps_strs' {K : PySem.W.Frag} : ∀ {ns : List Str} {xs : List V}, Reps K F (ns.map D.str) xs → xs = ns.map V.str
  | [], xs, h => Reps.nil_iff.mp h
  | n :: ns, xs, h => by
    obtain ⟨x, t, rfl, h1, h2⟩ := Reps.cons_iff.mp h
    rw [rep_str.mp h1, reps_strs' h2]
    rfl
theorem reps_strs {K : PySem.W.Frag} : ∀ {ns : List Str}, Reps K F (ns.map D.str) (ns.map V.str)
  | [] => .nil
  | n :: ns => .cons (rep_str.mpr rfl) reps_strs
theorem reps_bls' {K : PySem.W.Frag} : ∀ {ns : List Bool} {xs : List V}, Reps K F (ns.map D.bl) xs → xs = ns.map V.bl
  | [], xs, h => Reps.nil_iff.mp h
  | n :: ns, xs, h => by
    obtain ⟨x, t, rfl, h1, h2⟩ := Reps.cons_iff.mp h
    rw [rep_bl.mp h1, reps_bls' h2]
    rfl
theorem cut_map {α β : Type} (f : α → β) (xs : List α) (lo hi : Option Int) : cutL (xs.map f) lo hi = (cutL xs lo hi).map f := by
  unfold cutL
  rw [List.length_map, List.map_take, List.map_drop]
/-- the script's slice -/
theorem sd_scr {ns : List Int} {lo hi : Option Int} : SlD X O (.scr ns) lo hi (.lst ((cutL ns lo hi).map D.int)) := by
  intro F0 F H vx hx r1
  obtain ⟨a, rfl, h1⟩ := rep_scr.mp r1
  refine rsl_of sl_list ⟨a, _, rfl, hx.fh.sqL h1, ?_⟩
  have e : cutV (ns.map V.int) lo hi = (cutL ns lo hi).map V.int := cut_map V.int ns lo hi
  rw [e]
  exact Po.newL hx reps_ints
theorem sd_tup {ds : List D} {lo hi : Option Int} (hn : (cutL ds lo hi).length < ds.length) : SlD X O (.tup ds) lo hi (.tup (cutL ds lo hi)) := by
  intro F0 F H vx hx r1
  obtain ⟨a, xs, rfl, h1, h2⟩ := rep_tup.mp r1
  have hc := reps_cut h2 lo hi
  refine rsl_of sl_tup ⟨a, xs, rfl, hx.fh.sqT h1, ?_, Po.newT hx hc⟩
  intro ⟨z1, z2⟩
  unfold cutL at hn
  rw [h2.length, z1, z2] at hn
  simp [h2.length] at hn
theorem sd_str {z : Str} {lo hi : Option Int} (hz : z.length ≤ 1000000) : SlD X O (.str z) lo hi (.str (cutS z lo hi)) := by
  intro F0 F H vx hx r1
  exact rsl_of sl_str ⟨z, rep_str.mp r1, by rw [sizeLine_eq]; omega, Po.here hx (rep_str.mpr rfl)⟩
/-- xs[::-1] -/
theorem ev_rev {k : Nat} {p1 p3 p4 : Pos} (h : Ev X F0 e r O fun x O1 => ∃ ds, (x = .lst ds ∨ ∃ p, x = .adr p ∧ O1 p = some (.lst ds)) ∧ Q (.lst ds.reverse) O1) :
    Ev X F0 (.Subscript e (.Slice none none (some (.UnaryOp .USub (.Constant (.int 1) k p1) p3)) p4) pos) r O Q := by
  intro σ H F hx en
  refine tS_of (pe_revL peS) ?_
  refine h.bind hx en fun x O1 F1 H1 v ⟨ds, hd, q⟩ rp hx1 en1 l1 => ?_
  rcases hd with rfl | ⟨p, rfl, hp⟩
  · obtain ⟨a, xs, rfl, h1, h2⟩ := rep_lst.mp rp
    exact ⟨a, xs, rfl, .inl (.inl (hx1.fh _ _ h1)), fun p hp => (Po.newL hx1 h2.reverse p hp).of l1 fun d O' ⟨e1, e2⟩ => by rw [e1, e2]; exact q⟩
  · obtain ⟨_, xs, h1, h2⟩ := hx1.om p _ hp
    exact ⟨p, xs, rep_adr.mp rp, .inl (.inl h1), fun p hp => (Po.newL hx1 h2.reverse p hp).of l1 fun d O' ⟨e1, e2⟩ => by rw [e1, e2]; exact q⟩

/-! ## lists -/
theorem od_cat {ds es : List D} (h : ds.length + es.length ≤ 1000000) : OpD X (binaryOp .Add) O (.lst ds) (.lst es) (.lst (ds ++ es)) := by
  intro F0 F H vx vy hx r1 r2
  obtain ⟨a, xs, rfl, h1, h2⟩ := rep_lst.mp r1
  obtain ⟨b, ys, rfl, h3, h4⟩ := rep_lst.mp r2
  exact rf_of op_cat ⟨a, b, xs, ys, rfl, rfl, hx.fh _ _ h1, hx.fh _ _ h3, by rw [← h2.length, ← h4.length, sizeLine_eq]; omega, Po.newL hx (h2.append h4)⟩
theorem flat_one {α : Type} (k : Bool) (xs : List α) : (List.replicate (if k then (1 : Int) else 0).toNat xs).flatten = if k then xs else [] := by
  cases k <;> simp
theorem od_rep1 {ds : List D} {k : Bool} (h : ds.length ≤ 1000000) : OpD X (binaryOp .Mult) O (.lst ds) (.int (if k then 1 else 0)) (.lst (if k then ds else [])) := by
  intro F0 F H vx vy hx r1 r2
  obtain ⟨a, xs, rfl, h1, h2⟩ := rep_lst.mp r1
  refine rf_of op_rep ⟨a, _, xs, rfl, rep_int.mp r2, hx.fh _ _ h1, by cases k <;> decide, by cases k <;> decide, ?_, ?_⟩
  · rw [← h2.length, sizeLine_eq]; cases k <;> simp <;> omega
  · rw [flat_one]
    refine Po.newL hx ?_
    cases k with
    | true => exact h2
    | false => exact .nil

/-! ## built-in functions, types -/
theorem ev_blt {x : Str} {id : String} {p : Pos} (h : Av X F0 (e :: es) r O fun ds O1 => ClD X (.builtin id) O1 ds Q) (hm : X.mg x = none) (hv : bootBuiltins x = some (.builtin id)) (hg : Gl X x := by rfl) (hn : x ≠ "__name__" := by decide)
    (hdb : (x == ("__debug__" : Str)) = false := by decide) (he : starEach (e :: es) X.env = (false, eval e X.env) :: starEach es X.env := by rfl) (hpl : (backTo pos (starEach es X.env)).any (·.1) = false := by rfl) : Ev X F0 (.Call (.Name x p) (e :: es) [] pos) r O Q := by
  intro σ H F hx en
  refine tS_of (pe_callB clS hg hm hv paS hn hdb he hpl) ?_
  exact h.bind hx en fun ds O1 F1 H1 vs q rp hx1 en1 l1 => rc_mono (q F0 F1 H1 vs hx1 rp) fun _ _ z => z.up l1
theorem ev_typ {x : Str} {T : String} {p : Pos} (h : Av X F0 (e :: es) r O fun ds O1 => ClD X (.type T) O1 ds Q) (hm : X.mg x = none) (hv : bootBuiltins x = some (.type T)) (hg : Gl X x := by rfl) (hn : x ≠ "__name__" := by decide)
    (hdb : (x == ("__debug__" : Str)) = false := by decide) (he : starEach (e :: es) X.env = (false, eval e X.env) :: starEach es X.env := by rfl) (hpl : (backTo pos (starEach es X.env)).any (·.1) = false := by rfl) : Ev X F0 (.Call (.Name x p) (e :: es) [] pos) r O Q := by
  intro σ H F hx en
  refine tS_of (pe_callTy clS hg hm hv paS hn hdb he hpl) ?_
  exact h.bind hx en fun ds O1 F1 H1 vs q rp hx1 en1 l1 => rc_mono (q F0 F1 H1 vs hx1 rp) fun _ _ z => z.up l1
/-- a built-in type as a value -/
theorem ev_ty {x : Str} {T : String} (q : Q (.ty T) O) (hm : X.mg x = none) (hv : bootBuiltins x = some (.type T)) (hg : Gl X x := by rfl) (hn : x ≠ "__name__" := by decide) (hdb : (x == ("__debug__" : Str)) = false := by decide) : Ev X F0 (.Name x pos) r O Q :=
  fun σ H F hx en => tS_of (pe_bltn (v := .ty T) hg hm hv rfl hn hdb) ⟨_, O, F, q, rep_ty.mpr rfl, hx, Le.refl F⟩
theorem reps1 {K : PySem.W.Frag} {d : D} {vs : List V} (h : Reps K F [d] vs) : ∃ v, vs = [v] ∧ Rep K F d v := by
  obtain ⟨x, t, rfl, h1, h2⟩ := Reps.cons_iff.mp h
  rw [Reps.nil_iff.mp h2]
  exact ⟨x, rfl, h1⟩
theorem reps2 {K : PySem.W.Frag} {d d' : D} {vs : List V} (h : Reps K F [d, d'] vs) : ∃ v v', vs = [v, v'] ∧ Rep K F d v ∧ Rep K F d' v' := by
  obtain ⟨x, t, rfl, h1, h2⟩ := Reps.cons_iff.mp h
  obtain ⟨y, rfl, h3⟩ := reps1 h2
  exact ⟨x, y, rfl, h1, h3⟩
/-- q at the value, nothing else changed -/
theorem Po.val {H : Hp} {d : D} {v : V} (q : Q d O) (hx : Hx X.K F0 F H O) (rp : Rep X.K F d v) : Po X F0 F Q v H := ⟨d, O, F, q, rp, hx, Le.refl F⟩
theorem cl_len_lst {ds : List D} (q : Q (.int ds.length) O) : ClD X (.builtin "len") O [.lst ds] Q := by
  intro F0 F H vs hx rp
  obtain ⟨v, rfl, r1⟩ := reps1 rp
  obtain ⟨a, xs, rfl, h1, h2⟩ := rep_lst.mp r1
  exact rc_of call_len ⟨_, xs.length, rfl, .inl ⟨xs, .inl (.inl (hx.fh _ _ h1)), rfl⟩, Po.val q hx (by rw [h2.length]; exact rep_int.mpr rfl)⟩
theorem cl_len_own {p : Addr} {ds : List D} (hp : O p = some (.lst ds)) (q : Q (.int ds.length) O) : ClD X (.builtin "len") O [.adr p] Q := by
  intro F0 F H vs hx rp
  obtain ⟨v, rfl, r1⟩ := reps1 rp
  obtain ⟨_, xs, h1, h2⟩ := hx.om p _ hp
  rw [rep_adr.mp r1]
  exact rc_of call_len ⟨_, xs.length, rfl, .inl ⟨xs, .inl (.inl h1), rfl⟩, Po.val q hx (by rw [h2.length]; exact rep_int.mpr rfl)⟩
theorem cl_len_tup {ds : List D} (q : Q (.int ds.length) O) : ClD X (.builtin "len") O [.tup ds] Q := by
  intro F0 F H vs hx rp
  obtain ⟨v, rfl, r1⟩ := reps1 rp
  obtain ⟨a, xs, rfl, h1, h2⟩ := rep_tup.mp r1
  exact rc_of call_len ⟨_, xs.length, rfl, .inr ⟨xs, hx.fh.sqT h1, rfl⟩, Po.val q hx (by rw [h2.length]; exact rep_int.mpr rfl)⟩
theorem cl_len_str {x : Str} (hl : x.length ≤ 1000000) (q : Q (.int x.length) O) : ClD X (.builtin "len") O [.str x] Q := by
  intro F0 F H vs hx rp
  obtain ⟨v, rfl, r1⟩ := reps1 rp
  rw [rep_str.mp r1]
  exact rc_of call_len ⟨_, x.length, rfl, ⟨by rw [sizeLine_eq]; omega, rfl⟩, Po.val q hx (rep_int.mpr rfl)⟩
theorem cl_str_int {i : Int} (hl : i.natAbs.log2 < 1920) (q : Q (.str (toString i)) O) : ClD X (.type "str") O [.int i] Q := by
  intro F0 F H vs hx rp
  obtain ⟨v, rfl, r1⟩ := reps1 rp
  rw [rep_int.mp r1]
  exact rc_of call_str_int ⟨i, rfl, hl, Po.val q hx (rep_str.mpr rfl)⟩
theorem cl_int_int {i : Int} (q : Q (.int i) O) : ClD X (.type "int") O [.int i] Q := by
  intro F0 F H vs hx rp
  obtain ⟨v, rfl, r1⟩ := reps1 rp
  rw [rep_int.mp r1]
  exact rc_of call_int1 (.inl ⟨i, rfl, Po.val q hx (rep_int.mpr rfl)⟩)
theorem cl_int_bl {k : Bool} (q : Q (.int (if k then 1 else 0)) O) : ClD X (.type "int") O [.bl k] Q := by
  intro F0 F H vs hx rp
  obtain ⟨v, rfl, r1⟩ := reps1 rp
  rw [rep_bl.mp r1]
  exact rc_of call_int1 (.inr ⟨k, rfl, Po.val q hx (rep_int.mpr rfl)⟩)
theorem cl_int_str {x : Str} {n : Int} (hn : PySem.intText? x = some n) (hl : x.length ≤ 640) (q : Q (.int n) O) : ClD X (.type "int") O [.str x] Q := by
  intro F0 F H vs hx rp
  obtain ⟨v, rfl, r1⟩ := reps1 rp
  rw [rep_str.mp r1]
  exact rc_of call_int_str ⟨x, n, rfl, hn, hl, Po.val q hx (rep_int.mpr rfl)⟩
theorem cl_abs {i : Int} (q : Q (.int (if i < 0 then -i else i)) O) : ClD X (.builtin "abs") O [.int i] Q := by
  intro F0 F H vs hx rp
  obtain ⟨v, rfl, r1⟩ := reps1 rp
  rw [rep_int.mp r1]
  exact rc_of call_abs ⟨i, rfl, Po.val q hx (rep_int.mpr rfl)⟩
/-- list(x) -/
theorem cl_list_lst {ds : List D} (q : Q (.lst ds) O) : ClD X (.type "list") O [.lst ds] Q := by
  intro F0 F H vs hx rp
  obtain ⟨v, rfl, r1⟩ := reps1 rp
  obtain ⟨a, xs, rfl, h1, h2⟩ := rep_lst.mp r1
  exact rc_of call_list_of ⟨a, xs, rfl, .inl (.inl (.inl (hx.fh _ _ h1))), fun p hp => (Po.newL hx h2 p hp).of (Le.refl F) fun d O' ⟨e1, e2⟩ => by rw [e1, e2]; exact q⟩
theorem cl_list_tup {ds : List D} (q : Q (.lst ds) O) : ClD X (.type "list") O [.tup ds] Q := by
  intro F0 F H vs hx rp
  obtain ⟨v, rfl, r1⟩ := reps1 rp
  obtain ⟨a, xs, rfl, h1, h2⟩ := rep_tup.mp r1
  exact rc_of call_list_of ⟨a, xs, rfl, .inr (hx.fh.sqT h1), fun p hp => (Po.newL hx h2 p hp).of (Le.refl F) fun d O' ⟨e1, e2⟩ => by rw [e1, e2]; exact q⟩
theorem cl_tuple_lst {ds : List D} (q : Q (.tup ds) O) : ClD X (.type "tuple") O [.lst ds] Q := by
  intro F0 F H vs hx rp
  obtain ⟨v, rfl, r1⟩ := reps1 rp
  obtain ⟨a, xs, rfl, h1, h2⟩ := rep_lst.mp r1
  exact rc_of call_tuple_of ⟨a, xs, rfl, .inl ⟨.inl (.inl (hx.fh _ _ h1)), fun p hp => (Po.newT hx h2 p hp).of (Le.refl F) fun d O' ⟨e1, e2⟩ => by rw [e1, e2]; exact q⟩⟩
theorem cl_tuple_tup {ds : List D} (q : Q (.tup ds) O) : ClD X (.type "tuple") O [.tup ds] Q := by
  intro F0 F H vs hx rp
  obtain ⟨v, rfl, r1⟩ := reps1 rp
  have r2 := r1
  obtain ⟨a, xs, rfl, h1, h2⟩ := rep_tup.mp r1
  exact rc_of call_tuple_of ⟨a, xs, rfl, .inr ⟨hx.fh.sqT h1, Po.val q hx r2⟩⟩
/-- the type of plain data -/
def tyNm : D → Option String
  | .non => some "NoneType"
  | .bl _ => some "bool"
  | .int _ => some "int"
  | .str _ => some "str"
  | .lst _ => some "list"
  | .tup _ => some "tuple"
  | .dict _ _ => some "dict"
  | _ => none
theorem sqT_ty {K : PySem.W.Frag} {H : Hp} {a : Addr} {xs : List V} (h : SqT K H a xs) : TyX K H (.ref a) (.type "tuple") := by
  rcases h with (h | ⟨o, h⟩) | ⟨o, its, n, hk, hc, _⟩
  · exact .base (.tup h)
  · exact .fTuple h
  · exact .kTuple hk hc
theorem tyX_of {K : PySem.W.Frag} {d : D} {v : V} {T : String} (e : tyNm d = some T) (l : Le F F0) (h : Rep K F d v) : TyX K F0 v (.type T) := by
  cases d with
  | non => cases e; rw [rep_non.mp h]; exact .base .non
  | bl b => cases e; rw [rep_bl.mp h]; exact .base (.bl b)
  | int i => cases e; rw [rep_int.mp h]; exact .base (.int i)
  | str x => cases e; rw [rep_str.mp h]; exact .base (.str x)
  | lst ds => cases e; obtain ⟨a, xs, rfl, h1, _⟩ := rep_lst.mp h; exact .base (.lst (l _ _ h1))
  | tup ds => cases e; obtain ⟨a, xs, rfl, h1, _⟩ := rep_tup.mp h; exact sqT_ty (l.sqT h1)
  | dict ks ds => cases e; obtain ⟨a, xs, rfl, h1, _⟩ := rep_dict.mp h; exact .base (.dK (l _ _ h1))
  | _ => cases e
theorem cl_isi {d : D} {T S : String} {k : Bool} (e : tyNm d = some T) (hk : kitB T S = some k) (q : Q (.bl k) O) : ClD X (.builtin "isinstance") O [d, .ty S] Q := by
  intro F0 F H vs hx rp
  obtain ⟨v, w, rfl, r1, r2⟩ := reps2 rp
  rw [rep_ty.mp r2]
  exact rc_of call_isi ⟨v, _, _, _, k, rfl, .ty S, tyX_of e hx.fh r1, kit_ty hk, Po.val q hx (rep_bl.mpr rfl)⟩
/-- isinstance(x, (S1, S2)) -/
theorem cl_isi2 {d : D} {T S1 S2 : String} {k1 k2 : Bool} (e : tyNm d = some T) (h1 : kitB T S1 = some k1) (h2 : kitB T S2 = some k2) (q : Q (.bl (k1 || k2)) O) : ClD X (.builtin "isinstance") O [d, .tup [.ty S1, .ty S2]] Q := by
  intro F0 F H vs hx rp
  obtain ⟨v, w, rfl, r1, r2⟩ := reps2 rp
  obtain ⟨a, xs, rfl, g1, g2⟩ := rep_tup.mp r2
  obtain ⟨x1, x2, rfl, e1, e2⟩ := reps2 g2
  rw [rep_ty.mp e1, rep_ty.mp e2] at g1
  have hkit : PySem.W.kitAny X.K (.type T) [.type S1, .type S2] = some (k1 || k2) := by
    refine kitAny_cons (kit_ty h1) (fun z => ?_) (fun z => by rw [z]; rfl)
    refine kitAny_cons (kit_ty h2) (fun z2 => by rw [kitAny_nil, z, z2]; rfl) (fun z2 => by rw [z2, Bool.or_true])
  rcases hx.fh.sqT g1 with (g | ⟨o, g⟩) | ⟨o, its, n, hk, hc, hd, hz, rv⟩
  · exact rc_of call_isiT ⟨v, a, _, _, _, _, rfl, g, .cons (.ty S1) (.cons (.ty S2) .nil), tyX_of e hx.fh r1, hkit, Po.val q hx (rep_bl.mpr rfl)⟩
  · intro pins s σ us I r
    obtain ⟨u1, u2, rfl, q1, q2⟩ := vals2 r
    cases (show u2 = Value.ref a from q2)
    obtain ⟨P, Z, pp, hxx⟩ := kit_of I q1 (tyX_of e hx.fh r1)
    obtain ⟨_, _, its, rv, ob, w1, w2, n, w3⟩ := (show ObjOk X.prog X.w H s.heap a (.frz o (.tup _)) from I.hok a _ g)
    have e3 := ClsV.all (cs := [V.ty S1, V.ty S2]) (us := [.type S1, .type S2]) (.cons (.ty S1) (.cons (.ty S2) .nil)) rv
    subst e3
    obtain ⟨oc, od, dt, sl⟩ := ob
    simp only at w2 w3
    subst w2 w3
    exact PySem.W.kia_tup Z I.kIn pp w1 hkit hxx fun tk => ⟨.bl _, H, I.tok tk, rfl, Po.val q hx (rep_bl.mpr rfl)⟩
  · have e3 := ClsV.all (cs := [V.ty S1, V.ty S2]) (us := [.type S1, .type S2]) (.cons (.ty S1) (.cons (.ty S2) .nil)) rv
    obtain ⟨oc, od, dt, sl⟩ := o
    simp only at hc hd
    subst hc hd
    have e4 : its = [Value.type S1, .type S2].toArray := by rw [← e3]
    subst e4
    exact rc_of call_isiK ⟨v, a, _, _, _, _, _, _, rfl, hk, tyX_of e hx.fh r1, hkit, Po.val q hx (rep_bl.mpr rfl)⟩
end
end K97
/-! # Part E: what is handled around; a def's contract over data; calls -/
namespace K97
open PySem PySem.Spec PyProof.Rows L2

/-! ## what is handled -/
/-- the exception that is handled stands in the state as it stood at the entry, its context is None -/
structure HotIn (X : Cx) (p : Addr × Obj) : Prop where
  hot : L2H.Hot1 X.A p
  nocell : ∀ v, p.2.data ≠ .cell v
  wh : (X.s_0.heap.get? p.1 = some p.2 ∧ X.H_0 p.1 = none ∧ p.1 ∉ X.fs ∧ p.1 ∉ X.ex) ∨ p ∈ X.pn
/-- nothing is handled, or such a one -/
def Heat (X : Cx) : Prop := X.A.handled = none ∨ ∃ p, HotIn X p
def HeatAt (A : Around) (h : Heap) : Prop := A.handled = none ∨ ∃ x1, HotX.HotAt A x1 h
section
variable {X : Cx} {pins : List (Addr × Obj)} {σ : St} {H : Hp} {s : Shared} {p : Addr × Obj}
theorem HotIn.now (h : HotIn X p) (I : Inv X pins σ H s) : s.heap.get? p.1 = some p.2 ∧ H p.1 = none := by
  rcases h.wh with ⟨h1, h2, h3, h4⟩ | h1
  · exact ⟨I.base.keep _ _ h1 h2 h3 h4, I.base.free _ _ h1 h2 h4⟩
  · have z := I.pin p (List.mem_append_left _ h1)
    exact ⟨z.1, z.2.1⟩
theorem Heat.at (h : Heat X) (I : Inv X pins σ H s) : HeatAt X.A s.heap := by
  rcases h with h | ⟨p, h⟩
  · exact .inl h
  · obtain ⟨hh, vs, e, c⟩ := h.hot
    exact .inr ⟨p.1, hh, p.2, vs, (h.now I).1, e, c⟩
theorem HotIn.stk (h : HotIn X p) (I : Inv X pins σ H s) : p.1 ∉ frs X.stack := fun hm => by
  rcases h.wh with ⟨h1, h2, h3, h4⟩ | h1
  · rcases List.mem_cons.mp (I.stkSub p.1 hm) with e | hb
    · exact absurd (Nat.lt_of_lt_of_le (Heap.lt_size h1) I.ok.above) (by rw [e]; exact Nat.lt_irrefl _)
    · exact h3 hb
  · obtain ⟨_, _, z3, z4, _⟩ := I.pin p (List.mem_append_left _ h1)
    rcases List.mem_cons.mp (I.stkSub p.1 hm) with e | hb
    · exact z3 e
    · exact z4 hb
theorem HotIn.nex (h : HotIn X p) {b : Addr} {H : Hp} (f : FpOk X pins H b) : b ≠ p.1 := fun e => by
  rcases h.wh with ⟨h1, h2, h3, h4⟩ | h1
  · rcases f.2.2.2.1 with z | z
    · exact h4 (e ▸ z)
    · exact absurd (Nat.lt_of_lt_of_le (Heap.lt_size h1) (by rw [← e]; exact z)) (Nat.lt_irrefl _)
  · exact f.2.2.2.2.2 p (List.mem_append_left _ h1) e.symm
/-- .. in a comprehension's block -/
theorem Heat.blk (h : Heat X) (I : Inv X pins σ H s) {scope : Scope} {cenv : PySem.Env} {fp : List Addr} (hfp : ∀ b ∈ fp, FpOk X pins H b) : Heat (X.blk s H scope cenv fp) := by
  rcases h with h | ⟨p, h⟩
  · exact .inl h
  · exact .inr ⟨p, h.hot, h.nocell, .inl ⟨(h.now I).1, (h.now I).2, h.stk I, fun hm => h.nex (hfp _ hm) rfl⟩⟩
end
/-- what a def asks of what is handled around: anything; nothing, or one as above; nothing -/
inductive Mode where
  | any | heat | cold
def ModeX (m : Mode) (X : Cx) : Prop := match m with
  | .any => True
  | .heat => Heat X
  | .cold => X.A.handled = none
def ModeOk (m : Mode) (A : Around) (outer : List PySem.Env) (H : Hp) (s : Shared) : Prop := match m with
  | .any => True
  | .heat => A.handled = none ∨ ∃ p, L2H.Hot1 A p ∧ L2H.PinOk outer H s p
  | .cold => A.handled = none
theorem ModeX.ok {m : Mode} {X : Cx} {pins : List (Addr × Obj)} {σ : St} {H : Hp} {s : Shared} (h : ModeX m X) (I : Inv X pins σ H s) : ModeOk m X.A X.stack H s := by
  cases m with
  | any => trivial
  | cold => exact h
  | heat =>
    rcases (show Heat X from h) with h | ⟨p, h⟩
    · exact .inl h
    · exact .inr ⟨p, h.hot, (h.now I).1, (h.now I).2, h.stk I, h.nocell⟩
theorem ModeX.heat {X : Cx} (h : ModeX .cold X) : ModeX .heat X := .inl h

/-! ## room -/
structure RoomB (k : Nat) (A : Around) : Prop where
  dp : A.depth + 3 * k + 5 < recursionLimit
  un : A.units + 16 * k + 200 < cLine
  gd : A.guards = some []
theorem RoomB.mono {j k : Nat} {A : Around} (r : RoomB k A) (h : j ≤ k) : RoomB j A := ⟨by have := r.dp; omega, by have := r.un; omega, r.gd⟩
theorem RoomB.deeper {k : Nat} {A : Around} (r : RoomB (k + 1) A) (env : PySem.Env) : RoomB k (A.deeper env) :=
  ⟨by have := r.dp; show A.depth + 1 + 3 * k + 5 < _; omega, by have := r.un; show A.units + 3 + 16 * k + 200 < _; omega, r.gd⟩
theorem RoomB.in1 {k : Nat} {A : Around} (r : RoomB (k + 1) A) : RoomB k A.in1 :=
  ⟨by have := r.dp; show A.depth + 3 * k + 5 < _; omega, by have := r.un; show A.units + 1 + 16 * k + 200 < _; omega, r.gd⟩
theorem RoomB.depth {k : Nat} {A : Around} (r : RoomB k A) : A.depth < recursionLimit := by have := r.dp; omega
theorem RoomB.u64 {k : Nat} {A : Around} (r : RoomB k A) : A.units + 64 < cLine := by have := r.un; omega
theorem make_guards {A : Around} {C : Addr} {us : List Value} {kw : List (Str × Value)} : (A.under (.builtin "type.__call__" ⟨.ref C :: us, kw⟩)).guards = A.guards := by
  have hg : (Code.builtin "type.__call__" ⟨.ref C :: us, kw⟩).guards = [] := by
    have h2 : guardIds.contains "type.__call__" = false := by decide +kernel
    show (if guardIds.contains "type.__call__" = true then _ else _) = _
    rw [h2]; rfl
  show pushGuards (Code.builtin "type.__call__" ⟨.ref C :: us, kw⟩).guards A.guards = A.guards
  rw [hg]; rfl
theorem RoomB.make {k : Nat} {A : Around} (r : RoomB (k + 1) A) (C : Addr) (us : List Value) (kw : List (Str × Value)) : RoomB k (A.under (.builtin "type.__call__" ⟨.ref C :: us, kw⟩)) := by
  refine ⟨?_, ?_, ?_⟩
  · rw [make_depth]; have := r.dp; omega
  · rw [make_units]; have := r.un; omega
  · rw [make_guards]; exact r.gd

/-! ## contracts -/
/-- an exception: its class's name, its one field -/
structure Exn where
  c : Str
  a : Option (Str × D)
def ExAt (K : PySem.W.Frag) (F H : Hp) (cls : Value) (d : Option Addr) (x : Exn) : Prop :=
  cls = .ref (He.ga K x.c) ∧ match x.a with
    | none => d = none
    | some (f, z) => ∃ dx v, d = some dx ∧ H dx = some (.xd [(f, v)]) ∧ F dx = none ∧ Rep K F z v
/-- a def's contract: from the arguments and what may change to what is wanted of its answer, of its exception -/
abbrev SpD := List D → Om → (D → Om → Prop) → (Exn → Om → Prop) → Prop
/-- .. as a promise over the heap -/
def sp (K : PySem.W.Frag) (S : SpD) : Sp := fun vs H Q E => ∃ F O ds QD QE, Hx K F F H O ∧ Reps K F ds vs ∧ S ds O QD QE ∧
  (∀ d O' F' H' v, QD d O' → Rep K F' d v → Hx K F F' H' O' → Q v H') ∧ ∀ cls dx H', (∃ x O' F', QE x O' ∧ ExAt K F' H' cls dx x ∧ Hx K F F' H' O') → E cls dx H'
section
variable (P : Program) (w : World) (K : PySem.W.Frag) (mg : Str → Option Value) (base : Heap)
structure FnB (m : Mode) (k : Nat) (f : Addr) (fd : FuncData) (ps : List Str) (sp : Sp) : Prop where
  len : ∀ vs H Q E, sp vs H Q E → vs.length = ps.length
  run : ∀ (A : Around) (outer : List PySem.Env) (s : Shared) (H : Hp) (args : Args) (us : List Value) (vs : List V) (Q : VK) (E : XK), RoomB k A → ModeOk m A outer H s → Env0 P w K mg base A outer s H → BindsTo s fd args (ps.zip us) → Vals vs us → sp vs H Q E →
    codeAny (model P w) A (.call (.ref f) args) (CR (L2.CX P w) outer P w H s Q E) s
end
/-- the context of a body -/
abbrev cxB (P : Program) (w : World) (K : PySem.W.Frag) (mg : Str → Option Value) (base : Heap) (N : List Str) (qual : Str) (scope : Scope) (f : Addr) (cd : Value) (A : Around) (outer : List PySem.Env) (s : Shared) (H : Hp) (E : XK) : Cx :=
  { cxOf (L2.CX P w) P w K mg base N qual scope f cd A outer s H E with calm := A.handled.isNone }
/-- what is known around does not hang on what is handled -/
theorem inv_recast {X : Cx} {pins : List (Addr × Obj)} {σ : St} {H : Hp} {s : Shared} (I : Inv X pins σ H s) (A2 : Around) (c : Bool) (hf : A2.frames = X.A.frames) (hc : c = true → A2.handled = none) (xe2 : Value → Shared → Prop) : Inv { X with A := A2, calm := c, xe := xe2 } pins σ H s :=
  ⟨⟨I.ok.mod, I.ok.kind, I.ok.glob, I.ok.blt, I.ok.above, I.ok.inj, I.ok.has, I.ok.cab, hc, hf.trans I.ok.frames, I.ok.stk, I.ok.exf, I.ok.bs, I.ok.bsz, I.ok.noex, I.ok.exfs, I.ok.funs, I.ok.frf⟩,
    I.os, I.bare, I.base, I.loc, I.cell, I.free, I.freeC, I.pin, I.hok, I.len⟩
section
variable {P : Program} {w : World} {K : PySem.W.Frag} {mg : Str → Option Value} {base : Heap}
theorem fn_b {m : Mode} {k : Nat} {f : Addr} {name qual : Str} {params : Arguments} {body : List Stmt} {scope : Scope} {dV kV doc pm cdv ct oc : Value} {an od : Option Addr}
    {osl : Array (Option Value)} {N ps : List Str} {sp : Sp} (lk : K.lookup f = some ⟨oc, od, .func (PySem.W.fnOf name qual params body scope dV kV doc pm an cdv ct), osl⟩) (hcd : PySem.W.codeIn K cdv qual = true) (S : FnScope N ps scope)
    (len : ∀ vs H Q E, sp vs H Q E → vs.length = ps.length)
    (hbody : ∀ (A : Around) (outer : List PySem.Env) (s : Shared) (H : Hp) (vs : List V) (Q : VK) (E : XK), ModeX m (cxB P w K mg base N qual scope f cdv A outer s H E) → RoomB k (cxB P w K mg base N qual scope f cdv A outer s H E).A → sp vs H Q E →
      tSSs (cxB P w K mg base N qual scope f cdv A outer s H E) body { nx := fun _ H' => Q .non H', rt := Q } (L2.start N vs) H) :
    FnB P w K mg base m (k + 1) f (PySem.W.fnOf name qual params body scope dV kV doc pm an cdv ct) ps sp := by
  refine ⟨len, fun A outer s H args us vs Q E hr hmo e0 hb r hsp => ?_⟩
  have hl := len _ _ _ _ hsp
  have KX : K.In s.heap := e0.mod.kin.keeps fun b o e => (e0.bs b o e).1
  have lim : s.heap.NoLimit := e0.mod.nolimit.keeps fun b o e => (e0.bs b o e).1
  have hkind : ∀ y ∈ ps.zip us, scope.names.lookup y.1 = some .local ∨ (scope.names.lookup y.1 = some .cell ∧ ((cellsFrom (s.heap.objs.size + 1) scope.names []).lookup y.1).isSome = true) := fun y hy =>
    (S.par y.1 (List.of_mem_zip (show (y.1, y.2) ∈ ps.zip us from hy)).1).imp id fun q => ⟨q, PySem.W.cellsFrom_some _ _ _ (.inl q)⟩
  refine codeAny_call_function hr.depth (KX _ _ lk) rfl S.co S.gen rfl (PySem.W.codeRec_of KX hcd) (hb _ _ _ _ (wpAny_newFunctionEnv_cells S.kind hkind fun env he s1 x => ?_))
  subst he
  refine ⟨lim.keeps x.toInCall.keep, codeAny_func ?_⟩
  -- the invariant at the entry: as if nothing were handled, then recast
  have eA : Env0 P w K mg base { A with handled := none } outer s H := ⟨e0.frames, e0.mod, e0.bs, e0.bsz, e0.funs, e0.frf, e0.hok, e0.bare⟩
  have I0 := inv_start (CX := L2.CX P w) (E := E) S (A := { A with handled := none }) (f := f) (cd := cdv) rfl eA hl r x
  have I : Inv (cxB P w K mg base N qual scope f cdv A outer s H E) [] (L2.start N vs) H s1 :=
    inv_recast I0 (A.deeper _) A.handled.isNone rfl (fun z => Option.isNone_iff_eq_none.mp z) _
  have hm : ModeX m (cxB P w K mg base N qual scope f cdv A outer s H E) := by
    cases m with
    | any => trivial
    | cold => exact hmo
    | heat =>
      rcases (show A.handled = none ∨ ∃ p, L2H.Hot1 A p ∧ L2H.PinOk outer H s p from hmo) with h | ⟨p, h1, h2⟩
      · exact .inl h
      · exact .inr ⟨p, h1, h2.nocell, .inl ⟨h2.get, h2.free, h2.nofs, fun z => nomatch (show p.1 ∈ ([] : List Addr) from z)⟩⟩
  refine wpAny_mono (hbody A outer s H vs Q E hm (hr.deeper _) hsp [] s1 I) (fun fl s' hs => ?_) fun e s' hs => hs
  have fin : ∀ {σ' : St} {H' : Hp} {v : V} {u : Value}, Inv (cxB P w K mg base N qual scope f cdv A outer s H E) [] σ' H' s' → RelV v u → Q v H' → CE outer P w H s Q u s' :=
    fun {σ' H' v u} J rv q => ⟨v, H', J.os, J.bare, J.base, J.hok, rv, q⟩
  cases fl with
  | ret u => obtain ⟨v, σ', H', J, rv, q⟩ := hs; exact fin J rv q
  | next => obtain ⟨σ', H', J, q⟩ := hs; exact fin (v := V.non) (u := Value.none) J rfl q
  | brk => obtain ⟨_, _, _, q⟩ := hs; exact False.elim q
  | cont => obtain ⟨_, _, _, q⟩ := hs; exact False.elim q
end
/-- what may be let out of this code -/
def XeD (X : Cx) (F0 : Hp) (QE : Exn → Om → Prop) : Prop := Takes X fun cls d _ H => ∃ x O F, QE x O ∧ ExAt X.K F H cls d x ∧ Hx X.K F0 F H O
/-- .. at the names r -/
def XeR (X : Cx) (F0 : Hp) (r : Rho) (QE : Exn → Om → Prop) : Prop := Takes X fun cls d σ H => ∃ x O F, QE x O ∧ ExAt X.K F H cls d x ∧ Hx X.K F0 F H O ∧ En X.K F r σ
theorem XeD.nm {X : Cx} {F0 : Hp} {r : Rho} {QE : Exn → Om → Prop} (h : XeD X F0 QE) : XeR X F0 r QE := Takes.imp h fun _ _ _ _ ⟨x, O, F, q, ea, hx, _⟩ => ⟨x, O, F, q, ea, hx⟩
theorem xer0 {X : Cx} {F0 : Hp} {r : Rho} : XeR X F0 r (fun _ _ => False) := fun u s' ⟨_, _, _, _, _, _, _, _, _, _, _, _, _, _, _, _, _, _, _, z, _⟩ => z.elim
theorem xe0 {X : Cx} {F0 : Hp} : XeD X F0 (fun _ _ => False) := fun u s' ⟨_, _, _, _, _, _, _, _, _, _, _, _, _, _, _, _, _, _, _, z, _⟩ => z.elim
/-- the names at the entry -/
def rho0 (N : List Str) (ds : List D) : Rho := ds.map some ++ List.replicate (N.length - ds.length) none
theorem en0 {K : PySem.W.Frag} {F : Hp} {N : List Str} {ds : List D} {vs : List V} (h : Reps K F ds vs) : En K F (rho0 N ds) (L2.start N vs) := by
  have hl := h.length
  refine ⟨?_, fun i d q => ?_⟩
  · unfold rho0 L2.start
    simp [hl]
  · unfold rho0 at q
    by_cases hi : i < ds.length
    · rw [List.getElem?_append_left (by simpa using hi), List.getElem?_map] at q
      have e : ds[i]? = some d := by
        cases e : ds[i]? with
        | none => rw [e] at q; cases q
        | some d' => rw [e] at q; cases q; rfl
      obtain ⟨v, e1, e2⟩ := h.get e
      refine ⟨v, ?_, e2⟩
      unfold L2.start
      rw [List.getElem?_append_left (by simp; omega), List.getElem?_map, e1]
      rfl
    · rw [List.getElem?_append_right (by simpa using hi), List.getElem?_replicate] at q
      split at q <;> cases q
section
variable {P : Program} {w : World} {K : PySem.W.Frag} {mg : Str → Option Value} {base : Heap}
/-- THE RULE: a def keeps its contract, by its body over data -/
theorem fn_d {m : Mode} {k : Nat} {f : Addr} {name qual : Str} {params : Arguments} {body : List Stmt} {scope : Scope} {dvs : List V} {kws : List (Str × V)} {fd : FuncData} {N ps : List Str} {S : SpD}
    (F : FunD K name qual params body scope dvs kws f fd) (sc : FnScope N ps scope) (len : ∀ ds O QD QE, S ds O QD QE → ds.length = ps.length)
    (hb : ∀ (cdv : Value) (A : Around) (outer : List PySem.Env) (s : Shared) (H : Hp) (E : XK) (F0 : Hp) (ds : List D) (O : Om) (QD : D → Om → Prop) (QE : Exn → Om → Prop),
      ModeX m (cxB P w K mg base N qual scope f cdv A outer s H E) → RoomB k (cxB P w K mg base N qual scope f cdv A outer s H E).A → XeD (cxB P w K mg base N qual scope f cdv A outer s H E) F0 QE → S ds O QD QE →
      Ssv (cxB P w K mg base N qual scope f cdv A outer s H E) F0 body (rho0 N ds) O { nx := fun _ O' => QD .non O', rt := QD }) : FnB P w K mg base m (k + 1) f fd ps (sp K S) := by
  obtain ⟨oc, od, dV, kV, doc, pm, an, cdv, ct, osl, rfl, lk, hcd, _, _⟩ := F.ex
  refine fn_b lk hcd sc (fun vs H Q E h => ?_) fun A outer s H vs Q E hm hr h => ?_
  · obtain ⟨F0, O, ds, QD, QE, hx, rp, hs, _⟩ := h
    rw [← rp.length]
    exact len _ _ _ _ hs
  · obtain ⟨F0, O, ds, QD, QE, hx, rp, hs, hq, he⟩ := h
    have xe : XeD (cxB P w K mg base N qual scope f cdv A outer s H E) F0 QE := fun u s' x => takes_of (X := cxB P w K mg base N qual scope f cdv A outer s H E) rfl rfl rfl rfl u s' (by
      obtain ⟨a, B, sI, pins, σ, H', cls, d, e, I, nb, up, sky, na, os, ag, y⟩ := x
      exact ⟨a, B, sI, pins, σ, H', cls, d, e, I, nb, up, sky, na, os, ag, he _ _ _ y⟩)
    refine tSSs_mono (hb cdv A outer s H E F0 ds O QD QE hm hr xe hs _ H F0 hx (en0 rp)) ⟨fun σ' H' ⟨r, O', F', q, hx', l, _⟩ => ?_, fun v H' ⟨d, O', F', q, rp', hx', l⟩ => hq _ _ _ _ _ q rp' hx', fun _ _ ⟨_, _, _, z, _⟩ => z.elim, fun _ _ ⟨_, _, _, z, _⟩ => z.elim⟩
    exact hq _ _ _ _ _ q (rep_non.mpr rfl) hx'
end

/-! ## calls -/
section
variable {X : Cx} {F0 F : Hp} {r : Rho} {O : Om} {Q : D → Om → Prop} {QE : Exn → Om → Prop} {a b c e : Expr} {es : List Expr} {pos p2 : Pos} {m : Mode} {k : Nat} {f : Addr} {fd : FuncData} {ps : List Str} {S : SpD} {ds : List D}
/-- the promise at a call, from the contract -/
theorem sp_at {H : Hp} {vs : List V} (hx : Hx X.K F0 F H O) (rp : Reps X.K F ds vs) (hs : S ds O Q QE) : sp X.K S vs H (Po X F0 F Q) fun cls d H' => ∃ x O' F', QE x O' ∧ ExAt X.K F' H' cls d x ∧ Hx X.K F0 F' H' O' ∧ Le F F' :=
  ⟨F, O, ds, Q, QE, ⟨Le.refl F, hx.fh, hx.om⟩, rp, hs, fun d O' F' H' v q rp' hx' => ⟨d, O', F', q, rp', ⟨hx.f0.trans hx'.f0, hx'.fh, hx'.om⟩, hx'.f0⟩,
    fun cls dx H' ⟨x, O', F', q, ea, hx'⟩ => ⟨x, O', F', q, ea, ⟨hx.f0.trans hx'.f0, hx'.fh, hx'.om⟩, hx'.f0⟩⟩
/-- the callee runs (values) -/
theorem run_b {pins : List (Addr × Obj)} {σ : St} {H : Hp} {s : Shared} {Qv : VK} {Ev' : XK} {us : List Value} {vs : List V} {spf : Sp} (G : FnB X.prog X.w X.K X.mg X.base m k f fd ps spf) (hr : RoomB k X.A) (hm : ModeX m X) (hb : Binds X.K fd ps [])
    {W : WX} (hxe : Takes X W) (hW : ∀ cls d H', Ev' cls d H' → W cls d σ H') (I : Inv X pins σ H s) (rv : Vals vs us) (hs : spf vs H Qv Ev') : wpAny (model X.prog X.w) X.A (call (.ref f) us) (EP X pins σ Qv) X.xe s := by
  have hl : (us ++ []).length = ps.length := by rw [List.append_nil, ← rv.length]; exact G.len _ _ _ _ hs
  have hb' := hb s us I.kIn hl
  rw [List.append_nil] at hb'
  refine wpAny_call (codeAny_mono (G.run X.A X.stack s H ⟨us, []⟩ us vs Qv Ev' hr (hm.ok I) I.env0 hb' rv hs) fun res s' hq => ?_)
  cases res with
  | error e => exact hxe _ _ (XE.of_call I hW hq)
  | ok fl =>
    cases fl with
    | ret u => exact I.after hq
    | next => exact False.elim hq
    | brk => exact False.elim hq
    | cont => exact False.elim hq
/-- a def of the module by its name -/
structure Fg (P : Program) (w : World) (K : PySem.W.Frag) (mg : Str → Option Value) (base : Heap) (m : Mode) (k : Nat) (x : Str) (S : SpD) : Prop where
  ex : ∃ f fd ps, FnB P w K mg base m k f fd ps (sp K S) ∧ mg x = some (.ref f) ∧ PySem.W.keepIn K (.ref f) = true ∧ Binds K fd ps []
theorem ev_call {x : Str} {p : Pos} (G : Fg X.prog X.w X.K X.mg X.base m k x S) (hr : RoomB k X.A) (hm : ModeX m X) (hxe : XeR X F0 r QE) (h : Av X F0 (e :: es) r O fun ds O1 => S ds O1 Q QE) (hg : Gl X x := by rfl)
    (hdb : (x == ("__debug__" : Str)) = false := by decide) (he : starEach (e :: es) X.env = (false, eval e X.env) :: starEach es X.env := by rfl) (hpl : (backTo pos (starEach es X.env)).any (·.1) = false := by rfl) : Ev X F0 (.Call (.Name x p) (e :: es) [] pos) r O Q := by
  obtain ⟨f, fd, ps, G, hmg, hk, hb⟩ := G.ex
  intro σ H F hx en pins s I
  refine wpAny_Call_Name_kw (ld_glob I hg hmg ?_ hdb)
  refine PySem.W.callWith_K (h₀ := X.base) I.ok.mod.kin hk (thn (h σ H F hx en pos pins s I) fun us s1 ⟨vs, H1, I1, rv, ds, O1, F1, hs, rp, hx1, l1⟩ => ⟨I1.kIn, ?_⟩) he hpl
  exact thn (run_b G hr hm hb hxe (fun cls d H' ⟨x, O', F', q, ea, hx', l'⟩ => ⟨x, O', F', q, ea, hx', (en.mono l1).mono l'⟩) I1 rv (sp_at hx1 rp hs)) fun _ _ z => ep_imp z fun _ _ q => q.up l1
/-- a method of a class -/
structure Fm (P : Program) (w : World) (K : PySem.W.Frag) (mg : Str → Option Value) (base : Heap) (m : Mode) (k : Nat) (c : Cl) (x : Str) (S : SpD) : Prop where
  ex : ∃ f fd ps, FnB P w K mg base m k f fd ps (sp K S) ∧ Meth K (ca K c) x f ∧ Binds K fd ps []
  cl : Cls K (ca K c)
/-- an instance: frozen, or one that may change -/
def InstD (O : Om) (c : Cl) (ks : List Str) (ds : List D) (d : D) : Prop := d = .obj c ks ds ∨ ∃ a, d = .adr a ∧ O a = some (.ob c ks ds)
theorem inst_at {K : PySem.W.Frag} {H : Hp} {c : Cl} {ks : List Str} {d : D} {v : V} (hx : Hx K F0 F H O) (hd : InstD O c ks ds d) (rp : Rep K F d v) : ∃ a dx xs, v = .ref a ∧ H a = some (.ins (ca K c) dx (ks.zip xs)) ∧ ks.length = xs.length ∧ Reps K F ds xs := by
  rcases hd with rfl | ⟨a, rfl, ha⟩
  · obtain ⟨a, dx, xs, rfl, h1, h2, h3, h4⟩ := rep_obj.mp rp
    exact ⟨a, dx, xs, rfl, hx.fh _ _ h1, h3, h4⟩
  · obtain ⟨_, dx, xs, h1, h2, h3, h4, h5⟩ := hx.om a _ ha
    exact ⟨a, dx, xs, rep_adr.mp rp, h1, h4, h5⟩
theorem lookup_zip_none {α : Type} {x : Str} : ∀ {ks : List Str} {xs : List α}, ks.contains x = false → (ks.zip xs).lookup x = none
  | [], _, _ => rfl
  | _ :: _, [], _ => rfl
  | k :: ks, y :: ys, h => by
    rw [List.contains_cons, Bool.or_eq_false_iff] at h
    rw [List.zip_cons_cons, List.lookup_cons, h.1]
    exact lookup_zip_none h.2
theorem ev_meth {x : Str} {apos : Pos} {pl : Sem Bool} {c : Cl} (G : Fm X.prog X.w X.K X.mg X.base m k c x S) (hr : RoomB k X.A) (hm : ModeX m X) (hxe : XeR X F0 r QE)
    (h : Ev X F0 a r O fun d O1 => ∃ ks fs, InstD O1 c ks fs d ∧ ks.contains x = false ∧ Av X F0 (e :: es) r O1 fun ds O2 => S (d :: ds) O2 Q QE)
    (hst : starEach (e :: es) X.env = (false, eval e X.env) :: starEach es X.env := by rfl) (hpl : (backTo pos (starEach es X.env)).any (·.1) = false := by rfl)
    (ht : eval (.Call (.Attribute a x apos) (e :: es) [] pos) X.env = (do
      let ov ← eval a X.env
      standAt apos.atName
      let (f, first) ← holding [ov] (getMethod ov x pl)
      callWith pos f first (backTo pos (starEach (e :: es) X.env)) (backToKw pos (keywordEach [] X.env))) := by rfl) : Ev X F0 (.Call (.Attribute a x apos) (e :: es) [] pos) r O Q := by
  obtain ⟨f, fd, ps, GF, hme, hb⟩ := G.ex
  intro σ H F hx en pins s I
  refine PySem.W.methodCall_KW (pl := pl) (thn (h σ H F hx en pins s I) fun u s1 ⟨v, H1, I1, rv, d, O1, F1, ⟨ks, fs, hd, hks, hav⟩, rp, hx1, l1⟩ => ?_) ht
  obtain ⟨ad, dx, xs, rfl, hins, hl, hfs⟩ := inst_at hx1 hd rp
  obtain rfl : u = Value.ref ad := rv
  refine getmeth_ok I1 hins G.cl hme (lookup_zip_none hks) ?_
  refine PySem.W.callWith_K (first := [.ref ad]) (h₀ := X.base) I.ok.mod.kin hme.kp (thn (hav σ H1 F1 hx1 (en.mono l1) pos pins s1 I1) fun us s2 ⟨vs, H2, I2, rv2, ds, O2, F2, hs, rp2, hx2, l2⟩ => ⟨I2.kIn, ?_⟩) hst hpl
  exact thn (run_b (us := .ref ad :: us) (vs := .ref ad :: vs) GF hr hm hb hxe (fun cls d H' ⟨x, O', F', q, ea, hx', l'⟩ => ⟨x, O', F', q, ea, hx', ((en.mono l1).mono l2).mono l'⟩) I2 (.cons rfl rv2) (sp_at hx2 (.cons (rp.mono l2) rp2) hs)) fun _ _ z => ep_imp z fun _ _ q => q.up (l1.trans l2)
theorem ev_meth0 {x : Str} {apos : Pos} {pl : Sem Bool} {c : Cl} (G : Fm X.prog X.w X.K X.mg X.base m k c x S) (hr : RoomB k X.A) (hm : ModeX m X) (hxe : XeR X F0 r QE)
    (h : Ev X F0 a r O fun d O1 => ∃ ks fs, InstD O1 c ks fs d ∧ ks.contains x = false ∧ S [d] O1 Q QE)
    (ht : eval (.Call (.Attribute a x apos) [] [] pos) X.env = (do
      let ov ← eval a X.env
      standAt apos.atName
      let (f, first) ← holding [ov] (getMethod ov x pl)
      callWith pos f first (backTo pos (starEach [] X.env)) (backToKw pos (keywordEach [] X.env))) := by rfl) : Ev X F0 (.Call (.Attribute a x apos) [] [] pos) r O Q := by
  obtain ⟨f, fd, ps, GF, hme, hb⟩ := G.ex
  intro σ H F hx en pins s I
  refine PySem.W.methodCall_KW (pl := pl) (thn (h σ H F hx en pins s I) fun u s1 ⟨v, H1, I1, rv, d, O1, F1, ⟨ks, fs, hd, hks, hs⟩, rp, hx1, l1⟩ => ?_) ht
  obtain ⟨ad, dx, xs, rfl, hins, hl, hfs⟩ := inst_at hx1 hd rp
  obtain rfl : u = Value.ref ad := rv
  refine getmeth_ok I1 hins G.cl hme (lookup_zip_none hks) ?_
  refine PySem.W.callWith_K0 I1.kIn hme.kp ?_
  exact thn (run_b (us := [.ref ad]) (vs := [.ref ad]) GF hr hm hb hxe (fun cls d H' ⟨x, O', F', q, ea, hx', l'⟩ => ⟨x, O', F', q, ea, hx', (en.mono l1).mono l'⟩) I1 (.cons rfl .nil) (sp_at hx1 (.cons rp .nil) hs)) fun _ _ z => ep_imp z fun _ _ q => q.up l1
/-- a field -/
theorem lookup_zip {F : Hp} {K : PySem.W.Frag} {x : Str} {d : D} : ∀ {ks : List Str} {ds : List D} {xs : List V}, Reps K F ds xs → (ks.zip ds).lookup x = some d → ∃ v, (ks.zip xs).lookup x = some v ∧ Rep K F d v
  | [], _, _, _, h => by cases h
  | _ :: _, [], _, _, h => by cases h
  | k :: ks, e :: ds, _, rp, h => by
    obtain ⟨y, t, rfl, h1, h2⟩ := Reps.cons_iff.mp rp
    rw [List.zip_cons_cons, List.lookup_cons] at h ⊢
    cases q : x == k with
    | true => rw [q] at h; cases h; exact ⟨y, rfl, h1⟩
    | false => rw [q] at h; exact lookup_zip h2 h
theorem ev_fld {x : Str} (h : Ev X F0 a r O fun d O1 => ∃ c ks fs z, InstD O1 c ks fs d ∧ Cls X.K (ca X.K c) ∧ NoAttr X.K (ca X.K c) x ∧ (ks.zip fs).lookup x = some z ∧ Q z O1)
    (hb : attributeBase a x X.env (eval a X.env) = eval a X.env := by rfl) : Ev X F0 (.Attribute a x pos) r O Q := by
  intro σ H F hx en
  refine tS_of (pe_fld peS hb) ?_
  refine h.bind hx en fun d O1 F1 H1 v ⟨c, ks, fs, z, hd, hc, hn, hl, q⟩ rp hx1 en1 l1 => ?_
  obtain ⟨ad, dx, xs, rfl, hins, _, hfs⟩ := inst_at hx1 hd rp
  obtain ⟨y, e1, e2⟩ := lookup_zip hfs hl
  exact ⟨ad, _, dx, _, y, rfl, hins, hc, hn, e1, z, O1, F1, q, e2, hx1, l1⟩
end
end K97
/-! # Part F: what is walked, while nothing or something is handled; for loops -/
namespace K97
open PySem PySem.Spec PyProof.Rows L2

section
variable {prog : Program} {w : World} {A : Around} {s : Shared}
theorem stop_raise {α : Type} {Q : α → Shared → Prop} {E : Value → Shared → Prop} (ht : HeatAt A s.heap)
    (h : ∀ a g, (∀ b o, s.heap.get? b = some o → g.get? b = some o) → (∃ o, g.get? a = some o ∧ o.cls = .type "StopIteration") → E (.ref a) { s with heap := g }) :
    wpAny (model prog w) A (newExc (.type "StopIteration") [] >>= fun e => (raiseNew e : Sem α)) Q E s := by
  refine wpAny_bind ?_
  simp only [newExc, newTuple]
  refine wpAny_bind (wpAny_newObj_type ?_ (by size_fits))
  refine wpAny_bind (m := firstArgMember _ _) (wpAny_of_eq (a := Value.none) (by first | rfl | (simp only [firstArgMember]; rfl)) ?_)
  refine wpAny_newObj_type ?_ (by size_fits)
  rcases ht with hh | ⟨x1, hh, o1, vs1, e1, d1, c1⟩
  · simp only [raiseNew]
    refine wpAny_bind (wpAny_handled ?_)
    rw [hh]
    exact wpAny_bind (wpAny_pure (wpAny_throw (h _ _ (fun b o e => Heap.get?_push_of_some _ (Heap.get?_push_of_some _ e)) ⟨_, Heap.get?_push_size _ rfl, rfl⟩)))
  · have g1 := Heap.get?_push_of_some { cls := Value.type "tuple", data := Data.seq ([] : List Value).toArray } e1
    refine HotX.raiseNew_hot ⟨hh, o1, vs1, Heap.get?_push_of_some _ g1, d1, c1⟩ (Nat.ne_of_lt (Heap.lt_size g1)) (Heap.get?_push_size _ rfl) rfl
      (by first | (simp; done) | (simp; omega) | (simp only [Array.size_append]; simp; omega)) (h _ _ (fun b o e => ?_) ⟨_, Heap.get?_update_self _ (Heap.get?_push_size _ rfl) rfl, rfl⟩)
    have g2 := Heap.get?_push_of_some { cls := Value.type "tuple", data := Data.seq ([] : List Value).toArray } e
    rw [Heap.get?_update_other _ _ (Nat.ne_of_gt (Heap.lt_size g2))]
    exact Heap.get?_push_of_some _ g2
theorem HeatAt.keep {h h' : Heap} {x : Addr} (ht : HeatAt A h) (hx : ∀ x1, A.handled = some (.ref x1) → x1 ≠ x) (k : ∀ b o, b ≠ x → h.get? b = some o → h'.get? b = some o) : HeatAt A h' := by
  rcases ht with hh | ⟨x1, hh, o1, vs1, e1, r⟩
  · exact .inl hh
  · exact .inr ⟨x1, hh, o1, vs1, k _ _ (hx x1 hh) e1, r⟩
variable {E : Value → Shared → Prop} {Q : Option Value → Shared → Prop}
/-- the end of an iterator's next -/
theorem caught_stop {a : Addr} (hs : ∃ o, s.heap.get? a = some o ∧ o.cls = .type "StopIteration") (q : Q none s) : wpAny (model prog w) A (do if ← isInstance (.ref a) (.type "StopIteration") then pure none else throw (.ref a)) Q E s := by
  obtain ⟨o, ho, hc⟩ := hs
  exact wpAny_bind (wpAny_isInstance (T := "StopIteration") (b := true) ⟨o, ho, hc⟩ isSubtype_stop (wpAny_pure q))
theorem stop_at {α : Type} {Q0 : α → Shared → Prop} {k : Addr} {h0 : Heap} {m : Heap} (e1 : Heap.ExtBut k h0 m) (ht : HeatAt A h0) (hx : ∀ x1, A.handled = some (.ref x1) → x1 ≠ k) (q : ∀ g, Heap.ExtBut k h0 g → Q none { s with heap := g }) :
    wpAny (model prog w) A.in1 (newExc (.type "StopIteration") [] >>= fun e => (raiseNew e : Sem α)) Q0 (fun x s' => wpAny (model prog w) A (do if ← isInstance x (.type "StopIteration") then pure none else throw x) Q E s') { s with heap := m } :=
  stop_raise (A := A.in1) (s := { s with heap := m }) (ht.keep hx fun b o hb e => e1 b o hb e) fun a g kp hs => caught_stop (s := { s with heap := g }) hs (q g fun b o hb e => kp b o (e1 b o hb e))
theorem end_list {k l : Addr} {i : Nat} {its : Array Value} (ht : HeatAt A s.heap) (hx : ∀ x1, A.handled = some (.ref x1) → x1 ≠ k) (hk : s.heap.IsListIter k l i) (hl : s.heap.IsList l its) (hi : its[i]? = none)
    (q : ∀ g, Heap.ExtBut k s.heap g → Q none { s with heap := g }) : wpAny (model prog w) A (pyNext (.ref k)) Q E s := by
  obtain ⟨o, g0, g1, g2⟩ := id hk
  obtain ⟨ol, l0, _, nl, l1⟩ := hl
  unfold pyNext
  refine wpAny_bind (wpAny_attempt (wpAny_callSpecial?_slot (name := Str.ofString "__next__") hk.typeIs slot_listiter_next (wpAny_call_entry slot_listiter_next hk.typeIs entry_listiter_next ?_ (args_listiter_next _))))
  show wpAny _ _ (field (.ref k) 0 >>= _) _ _ s
  refine wpAny_bind (wpAny_field g0 g2 (x := .ref l) rfl ?_)
  show wpAny _ _ (if (Value.ref l == Value.none) = true then _ else _) _ _ _
  rw [if_neg (show ¬ ((Value.ref l == Value.none) = true) from nofun)]
  show wpAny _ _ (field (.ref k) 1 >>= _) _ _ s
  refine wpAny_bind (wpAny_field g0 g2 (x := .int i 0) rfl ?_)
  show wpAny _ _ (seqItems? (.ref l) >>= _) _ _ _
  refine wpAny_bind (wpAny_seqItems l0 l1 ?_)
  simp only [Int.toNat_natCast, hi]
  refine wpAny_bind (wpAny_rule (wpAny_bind (wpAny_setField g0 g2 (by simp) ?_)))
  show wpAny _ _ (newExc _ [] >>= _) _ _ _
  refine stop_at (k := k) (Heap.SameBut.update ..).extBut ht hx q
theorem end_tup {k l : Addr} {i : Nat} {its : Array Value} (ht : HeatAt A s.heap) (hx : ∀ x1, A.handled = some (.ref x1) → x1 ≠ k) (hk : s.heap.IsTupleIter k l i) (hl : s.heap.IsTuple l its) (hi : its[i]? = none)
    (q : ∀ g, Heap.ExtBut k s.heap g → Q none { s with heap := g }) : wpAny (model prog w) A (pyNext (.ref k)) Q E s := by
  obtain ⟨o, g0, g1, g2⟩ := id hk
  obtain ⟨ol, l0, _, nl, l1⟩ := hl
  unfold pyNext
  refine wpAny_bind (wpAny_attempt (wpAny_callSpecial?_slot (name := Str.ofString "__next__") hk.typeIs F.slot_tuple_iterator_next (wpAny_call_entry F.slot_tuple_iterator_next hk.typeIs F.entry_tuple_iterator_next ?_ (F.args_tuple_iterator_next_1 _))))
  show wpAny _ _ (field (.ref k) 0 >>= _) _ _ s
  refine wpAny_bind (wpAny_field g0 g2 (x := .ref l) rfl ?_)
  show wpAny _ _ (if (Value.ref l == Value.none) = true then _ else _) _ _ _
  rw [if_neg (show ¬ ((Value.ref l == Value.none) = true) from nofun)]
  show wpAny _ _ (field (.ref k) 1 >>= _) _ _ s
  refine wpAny_bind (wpAny_field g0 g2 (x := .int i 0) rfl ?_)
  show wpAny _ _ (seqItems? (.ref l) >>= _) _ _ _
  refine wpAny_bind (wpAny_seqItems l0 l1 ?_)
  simp only [Int.toNat_natCast, hi]
  refine wpAny_bind (wpAny_rule (wpAny_bind (wpAny_setField g0 g2 (by simp) ?_)))
  show wpAny _ _ (newExc _ [] >>= _) _ _ _
  refine stop_at (k := k) (Heap.SameBut.update ..).extBut ht hx q
theorem end_ascii {k : Addr} {x : Str} {t : Tok} {i : Nat} (ht : HeatAt A s.heap) (hx : ∀ x1, A.handled = some (.ref x1) → x1 ≠ k) (hk : s.heap.IsStrIter k "str_ascii_iterator" x t i) (hi : x.cps[i]? = none)
    (q : ∀ g, Heap.ExtBut k s.heap g → Q none { s with heap := g }) : wpAny (model prog w) A (pyNext (.ref k)) Q E s := by
  obtain ⟨o, g0, g1, g2⟩ := id hk
  unfold pyNext
  refine wpAny_bind (wpAny_attempt (wpAny_callSpecial?_slot (name := Str.ofString "__next__") hk.typeIs F.slot_str_ascii_iterator_next (wpAny_call_entry F.slot_str_ascii_iterator_next hk.typeIs F.entry_str_ascii_iterator_next ?_ (F.args_str_ascii_iterator_next_1 _))))
  show wpAny _ _ (field (.ref k) 0 >>= _) _ _ s
  refine wpAny_bind (wpAny_field g0 g2 (x := .str x t) rfl ?_)
  show wpAny _ _ (field (.ref k) 1 >>= _) _ _ s
  refine wpAny_bind (wpAny_field g0 g2 (x := .int i 0) rfl ?_)
  simp only [Int.toNat_natCast, hi]
  refine wpAny_bind (wpAny_rule (wpAny_bind (wpAny_setField g0 g2 (by simp) (wpAny_bind (wpAny_letGo ?_)))))
  show wpAny _ _ (newExc _ [] >>= _) _ _ _
  refine stop_at (k := k) (Heap.SameBut.update ..).extBut ht hx q
theorem end_wide {k : Addr} {x : Str} {t : Tok} {i : Nat} (ht : HeatAt A s.heap) (hx : ∀ x1, A.handled = some (.ref x1) → x1 ≠ k) (hk : s.heap.IsStrIter k "str_iterator" x t i) (hi : x.cps[i]? = none)
    (q : ∀ g, Heap.ExtBut k s.heap g → Q none { s with heap := g }) : wpAny (model prog w) A (pyNext (.ref k)) Q E s := by
  obtain ⟨o, g0, g1, g2⟩ := id hk
  unfold pyNext
  refine wpAny_bind (wpAny_attempt (wpAny_callSpecial?_slot (name := Str.ofString "__next__") hk.typeIs F.slot_str_iterator_next (wpAny_call_entry F.slot_str_iterator_next hk.typeIs F.entry_str_iterator_next ?_ (F.args_str_iterator_next_1 _))))
  show wpAny _ _ (field (.ref k) 0 >>= _) _ _ s
  refine wpAny_bind (wpAny_field g0 g2 (x := .str x t) rfl ?_)
  show wpAny _ _ (field (.ref k) 1 >>= _) _ _ s
  refine wpAny_bind (wpAny_field g0 g2 (x := .int i 0) rfl ?_)
  simp only [Int.toNat_natCast, hi]
  refine wpAny_bind (wpAny_rule (wpAny_bind (wpAny_setField g0 g2 (by simp) (wpAny_bind (wpAny_letGo ?_)))))
  show wpAny _ _ (newExc _ [] >>= _) _ _ _
  refine stop_at (k := k) (Heap.SameBut.update ..).extBut ht hx q
theorem end_range {k : Addr} {x left step : Int} (ht : HeatAt A s.heap) (hx : ∀ x1, A.handled = some (.ref x1) → x1 ≠ k) (hk : IsRangeIter s.heap k x left step) (hl : left ≤ 0)
    (q : ∀ g, Heap.ExtBut k s.heap g → Q none { s with heap := g }) : wpAny (model prog w) A (pyNext (.ref k)) Q E s := by
  have hT : s.TypeIs (.ref k) "range_iterator" := ⟨_, hk, rfl⟩
  unfold pyNext
  refine wpAny_bind (wpAny_attempt (wpAny_callSpecial?_slot (name := Str.ofString "__next__") hT F.slot_range_iterator_next (wpAny_call_entry F.slot_range_iterator_next hT F.entry_range_iterator_next ?_ (F.args_range_iterator_next_1 _))))
  show wpAny _ _ (field (.ref k) 0 >>= _) _ _ s
  refine wpAny_bind (wpAny_field hk rfl (x := rawInt x) rfl ?_)
  show wpAny _ _ (field (.ref k) 1 >>= _) _ _ s
  refine wpAny_bind (wpAny_field hk rfl (x := rawInt left) rfl ?_)
  show wpAny _ _ (field (.ref k) 2 >>= _) _ _ s
  refine wpAny_bind (wpAny_field hk rfl (x := rawInt step) rfl ?_)
  show wpAny _ _ (if left ≤ 0 then _ else _) _ _ s
  rw [if_pos hl]
  refine wpAny_bind (wpAny_rule (wpAny_bind ?_))
  show wpAny _ _ (newExc _ [] >>= _) _ _ _
  exact stop_at (k := k) (Heap.ExtBut.refl k s.heap) ht hx q
theorem end_rev {k l : Addr} (ht : HeatAt A s.heap) (hx : ∀ x1, A.handled = some (.ref x1) → x1 ≠ k) (hk : s.heap.IsRevIter k l (-1))
    (q : ∀ g, Heap.ExtBut k s.heap g → Q none { s with heap := g }) : wpAny (model prog w) A (pyNext (.ref k)) Q E s := by
  obtain ⟨o, g0, g1, g2⟩ := id hk
  unfold pyNext
  refine wpAny_bind (wpAny_attempt (wpAny_callSpecial?_slot (name := Str.ofString "__next__") hk.typeIs F.slot_lri_next (wpAny_call_entry F.slot_lri_next hk.typeIs F.entry_lri_next ?_ (F.args_lri_next_1 _))))
  unfold Builtin.«list_reverseiterator.__next__»
  refine wpAny_bind (wpAny_of_eq (a := (Value.ref k, [])) rfl ?_)
  try dsimp only
  refine wpAny_bind (wpAny_field g0 g2 (x := rawInt (-1)) rfl ?_)
  show wpAny _ _ (if (-1 : Int) < 0 then _ else _) _ _ _
  rw [if_pos (by decide)]
  refine wpAny_bind (wpAny_rule ?_)
  first
  | (show wpAny _ _ (newExc _ [] >>= _) _ _ _
     exact stop_at (k := k) (Heap.ExtBut.refl k s.heap) ht hx q)
  | (refine wpAny_bind ?_
     show wpAny _ _ (newExc _ [] >>= _) _ _ _
     exact stop_at (k := k) (Heap.ExtBut.refl k s.heap) ht hx q)
theorem nextOf_end {k l : Addr} {i : Nat} {its : Array Value} {Q : Value → Shared → Prop} (ht : HeatAt A s.heap) (hx : ∀ x1, A.handled = some (.ref x1) → x1 ≠ k) (hk : s.heap.IsListIter k l i) (hl : s.heap.IsList l its) (hi : its[i]? = none)
    (q : ∀ g e, Heap.ExtBut k s.heap g → (∃ o, g.get? e = some o ∧ o.cls = .type "StopIteration") → E (.ref e) { s with heap := g }) : wpAny (model prog w) A (Builtin.SmallTypes.nextOf (.ref k)) Q E s := by
  obtain ⟨o, g0, g1, g2⟩ := id hk
  obtain ⟨ol, l0, _, nl, l1⟩ := hl
  unfold Builtin.SmallTypes.nextOf
  refine wpAny_bind (wpAny_callSpecial?_slot (name := Str.ofString "__next__") hk.typeIs slot_listiter_next (wpAny_call_entry slot_listiter_next hk.typeIs entry_listiter_next ?_ (args_listiter_next _)))
  show wpAny _ _ (field (.ref k) 0 >>= _) _ _ s
  refine wpAny_bind (wpAny_field g0 g2 (x := .ref l) rfl ?_)
  show wpAny _ _ (if (Value.ref l == Value.none) = true then _ else _) _ _ _
  rw [if_neg (show ¬ ((Value.ref l == Value.none) = true) from nofun)]
  show wpAny _ _ (field (.ref k) 1 >>= _) _ _ s
  refine wpAny_bind (wpAny_field g0 g2 (x := .int i 0) rfl ?_)
  show wpAny _ _ (seqItems? (.ref l) >>= _) _ _ _
  refine wpAny_bind (wpAny_seqItems l0 l1 ?_)
  simp only [Int.toNat_natCast, hi]
  refine wpAny_bind (wpAny_rule (wpAny_bind (wpAny_setField g0 g2 (by simp) ?_)))
  show wpAny _ _ (newExc _ [] >>= _) _ _ _
  have key : ∀ {m : Heap} {α : Type} {Q0 : α → Shared → Prop}, Heap.ExtBut k s.heap m → wpAny (model prog w) A.in1 (newExc (.type "StopIteration") [] >>= fun e => (raiseNew e : Sem α)) Q0 E { s with heap := m } := fun {m α Q0} e1 =>
    stop_raise (A := A.in1) (s := { s with heap := m }) (ht.keep hx fun b o hb e => e1 b o hb e) fun a g kp hs => q g a (fun b o hb e => kp b o (e1 b o hb e)) hs
  exact key (Heap.SameBut.update ..).extBut
theorem end_enum {e k l : Addr} {i : Nat} {its : Array Value} {old : Value} (ht : HeatAt A s.heap) (hx : ∀ x1, A.handled = some (.ref x1) → x1 ≠ k) (he : IsEnum s.heap e k i old) (hk : s.heap.IsListIter k l i) (hl : s.heap.IsList l its) (hi : its[i]? = none)
    (q : ∀ g, Heap.ExtBut k s.heap g → Q none { s with heap := g }) : wpAny (model prog w) A (pyNext (.ref e)) Q E s := by
  have hT : s.TypeIs (.ref e) "enumerate" := ⟨_, he, rfl⟩
  unfold pyNext
  refine wpAny_bind (wpAny_attempt (wpAny_callSpecial?_slot (name := Str.ofString "__next__") hT F.slot_enumerate_next (wpAny_call_entry F.slot_enumerate_next hT F.entry_enumerate_next ?_ (F.args_enumerate_next_1 _))))
  show wpAny _ _ (field (.ref e) 2 >>= _) _ _ _
  refine wpAny_bind (wpAny_field he rfl (x := .ref k) rfl ?_)
  exact wpAny_bind (nextOf_end (A := A.in1) ht hx hk hl hi fun g a e1 hs => caught_stop (s := { s with heap := g }) hs (q g e1))
end

theorem Heat.ne {X : Cx} {pins : List (Addr × Obj)} {H : Hp} {k : Addr} (h : Heat X) (f : FpOk X pins H k) : ∀ x1, X.A.handled = some (.ref x1) → x1 ≠ k := by
  intro x1 hh e
  rcases h with h | ⟨p, h⟩
  · rw [h] at hh; cases hh
  · have e2 := h.hot.1
    rw [e2] at hh
    cases hh
    exact h.nex f e.symm

/-! ## an iterator over data -/
structure TurnB (P : Program) (w : World) (K : PySem.W.Frag) (tg : Expr) (F : Hp) (ds : List D) (fp : List Addr) (it : Addr) (tn : Nat → Heap → Prop) : Prop where
  mem : it ∈ fp
  obj : ∀ i h, tn i h → ∀ b ∈ fp, ∃ o, h.get? b = some o ∧ ∀ v, o.data ≠ .cell v
  keep : ∀ i h h', tn i h → (∀ b ∈ fp, ∀ o, h.get? b = some o → h'.get? b = some o) → tn i h'
  item : ∀ (X : Cx), X.prog = P → X.w = w → X.K = K → ∀ (i : Nat) (d : D) (pins : List (Addr × Obj)) (s : Shared) (σ : St) (H F1 : Hp) (E : Value → Shared → Prop), Inv X pins σ H s → (∀ b ∈ fp, FpOk X pins H b) → tn i s.heap → Le F F1 → Le F1 H → ds[i]? = some d →
    wpAny (model P w) X.A (pyNext (.ref it)) (fun r s1 => ∃ u, r = some u ∧
      wpAny (model P w) X.A (letOwnedTupleGo tg (.ref it) u) (fun _ s2 => ∃ x H' F', Inv X pins σ H' s2 ∧ RelV x u ∧ Rep K F' d x ∧ Le F1 F' ∧ (∀ F0 O, Hx K F0 F1 H O → Hx K F0 F' H' O) ∧ tn (i + 1) s2.heap ∧ ∀ b ∈ fp, H' b = none) E s1) E s
  done : ∀ (X : Cx), X.prog = P → X.w = w → X.K = K → Heat X → ∀ (i : Nat) (pins : List (Addr × Obj)) (s : Shared) (σ : St) (H F1 : Hp) (E : Value → Shared → Prop), Inv X pins σ H s → (∀ b ∈ fp, FpOk X pins H b) → tn i s.heap → Le F F1 → Le F1 H → ds.length ≤ i →
    wpAny (model P w) X.A (pyNext (.ref it)) (fun r s1 => r = none ∧ Inv X pins σ H s1) E s
  self : ∀ (A : Around) (i : Nat) (s : Shared) (Q : Value → Shared → Prop) (E : Value → Shared → Prop), tn i s.heap → Q (.ref it) s → wpAny (model P w) A (pyIter (.ref it)) Q E s
theorem one_mem {it : Addr} {tn : Heap → Prop} {h : Heap} {n : String} {vs : Array Value} (st : ∃ o, h.get? it = some o ∧ o.cls = .type n ∧ o.data = .fields vs) : ∀ b ∈ [it], ∃ o, h.get? b = some o ∧ ∀ v, o.data ≠ .cell v := fun b hb => by
  have e : b = it := by simpa using hb
  subst e
  obtain ⟨o, e, c, d⟩ := st
  exact ⟨o, e, fun v z => by rw [d] at z; cases z⟩
section
variable {P : Program} {w : World} {K : PySem.W.Frag} {tg : Expr} {F : Hp} {ds : List D}
theorem tb_list {a it : Addr} {xs : List V} (ha : F a = some (.lst xs)) (rp : Reps K F ds xs) : TurnB P w K tg F ds [it] it (fun i h => h.IsListIter it a i) where
  mem := by simp
  obj := fun i h st => one_mem (tn := fun _ => True) st
  keep := fun i h h' st k => st.at fun o e => k it (by simp) o e
  item := by
    intro X hP hw hK i d pins s σ H F1 E I hf st l1 l2 hd
    subst hP hw hK
    obtain ⟨x, hx, rx⟩ := rp.get hd
    have hq : SqL X.K H a xs := .inl (.inl (l2 _ _ (l1 _ _ ha)))
    obtain ⟨its, rv, p, hz⟩ := I.list hq
    obtain ⟨u, hu, ru⟩ := rv.get hx
    obtain ⟨f0, f1, f2, f3, f4, f5⟩ := hf it (by simp)
    refine wpAny_pyNext_list_item st p.isList (x := u) (by simpa using hu) fun g st' sb => ?_
    have I1 : Inv X pins σ H { s with heap := g } := I.turned (t' := s.toks) (fun b o hb e => (sb.2 b hb).trans e) f0 f1 f3 f4 f5
    obtain ⟨o, e, c, hdt⟩ := id st'
    exact ⟨u, rfl, go_of (s := { s with heap := g }) e c hdt (by decide) ⟨x, H, F1, I1, ru, rx.mono l1, Le.refl F1, fun _ _ h => h, st', fun b hb => (hf b hb).1⟩⟩
  done := by
    intro X hP hw hK ht i pins s σ H F1 E I hf st l1 l2 hd
    subst hP hw hK
    have hq : SqL X.K H a xs := .inl (.inl (l2 _ _ (l1 _ _ ha)))
    obtain ⟨its, rv, p, hz⟩ := I.list hq
    have hl := rv.length
    have hl2 := rp.length
    obtain ⟨f0, f1, f2, f3, f4, f5⟩ := hf it (by simp)
    exact end_list (ht.at I) (ht.ne (hf it (by simp))) st p.isList (by simp; omega) fun g eb => ⟨rfl, I.turned (t' := s.toks) (fun b o hb e => eb b o hb e) f0 f1 f3 f4 f5⟩
  self := fun _ _ _ _ _ st h => wpAny_pyIter_listiter st h
theorem tb_tup {a it : Addr} {xs : List V} (ha : SqT K F a xs) (rp : Reps K F ds xs) : TurnB P w K tg F ds [it] it (fun i h => h.IsTupleIter it a i) where
  mem := by simp
  obj := fun i h st => one_mem (tn := fun _ => True) st
  keep := fun i h h' st k => st.at fun o e => k it (by simp) o e
  item := by
    intro X hP hw hK i d pins s σ H F1 E I hf st l1 l2 hd
    subst hP hw hK
    obtain ⟨x, hx, rx⟩ := rp.get hd
    have hq : SqT X.K H a xs := (l1.trans l2).sqT ha
    obtain ⟨its, rv, p, hz⟩ := I.tuple hq
    obtain ⟨u, hu, ru⟩ := rv.get hx
    obtain ⟨f0, f1, f2, f3, f4, f5⟩ := hf it (by simp)
    refine wpAny_pyNext_tuple_item st (show s.heap.IsTuple a its.toArray from p) (x := u) (by simpa using hu) fun g st' sb => ?_
    have I1 : Inv X pins σ H { s with heap := g } := I.turned (t' := s.toks) (fun b o hb e => (sb.2 b hb).trans e) f0 f1 f3 f4 f5
    obtain ⟨o, e, c, hdt⟩ := id st'
    exact ⟨u, rfl, go_of (s := { s with heap := g }) e c hdt (by decide) ⟨x, H, F1, I1, ru, rx.mono l1, Le.refl F1, fun _ _ h => h, st', fun b hb => (hf b hb).1⟩⟩
  done := by
    intro X hP hw hK ht i pins s σ H F1 E I hf st l1 l2 hd
    subst hP hw hK
    have hq : SqT X.K H a xs := (l1.trans l2).sqT ha
    obtain ⟨its, rv, p, hz⟩ := I.tuple hq
    have hl := rv.length
    have hl2 := rp.length
    obtain ⟨f0, f1, f2, f3, f4, f5⟩ := hf it (by simp)
    exact end_tup (ht.at I) (ht.ne (hf it (by simp))) st (show s.heap.IsTuple a its.toArray from p) (by simp; omega) fun g eb => ⟨rfl, I.turned (t' := s.toks) (fun b o hb e => eb b o hb e) f0 f1 f3 f4 f5⟩
  self := fun _ _ _ _ _ st h => wpAny_pyIter_tupleiter st h
/-- lo, lo + 1, .. -/
def rngD (lo : Int) (n : Nat) : List D := (List.range n).map fun i : Nat => D.int (lo + (i : Int))
theorem rngD_get {lo : Int} {n i : Nat} {d : D} : (rngD lo n)[i]? = some d ↔ i < n ∧ d = .int (lo + (i : Int)) := by
  unfold rngD
  rw [List.getElem?_map]
  by_cases h : i < n
  · rw [List.getElem?_range h]
    exact ⟨fun e => by cases e; exact ⟨h, rfl⟩, fun e => by rw [e.2]; rfl⟩
  · rw [List.getElem?_eq_none (by rw [List.length_range]; omega)]
    exact ⟨fun e => (nomatch e), fun e => absurd e.1 h⟩
theorem rngD_len {lo : Int} {n : Nat} : (rngD lo n).length = n := by unfold rngD; rw [List.length_map, List.length_range]
theorem tb_range {it : Addr} {lo : Int} {n : Nat} : TurnB P w K tg F (rngD lo n) [it] it (fun i h => IsRangeIter h it (lo + (i : Nat)) ((n : Int) - (i : Nat)) 1) where
  mem := by simp
  obj := fun i h st b hb => by
    have e : b = it := by simpa using hb
    subst e
    exact ⟨_, st, fun v z => by
      have z' : Data.fields _ = Data.cell v := z
      cases z'⟩
  keep := fun i h h' st k => k it (by simp) _ st
  item := by
    intro X hP hw hK i d pins s σ H F1 E I hf st l1 l2 hd
    subst hP hw hK
    obtain ⟨hi, rfl⟩ := rngD_get.mp hd
    obtain ⟨f0, f1, f2, f3, f4, f5⟩ := hf it (by simp)
    refine wpAny_pyNext_range_item st (by omega) fun g st' sb => ?_
    have I1 : Inv X pins σ H { s with heap := g, toks := s.toks + 1 } := I.turned (fun b o hb e => (sb.2 b hb).trans e) f0 f1 f3 f4 f5
    have e1 : lo + (i : Int) + 1 = lo + ((i + 1 : Nat) : Int) := by omega
    have e2 : (n : Int) - (i : Int) - 1 = (n : Int) - ((i + 1 : Nat) : Int) := by omega
    rw [e1, e2] at st'
    exact ⟨_, rfl, go_of (s := { s with heap := g, toks := s.toks + 1 }) (n := "range_iterator") st' rfl rfl (by decide) ⟨.int (lo + i), H, F1, I1, ⟨_, rfl⟩, rep_int.mpr rfl, Le.refl F1, fun _ _ h => h, st', fun b hb => (hf b hb).1⟩⟩
  done := by
    intro X hP hw hK ht i pins s σ H F1 E I hf st l1 l2 hd
    subst hP hw hK
    rw [rngD_len] at hd
    obtain ⟨f0, f1, f2, f3, f4, f5⟩ := hf it (by simp)
    exact end_range (ht.at I) (ht.ne (hf it (by simp))) st (by omega) fun g eb => ⟨rfl, I.turned (t' := s.toks) (fun b o hb e => eb b o hb e) f0 f1 f3 f4 f5⟩
  self := fun _ _ _ _ _ st h => wpAny_pyIter_rangeiter st h
/-- the signs of a text -/
def sgD (x : Str) : List D := x.cps.toList.map fun c => D.str ⟨#[c]⟩
theorem tb_str {it : Addr} {x : Str} {t : Tok} {ty : String} (hty : ty = "str_ascii_iterator" ∨ ty = "str_iterator") : TurnB P w K tg F (sgD x) [it] it (fun i h => h.IsStrIter it ty x t i) where
  mem := by simp
  obj := fun i h st => one_mem (tn := fun _ => True) st
  keep := fun i h h' st k => let ⟨o, ho, r⟩ := st; ⟨o, k it (by simp) o ho, r⟩
  item := by
    intro X hP hw hK i d pins s σ H F1 E I hf st l1 l2 hd
    subst hP hw hK
    obtain ⟨f0, f1, f2, f3, f4, f5⟩ := hf it (by simp)
    obtain ⟨c, hc, rfl⟩ : ∃ c, x.cps[i]? = some c ∧ d = D.str ⟨#[c]⟩ := by
      unfold sgD at hd
      rw [List.getElem?_map] at hd
      cases e : x.cps.toList[i]? with
      | none => rw [e] at hd; cases hd
      | some c => rw [e] at hd; cases hd; exact ⟨c, by simpa using e, rfl⟩
    have hno : ["enumerate", "zip", "dict_itemiterator", "dict_reverseitemiterator", "odict_iterator", "itertools.zip_longest", "itertools.pairwise"].contains ty = false := by rcases hty with e | e <;> rw [e] <;> decide
    have fin : ∀ g, g.IsStrIter it ty x t (i + 1) → Heap.SameBut it s.heap g → ∃ u, some (Value.str ⟨#[c]⟩ s.toks) = some u ∧
        wpAny (model X.prog X.w) X.A (letOwnedTupleGo tg (.ref it) u) (fun _ s2 => ∃ x H' F', Inv X pins σ H' s2 ∧ RelV x u ∧ Rep X.K F' (.str ⟨#[c]⟩) x ∧ Le F1 F' ∧ (∀ F0 O, Hx X.K F0 F1 H O → Hx X.K F0 F' H' O) ∧ s2.heap.IsStrIter it ty _ t (i + 1) ∧ ∀ b ∈ [it], H' b = none) E { s with heap := g, toks := s.toks + 1 } := fun g st' sb => by
      have I1 : Inv X pins σ H { s with heap := g, toks := s.toks + 1 } := I.turned (fun b o hb e => (sb.2 b hb).trans e) f0 f1 f3 f4 f5
      obtain ⟨o, e, c', hdt⟩ := id st'
      exact ⟨_, rfl, go_of (s := { s with heap := g, toks := s.toks + 1 }) e c' hdt hno ⟨.str ⟨#[c]⟩, H, F1, I1, ⟨_, rfl⟩, rep_str.mpr rfl, Le.refl F1, fun _ _ h => h, st', fun b hb => (hf b hb).1⟩⟩
    rcases hty with e | e
    · subst e; exact wpAny_pyNext_ascii_item st hc fin
    · subst e; exact wpAny_pyNext_wide_item st hc fin
  done := by
    intro X hP hw hK ht i pins s σ H F1 E I hf st l1 l2 hd
    subst hP hw hK
    have hx : x.cps[i]? = none := Array.getElem?_eq_none (by unfold sgD at hd; simpa using hd)
    obtain ⟨f0, f1, f2, f3, f4, f5⟩ := hf it (by simp)
    rcases hty with e | e
    · subst e; exact end_ascii (ht.at I) (ht.ne (hf it (by simp))) st hx fun g eb => ⟨rfl, I.turned (t' := s.toks) (fun b o hb e => eb b o hb e) f0 f1 f3 f4 f5⟩
    · subst e; exact end_wide (ht.at I) (ht.ne (hf it (by simp))) st hx fun g eb => ⟨rfl, I.turned (t' := s.toks) (fun b o hb e => eb b o hb e) f0 f1 f3 f4 f5⟩
  self := fun A i s Q E st h => by
    rcases hty with e | e
    · subst e; exact wpAny_pyIter_striter_ascii st h
    · subst e; exact wpAny_pyIter_striter_wide st h
theorem tb_rev {a it : Addr} {xs : List V} (ha : F a = some (.lst xs)) (rp : Reps K F ds xs) : TurnB P w K tg F ds.reverse [it] it (fun i h => i ≤ xs.length ∧ h.IsRevIter it a ((xs.length : Int) - 1 - (i : Nat))) where
  mem := by simp
  obj := fun i h st => one_mem (tn := fun _ => True) st.2
  keep := fun i h h' st k => ⟨st.1, st.2.at fun o e => k it (by simp) o e⟩
  item := by
    intro X hP hw hK i d pins s σ H F1 E I hf st l1 l2 hd
    subst hP hw hK
    have hl2 := rp.length
    obtain ⟨x, hx, rx⟩ := rp.reverse.get hd
    have hi : i < xs.length := by
      obtain ⟨h1, _⟩ := List.getElem?_eq_some_iff.mp hx
      simpa using h1
    rw [List.getElem?_reverse hi] at hx
    have hq : SqL X.K H a xs := .inl (.inl (l2 _ _ (l1 _ _ ha)))
    obtain ⟨its, rv, p, hz⟩ := I.list hq
    obtain ⟨u, hu, ru⟩ := rv.get hx
    obtain ⟨f0, f1, f2, f3, f4, f5⟩ := hf it (by simp)
    obtain ⟨_, hit⟩ := st
    rw [show (xs.length : Int) - 1 - ((i : Nat) : Int) = ((xs.length - 1 - i : Nat) : Int) by omega] at hit
    refine wpAny_pyNext_rev_item hit p.isList (x := u) (by simpa using hu) fun g st' sb => ?_
    rw [show ((xs.length - 1 - i : Nat) : Int) - 1 = (xs.length : Int) - 1 - ((i + 1 : Nat) : Int) by omega] at st'
    have I1 : Inv X pins σ H { s with heap := g } := I.turned (t' := s.toks) (fun b o hb e => (sb.2 b hb).trans e) f0 f1 f3 f4 f5
    obtain ⟨o, e, c, hdt⟩ := id st'
    exact ⟨u, rfl, go_of (s := { s with heap := g }) e c hdt (by decide) ⟨x, H, F1, I1, ru, rx.mono l1, Le.refl F1, fun _ _ h => h, ⟨hi, st'⟩, fun b hb => (hf b hb).1⟩⟩
  done := by
    intro X hP hw hK ht i pins s σ H F1 E I hf st l1 l2 hd
    subst hP hw hK
    obtain ⟨f0, f1, f2, f3, f4, f5⟩ := hf it (by simp)
    obtain ⟨hin, hit⟩ := st
    rw [List.length_reverse, rp.length] at hd
    rw [show (xs.length : Int) - 1 - ((i : Nat) : Int) = -1 by omega] at hit
    exact end_rev (ht.at I) (ht.ne (hf it (by simp))) hit fun g eb => ⟨rfl, I.turned (t' := s.toks) (fun b o hb e => eb b o hb e) f0 f1 f3 f4 f5⟩
  self := fun A i s Q E st h => wpAny_pyIter_revIter st.2 h
/-- the pairs of a list's items with their numbers -/
def enD (ds : List D) : List D := (ds.zipIdx).map fun p => D.tup [.int (p.2 : Nat), p.1]
theorem enD_get {i : Nat} {d : D} (h : (enD ds)[i]? = some d) : ∃ e, ds[i]? = some e ∧ d = .tup [.int (i : Nat), e] := by
  unfold enD at h
  rw [List.getElem?_map, List.getElem?_zipIdx] at h
  cases q : ds[i]? with
  | none => rw [q] at h; cases h
  | some e => rw [q] at h; simp at h; exact ⟨e, rfl, h.symm⟩
theorem enD_len : (enD ds).length = ds.length := by unfold enD; rw [List.length_map, List.length_zipIdx]
theorem tb_enum {a e it : Addr} {xs : List V} {elts : List Expr} {kk : Nat} {tpos : Pos} (ha : F a = some (.lst xs)) (rp : Reps K F ds xs) : TurnB P w K (.Tuple elts kk tpos) F (enD ds) [e, it] e (fun i h => (∃ old, IsEnum h e it ((i : Nat) : Int) old) ∧ h.IsListIter it a i ∧ e ≠ it) where
  mem := by simp
  obj := fun i h st b hb => by
    obtain ⟨⟨old, he⟩, ⟨o, ho, hc, hd⟩, _⟩ := st
    have e' : b = e ∨ b = it := by simpa using hb
    rcases e' with z | z
    · rw [z]; exact ⟨_, he, fun v q => nomatch q⟩
    · rw [z]; exact ⟨o, ho, fun v q => by rw [hd] at q; cases q⟩
  keep := fun i h h' st k => let ⟨⟨old, he⟩, hi, hne⟩ := st; ⟨⟨old, k e (by simp) _ he⟩, hi.at fun o q => k it (by simp) o q, hne⟩
  item := by
    intro X hP hw hK i d pins s σ H F1 E I hf st l1 l2 hd
    subst hP hw hK
    obtain ⟨d', hd', rfl⟩ := enD_get hd
    obtain ⟨x, hx, rx⟩ := rp.get hd'
    have hq : SqL X.K H a xs := .inl (.inl (l2 _ _ (l1 _ _ ha)))
    obtain ⟨⟨old, he⟩, hit, hne⟩ := st
    obtain ⟨its, rv, p, hz⟩ := I.list hq
    obtain ⟨u, hu, ru⟩ := rv.get hx
    have hel : e < s.heap.objs.size := Heap.lt_size he
    have hil : it < s.heap.objs.size := by obtain ⟨_, q, _⟩ := hit; exact Heap.lt_size q
    refine wpAny_pyNext_enum_item he hit p.isList (x := u) (by simpa using hu) hne fun g ho hit' hT hsz hk => ?_
    refine ⟨_, rfl, wpAny_letOwnedTupleGo_enum (s := { s with heap := g, toks := s.toks + 1 }) ho fun g2 he' sb => ?_⟩
    have hT2 : g2.get? s.heap.objs.size = some { cls := .type "tuple", data := .seq #[.int i s.toks, u] } := (sb.2 _ (Nat.ne_of_gt hel)).trans hT
    have new : ObjOk X.prog X.w (upd H s.heap.objs.size (.tup [.int (i : Nat), x])) g2 s.heap.objs.size (.tup [.int (i : Nat), x]) :=
      ⟨by show 2 ≤ sizeLine; decide, [.int i s.toks, u], .cons ⟨_, rfl⟩ (.cons ru .nil), ⟨_, hT2, rfl, _, rfl⟩⟩
    have I1 : Inv X pins σ (upd H s.heap.objs.size (.tup [.int (i : Nat), x])) { s with heap := g2, toks := s.toks + 1 } :=
      I.turnedNew (ch := [e, it]) (fun b ob hb q => (sb.2 b (fun z => hb (by simp [z]))).trans (hk b ob (fun z => hb (by simp [z])) (fun z => hb (by simp [z])) q)) hf (Nat.le_refl _) new
    have hT0 : H s.heap.objs.size = none := I.hok.fresh (Nat.le_refl _)
    have l3 : Le F1 (upd F1 s.heap.objs.size (.tup [.int (i : Nat), x])) := fun b o q => by rw [upd_ne (ne_of_none q (l2.free hT0))]; exact q
    refine ⟨.ref s.heap.objs.size, _, upd F1 s.heap.objs.size (.tup [.int (i : Nat), x]), I1, rfl, rep_tup.mpr ⟨_, _, rfl, .inl (.inl upd_same), .cons (rep_int.mpr rfl) (.cons (rx.mono (l1.trans l3)) .nil)⟩, l3, fun F0 O hx => (hx.new hT0 _).1, ⟨⟨u, ?_⟩, hit'.at fun o q => (sb.2 it (Ne.symm hne)).trans q, hne⟩, fun b hb => ?_⟩
    · rw [show ((i + 1 : Nat) : Int) = (i : Int) + 1 by omega]; exact he'
    · have hb' : b < s.heap.objs.size := by
        have e' : b = e ∨ b = it := by simpa using hb
        rcases e' with z | z
        · rw [z]; exact hel
        · rw [z]; exact hil
      rw [upd_ne (Nat.ne_of_lt hb')]
      exact (hf b hb).1
  done := by
    intro X hP hw hK ht i pins s σ H F1 E I hf st l1 l2 hd
    subst hP hw hK
    obtain ⟨⟨old, he⟩, hit, hne⟩ := st
    have hq : SqL X.K H a xs := .inl (.inl (l2 _ _ (l1 _ _ ha)))
    obtain ⟨its, rv, p, hz⟩ := I.list hq
    have hl := rv.length
    rw [enD_len, rp.length] at hd
    obtain ⟨f0, f1, f2, f3, f4, f5⟩ := hf it (by simp)
    exact end_enum (ht.at I) (ht.ne (hf it (by simp))) he hit p.isList (by simp; omega) fun g eb => ⟨rfl, I.turned (t' := s.toks) (fun b o hb e => eb b o hb e) f0 f1 f3 f4 f5⟩
  self := fun A i s Q E st h => let ⟨⟨_, he⟩, _⟩ := st; wpAny_pyIter_enum he h
end
end K97
/-! # Part G: for loops; list comprehensions -/
namespace K97
open PySem PySem.Spec PyProof.Rows L2

/-- an iterator over the data ds has come -/
def PIB (X : Cx) (pins : List (Addr × Obj)) (σ : St) (tg : Expr) (F0 F : Hp) (Q : List D → Om → Prop) (v : Value) (s : Shared) : Prop :=
  ∃ (it : Addr) (fp : List Addr) (tn : Nat → Heap → Prop) (ds : List D) (O' : Om) (F' H' : Hp), v = .ref it ∧ Inv X pins σ H' s ∧ TurnB X.prog X.w X.K tg F' ds fp it tn ∧ tn 0 s.heap ∧ (∀ b ∈ fp, FpOk X pins H' b) ∧ Q ds O' ∧ Hx X.K F0 F' H' O' ∧ Le F F'
def Iv (X : Cx) (F0 : Hp) (tg iter : Expr) (r : Rho) (O : Om) (Q : List D → Om → Prop) : Prop := ∀ pins s σ H F, Inv X pins σ H s → Hx X.K F0 F H O → En X.K F r σ →
  wpAny (model X.prog X.w) X.A (eval iter X.env) (fun v s1 => wpAny (model X.prog X.w) X.A (pyIter v) (PIB X pins σ tg F0 F Q) X.xe s1) X.xe s
section
variable {X : Cx} {F0 F : Hp} {r : Rho} {O : Om} {tg e a b iter : Expr} {Q : List D → Om → Prop}
theorem pib_one {pins : List (Addr × Obj)} {σ : St} {H F1 : Hp} {s : Shared} {tn : Nat → Heap → Prop} {tk : Nat} {ds : List D} (I : Inv X pins σ H s) (o : Obj) (T : TurnB X.prog X.w X.K tg F1 ds [s.heap.objs.size] s.heap.objs.size tn) (st : tn 0 (s.heap.push o))
    (q : Q ds O) (hx : Hx X.K F0 F1 H O) (l : Le F F1) : PIB X pins σ tg F0 F Q (.ref s.heap.objs.size) { s with heap := s.heap.push o, toks := tk } := by
  refine ⟨_, _, tn, ds, O, F1, H, rfl, I.kept fun b ob e => Heap.get?_push_of_some _ e, T, st, fun b hb => ?_, q, hx, l⟩
  have e : b = s.heap.objs.size := by simpa using hb
  subst e
  exact I.fpOk (Nat.le_refl _) (I.hok.fresh (Nat.le_refl _))
/-- what may be walked -/
def itD : D → Option (List D)
  | .lst ds => some ds
  | .tup ds => some ds
  | .str x => some (sgD x)
  | _ => none
theorem iv_val (h : Ev X F0 e r O fun d O1 => ∃ ds, itD d = some ds ∧ Q ds O1) : Iv X F0 tg e r O Q := by
  intro pins s σ H F I hx en
  refine thn (h σ H F hx en pins s I) fun u s1 ⟨v, H1, I1, rv, d, O1, F1, ⟨ds, hd, q⟩, rp, hx1, l1⟩ => ?_
  cases d with
  | lst es =>
    cases hd
    obtain ⟨l, xs, rfl, h1, h2⟩ := rep_lst.mp rp
    cases rv
    obtain ⟨its, rv, p, hz⟩ := I1.list (.inl (.inl (hx1.fh _ _ h1)))
    exact wpAny_pyIter_list p.isList (pib_one (tk := s1.toks) I1 _ (tb_list h1 h2) ⟨_, Heap.get?_push_size _ rfl, rfl, rfl⟩ q hx1 l1)
  | tup es =>
    cases hd
    obtain ⟨l, xs, rfl, h1, h2⟩ := rep_tup.mp rp
    cases rv
    obtain ⟨its, rv, p, hz⟩ := I1.tuple (hx1.fh.sqT h1)
    exact wpAny_pyIter_tuple (show s1.heap.IsTuple l its.toArray from p) (pib_one (tk := s1.toks) I1 _ (tb_tup h1 h2) ⟨_, Heap.get?_push_size _ rfl, rfl, rfl⟩ q hx1 l1)
  | str x =>
    cases hd
    rw [rep_str.mp rp] at rv
    obtain ⟨t, rfl⟩ := rv
    cases ha : x.cps.all (· < 128)
    · exact wpAny_pyIter_wide ha (pib_one (tk := s1.toks) I1 _ (tb_str (ty := "str_iterator") (.inr rfl)) ⟨_, Heap.get?_push_size _ rfl, rfl, rfl⟩ q hx1 l1)
    · exact wpAny_pyIter_ascii ha (pib_one (tk := s1.toks) I1 _ (tb_str (ty := "str_ascii_iterator") (.inl rfl)) ⟨_, Heap.get?_push_size _ rfl, rfl, rfl⟩ q hx1 l1)
  | _ => cases hd
def SmI (i : Int) : Prop := -(2 ^ 62) ≤ i ∧ i < 2 ^ 62
theorem range_ib {pins : List (Addr × Obj)} {σ : St} {H F1 : Hp} {s : Shared} {E : Value → Shared → Prop} {lo hi : Int} {t u v : Tok} {tk : Nat} (I : Inv X pins σ H s) (h1 : SmI lo) (h2 : SmI hi) (q : Q (rngD lo (hi - lo).toNat) O) (hx : Hx X.K F0 F1 H O) (l : Le F F1) :
    wpAny (model X.prog X.w) X.A (pyIter (.ref s.heap.objs.size)) (PIB X pins σ tg F0 F Q) E { s with heap := s.heap.push { cls := .type "range", data := .fields #[.int lo t, .int hi u, .int 1 v] }, toks := tk } := by
  refine wpAny_pyIter_range (IsRange.new ..) (small_one h1.1 h1.2 h2.1 h2.2) ?_
  have I1 : Inv X pins σ H { s with heap := s.heap.push { cls := .type "range", data := .fields #[.int lo t, .int hi u, .int 1 v] }, toks := tk } := I.kept fun b o e => Heap.get?_push_of_some _ e
  refine pib_one (tk := tk) I1 _ tb_range ?_ q hx l
  have e1 : lo + ((0 : Nat) : Int) = lo := by simp
  have e2 : (((hi - lo).toNat : Nat) : Int) - ((0 : Nat) : Int) = Builtin.Range.rangeSize lo hi 1 := by rw [rangeSize_one]; split <;> omega
  show IsRangeIter _ _ (lo + ((0 : Nat) : Int)) ((((hi - lo).toNat : Nat) : Int) - ((0 : Nat) : Int)) 1
  rw [e1, e2]
  exact Heap.get?_push_size _ rfl
theorem iv_range1 {p pos : Pos} (h : Ev X F0 a r O fun d O1 => ∃ j, d = .int j ∧ SmI j ∧ Q (rngD 0 j.toNat) O1) (hm : X.mg "range" = none) (hg : Gl X "range" := by rfl) (hs : starEach [a] X.env = [(false, eval a X.env)] := by rfl) : Iv X F0 tg (.Call (.Name "range" p) [a] [] pos) r O Q := by
  intro pins s σ H F I hx en
  have ha : Av X F0 [a] r O fun ds O1 => ∃ j, ds = [.int j] ∧ SmI j ∧ Q (rngD 0 j.toNat) O1 := av_cons (h.mono fun d O' ⟨j, e1, e2⟩ => av_nil ⟨j, by rw [e1], e2⟩) hs
  refine Call_ (ld_blt I hg hm boot_range (PyProof.Rows.callWith_type1 (thn (ha σ H F hx en pos pins s I) fun us s1 ⟨vs, H1, I1, rv, ds, O1, F1, ⟨j, e, hj, q⟩, rp, hx1, l1⟩ => ?_) hs rfl))
  subst e
  obtain ⟨v, rfl, r1⟩ := reps1 rp
  cases rv with
  | cons rw1 rr =>
    cases rr
    rw [rep_int.mp r1] at rw1
    obtain ⟨t, rfl⟩ := rw1
    exact call_range_1 (range_ib I1 (by constructor <;> decide) hj (by simpa using q) hx1 l1)
theorem iv_range2 {p pos : Pos} (h : Ev X F0 a r O fun d O1 => ∃ i, d = .int i ∧ SmI i ∧ Ev X F0 b r O1 fun d O2 => ∃ j, d = .int j ∧ SmI j ∧ Q (rngD i (j - i).toNat) O2) (hm : X.mg "range" = none) (hg : Gl X "range" := by rfl)
    (hs : starEach [a, b] X.env = [(false, eval a X.env), (false, eval b X.env)] := by rfl) (hs2 : starEach [b] X.env = [(false, eval b X.env)] := by rfl) : Iv X F0 tg (.Call (.Name "range" p) [a, b] [] pos) r O Q := by
  intro pins s σ H F I hx en
  have ha : Av X F0 [a, b] r O fun ds O1 => ∃ i j, ds = [.int i, .int j] ∧ SmI i ∧ SmI j ∧ Q (rngD i (j - i).toNat) O1 :=
    av_cons (h.mono fun d O' ⟨i, e1, e2, e3⟩ => av_cons (e3.mono fun d' O'' ⟨j, e4, e5, e6⟩ => av_nil ⟨i, j, by rw [e1, e4], e2, e5, e6⟩) hs2) (by rw [hs, hs2])
  refine Call_ (ld_blt I hg hm boot_range (PyProof.Rows.callWith_type1 (thn (ha σ H F hx en pos pins s I) fun us s1 ⟨vs, H1, I1, rv, ds, O1, F1, ⟨i, j, e, hi, hj, q⟩, rp, hx1, l1⟩ => ?_) (by rw [hs, hs2]) (by rw [hs2]; rfl)))
  subst e
  obtain ⟨v, v', rfl, r1, r2⟩ := reps2 rp
  cases rv with
  | cons rw1 rr =>
    cases rr with
    | cons rw2 rr =>
      cases rr
      rw [rep_int.mp r1] at rw1
      rw [rep_int.mp r2] at rw2
      obtain ⟨t, rfl⟩ := rw1
      obtain ⟨t', rfl⟩ := rw2
      exact call_range_2 (range_ib I1 hi hj q hx1 l1)
theorem iv_reversed {p pos : Pos} (h : Ev X F0 e r O fun d O1 => ∃ ds, d = .lst ds ∧ Q ds.reverse O1) (hm : X.mg "reversed" = none) (hg : Gl X "reversed" := by rfl) (hs : starEach [e] X.env = [(false, eval e X.env)] := by rfl) : Iv X F0 tg (.Call (.Name "reversed" p) [e] [] pos) r O Q := by
  intro pins s σ H F I hx en
  have ha : Av X F0 [e] r O fun ds O1 => ∃ es, ds = [.lst es] ∧ Q es.reverse O1 := av_cons (h.mono fun d O' ⟨j, e1, e2⟩ => av_nil ⟨j, by rw [e1], e2⟩) hs
  refine Call_ (ld_blt I hg hm PyProof.Rows.boot_reversed (PyProof.Rows.callWith_type1 (thn (ha σ H F hx en pos pins s I) fun us s1 ⟨vs, H1, I1, rv, ds, O1, F1, ⟨es, e, q⟩, rp, hx1, l1⟩ => ?_) hs rfl))
  subst e
  obtain ⟨v, rfl, r1⟩ := reps1 rp
  obtain ⟨l, xs, rfl, h1, h2⟩ := rep_lst.mp r1
  cases rv with
  | cons rw1 rr =>
    cases rr
    cases rw1
    obtain ⟨its, rv, p', hz⟩ := I1.list (.inl (.inl (hx1.fh _ _ h1)))
    have hl := rv.length
    have e1 : ((its.toArray.size : Nat) : Int) - 1 = (xs.length : Int) - 1 - ((0 : Nat) : Int) := by simp only [List.size_toArray]; omega
    refine call_reversed_list p'.isList (wpAny_pyIter_revIter (l := l) (i := ((its.toArray.size : Nat) : Int) - 1) ⟨_, Heap.get?_push_size _ rfl, rfl, rfl⟩ ?_)
    refine pib_one (tk := s1.toks) I1 _ (tb_rev h1 h2) ⟨Nat.zero_le _, ?_⟩ q hx1 l1
    rw [← e1]
    exact ⟨_, Heap.get?_push_size _ rfl, rfl, rfl⟩
theorem iv_enum {p pos tpos : Pos} {elts : List Expr} {kk : Nat} (h : Ev X F0 e r O fun d O1 => ∃ ds, d = .lst ds ∧ Q (enD ds) O1) (hm : X.mg "enumerate" = none) (hg : Gl X "enumerate" := by rfl) (hs : starEach [e] X.env = [(false, eval e X.env)] := by rfl) :
    Iv X F0 (.Tuple elts kk tpos) (.Call (.Name "enumerate" p) [e] [] pos) r O Q := by
  intro pins s σ H F I hx en
  have ha : Av X F0 [e] r O fun ds O1 => ∃ es, ds = [.lst es] ∧ Q (enD es) O1 := av_cons (h.mono fun d O' ⟨j, e1, e2⟩ => av_nil ⟨j, by rw [e1], e2⟩) hs
  refine Call_ (ld_blt I hg hm boot_enumerate (PyProof.Rows.callWith_type1 (thn (ha σ H F hx en pos pins s I) fun us s1 ⟨vs, H1, I1, rv, ds, O1, F1, ⟨es, e, q⟩, rp, hx1, l1⟩ => ?_) hs rfl))
  subst e
  obtain ⟨v, rfl, r1⟩ := reps1 rp
  obtain ⟨l, xs, rfl, h1, h2⟩ := rep_lst.mp r1
  cases rv with
  | cons rw1 rr =>
    cases rr
    cases rw1
    obtain ⟨its, rv, p', hz⟩ := I1.list (.inl (.inl (hx1.fh _ _ h1)))
    refine call_enumerate_list p'.isList fun g he hit hsz hk => wpAny_pyIter_enum he ?_
    refine ⟨s1.heap.objs.size + 1, [s1.heap.objs.size + 1, s1.heap.objs.size], _, enD es, O1, F1, H1, rfl, I1.kept (t' := s1.toks) hk, tb_enum h1 h2, ⟨⟨.none, he⟩, hit, Nat.succ_ne_self _⟩, fun b hb => ?_, q, hx1, l1⟩
    have hle : s1.heap.objs.size ≤ b := by
      have e' : b = s1.heap.objs.size + 1 ∨ b = s1.heap.objs.size := by simpa using hb
      rcases e' with z | z
      · rw [z]; exact Nat.le_add_right _ _
      · rw [z]; exact Nat.le_refl _
    exact I1.fpOk hle (I1.hok.fresh hle)

/-! ## for -/
theorem s_for {C : Co} {body : List Stmt} {pos : Pos} (hp : PassesOwn (model X.prog X.w) X.A X.env X.xe) (ht : Heat X)
    (hi : Iv X F0 tg iter r O fun ds O1 => ∃ Pv : Nat → Rho → Om → Prop, Pv 0 r O1 ∧
      (∀ i d r2 O2, ds[i]? = some d → Pv i r2 O2 → Gv X F0 tg d r2 O2 fun r3 O3 => Ssv X F0 body r3 O3 { nx := Pv (i + 1), rt := C.rt, bk := C.nx, ct := Pv (i + 1) }) ∧ ∀ r2 O2, Pv ds.length r2 O2 → C.nx r2 O2)
    (hs : ∀ x, foldedSetIterable iter X.env x = pure x := by intro _; rfl) : Sv X F0 (.For tg iter body [] pos) r O C := by
  intro σ H F hx en pins s I
  refine wpAny_For (thn (hi pins s σ H F I hx en) fun v s1 h1 => thn h1 fun itv s2 h2 => ?_) hs
  obtain ⟨it, fp, tn, ds, O1, F1, H2, rfl, I2, T, st2, f2, ⟨Pv, p0, step, fin⟩, hx2, l2⟩ := h2
  have stat : ∀ {G : Hp}, (∀ b ∈ fp, G b = none) → ∀ b ∈ fp, FpOk X pins G b := fun hn b hb => ⟨hn b hb, (f2 b hb).2⟩
  refine codeAny_forLoop_any (fun n s' => ∃ i σ' H' F' O' r', Inv X pins σ' H' s' ∧ tn i s'.heap ∧ (∀ b ∈ fp, H' b = none) ∧ n = ds.length - i ∧ i ≤ ds.length ∧ Pv i r' O' ∧ Hx X.K F0 F' H' O' ∧ Le F1 F' ∧ En X.K F' r' σ') ?_ ds.length
    ⟨0, σ, H2, F1, O1, r, I2, st2, fun b hb => (f2 b hb).1, rfl, Nat.zero_le _, p0, hx2, Le.refl F1, en.mono l2⟩
  rintro n s3 ⟨i, σ3, H3, F3, O3, r3, I3, st3, fr3, rfl, hi3, p3, hx3, l3, en3⟩
  by_cases hlt : i < ds.length
  · have hd : ds[i]? = some ds[i] := List.getElem?_eq_getElem hlt
    refine wpAny_passesOwn hp (thn (T.item X rfl rfl rfl i ds[i] pins s3 σ3 H3 F3 X.xe I3 (stat fr3) st3 l3 hx3.fh hd) fun q s4 ⟨u, hr, h4⟩ => ?_)
    subst hr
    refine wpAny_passesOwn hp (thn h4 fun _ s5 ⟨x, H5, F5, I5, r5, rp5, l5, up5, st5, fr5⟩ => ?_)
    have J5 := I5.pinned (stat fr5) (T.obj _ _ st5)
    refine wpAny_passesOwn hp (thn (step i _ r3 O3 hd p3 σ3 H5 F5 x (up5 F0 O3 hx3) (en3.mono l5) rp5 _ s5 u J5 r5) fun _ s6 ⟨σ6, H6, I6, ra, Oa, Fa, qa, hxa, la, ena⟩ => ?_)
    refine wpAny_passesOwn hp (thn (qa σ6 H6 Fa hxa ena _ s6 I6) fun f s7 q7 => ?_)
    have again : ∀ {σ7 : St} {H7 : Hp}, Inv X (pins ++ pinsAt fp s5.heap) σ7 H7 s7 → Go X F0 Fa (Pv (i + 1)) σ7 H7 → ∃ m, m < ds.length - i ∧ ∃ i σ' H' F' O' r', Inv X pins σ' H' s7 ∧ tn i s7.heap ∧ (∀ b ∈ fp, H' b = none) ∧ m = ds.length - i ∧ i ≤ ds.length ∧ Pv i r' O' ∧ Hx X.K F0 F' H' O' ∧ Le F1 F' ∧ En X.K F' r' σ' := fun {σ7 H7} I7 g7 => by
      obtain ⟨rb, Ob, Fb, qb, hxb, lb, enb⟩ := g7
      refine ⟨ds.length - (i + 1), by omega, i + 1, σ7, H7, Fb, Ob, rb, I7.unpinned, T.keep _ _ _ st5 fun b hb o e => (I7.pin (b, o) (List.mem_append_right _ (List.mem_append_right _ (mem_pinsAt hb e)))).1, fun b hb => ?_, rfl, hlt, qb, hxb, ((l3.trans l5).trans la).trans lb, enb⟩
      obtain ⟨o, e, d⟩ := T.obj _ _ st5 b hb
      exact (I7.pin (b, o) (List.mem_append_right _ (List.mem_append_right _ (mem_pinsAt hb e)))).2.1
    have lf : Le F Fa := ((l2.trans l3).trans l5).trans la
    cases f with
    | next => obtain ⟨σ7, H7, I7, n7⟩ := q7; exact again I7 n7
    | cont => obtain ⟨σ7, H7, I7, n7⟩ := q7; exact again I7 n7
    | brk => obtain ⟨σ7, H7, I7, q7⟩ := q7; exact ⟨σ7, H7, I7.unpinned, q7.up lf⟩
    | ret v => obtain ⟨x7, σ7, H7, I7, r7, q7⟩ := q7; exact ⟨x7, σ7, H7, I7.unpinned, r7, q7.up lf⟩
  · refine wpAny_passesOwn hp (thn (T.done X rfl rfl rfl ht i pins s3 σ3 H3 F3 X.xe I3 (stat fr3) st3 l3 hx3.fh (by omega)) fun q s4 ⟨hr, I4⟩ => ?_)
    subst hr
    have e : i = ds.length := by omega
    subst e
    exact wpAny_execs_nil ⟨σ3, H3, I4, r3, O3, F3, fin r3 O3 p3, hx3, l2.trans l3, en3⟩
end
end K97
/-! # Part H: list comprehensions -/
namespace K97
open PySem PySem.Spec PyProof.Rows L2

/-- r2 knows what r1 knows -/
def Ext : Rho → Rho → Prop
  | [], [] => True
  | none :: a, _ :: b => Ext a b
  | some d :: a, e :: b => e = some d ∧ Ext a b
  | _, _ => False
theorem Ext.refl : ∀ r : Rho, Ext r r
  | [] => trivial
  | none :: a => Ext.refl a
  | some d :: a => ⟨rfl, Ext.refl a⟩
theorem Ext.at : ∀ {r1 r2 : Rho}, Ext r1 r2 → r1.length = r2.length ∧ ∀ (i : Nat) (d : D), r1[i]? = some (some d) → r2[i]? = some (some d)
  | [], [], _ => ⟨rfl, fun i d h => h⟩
  | [], _ :: _, h => h.elim
  | _ :: _, [], h => by rename_i a b; cases a <;> exact h.elim
  | none :: a, e :: b, h => by
    obtain ⟨h1, h2⟩ := Ext.at (r1 := a) (r2 := b) h
    refine ⟨by rw [List.length_cons, List.length_cons, h1], fun i d q => ?_⟩
    cases i with
    | zero => cases q
    | succ i => exact h2 i d q
  | some d' :: a, e :: b, h => by
    obtain ⟨h1, h2⟩ := Ext.at (r1 := a) (r2 := b) h.2
    refine ⟨by rw [List.length_cons, List.length_cons, h1], fun i d q => ?_⟩
    cases i with
    | zero => rw [h.1]; exact q
    | succ i => exact h2 i d q
theorem En.weak {K : PySem.W.Frag} {F : Hp} {r1 r2 : Rho} {σ : St} (h : En K F r2 σ) (e : Ext r1 r2) : En K F r1 σ :=
  ⟨by rw [h.len, e.at.1], fun i d q => h.at_ i d (e.at.2 i d q)⟩
/-- O2 knows what O1 knows -/
def Sup (O1 O2 : Om) : Prop := ∀ a o, O1 a = some o → O2 a = some o
theorem Sup.refl (O : Om) : Sup O O := fun _ _ h => h
theorem Sup.trans {O O1 O2 : Om} (a : Sup O O1) (b : Sup O1 O2) : Sup O O2 := fun x o h => b x o (a x o h)
theorem Sup.put {O : Om} {p : Addr} {o : Ow} (h : O p = none) : Sup O (O.put p o) := fun a u q => by
  rw [Om.put_ne (by rintro rfl; rw [h] at q; cases q)]; exact q
/-- a clause's tests -/
def tsS (X : Cx) (ifs : List Expr) : TT := fun σ H Q => ∀ pins s, Inv X pins σ H s → wpAny (model X.prog X.w) X.A (forIn ifs true fun c r => if r = true then do let ok ← isTrue c X.env (eval c X.env); pure (ForInStep.yield ok) else pure (ForInStep.yield r)) (TP X pins σ Q) X.xe s
def Tsv (X : Cx) (F0 : Hp) (ifs : List Expr) (r : Rho) (O : Om) (Q : Bool → Om → Prop) : Prop := ∀ σ H F, Hx X.K F0 F H O → En X.K F r σ → tsS X ifs σ H (Bo X F0 F Q)
theorem tsv_nil {X : Cx} {F0 : Hp} {r : Rho} {O : Om} {Q : Bool → Om → Prop} (q : Q true O) : Tsv X F0 [] r O Q := fun σ H F hx en pins s I => pts_nil.run pins s σ H _ I ⟨O, F, q, hx, Le.refl F⟩
theorem tsv_one {X : Cx} {F0 : Hp} {r : Rho} {O : Om} {Q : Bool → Om → Prop} {c : Expr} (h : Tv X F0 c r O Q) : Tsv X F0 [c] r O Q := fun σ H F hx en pins s I => (pts_one ptS).run pins s σ H _ I (h σ H F hx en)
/-- the body of a comprehension's block, for the item d: it is worth f d, nothing changes -/
def Bd (X : Cx) (F0 : Hp) (tg : Expr) (ifs : List Expr) (elt : Expr) (r : Rho) (O : Om) (d : D) (y : Option D) : Prop :=
  Gv X F0 tg d r O fun r2 O3 => O3 = O ∧ Ext r r2 ∧ Tsv X F0 ifs r2 O fun b O4 => O4 = O ∧ match y with
    | some y => b = true ∧ Ev X F0 elt r2 O fun z O5 => O5 = O ∧ z = y
    | none => b = false
theorem fm_take {f : D → Option D} : ∀ {ds : List D} {i : Nat} {d : D}, ds[i]? = some d → (ds.take (i + 1)).filterMap f = (ds.take i).filterMap f ++ (f d).toList := by
  intro ds i d h
  have hi : i < ds.length := (List.getElem?_eq_some_iff.mp h).1
  have e : ds.take (i + 1) = ds.take i ++ [d] := by
    rw [List.take_succ, h]; rfl
  rw [e, List.filterMap_append]
  have e2 : [d].filterMap f = (f d).toList := by
    cases q : f d with
    | none => rw [List.filterMap_cons, q]; rfl
    | some y => rw [List.filterMap_cons, q]; rfl
  rw [e2]
section
variable {X : Cx} {F0 F : Hp} {r : Rho} {O : Om} {tg iter elt : Expr} {ifs : List Expr} {scope : Scope} {own : List (Str × Nat)} {pos pos' : Pos}
/-- what a comprehension wants of its walk -/
def LcQ (X : Cx) (F0 : Hp) (tg : Expr) (ifs : List Expr) (elt : Expr) (scope : Scope) (own : List (Str × Nat)) (r : Rho) (Q : D → Om → Prop) : List D → Om → Prop := fun ds O1 =>
  ∃ f : D → Option D, ds.length ≤ 100000 ∧ Q (.lst (ds.filterMap f)) O1 ∧ ∀ (s : Shared) (H : Hp) (C : Addr) (cl : List (Str × Addr)) (fp : List Addr), Heat (X.blk s H scope (compEnvC scope cl C X.env) fp) →
    ∀ O2, Sup O1 O2 → ∀ d ∈ ds, Bd (X.blk s H scope (compEnvC scope cl C X.env) fp) F0 tg ifs elt (wip r (own.map (·.2))) O2 d (f d)
theorem comp_core {pins : List (Addr × Obj)} {s : Shared} {σ : St} {H : Hp} {Q : D → Om → Prop} {use : Option (Value → Sem Unit)} {Qf : Value → Shared → Prop}
    (hN : X.N.Nodup) (ht : Heat X) (I : Inv X pins σ H s) (hx : Hx X.K F0 F H O) (en : En X.K F r σ) (ok : BlkOk X.N X.env.scope scope own) (hs : ∀ x, foldedSetIterable iter X.env x = pure x)
    (hi : Iv X F0 tg iter r O (LcQ X F0 tg ifs elt scope own r Q))
    (hRR : ∀ L C s' m H', Inv X pins σ H' s' → Po X F0 F Q (.ref L) H' → s'.heap.Ns C m → FpOk X pins H' C → compPost (model X.prog X.w) X.A X.xe use Qf (.ref L) C (.ok .next) s') :
    wpAny (model X.prog X.w) X.A (comprehension (.ListComp elt [⟨tg, iter, ifs, 0⟩] scope pos) scope X.env pos' (newList []) false (eval iter X.env) use) Qf X.xe s := by
  have hfr : ∀ y ∈ scope.names, y.2 = .free → ∃ c, X.env.cells.lookup y.1 = some c := fun y hy e => (ok.free y hy e).elim (fun k => I.ok.has _ (.inl k)) fun k => I.ok.has _ (.inr k)
  refine wpAny_comprehension_free (use := use) rfl hs (closure_ok hfr) ok.kind (fun y hy e => by rw [ok.uniq y hy, e]) (thn (hi pins s σ H F I hx en) fun xv s1 h1 => thn h1 fun itv s2 h2 => ?_)
  obtain ⟨it, fp, tn, ds, O1, F1, H2, rfl, I2, T, st2, f2, ⟨f, hz, q, body⟩, hx2, l2⟩ := h2
  refine wpAny_newObj_type (newEnv_comp ?_) (by show 0 ≤ sizeLine; decide)
  generalize hL : s2.heap.objs.size = L
  have hLn : H2 L = none := I2.hok.fresh (Nat.le_of_eq hL)
  have hLo : O1 L = none := (hx2.gone hLn).2
  generalize hs3 : ({ s2 with heap := s2.heap.push { cls := .type "list", data := .seq ([] : List Value).toArray } } : Shared) = s3
  have hh3 : s3.heap = s2.heap.push { cls := .type "list", data := .seq ([] : List Value).toArray } := by rw [← hs3]
  have I3 : Inv X pins σ (upd H2 L (.lst [])) s3 := by
    rw [← hs3]
    refine I2.laid (t' := s2.toks) (fun b o e => Heap.get?_push_of_some _ e) (Nat.le_of_eq hL) ⟨Nat.zero_le _, [], 0, .nil, ?_⟩
    rw [← hL]
    exact Heap.get?_push_size _ rfl
  have hx3 : Hx X.K F0 F1 (upd H2 L (.lst [])) (O1.put L (.lst [])) := hx2.newL hLn .nil
  have lt2 : ∀ b ∈ fp, b < s2.heap.objs.size := fun b hb => let ⟨o, e, _⟩ := T.obj _ _ st2 b hb; Heap.lt_size e
  have f3 : ∀ b ∈ fp, FpOk X pins (upd H2 L (.lst [])) b ∧ b < s3.heap.objs.size := fun b hb => by
    refine ⟨⟨?_, (f2 b hb).2⟩, by rw [hh3, Heap.size_push]; exact Nat.lt_succ_of_lt (lt2 b hb)⟩
    rw [upd_ne (by rw [← hL]; exact Nat.ne_of_lt (lt2 b hb))]
    exact (f2 b hb).1
  have st3 : tn 0 s3.heap := T.keep _ _ _ st2 fun b _ o e => by rw [hh3]; exact Heap.get?_push_of_some _ e
  have I4 := block_start I3 ok hN f3
  have heat := ht.blk I3 (scope := scope) (cenv := compEnvC scope (cellsFrom (s3.heap.objs.size + 1) scope.names (cloFrom X.env.cells scope.names [])) s3.heap.objs.size X.env) (fp := fp) fun b hb => (f3 b hb).1
  have bod := body s3 (upd H2 L (.lst [])) s3.heap.objs.size (cellsFrom (s3.heap.objs.size + 1) scope.names (cloFrom X.env.cells scope.names [])) fp heat
  show codeAny _ _ (.compStart (.ListComp elt [⟨tg, iter, ifs, 0⟩] scope pos) 0 (.ref it) (.ref L) (compEnvC scope (cellsFrom (s3.heap.objs.size + 1) scope.names (cloFrom X.env.cells scope.names [])) s3.heap.objs.size X.env)) (compPost (model X.prog X.w) X.A X.xe use Qf (.ref L) s3.heap.objs.size) { s3 with heap := pushCells (s3.heap.push { cls := .type "dict", data := .dict #[] }) scope.names }
  have nf3 : ∀ b ∈ fp, (upd H2 L (.lst [])) b = none := fun b hb => (f3 b hb).1.1
  generalize hce : compEnvC scope (cellsFrom (s3.heap.objs.size + 1) scope.names (cloFrom X.env.cells scope.names [])) s3.heap.objs.size X.env = ce at I4 heat bod ⊢
  have hcl : ce.locals = s3.heap.objs.size := by subst hce; rfl
  generalize hH3 : upd H2 L (.lst []) = H3 at I3 I4 heat bod nf3 f3 hx3
  generalize hs4 : ({ s3 with heap := pushCells (s3.heap.push { cls := .type "dict", data := .dict #[] }) scope.names } : Shared) = s4 at I4 ⊢
  have st4 : tn 0 s4.heap := T.keep _ _ _ st3 fun b _ o e => by rw [← hs4]; exact pushCells_keeps _ _ _ _ (Heap.get?_push_of_some _ e)
  have stat : ∀ {σ' : St} {G : Hp} {s' : Shared}, Inv (X.blk s3 H3 scope ce fp) [] σ' G s' → (∀ b ∈ fp, G b = none) → ∀ b ∈ fp, FpOk (X.blk s3 H3 scope ce fp) [] G b := fun {σ' G s'} J hn b hb =>
    ⟨hn b hb, (J.ok.exf b hb).1, J.ok.exfs b hb, .inl hb, fun x c e => (J.ok.exf b hb).2 x c e, fun p hp => absurd (show p ∈ ([] : List (Addr × Obj)) ++ [] from hp) (by simp)⟩
  have loop : codeAny (model X.prog X.w) X.A (.compLoop (.ListComp elt [⟨tg, iter, ifs, 0⟩] scope pos) 0 (.ref it) (.ref L) ce) (compPost (model X.prog X.w) X.A X.xe use Qf (.ref L) s3.heap.objs.size) s4 := by
    refine compLoop_any (fun n s' => ∃ i σ' H' F', Inv (X.blk s3 H3 scope ce fp) [] σ' H' s' ∧ tn i s'.heap ∧ (∀ b ∈ fp, H' b = none) ∧ n = ds.length - i ∧ i ≤ ds.length ∧ Hx X.K F0 F' H' (O1.put L (.lst ((ds.take i).filterMap f))) ∧ Le F1 F' ∧ En X.K F' (wip r (own.map (·.2))) σ') ?_ ds.length
      ⟨0, _, H3, F1, I4, st4, nf3, rfl, Nat.zero_le _, hx3, Le.refl F1, (en.mono l2).wipe _⟩
    rintro n s5 ⟨i, σ5, H5, F5, I5, st5, n5, rfl, hi5, hx5, l5, en5⟩
    by_cases hlt : i < ds.length
    · have hd : ds[i]? = some ds[i] := List.getElem?_eq_getElem hlt
      have ti := T.item (X.blk s3 H3 scope ce fp) rfl rfl rfl i ds[i] [] s5 _ H5 F5 (fun _ _ => False) I5 (stat I5 n5) st5 l5 hx5.fh hd
      refine thnF ti fun q6 s6 ⟨u, hr, h6⟩ => ?_
      subst hr
      refine thnF h6 fun _ s7 ⟨x, H7, F7, I7, r7, rp7, l7, up7, st7, n7⟩ => ?_
      have J7 := I7.pinned (stat I7 n7) (T.obj _ _ st7)
      have b7 := bod _ (Sup.put (o := .lst ((ds.take i).filterMap f)) hLo) ds[i] (List.getElem_mem hlt) σ5 H7 F7 x (up7 F0 _ hx5) (en5.mono l7) rp7 _ s7 u J7 r7
      refine thnF b7 fun _ s8 ⟨σ8, H8, I8, r8, O8, F8, ⟨eO8, ex8, t8⟩, hx8, l8, en8⟩ => ?_
      subst eO8
      refine thnF (t8 σ8 H8 F8 hx8 en8 _ s8 I8) fun bb s9 ⟨H9, I9, O9, F9, ⟨eO9, q9⟩, hx9, l9⟩ => ?_
      subst eO9
      have fin : ∀ {s' : Shared} {H' F' : Hp}, Inv (X.blk s3 H3 scope ce fp) ([] ++ pinsAt fp s7.heap) σ8 H' s' → Hx X.K F0 F' H' (O1.put L (.lst ((ds.take (i + 1)).filterMap f))) → Le F9 F' →
          ∃ m, m < ds.length - i ∧ ∃ i σ' H' F', Inv (X.blk s3 H3 scope ce fp) [] σ' H' s' ∧ tn i s'.heap ∧ (∀ b ∈ fp, H' b = none) ∧ m = ds.length - i ∧ i ≤ ds.length ∧ Hx X.K F0 F' H' (O1.put L (.lst ((ds.take i).filterMap f))) ∧ Le F1 F' ∧ En X.K F' (wip r (own.map (·.2))) σ' := fun {s' H' F'} J hx' l' => by
        have pin' : ∀ b ∈ fp, ∀ o, s7.heap.get? b = some o → s'.heap.get? b = some o ∧ H' b = none := fun b hb o e =>
          let z := J.pin (b, o) (List.mem_append_right _ (List.mem_append_right _ (mem_pinsAt hb e)))
          ⟨z.1, z.2.1⟩
        refine ⟨ds.length - (i + 1), by omega, i + 1, σ8, H', F', J.unpinned (pins := []), T.keep _ _ _ st7 fun b hb o e => (pin' b hb o e).1, fun b hb => ?_, rfl, hlt, hx', (((l5.trans l7).trans l8).trans l9).trans l', (en8.mono (l9.trans l')).weak ex8⟩
        obtain ⟨o, e, _⟩ := T.obj _ _ st7 b hb
        exact (pin' b hb o e).2
      have et := fm_take (f := f) hd
      cases hf : f ds[i] with
      | none =>
        rw [hf] at q9 et
        have q9 : bb = false := q9
        subst q9
        simp only [Bool.false_eq_true, if_false]
        refine fin I9 ?_ (Le.refl F9)
        rw [et]
        simpa using hx9
      | some y =>
        rw [hf] at q9 et
        obtain ⟨rfl, q9⟩ := q9
        simp only [if_true]
        refine thnF (q9 σ8 H9 F9 hx9 (en8.mono l9) _ s9 I9) fun z s10 ⟨yv, H10, I10, r10, d10, O10, F10, ⟨eO10, ed10⟩, rp10, hx10, l10⟩ => ?_
        subst eO10 ed10
        obtain ⟨_, acc, ha, hra⟩ := hx10.om L _ Om.put_same
        have hz10 : acc.length < sizeLine := by
          rw [← hra.length, sizeLine_eq]
          have h1 := List.length_filterMap_le f (ds.take i)
          have h2 := List.length_take_le i ds
          omega
        refine app_ok (X := X.blk s3 H3 scope ce fp) I10 ha hz10 r10 fun s11 I11 => fin I11 ?_ l10
        rw [et]
        have := hx10.setL Om.put_same (hra.append (.cons rp10 .nil))
        rw [Om.put_put] at this
        exact this
    · have e : i = ds.length := by omega
      subst e
      refine thnF (T.done (X.blk s3 H3 scope ce fp) rfl rfl rfl heat ds.length [] s5 _ H5 F5 (fun _ _ => False) I5 (stat I5 n5) st5 l5 hx5.fh (Nat.le_refl _)) fun q6 s6 ⟨hr, I6⟩ => ?_
      subst hr
      have I7 : Inv X pins σ H5 s6 := I3.call' (ch := fp) I6.os I6.base I6.hok I6.bare fun b hb => ⟨(f3 b hb).1.2.2.2.1, (f3 b hb).1.2.1, (f3 b hb).1.2.2.2.2.1, (f3 b hb).1.2.2.2.2.2⟩
      have nC : H5 s3.heap.objs.size = none := by have z : H5 ce.locals = none := I6.free; rw [hcl] at z; exact z
      obtain ⟨m, hn, _⟩ := I6.loc
      have hn : s6.heap.Ns ce.locals m := hn
      rw [hcl] at hn
      rw [List.take_length] at hx5
      obtain ⟨F6, hx6, l6, rp6⟩ := hx5.frzL Om.put_same
      rw [Om.put_del hLo] at hx6
      exact hRR L s3.heap.objs.size s6 m H5 I7 ⟨_, O1, F6, q, rp6, hx6, (l2.trans l5).trans l6⟩ hn (I3.fpOk (Nat.le_refl _) nC)
  exact codeAny_compStart_list loop (T.self X.A 0 _ _ _ st4 loop)
/-- as a value -/
theorem ev_lc {Q : D → Om → Prop} (own : List (Str × Nat)) (hN : X.N.Nodup) (ht : Heat X) (hi : Iv X F0 tg iter r O (LcQ X F0 tg ifs elt scope own r Q)) (ok : BlkOk X.N X.env.scope scope own := by exact blkOk_by (by decide))
    (hs : ∀ x, foldedSetIterable iter X.env x = pure x := by intro _; rfl) : Ev X F0 (.ListComp elt [⟨tg, iter, ifs, 0⟩] scope pos) r O Q := by
  intro σ H F hx en pins s I
  rw [eval_ListComp]
  refine comp_core hN ht I hx en ok hs hi fun L C s' m H' I' q hn f => ⟨m, hn, fun g sb => ?_⟩
  obtain ⟨f0, f1, f2, f3, f4, f5⟩ := f
  exact ⟨.ref L, H', I'.turned (t' := s'.toks) (fun b o hb e => (sb.2 b hb).trans e) f0 f1 f3 f4 f5, rfl, q⟩
/-- name = [..] on one line, the name a local -/
theorem s_setLc {C : Co} {i : Nat} {y : Str} {py spos : Pos} (own : List (Str × Nat)) (hN : X.N.Nodup) (ht : Heat X) (hi : Iv X F0 tg iter r O (LcQ X F0 tg ifs elt scope own r fun d O1 => C.nx (r.set i (some d)) O1)) (hy : X.N[i]? = some y := by rfl) (hyl : X.env.scope.names.lookup y = some .local := by rfl)
    (hsw : swapsWith (.ListComp elt [⟨tg, iter, ifs, 0⟩] scope pos) (some (.Name y py)) spos.line X.env = pure true := by rfl) (ok : BlkOk X.N X.env.scope scope own := by exact blkOk_by (by decide))
    (hs : ∀ x, foldedSetIterable iter X.env x = pure x := by intro _; rfl) : Sv X F0 (.Assign [.Name y py] (.ListComp elt [⟨tg, iter, ifs, 0⟩] scope pos) spos) r O C := by
  intro σ H F hx en pins s I
  rw [exec_Assign_Name_used _ _ _ _ hsw]
  refine wpAny_bind (wpAny_standAt (wpAny_bind ?_))
  show wpAny _ X.A (do let _ ← comprehension (.ListComp elt [⟨tg, iter, ifs, 0⟩] scope pos) scope X.env (firstIterPos [⟨tg, iter, ifs, 0⟩] pos) (newList []) false (eval iter X.env) (some (assign (.Name y py) X.env))) _ _ s
  refine wpAny_bind (thn (comp_core (Qf := fun _ s' => SP X pins (ends X F0 F C) .next s') hN ht I hx en ok hs hi fun L C' s' m H' I' q hn f => ?_) fun _ s' hq => wpAny_pure (wpAny_pure hq))
  show wpAny _ _ (assign (.Name y py) X.env (.ref L)) _ _ _
  refine wpAny_assign_Name (store_ok2 (v := V.ref L) I' hN hy (.inl hyl) rfl (fun s2 I2 ⟨a, sb, ha⟩ => ?_) (.inr hyl))
  obtain ⟨f0, f1, f2, f3, f4, f5⟩ := f
  have haC : C' ≠ a := ha.elim (fun z => by rw [z]; exact f1) fun z e => f4 y a z e.symm
  refine ⟨m, hn.sameBut sb haC, fun g3 sb3 => ?_⟩
  obtain ⟨d, O1, F1, qd, rp, hx1, l1⟩ := q
  exact ⟨_, H', I2.turned (t' := s2.toks) (fun b o hb e => (sb3.2 b hb).trans e) f0 f1 f3 f4 f5, _, O1, F1, qd, hx1, l1, (en.mono l1).set rp i⟩
end
end K97
/-! # Part I: targets, unpacking, assignments -/
namespace K97
open PySem PySem.Spec PyProof.Rows L2

section
variable {prog : Program} {w : World} {A : Around} {s : Shared} {E : Value → Shared → Prop} {Q : List Value → Shared → Prop}
theorem HeatAt.new (ht : HeatAt A s.heap) : ∀ x1, A.handled = some (.ref x1) → x1 ≠ s.heap.objs.size := fun x1 hh e => by
  rcases ht with h | ⟨x2, h, o, vs, e1, _⟩
  · rw [h] at hh; cases hh
  · rw [h] at hh; cases hh
    rw [e] at e1
    exact absurd (Heap.lt_size e1) (Nat.lt_irrefl _)
theorem HeatAt.up {h h' : Heap} (ht : HeatAt A h) (k : ∀ b o, h.get? b = some o → h'.get? b = some o) : HeatAt A h' := by
  rcases ht with h | ⟨x2, h, o, vs, e1, r⟩
  · exact .inl h
  · exact .inr ⟨x2, h, o, vs, k _ _ e1, r⟩
theorem unp_tup {l : Addr} {its : Array Value} (ht : HeatAt A s.heap) (hl : s.heap.IsTuple l its) (q : ∀ g, Heap.ExtBut s.heap.objs.size s.heap g → Q its.toList { s with heap := g }) : wpAny (model prog w) A (unpackItems (.ref l) its.size none) Q E s := by
  have ne : l ≠ s.heap.objs.size := by obtain ⟨o, ho, _⟩ := hl; exact Nat.ne_of_lt (Heap.lt_size ho)
  unfold unpackItems notIterableAtAll
  refine wpAny_bind (wpAny_bind (wpAny_specialOf hl.typeIs F.slot_tuple_iter.lookup (wpAny_pure ?_)))
  simp only [Bool.false_eq_true, if_false]
  refine wpAny_bind (wpAny_holding (wpAny_pyIter_tuple hl (wpAny_bind (wpAny_holding (wpAny_draw_tuple ne its.size 0 _ _ ⟨_, Heap.get?_push_size _ rfl, rfl, rfl⟩ (hl.push _) (by omega) fun g1 i1 s1 => ?_)))))
  have all : List.take its.size (List.drop 0 its.toList) = its.toList := by rw [List.drop_zero]; exact List.take_of_length_le (by simp)
  rw [all, if_neg (by simp)]
  have kp : ∀ b o, s.heap.get? b = some o → g1.get? b = some o := fun b o e => s1.extBut b o (Nat.ne_of_lt (Heap.lt_size e)) (Heap.get?_push_of_some _ e)
  refine wpAny_bind (wpAny_holding (end_tup (s := { s with heap := g1 }) (ht.up kp) ht.new i1 ((hl.push _).extBut s1.extBut ne) (by simp) fun g2 x2 => ?_))
  simp only [Option.isSome_none, Bool.false_eq_true, if_false]
  exact wpAny_pure (q g2 fun b o hb e => x2 b o hb (kp b o e))
theorem unp_lst {l : Addr} {its : Array Value} (ht : HeatAt A s.heap) (hl : s.heap.IsList l its) (q : ∀ g, Heap.ExtBut s.heap.objs.size s.heap g → Q its.toList { s with heap := g }) : wpAny (model prog w) A (unpackItems (.ref l) its.size none) Q E s := by
  have ne : l ≠ s.heap.objs.size := by obtain ⟨o, ho, _⟩ := hl; exact Nat.ne_of_lt (Heap.lt_size ho)
  unfold unpackItems notIterableAtAll
  refine wpAny_bind (wpAny_bind (wpAny_specialOf hl.typeIs slot_list_iter.lookup (wpAny_pure ?_)))
  simp only [Bool.false_eq_true, if_false]
  refine wpAny_bind (wpAny_holding (wpAny_pyIter_list hl (wpAny_bind (wpAny_holding (PySem.W.kun_draw ne its.size 0 _ _ ⟨_, Heap.get?_push_size _ rfl, rfl, rfl⟩ (hl.push _) (by omega) fun g1 i1 s1 => ?_)))))
  have all : List.take its.size (List.drop 0 its.toList) = its.toList := by rw [List.drop_zero]; exact List.take_of_length_le (by simp)
  rw [all, if_neg (by simp)]
  have kp : ∀ b o, s.heap.get? b = some o → g1.get? b = some o := fun b o e => s1.extBut b o (Nat.ne_of_lt (Heap.lt_size e)) (Heap.get?_push_of_some _ e)
  refine wpAny_bind (wpAny_holding (end_list (s := { s with heap := g1 }) (ht.up kp) ht.new i1 ((hl.push _).extBut s1.extBut ne) (by simp) fun g2 x2 => ?_))
  simp only [Option.isSome_none, Bool.false_eq_true, if_false]
  exact wpAny_pure (q g2 fun b o hb e => x2 b o hb (kp b o e))
end

section
variable {X : Cx} {F0 F : Hp} {r : Rho} {O : Om} {e : Expr} {es : List Expr} {pos : Pos} {C : Co}
/-- several targets in order -/
def Gvs (X : Cx) (F0 : Hp) (es : List Expr) (ds : List D) (r : Rho) (O : Om) (Q : Rho → Om → Prop) : Prop := ∀ σ H F vs pins s us, Hx X.K F0 F H O → En X.K F r σ → Reps X.K F ds vs → Inv X pins σ H s → Vals vs us →
  wpAny (model X.prog X.w) X.A (assignInOrder ((assignEach es X.env).map (·.2)) us) (fun _ s' => ∃ σ' H', Inv X pins σ' H' s' ∧ Go X F0 F Q σ' H') X.xe s
theorem gvs_nil {Q : Rho → Om → Prop} (q : Q r O) : Gvs X F0 [] [] r O Q := by
  intro σ H F vs pins s us hx en rp I rv
  rw [Reps.nil_iff.mp rp] at rv
  cases rv
  exact assignInOrder_nil ⟨σ, H, I, r, O, F, q, hx, Le.refl F, en⟩
theorem gvs_cons {Q : Rho → Om → Prop} {d : D} {ds : List D} (h : Gv X F0 e d r O fun r1 O1 => Gvs X F0 es ds r1 O1 Q)
    (hs : (assignEach (e :: es) X.env).map (·.2) = assign e X.env :: (assignEach es X.env).map (·.2) := by rfl) : Gvs X F0 (e :: es) (d :: ds) r O Q := by
  intro σ H F vs pins s us hx en rp I rv
  obtain ⟨x, t, rfl, h1, h2⟩ := Reps.cons_iff.mp rp
  cases rv with
  | cons rx rt =>
    rw [hs]
    refine assignInOrder_cons (thn (h σ H F x hx en h1 pins s _ I rx) fun _ s1 ⟨σ1, H1, I1, r1, O1, F1, q1, hx1, l1, en1⟩ => ?_)
    exact thn (q1 σ1 H1 F1 t pins s1 _ hx1 en1 (h2.mono l1) I1 rt) fun _ s2 ⟨σ2, H2, I2, g⟩ => ⟨σ2, H2, I2, g.up l1⟩
theorem gv_name {Q : Rho → Om → Prop} {i : Nat} {x : Str} {d : D} (q : Q (r.set i (some d)) O) (hN : X.N.Nodup) (hi : X.N[i]? = some x := by rfl) (hl : Loc X.env.scope x := by first | exact Or.inl rfl | exact Or.inr rfl)
    (hf : X.fn x = true ∨ X.env.scope.names.lookup x = some .local := by first | exact .inl rfl | exact .inr rfl | assumption) : Gv X F0 (.Name x pos) d r O Q := by
  intro σ H F v hx en rp
  exact tGS_of (pg_name hN hi hl hf) ⟨_, O, F, q, hx, Le.refl F, en.set rp i⟩
theorem gv_tup {Q : Rho → Om → Prop} {k n : Nat} {d : D} {ds : List D} (ht : Heat X) (hd : d = .tup ds ∨ d = .lst ds) (h : Gvs X F0 es ds r O Q) (hl : ds.length = n := by rfl)
    (hn : (assignEach es X.env).length = n := by rfl) (hst : (assignEach es X.env).findIdx? (·.1) = none := by rfl) : Gv X F0 (.Tuple es k pos) d r O Q := by
  intro σ H F v hx en rp pins s u I rv
  rw [PyProof.Rows.assign_Tuple]
  refine wpAny_bind (wpAny_standAt ?_)
  unfold unpack
  rw [hst]
  rcases hd with rfl | rfl
  · obtain ⟨a, xs, rfl, h1, h2⟩ := rep_tup.mp rp
    cases rv
    obtain ⟨its, rw', p, hz⟩ := I.tuple (hx.fh.sqT h1)
    have hsz : (assignEach es X.env).length = its.toArray.size := by rw [hn, ← hl, h2.length, rw'.length]; simp
    rw [hsz]
    refine wpAny_bind (wpAny_holding (unp_tup (ht.at I) (show s.heap.IsTuple a its.toArray from p) fun g x => ?_))
    have I1 : Inv X pins σ H { s with heap := g } := I.kept (t' := s.toks) fun b o e => x b o (Nat.ne_of_lt (Heap.lt_size e)) e
    exact h σ H F xs pins _ _ hx en h2 I1 (by simpa using rw')
  · obtain ⟨a, xs, rfl, h1, h2⟩ := rep_lst.mp rp
    cases rv
    obtain ⟨its, rw', p, hz⟩ := I.list (.inl (.inl (hx.fh _ _ h1)))
    have hsz : (assignEach es X.env).length = its.toArray.size := by rw [hn, ← hl, h2.length, rw'.length]; simp
    rw [hsz]
    refine wpAny_bind (wpAny_holding (unp_lst (ht.at I) p.isList fun g x => ?_))
    have I1 : Inv X pins σ H { s with heap := g } := I.kept (t' := s.toks) fun b o e => x b o (Nat.ne_of_lt (Heap.lt_size e)) e
    exact h σ H F xs pins _ _ hx en h2 I1 (by simpa using rw')
/-- target = value -/
theorem s_asg {tg : Expr} (h : Ev X F0 e r O fun d O1 => Gv X F0 tg d r O1 C.nx) (hs : swapsWithSole [tg] e pos.line X.env = pure false := by rfl) (hw : swappedStores [tg] e X.env = pure none := by rfl)
    (h1 : (assignEach [tg] X.env).map (·.2) = [assign tg X.env] := by rfl) : Sv X F0 (.Assign [tg] e pos) r O C := by
  intro σ H F hx en
  refine tSS_of (ps_asg peS pgS hs hw h1) ?_
  refine h.bind hx en fun d O1 F1 H1 v q rp hx1 en1 l1 => ?_
  exact tGS_mono (q σ H1 F1 v hx1 en1 rp) fun _ _ g => g.up l1
/-- a, b = x, y: plain local names -/
theorem s_par {i j : Nat} {x y : Str} {a b : Expr} {px py pt : Pos} {kt k2 : Nat} {pt2 : Pos} (ht : Heat X) (hN : X.N.Nodup) (h : Av X F0 [a, b] r O fun ds O1 => ∃ d1 d2, ds = [d1, d2] ∧ C.nx ((r.set i (some d1)).set j (some d2)) O1)
    (hi : X.N[i]? = some x := by rfl) (hj : X.N[j]? = some y := by rfl) (hij : i ≠ j := by decide) (hx : X.env.scope.names.lookup x = some .local := by rfl) (hy : X.env.scope.names.lookup y = some .local := by rfl)
    (hw : swappedStores [.Tuple [.Name x px, .Name y py] kt pt] (.Tuple [a, b] k2 pt2) X.env = pure (some [x, y]) := by rfl)
    (hs : swapsWithSole [.Tuple [.Name x px, .Name y py] kt pt] (.Tuple [a, b] k2 pt2) pos.line X.env = pure false := by rfl) :
    Sv X F0 (.Assign [.Tuple [.Name x px, .Name y py] kt pt] (.Tuple [a, b] k2 pt2) pos) r O C := by
  intro σ H F hx0 en pins s I
  rw [exec_Assign_arm]
  refine wpAny_bind (wpAny_standAt ?_)
  rw [hs]
  refine wpAny_bind (wpAny_pure ?_)
  rw [if_neg (by decide)]
  refine wpAny_bind (Tuple_ (thn (h σ H F hx0 en _ pins s I) fun us s1 ⟨vs, H1, I1, r1, ds, O1, F1, ⟨d1, d2, e1, q1⟩, rp, hx1, l1⟩ => ?_))
  subst e1
  obtain ⟨v, v', rfl, rp1, rp2⟩ := reps2 rp
  obtain ⟨u1, u2, rfl, rv, rv'⟩ := vals2 r1
  refine wpAny_newObj_type ?_ (by show 2 ≤ sizeLine; decide)
  have I2 : Inv X pins σ H1 { s1 with heap := s1.heap.push { cls := .type "tuple", data := .seq [u1, u2].toArray } } := I1.kept (t' := s1.toks) fun b o e => Heap.get?_push_of_some _ e
  rw [hw]
  refine wpAny_bind (wpAny_pure (wpAny_bind (wpAny_rule (wpAny_bind (unp_tup (its := #[u1, u2]) (ht.at I2) (IsTup.new s1.heap _) fun g xb => ?_)))))
  have I3 := I2.kept (h' := g) (t' := s1.toks) fun b o e => xb b o (Nat.ne_of_lt (Heap.lt_size e)) e
  refine wpAny_bind (show wpAny _ _ (assignInOrder [fun v => bindName X.env y v, fun v => bindName X.env x v] [u2, u1]) _ _ _ from ?_)
  refine assignInOrder_cons (wpAny_bindName (store_ok I3 hN hj (.inl hy) rv' (fun s2 I4 => assignInOrder_cons (wpAny_bindName (store_ok I4 hN hi (.inl hx) rv (fun s3 I5 => assignInOrder_nil (wpAny_pure ?_)) (.inr hx)))) (.inr hy)))
  rw [List.set_comm _ _ (Ne.symm hij)] at I5
  exact ⟨_, H1, I5, _, O1, F1, q1, hx1, l1, ((en.mono l1).set rp1 i).set rp2 j⟩
/-- name op= e, numbers -/
theorem s_augI {i : Nat} {x : Str} {op : Operator} {pos' : Pos} {f : Int → Int → Int} {m : Int} (ho : PIp X op (ipI f)) (hr : r[i]? = some (some (.int m))) (h : Ev X F0 e r O fun d O1 => ∃ n, d = .int n ∧ C.nx (r.set i (some (.int (f m n)))) O1) (hN : X.N.Nodup) (hi : X.N[i]? = some x := by rfl)
    (hl : Loc X.env.scope x := by first | exact Or.inl rfl | exact Or.inr rfl) (hf : X.fn x = true ∨ X.env.scope.names.lookup x = some .local := by first | exact .inl rfl | exact .inr rfl | assumption) : Sv X F0 (.AugAssign (.Name x pos') op e pos) r O C := by
  intro σ H F hx en
  refine tSS_of (ps_aug hN hi hl peS ho hf) ?_
  obtain ⟨v, e1, e2⟩ := en.at_ i _ hr
  refine ⟨v, e1, h.bind hx en fun d O1 F1 H1 u ⟨n, hd, q⟩ rp hx1 en1 l1 => ?_⟩
  subst hd
  rw [rep_int.mp e2, rep_int.mp rp]
  exact ⟨m, n, rfl, rfl, _, O1, F1, q, hx1, l1, en1.set (rep_int.mpr rfl) i⟩
end
end K97
/-! # Part J: built-ins that walk, methods of built-in types, starred arguments -/
namespace K97
open PySem PySem.Spec PyProof.Rows L2

/-! ## walks while something is handled -/
def hotL (A : Around) : List Addr := match A.handled with
  | some (.ref x) => [x]
  | _ => []
theorem HeatAt.hotL {A : Around} {h : Heap} (ht : HeatAt A h) : ∀ b ∈ hotL A, b < h.objs.size ∧ A.handled = some (.ref b) := fun b hb => by
  unfold K97.hotL at hb
  rcases ht with hh | ⟨x, hh, o, vs, e, _⟩
  · rw [hh] at hb; cases hb
  · rw [hh] at hb
    rw [List.mem_singleton.mp hb]
    exact ⟨Heap.lt_size e, hh⟩
theorem HeatAt.frame {A : Around} {h h' : Heap} (ht : HeatAt A h) (k : ∀ b ∈ K97.hotL A, ∀ o, h.get? b = some o → h'.get? b = some o) : HeatAt A h' := by
  rcases ht with hh | ⟨x, hh, o, vs, e, r⟩
  · exact .inl hh
  · exact .inr ⟨x, hh, o, vs, k x (by unfold K97.hotL; rw [hh]; simp) _ e, r⟩
section
variable {prog : Program} {w : World} {A : Around}
theorem walks_l (I ax : Addr) (ne : ax ≠ I) (its : Array Value) (hx : ∀ x1, A.handled = some (.ref x1) → x1 ≠ I) :
    Walks prog w A I (I :: ax :: hotL A) [I] its.size (fun i v => its[i]? = some v) (fun i h => (h.IsListIter I ax i ∧ h.IsList ax its) ∧ HeatAt A h) where
  sub := fun b hb => by rw [List.mem_singleton.mp hb]; exact List.mem_cons_self ..
  frame := fun _ _ _ st k => ⟨⟨st.1.1.at fun o e => k I (by simp) o e, st.1.2.at fun o e => k ax (by simp) o e⟩, st.2.frame fun b hb => k b (by simp [hb])⟩
  item := fun i s Q E hi st q => wpAny_pyNext_list_item st.1.1 st.1.2 (x := its[i]) (by simp [hi]) fun g i1 s1 =>
    q _ g s.toks (by simp [hi]) ⟨⟨i1, st.1.2.extBut s1.extBut ne⟩, st.2.keep hx fun b o hb e => s1.extBut b o hb e⟩ fun b o hb e => s1.extBut b o (fun z => hb (by simp [z])) e
  done := fun s Q E st q => end_list st.2 hx st.1.1 st.1.2 (by simp) fun g x1 => q g s.toks fun b o hb e => x1 b o (fun z => hb (by simp [z])) e
  self := fun _ _ _ _ st q => wpAny_pyIter_listiter st.1.1 q
theorem walks_t (I ax : Addr) (ne : ax ≠ I) (its : Array Value) (hx : ∀ x1, A.handled = some (.ref x1) → x1 ≠ I) :
    Walks prog w A I (I :: ax :: hotL A) [I] its.size (fun i v => its[i]? = some v) (fun i h => (h.IsTupleIter I ax i ∧ h.IsTuple ax its) ∧ HeatAt A h) where
  sub := fun b hb => by rw [List.mem_singleton.mp hb]; exact List.mem_cons_self ..
  frame := fun _ _ _ st k => ⟨⟨st.1.1.at fun o e => k I (by simp) o e, st.1.2.at fun o e => k ax (by simp) o e⟩, st.2.frame fun b hb => k b (by simp [hb])⟩
  item := fun i s Q E hi st q => wpAny_pyNext_tuple_item st.1.1 st.1.2 (x := its[i]) (by simp [hi]) fun g i1 s1 =>
    q _ g s.toks (by simp [hi]) ⟨⟨i1, st.1.2.extBut s1.extBut ne⟩, st.2.keep hx fun b o hb e => s1.extBut b o hb e⟩ fun b o hb e => s1.extBut b o (fun z => hb (by simp [z])) e
  done := fun s Q E st q => end_tup st.2 hx st.1.1 st.1.2 (by simp) fun g x1 => q g s.toks fun b o hb e => x1 b o (fun z => hb (by simp [z])) e
  self := fun _ _ _ _ st q => wpAny_pyIter_tupleiter st.1.1 q
end
section
variable {X : Cx} {F0 F : Hp} {r : Rho} {O : Om} {Q : D → Om → Prop} {a b c e o : Expr} {es : List Expr} {pos : Pos}
theorem cl_all (ht : Heat X) {bs : List Bool} (q : Q (.bl (bs.all id)) O) : ClD X (.builtin "all") O [.lst (bs.map D.bl)] Q := by
  intro F0 F H vs hx rp pins s σ us I rv
  obtain ⟨v, rfl, r1⟩ := reps1 rp
  obtain ⟨l, xs, rfl, h1, h2⟩ := rep_lst.mp r1
  have hxs := reps_bls' h2
  subst hxs
  obtain ⟨its, rv2, hl, _⟩ := I.list (.inl (.inl (hx.fh _ _ h1)))
  rw [Vals.ref1 rv]
  have hb := rv2.bls
  have hA := ht.at I
  refine call_all_walk (iter_any hl.isList fun s2 e2 st hne => ?_)
  subst e2
  refine ⟨_, _, _, _, _, _, _, rfl, walks_l (A := X.A.in1) _ l hne its.toArray hA.new, ⟨st, hA.up fun b o eo => Heap.get?_push_of_some _ eo⟩, truth_bools hb, fun g tk k => ?_⟩
  refine ⟨.bl _, H, I.kept fun b o eo => k b o (fun hm => ?_) (Heap.get?_push_of_some _ eo), ?_, _, O, F, q, rep_bl.mpr rfl, hx, Le.refl F⟩
  · exact absurd (List.mem_singleton.mp hm ▸ Heap.lt_size eo) (Nat.lt_irrefl _)
  · show Value.bool _ = Value.bool _
    rw [← L2.all_range, hb, List.size_toArray, List.length_map]
theorem cl_min2 (ht : Heat X) {i j : Int} (q : Q (.int (if j < i then j else i)) O) : ClD X (.builtin "min") O [.int i, .int j] Q := by
  intro F0 F H vs hx rp pins s σ us I rv
  obtain ⟨v, v', rfl, r1, r2⟩ := reps2 rp
  rw [rep_int.mp r1, rep_int.mp r2] at rv
  obtain ⟨u, u', rfl, ⟨t, rfl⟩, ⟨t', rfl⟩⟩ := vals2 rv
  have hA := ht.at I
  have hT : (s.heap.push { cls := .type "tuple", data := .seq #[.int i t, .int j t'] }).IsTuple s.heap.objs.size (intItems #[(i, t), (j, t')]) := ⟨_, Heap.get?_push_size _ rfl, rfl, 0, by simp [intItems]⟩
  refine call_min_two (wpAny_pyIter_tuple hT ?_)
  have hsz : (s.heap.push { cls := .type "tuple", data := .seq #[.int i t, .int j t'] }).objs.size = s.heap.objs.size + 1 := Heap.size_push ..
  have hA2 : HeatAt X.A (s.heap.push { cls := .type "tuple", data := .seq #[.int i t, .int j t'] }) := hA.up fun b o eo => Heap.get?_push_of_some _ eo
  refine ⟨_, _, [_], _, _, _, _, rfl, walks_t (A := X.A.in1) _ s.heap.objs.size (by rw [hsz]; exact Nat.ne_of_lt (Nat.lt_succ_self _)) (intItems #[(i, t), (j, t')]) (HeatAt.new (A := X.A.in1) (s := { s with heap := s.heap.push _ }) hA2),
    ⟨⟨⟨_, Heap.get?_push_size _ rfl, rfl, rfl⟩, hT.push _⟩, hA2.up fun b o eo => Heap.get?_push_of_some _ eo⟩, fun c hc => ?_, by simp [intItems], CmpOf.ints_lt (numAt #[(i, t), (j, t')]) (fun _ _ => intItems_at), fun v g tk hP k => ?_⟩
  · show c < ((s.heap.push _).push _).objs.size
    rw [Heap.size_push, hsz]
    rcases List.mem_cons.mp hc with z | hc
    · rw [z, hsz]; exact Nat.lt_succ_self _
    · rcases List.mem_cons.mp hc with z | hc
      · rw [z]; exact Nat.lt_succ_of_lt (Nat.lt_succ_self _)
      · exact Nat.lt_succ_of_lt (Nat.lt_succ_of_lt (HeatAt.hotL (A := X.A.in1) hA c hc).1)
  · have old : ∀ c o, s.heap.get? c = some o → g.get? c = some o := fun c o eo => by
      refine k c o (fun hm => ?_) (Heap.get?_push_of_some _ (Heap.get?_push_of_some _ eo))
      have := Heap.lt_size eo
      rw [List.mem_singleton.mp hm, hsz] at this
      exact Nat.lt_irrefl _ (Nat.lt_of_succ_lt this)
    have hP' : (intItems #[(i, t), (j, t')])[argBest (fun x y => decide (numAt #[(i, t), (j, t')] x < numAt #[(i, t), (j, t')] y)) 1]? = some v := by
      have e2 : (intItems #[(i, t), (j, t')]).size - 1 = 1 := by simp [intItems]
      rw [← e2]; exact hP
    have hv : v = if j < i then Value.int j t' else Value.int i t := by
      by_cases hji : j < i
      · have e : argBest (fun x y => decide (numAt #[(i, t), (j, t')] x < numAt #[(i, t), (j, t')] y)) 1 = 1 := by simp [argBest, numAt, hji]
        rw [e] at hP'
        simpa [intItems, hji] using hP'.symm
      · have e : argBest (fun x y => decide (numAt #[(i, t), (j, t')] x < numAt #[(i, t), (j, t')] y)) 1 = 0 := by simp [argBest, numAt, hji]
        rw [e] at hP'
        simpa [intItems, hji] using hP'.symm
    refine ⟨_, H, I.kept old, ?_, _, O, F, q, rep_int.mpr rfl, hx, Le.refl F⟩
    rw [hv]
    by_cases hji : j < i
    · rw [if_pos hji, if_pos hji]; exact ⟨_, rfl⟩
    · rw [if_neg hji, if_neg hji]; exact ⟨_, rfl⟩
theorem cl_max2 (hc : X.calm = true) {i j : Int} (q : Q (.int (if j > i then j else i)) O) : ClD X (.builtin "max") O [.int i, .int j] Q := by
  intro F0 F H vs hx rp
  obtain ⟨v, v', rfl, r1, r2⟩ := reps2 rp
  rw [rep_int.mp r1, rep_int.mp r2]
  exact rc_of (call_max2 hc) ⟨i, j, rfl, Po.val q hx (rep_int.mpr rfl)⟩

/-! ## sorted, of pairs that stand sorted -/
def prD (p : Int × Int) : D := .tup [.int p.1, .int p.2]
theorem cl_sorted_id {ps : List (Int × Int)} (hs : ps.Pairwise fun x y => SrtO.lexB y x = false) (q : Q (.lst (ps.map prD)) O) : ClD X (.builtin "sorted") O [.lst (ps.map prD)] Q := by
  intro F0 F H vs hx rp pins s σ us I rv
  obtain ⟨v, rfl, r1⟩ := reps1 rp
  obtain ⟨l, xs, rfl, h1, h2⟩ := rep_lst.mp r1
  obtain ⟨its, rv2, hl, hz⟩ := I.list (.inl (.inl (hx.fh _ _ h1)))
  rw [Vals.ref1 rv]
  -- the pairs' addresses, values
  have key : ∀ (ps : List (Int × Int)) (xs : List V), Reps X.K F (ps.map prD) xs → ∀ us, Vals xs us → ∃ k : Value → Int × Int, True ∧ us.length = ps.length ∧ ∀ (i : Nat) (v : Value) (p : Int × Int), us[i]? = some v → ps[i]? = some p → ∃ (t : Addr) (o : Obj) (t1 t2 : Tok) (n : Nat), v = .ref t ∧ s.heap.get? t = some o ∧ o.cls = .type "tuple" ∧ o.data = .seq #[.int p.1 t1, .int p.2 t2] n := by
    intro ps xs rp us rv
    refine ⟨fun _ => (0, 0), trivial, by rw [← rv.length, ← rp.length, List.length_map], fun i v p hv hp => ?_⟩
    obtain ⟨x, e1, e2⟩ := rp.get (i := i) (d := prD p) (by rw [List.getElem?_map, hp]; rfl)
    obtain ⟨v', e3, e4⟩ := rv.get e1
    rw [hv] at e3
    cases e3
    obtain ⟨t, ys, rfl, g1, g2⟩ := rep_tup.mp e2
    cases e4
    obtain ⟨y1, y2, rfl, k1, k2⟩ := reps2 g2
    rw [rep_int.mp k1, rep_int.mp k2] at g1
    obtain ⟨its, rv, ⟨o, ho, hc, n, hd⟩, _⟩ := I.tuple (hx.fh.sqT g1)
    obtain ⟨u1, u2, rfl, ⟨t1, rfl⟩, ⟨t2, rfl⟩⟩ := vals2 rv
    exact ⟨t, o, t1, t2, n, rfl, ho, hc, hd⟩
  obtain ⟨_, _, hlen, hat⟩ := key ps xs h2 its rv2
  -- the key of a value: what its tuple holds
  let kf : Value → Int × Int := fun v => match v with
    | .ref t => (match s.heap.get? t with
      | some o => (match o.data with
        | .seq a _ => (match a.toList with
          | [.int i _, .int j _] => (i, j)
          | _ => (0, 0))
        | _ => (0, 0))
      | none => (0, 0))
    | _ => (0, 0)
  have hkf : ∀ (i : Nat) (v : Value) (p : Int × Int), its[i]? = some v → ps[i]? = some p → kf v = p := fun i v p hv hp => by
    obtain ⟨t, o, t1, t2, n, rfl, ho, hc, hd⟩ := hat i v p hv hp
    show (match s.heap.get? t with
      | some o => (match o.data with
        | .seq a _ => (match a.toList with
          | [.int i _, .int j _] => (i, j)
          | _ => (0, 0))
        | _ => (0, 0))
      | none => (0, 0)) = p
    rw [ho]
    show (match o.data with
        | .seq a _ => (match a.toList with
          | [.int i _, .int j _] => (i, j)
          | _ => (0, 0))
        | _ => (0, 0)) = p
    rw [hd]
  have hmap : its.map kf = ps := by
    refine List.ext_getElem? fun i => ?_
    rw [List.getElem?_map]
    cases hv : its[i]? with
    | none =>
      rw [List.getElem?_eq_none]
      · rfl
      · have := List.getElem?_eq_none_iff.mp hv; omega
    | some v =>
      have hi : i < ps.length := by rw [← hlen]; exact (List.getElem?_eq_some_iff.mp hv).1
      have hp : ps[i]? = some ps[i] := List.getElem?_eq_getElem hi
      rw [hp]
      exact congrArg some (hkf i v _ hv hp)
  refine SrtO.sorted_pairsO (k := kf) hl.isList (by rw [← rv2.length]; exact hz) (fun v hv => ?_) fun g d out g1 g2 kp hd hn => ?_
  · obtain ⟨i, hi, e⟩ := List.mem_iff_getElem.mp hv
    have hv' : its[i]? = some v := by rw [List.getElem?_eq_getElem hi, e]
    have hp : ps[i]? = some (ps[i]'(by rw [← hlen]; exact hi)) := List.getElem?_eq_getElem _
    obtain ⟨t, o, t1, t2, n, rfl, ho, hc, hdt⟩ := hat i v _ hv' hp
    have ek := hkf i _ _ hv' hp
    exact ⟨t, o, t1, t2, n, rfl, ho, hc, by rw [ek]; exact hdt⟩
  · have hs2 : SrtO.Srtd (fun v u => SrtO.lexB (kf v) (kf u)) its := by
      have := hs
      rw [← hmap, List.pairwise_map] at this
      exact this
    have eo : out = its := SrtO.stb_uniq (SrtO.swo_lex kf) g1 hs2 g2
    subst eo
    obtain ⟨n, hn⟩ := hn
    have hd0 : H d = none := I.hok.fresh hd
    obtain ⟨hx1, l1⟩ := hx.new hd0 (.lst xs)
    exact ⟨.ref d, upd H d (.lst xs), I.laid (t' := s.toks) kp hd ⟨hz, out, n, rv2, hn⟩, rfl, _, O, _, q, rep_lst.mpr ⟨d, xs, rfl, upd_same, h2.mono l1⟩, hx1, l1⟩
end
end K97
/-! # Part K: objects: made, attributes stored, properties, own len, [], != -/
namespace K97
open PySem PySem.Spec PyProof.Rows L2

/-! ## attributes as keys and data -/
def ksPut (f : Str) : List Str → List Str
  | [] => [f]
  | g :: r => if g = f then g :: r else g :: ksPut f r
def dsPut {α : Type} (f : Str) (v : α) : List Str → List α → List α
  | g :: r, x :: xs => if g = f then v :: xs else x :: dsPut f v r xs
  | _, _ => [v]
theorem put_zip {f : Str} {v : V} : ∀ {ks : List Str} {xs : List V}, ks.length = xs.length → putF f v (ks.zip xs) = (ksPut f ks).zip (dsPut f v ks xs) ∧ (ksPut f ks).length = (dsPut f v ks xs).length
  | [], [], _ => ⟨rfl, rfl⟩
  | g :: r, x :: xs, h => by
    have ih := put_zip (f := f) (v := v) (ks := r) (xs := xs) (by simpa using h)
    unfold ksPut dsPut
    rw [List.zip_cons_cons]
    unfold putF
    by_cases e : g = f
    · rw [if_pos e, if_pos e, if_pos e]
      exact ⟨by rw [List.zip_cons_cons], by simpa using h⟩
    · rw [if_neg e, if_neg e, if_neg e, List.zip_cons_cons, ih.1]
      exact ⟨rfl, by rw [List.length_cons, List.length_cons, ih.2]⟩
theorem reps_put {K : PySem.W.Frag} {F : Hp} {f : Str} {d : D} {v : V} (hv : Rep K F d v) : ∀ {ks : List Str} {ds : List D} {xs : List V}, Reps K F ds xs → ks.length = xs.length → Reps K F (dsPut f d ks ds) (dsPut f v ks xs)
  | [], ds, xs, h, hl => by
    have : xs = [] := List.eq_nil_of_length_eq_zero hl.symm
    subst this
    have : ds = [] := List.eq_nil_of_length_eq_zero (by rw [h.length]; rfl)
    subst this
    exact .cons hv .nil
  | g :: r, [], xs, h, hl => by rw [Reps.nil_iff.mp h] at hl; cases hl
  | g :: r, e :: ds, xs, h, hl => by
    obtain ⟨y, t, rfl, h1, h2⟩ := Reps.cons_iff.mp h
    unfold dsPut
    by_cases q : g = f
    · rw [if_pos q, if_pos q]; exact .cons hv h2
    · rw [if_neg q, if_neg q]; exact .cons h1 (reps_put hv h2 (by simpa using hl))
section
variable {K : PySem.W.Frag} {F0 F H : Hp} {O : Om}
/-- a new instance without attributes -/
theorem Hx.newOb (h : Hx K F0 F H O) {c : Cl} {x dx : Addr} (hx : H x = none) (hd : H dx = none) (ne : dx ≠ x) : Hx K F0 F (upd (upd H dx (.own x)) x (.ins (ca K c) dx [])) (O.put x (.ob c [] [])) := by
  have keep : ∀ b, (∃ u, H b = some u) → upd (upd H dx (.own x)) x (.ins (ca K c) dx []) b = H b := fun b ⟨u, q⟩ => by
    rw [upd_ne (ne_of_none q hx), upd_ne (ne_of_none q hd)]
  refine ⟨h.f0, fun a u q => by rw [keep a ⟨_, h.fh _ _ q⟩]; exact h.fh _ _ q, fun a u q => ?_⟩
  by_cases e : a = x
  · subst e
    rw [Om.put_same] at q
    cases q
    exact ⟨h.fh.free hx, dx, [], upd_same, by rw [upd_ne ne, upd_same], h.fh.free hd, rfl, .nil⟩
  · rw [Om.put_ne e] at q
    obtain ⟨h1, h2⟩ := h.om a u q
    exact ⟨h1, h2.grow (Le.refl F) keep fun _ _ q => q⟩
/-- an attribute written -/
theorem Hx.setOb (h : Hx K F0 F H O) {c : Cl} {ks ks' : List Str} {ds ds' : List D} {xs' : List V} {a dx : Addr} {fs : List (Str × V)} (ha : O a = some (.ob c ks ds)) (hH : H a = some (.ins (ca K c) dx fs)) (hl : ks'.length = xs'.length) (hr : Reps K F ds' xs') :
    Hx K F0 F (upd H a (.ins (ca K c) dx (ks'.zip xs'))) (O.put a (.ob c ks' ds')) := by
  obtain ⟨hF, dx', xs, h1, h2, h3, _⟩ := h.om a _ ha
  rw [hH] at h1
  cases h1
  have nd : dx ≠ a := by rintro rfl; rw [hH] at h2; cases h2
  refine ⟨h.f0, fun b u q => ?_, fun b u q => ?_⟩
  · rw [upd_ne (by rintro rfl; rw [hF] at q; cases q)]; exact h.fh _ _ q
  · by_cases e : b = a
    · subst e
      rw [Om.put_same] at q
      cases q
      exact ⟨hF, dx, xs', upd_same, by rw [upd_ne nd]; exact h2, h3, hl, hr⟩
    · rw [Om.put_ne e] at q
      obtain ⟨g1, g2⟩ := h.om b u q
      refine ⟨g1, ?_⟩
      cases u with
      | lst fs => obtain ⟨zs, q1, q2⟩ := g2; exact ⟨zs, by rw [upd_ne e]; exact q1, q2⟩
      | ob c' ks fs =>
        obtain ⟨dy, zs, q1, q2, q3⟩ := g2
        exact ⟨dy, zs, by rw [upd_ne e]; exact q1, by rw [upd_ne (by rintro rfl; rw [hH] at q2; cases q2)]; exact q2, q3⟩
      | raw u => exact ⟨by rw [upd_ne e]; exact g2.1, g2.2⟩
/-- an instance is frozen -/
theorem Hx.frzOb (h : Hx K F0 F H O) {c : Cl} {ks : List Str} {ds : List D} {a : Addr} (ha : O a = some (.ob c ks ds)) : ∃ F', Hx K F0 F' H (O.del a) ∧ Le F F' ∧ Rep K F' (.obj c ks ds) (.ref a) := by
  obtain ⟨hF, dx, xs, h1, h2, h3, hl, hr⟩ := h.om a _ ha
  have nd : dx ≠ a := by rintro rfl; rw [h1] at h2; cases h2
  have le : Le F (upd (upd F dx (.own a)) a (.ins (ca K c) dx (ks.zip xs))) := fun b u q => by rw [upd_ne (ne_of_none q hF), upd_ne (ne_of_none q h3)]; exact q
  refine ⟨_, ⟨h.f0.trans le, fun b u q => ?_, fun b u q => ?_⟩, le, rep_obj.mpr ⟨a, dx, xs, rfl, upd_same, by rw [upd_ne nd, upd_same], hl, hr.mono le⟩⟩
  · by_cases e : b = a
    · subst e; rw [upd_same] at q; rw [h1]; exact q
    · rw [upd_ne e] at q
      by_cases e2 : b = dx
      · subst e2; rw [upd_same] at q; rw [h2]; exact q
      · rw [upd_ne e2] at q; exact h.fh _ _ q
  · unfold Om.del at q
    by_cases e : b = a
    · rw [if_pos e] at q; cases q
    · rw [if_neg e] at q
      obtain ⟨g1, g2⟩ := h.om b u q
      have nb : b ≠ dx := by
        rintro rfl
        cases u with
        | lst fs => obtain ⟨zs, q1, q2⟩ := g2; rw [h2] at q1; cases q1
        | ob c' ks fs => obtain ⟨dy, zs, q1, q2, q3⟩ := g2; rw [h2] at q1; cases q1
        | raw u => have q1 := g2.1; rw [h2] at q1; exact g2.2.1 _ (Option.some.inj q1).symm
      refine ⟨by rw [upd_ne e, upd_ne nb]; exact g1, ?_⟩
      cases u with
      | lst fs => obtain ⟨zs, q1, q2⟩ := g2; exact ⟨zs, q1, q2.mono le⟩
      | ob c' ks' fs =>
        obtain ⟨dy, zs, q1, q2, q3, q4, q5⟩ := g2
        have n1 : dy ≠ a := by rintro rfl; rw [h1] at q2; cases q2
        have n2 : dy ≠ dx := by rintro rfl; rw [h2] at q2; cases q2; exact e rfl
        exact ⟨dy, zs, q1, q2, by rw [upd_ne n1, upd_ne n2]; exact q3, q4, q5.mono le⟩
      | raw u => exact g2
end

/-! ## fewer things known -/
theorem Hx.drop {K : PySem.W.Frag} {F0 F H : Hp} {O O2 : Om} (h : Hx K F0 F H O) (s : Sup O2 O) : Hx K F0 F H O2 := ⟨h.f0, h.fh, fun a o q => h.om a o (s a o q)⟩
theorem Sup.del {O : Om} {p : Addr} : Sup (O.del p) O := fun a o q => by
  unfold Om.del at q
  split at q
  · cases q
  · exact q
theorem XeR.drop {X : Cx} {F0 : Hp} {r : Rho} {QE : Exn → Om → Prop} (h : XeR X F0 r QE) : XeR X F0 r fun x O => ∃ O2, Sup O2 O ∧ QE x O2 := fun u s' x => by
  obtain ⟨a, B, sI, pins, σ, H, cls, d, e, I, nb, up, sky, na, os, ag, z, O, F, ⟨O2, sp, q⟩, ea, hx, en⟩ := x
  exact h u s' ⟨a, B, sI, pins, σ, H, cls, d, e, I, nb, up, sky, na, os, ag, z, O2, F, q, ea, hx.drop sp, en⟩

section
variable {X : Cx} {F0 F : Hp} {r : Rho} {O : Om} {Q : D → Om → Prop} {QE : Exn → Om → Prop} {a b e o value : Expr} {es : List Expr} {f : Str} {pos pos' tpos : Pos} {C : Co}
/-! ## attributes stored -/
theorem gv_attr {QR : Rho → Om → Prop} {d : D} (h : Ev X F0 o r O fun z O1 => ∃ p c ks fs, z = .adr p ∧ O1 p = some (.ob c ks fs) ∧ Cls X.K (ca X.K c) ∧ NoAttr X.K (ca X.K c) f ∧ ks.length < 1000 ∧ QR r (O1.put p (.ob c (ksPut f ks) (dsPut f d ks fs)))) :
    Gv X F0 (.Attribute o f pos) d r O QR := by
  intro σ H F v hx en rp pins s u I rv
  refine PySem.W.kas_attr (thn (h σ H F hx en pins s I) fun ov s1 ⟨z, H1, I1, rz, d1, O1, F1, ⟨p, c, ks, fs, ed, hp, hc, hn, hl, q⟩, rp1, hx1, l1⟩ => ?_)
  subst ed
  rw [rep_adr.mp rp1] at rz
  obtain rfl : ov = Value.ref p := rz
  obtain ⟨hF, dx, xs, h1, h2, h3, h4, h5⟩ := hx1.om p _ hp
  refine setattr_ok I1 h1 hc hn (by rw [List.length_zip, ← h4, Nat.min_self]; exact hl) rv fun s2 I2 => ?_
  obtain ⟨e1, e2⟩ := put_zip (f := f) (v := v) h4
  rw [e1] at I2
  exact ⟨σ, _, I2, r, _, F1, q, hx1.setOb hp h1 e2 (reps_put (rp.mono l1) h5 h4), l1, en.mono l1⟩
theorem s_fld (h : Ev X F0 value r O fun d O1 => Gv X F0 (.Attribute o f pos') d r O1 C.nx) (hs : swapsWithSole [.Attribute o f pos'] value pos.line X.env = pure false := by rfl) (hw : swappedStores [.Attribute o f pos'] value X.env = pure none := by rfl) :
    Sv X F0 (.Assign [.Attribute o f pos'] value pos) r O C := s_asg h hs hw
/-- self.f op= e, numbers -/
theorem s_fldaug {op : Operator} {g : Int → Int → Int} {p : Addr} {c : Cl} {ks : List Str} {fs : List D} {m : Int} (ho : InOp X op (rI0 fun i j => .int (g i j)))
    (h : Ev X F0 o r O fun z O1 => z = .adr p ∧ O1 p = some (.ob c ks fs) ∧ Cls X.K (ca X.K c) ∧ NoAttr X.K (ca X.K c) f ∧ ks.length < 1000 ∧ (ks.zip fs).lookup f = some (.int m) ∧
      Ev X F0 e r O1 fun d O2 => ∃ n, d = .int n ∧ O2 = O1 ∧ C.nx r (O1.put p (.ob c (ksPut f ks) (dsPut f (.int (g m n)) ks fs)))) : Sv X F0 (.AugAssign (.Attribute o f tpos) op e pos) r O C := by
  intro σ H F hx en
  refine tSS_of (ps_fldaug peS peS ho) ?_
  refine h.bind hx en fun z O1 F1 H1 u ⟨ez, hp, hc, hn, hl, hlk, q⟩ rp hx1 en1 l1 => ?_
  subst ez
  obtain ⟨hF, dx, xs, h1, h2, h3, h4, h5⟩ := hx1.om p _ hp
  obtain ⟨y, e1, e2⟩ := lookup_zip h5 hlk
  refine ⟨p, _, dx, _, y, rep_adr.mp rp, h1, hc, hn, e1, q.bind hx1 en1 fun d O2 F2 H2 w ⟨n, ed, eO, q2⟩ rp2 hx2 en2 l2 => ?_⟩
  subst ed eO
  rw [rep_int.mp e2, rep_int.mp rp2]
  obtain ⟨hF2, dx2, xs2, k1, k2, k3, k4, k5⟩ := hx2.om p _ hp
  refine ⟨m, n, rfl, rfl, dx2, _, k1, by rw [List.length_zip, ← k4, Nat.min_self]; exact hl, ?_⟩
  obtain ⟨e3, e4⟩ := put_zip (f := f) (v := V.int (g m n)) k4
  rw [e3]
  exact ⟨r, _, F2, q2, hx2.setOb hp k1 e4 (reps_put (rep_int.mpr rfl) k5 k4), l1.trans l2, en2⟩

/-! ## made -/
theorem ModeOk.cast {m : Mode} {A A' : Around} {outer : List PySem.Env} {H : Hp} {s : Shared} (eh : A'.handled = A.handled) (z : ModeOk m A outer H s) : ModeOk m A' outer H s := by
  cases m with
  | any => trivial
  | cold => exact eh.trans z
  | heat =>
    rcases z with z | ⟨p, z1, z2⟩
    · exact .inl (eh.trans z)
    · exact .inr ⟨p, ⟨eh.trans z1.1, z1.2⟩, z2⟩
/-- a class that is made by its own __init__: S its contract, dvs the values of the parameters that are left out -/
structure Mkr (P : Program) (w : World) (K : PySem.W.Frag) (mg : Str → Option Value) (base : Heap) (m : Mode) (k : Nat) (c : Cl) (dd : List D) (S : SpD) : Prop where
  ex : ∃ f fd ps dvs dds, FnB P w K mg base m k f fd ps (sp K S) ∧ Mk K (ca K c) f ∧ Binds K fd ps dds ∧ Vals dvs dds ∧ ∀ F, Reps K F dd dvs
  mg_ : mg c.nm = some (.ref (ca K c))
variable {m : Mode} {k : Nat} {c : Cl} {dd : List D} {S : SpD}
theorem run_mk {pins : List (Addr × Obj)} {σ : St} {H : Hp} {s : Shared} {us : List Value} {vs : List V} {ds : List D} (G : Mkr X.prog X.w X.K X.mg X.base m k c dd S) (hr : RoomB (k + 1) X.A) (hm : ModeX m X) {rr : Rho} (hxe : XeR X F0 rr QE) (en : En X.K F rr σ) (I : Inv X pins σ H s) (r : Vals vs us) (hx : Hx X.K F0 F H O) (rp : Reps X.K F ds vs)
    (h : ∀ p, O p = none → S (.adr p :: (ds ++ dd)) (O.put p (.ob c [] [])) (fun d O2 => d = .non ∧ Q (.adr p) O2) QE) :
    wpAny (model X.prog X.w) X.A (call (.ref (ca X.K c)) us) (EP X pins σ (Po X F0 F Q)) X.xe s := by
  obtain ⟨f, fd, ps, dvs, dds, FB, M, hb, hd, hdd⟩ := G.ex
  have n1 : H (s.heap.objs.size + 1) = none := I.hok.fresh (Nat.le_succ _)
  have n2 : H s.heap.objs.size = none := I.hok.fresh (Nat.le_refl _)
  have I2 := Inv.made (C := ca X.K c) I
  have hx2 := hx.newOb (c := c) n1 n2 (Nat.ne_of_lt (Nat.lt_succ_self _))
  have hs := h _ (hx.gone n1).2
  have rp2 : Reps X.K F (.adr (s.heap.objs.size + 1) :: (ds ++ dd)) (.ref (s.heap.objs.size + 1) :: (vs ++ dvs)) := .cons (rep_adr.mpr rfl) (rp.append (hdd F))
  have hsp := sp_at (X := X) hx2 rp2 hs
  have r2 : Vals (V.ref (s.heap.objs.size + 1) :: (vs ++ dvs)) (Value.ref (s.heap.objs.size + 1) :: (us ++ dds)) := .cons rfl (r.append hd)
  have hl : (Value.ref (s.heap.objs.size + 1) :: us ++ dds).length = ps.length := by
    have e := r2.length
    rw [FB.len _ _ _ _ hsp] at e
    exact e.symm
  have hmo := ModeOk.cast (show (X.A.under (.builtin "type.__call__" ⟨.ref (ca X.K c) :: us, []⟩)).handled = X.A.handled by
      first | rfl | simp [Around.under, Code.weight, Code.isCreation, Code.isGuard, Code.isCaller, Code.frames, Code.isFrame, guardIds]) (hm.ok I2)
  refine wpAny_call (make_map (f := f) I.kIn M.makes M.init (beq_iff_eq.mp M.fn) (codeAny_mono (FB.run _ X.stack _ _ ⟨Value.ref (s.heap.objs.size + 1) :: us, []⟩ (Value.ref (s.heap.objs.size + 1) :: (us ++ dds)) _ _ _ (hr.make (ca X.K c) us []) hmo
    (I2.env0.make (ca X.K c) us []) (hb _ (Value.ref (s.heap.objs.size + 1) :: us) I2.kIn hl) r2 hsp) fun res s' hq => ?_))
  cases res with
  | error er => exact hxe _ _ (XE.of_call I2 (fun cls d H' ⟨x, O', F', q, ea, hx', l'⟩ => ⟨x, O', F', q, ea, hx', en.mono l'⟩) hq)
  | ok fl =>
    cases fl with
    | ret u =>
      obtain ⟨v, H', I3, rv, d, O', F', ⟨ed, q3⟩, rp3, hx3, l3⟩ := I2.after hq
      subst ed
      rw [rep_non.mp rp3] at rv
      exact ⟨rv, ⟨V.ref (s.heap.objs.size + 1), H', I3, rfl, _, O', F', q3, rep_adr.mpr rfl, hx3, l3⟩⟩
    | next => exact False.elim hq
    | brk => exact False.elim hq
    | cont => exact False.elim hq
theorem ev_make {p : Pos} (G : Mkr X.prog X.w X.K X.mg X.base m k c dd S) (hr : RoomB (k + 1) X.A) (hm : ModeX m X) (hxe : XeR X F0 r QE)
    (h : Av X F0 (e :: es) r O fun ds O1 => ∀ p, O1 p = none → S (.adr p :: (ds ++ dd)) (O1.put p (.ob c [] [])) (fun d O2 => d = .non ∧ Q (.adr p) O2) QE) (hg : Gl X c.nm := by rfl)
    (hdb : (c.nm == ("__debug__" : Str)) = false := by decide) (he : starEach (e :: es) X.env = (false, eval e X.env) :: starEach es X.env := by rfl) (hpl : (backTo pos (starEach es X.env)).any (·.1) = false := by rfl) : Ev X F0 (.Call (.Name c.nm p) (e :: es) [] pos) r O Q := by
  intro σ H F hx en pins s I
  obtain ⟨f, fd, ps, dvs, dds, _, M, _⟩ := id G.ex
  refine wpAny_Call_Name_kw (ld_glob I hg G.mg_ ?_ hdb)
  refine PySem.W.callWith_K (h₀ := X.base) I.ok.mod.kin M.kp (thn (h σ H F hx en pos pins s I) fun us s1 ⟨vs, H1, I1, rv, ds, O1, F1, hs, rp, hx1, l1⟩ => ⟨I1.kIn, ?_⟩) he hpl
  exact thn (run_mk G hr hm hxe (en.mono l1) I1 rv hx1 rp hs) fun _ _ z => ep_imp z fun _ _ q => q.up l1
/-- .. and frozen -/
def Frz (Q : D → Om → Prop) : D → Om → Prop := fun d O => ∃ p c ks fs, d = .adr p ∧ O p = some (.ob c ks fs) ∧ Q (.obj c ks fs) (O.del p)
theorem ev_frz (h : Ev X F0 e r O (Frz Q)) : Ev X F0 e r O Q := by
  intro σ H F hx en
  refine tS_mono (h σ H F hx en) fun v H1 ⟨d, O1, F1, ⟨p, c, ks, fs, ed, hp, q⟩, rp, hx1, l1⟩ => ?_
  subst ed
  obtain ⟨F2, hx2, l2, rp2⟩ := hx1.frzOb hp
  rw [rep_adr.mp rp]
  exact ⟨_, _, F2, q, rp2, hx2, l1.trans l2⟩
/-- .. an own list frozen -/
theorem ev_frzL (h : Ev X F0 e r O fun d O1 => ∃ p ds, d = .adr p ∧ O1 p = some (.lst ds) ∧ Q (.lst ds) (O1.del p)) : Ev X F0 e r O Q := by
  intro σ H F hx en
  refine tS_mono (h σ H F hx en) fun v H1 ⟨d, O1, F1, ⟨p, ds, ed, hp, q⟩, rp, hx1, l1⟩ => ?_
  subst ed
  obtain ⟨F2, hx2, l2, rp2⟩ := hx1.frzL hp
  rw [rep_adr.mp rp]
  exact ⟨_, _, F2, q, rp2, hx2, l1.trans l2⟩

/-! ## a property -/
structure Fp (P : Program) (w : World) (K : PySem.W.Frag) (mg : Str → Option Value) (base : Heap) (m : Mode) (k : Nat) (c : Cl) (x : Str) (S : SpD) : Prop where
  ex : ∃ p f fd ps, FnB P w K mg base m k f fd ps (sp K S) ∧ PropOf K (ca K c) x p f ∧ Binds K fd ps []
  cl : Cls K (ca K c)
theorem ev_prop (G : Fp X.prog X.w X.K X.mg X.base m k c f S) (hr : RoomB (k + 1) X.A) (hm : ModeX m X) (h : Ev X F0 e r O fun d O1 => ∃ ks fs, InstD O1 c ks fs d ∧ S [d] O1 Q fun _ _ => False)
    (hab : attributeBase e f X.env (eval e X.env) = eval e X.env := by rfl) : Ev X F0 (.Attribute e f pos) r O Q := by
  obtain ⟨pa, fa, fd, ps, FB, hp, hb⟩ := G.ex
  intro σ H F hx en pins s I
  refine attr_of hab (thn (h σ H F hx en pins s I) fun u s1 ⟨v, H1, I1, rv, d, O1, F1, ⟨ks, fs, hd, hs⟩, rp, hx1, l1⟩ => ?_)
  obtain ⟨ad, dx, xs, rfl, hins, hl, hfs⟩ := inst_at hx1 hd rp
  obtain rfl : u = Value.ref ad := rv
  obtain ⟨mA, J0, _, _, _, _⟩ := ins_get I1.hok hins
  obtain ⟨od, J, _⟩ := J0.look
  obtain ⟨rest, hrec⟩ := hp.rec_
  have I2 := I1.tok (s1.toks + 1)
  have hsp := sp_at (X := X) hx1 (.cons rp .nil) hs
  have hlen : ([Value.ref ad] ++ []).length = ps.length := (FB.len _ _ _ _ hsp)
  have hc : (PySem.W.clsIn X.K (ca X.K c)).isSome = true := by
    obtain ⟨cd, hc, _⟩ := PySem.W.any_some G.cl.hd
    rw [hc]; rfl
  have hb' := hb { s1 with toks := s1.toks + 1 } [.ref ad] I2.kIn hlen
  rw [List.append_nil] at hb'
  have hmo : ModeOk m X.A.in1 X.stack H1 { s1 with toks := s1.toks + 1 } := by
    have z := hm.ok I2
    cases m <;> exact z
  refine PySem.W.get_bind I1.kIn J (PySem.W.plainGet_of (G.cl.get f)).1 (PySem.W.findObj_data hc hp.at_ hp.get hp.tak) (PySem.W.plainGet_of (G.cl.get f)).2 (wpAny_call (PySem.W.prop_get (s := { s1 with toks := s1.toks + 1 }) I1.kIn hrec ?_))
  refine codeAny_mono (FB.run X.A.in1 X.stack { s1 with toks := s1.toks + 1 } H1 ⟨[.ref ad], []⟩ [.ref ad] [.ref ad] _ _ hr.in1 hmo I2.env0.in1 hb' (.cons rfl .nil) hsp) fun res s' hq => ?_
  cases res with
  | error er => exact False.elim (passes_call (X := X.nox) (W := fun _ _ _ _ => False) (fun u s' ⟨_, _, _, _, _, _, _, _, _, _, _, _, _, _, _, _, z⟩ => z.elim) (fun _ _ _ _ ⟨_, _, _, z, _⟩ => z.elim) pins σ _ _ er s' (I2.wish _) hq)
  | ok fl =>
    cases fl with
    | ret u =>
      obtain ⟨v, H', I3, rv, q3⟩ := I2.after hq
      show wpAny _ _ (handedOut u) _ _ _
      rw [PySem.W.handedOut_of (handed_of rv)]
      exact wpAny_pure ⟨v, H', I3, rv, q3.up l1⟩
    | next => exact False.elim hq
    | brk => exact False.elim hq
    | cont => exact False.elim hq
end
end K97
/-! # Part L: own len, [], !=; in; starred arguments; methods of texts, lists; items stored -/
namespace K97
open PySem PySem.Spec PyProof.Rows L2

section
variable {X : Cx} {F0 F : Hp} {r : Rho} {O : Om} {Q : D → Om → Prop} {QE : Exn → Om → Prop} {a b e o value : Expr} {es : List Expr} {f : Str} {pos pos' tpos : Pos} {C : Co} {m : Mode} {k : Nat} {c : Cl} {S : SpD}
/-- a callee one deeper (in1) -/
theorem run_b1 {pins : List (Addr × Obj)} {σ : St} {H : Hp} {s : Shared} {Qv : VK} {us : List Value} {vs : List V} {spf : Sp} {f : Addr} {fd : FuncData} {ps : List Str} {E' : Value → Shared → Prop} (G : FnB X.prog X.w X.K X.mg X.base m k f fd ps spf) (hr : RoomB (k + 1) X.A) (hm : ModeX m X) (hb : Binds X.K fd ps [])
    (I : Inv X pins σ H s) (rv : Vals vs us) (hs : spf vs H Qv fun _ _ _ => False) : wpAny (model X.prog X.w) X.A.in1 (call (.ref f) us) (EP X pins σ Qv) E' s := by
  have hl : (us ++ []).length = ps.length := by rw [List.append_nil, ← rv.length]; exact G.len _ _ _ _ hs
  have hb' := hb s us I.kIn hl
  rw [List.append_nil] at hb'
  refine wpAny_call (codeAny_mono (G.run X.A.in1 X.stack s H ⟨us, []⟩ us vs Qv _ hr.in1 (ModeOk.cast rfl (hm.ok I)) I.env0.in1 hb' rv hs) fun res s' hq => ?_)
  cases res with
  | error e => exact False.elim (passes_call (X := X.nox) (W := fun _ _ _ _ => False) (fun u s' ⟨_, _, _, _, _, _, _, _, _, _, _, _, _, _, _, _, z⟩ => z.elim) (fun _ _ _ _ h => h) pins σ _ _ e s' (I.wish _) hq)
  | ok fl =>
    cases fl with
    | ret u => exact I.after hq
    | next => exact False.elim hq
    | brk => exact False.elim hq
    | cont => exact False.elim hq
theorem sp_at0 {H : Hp} {vs : List V} {ds : List D} (hx : Hx X.K F0 F H O) (rp : Reps X.K F ds vs) (hs : S ds O Q fun _ _ => False) : sp X.K S vs H (Po X F0 F Q) fun _ _ _ => False :=
  ⟨F, O, ds, Q, fun _ _ => False, ⟨Le.refl F, hx.fh, hx.om⟩, rp, hs, fun d O' F' H' v q rp' hx' => ⟨d, O', F', q, rp', ⟨hx.f0.trans hx'.f0, hx'.fh, hx'.om⟩, hx'.f0⟩, fun _ _ _ ⟨_, _, _, z, _⟩ => z.elim⟩
/-- len(x), x of a class with its own __len__ -/
theorem cl_len_ob {ks : List Str} {fs : List D} {d : D} {n : Nat} (G : Fm X.prog X.w X.K X.mg X.base m k c "__len__" S) (hr : RoomB (k + 1) X.A) (hm : ModeX m X) (hd : InstD O c ks fs d) (hn : n < 2 ^ 62)
    (h : S [d] O (fun z O' => z = .int n ∧ O' = O) fun _ _ => False) (q : Q (.int n) O) : ClD X (.builtin "len") O [d] Q := by
  obtain ⟨f, fd, ps, FB, hme, hb⟩ := G.ex
  intro F0 F H vs hx rp pins s σ us I rv
  obtain ⟨v, rfl, r1⟩ := reps1 rp
  obtain ⟨ad, dx, xs, rfl, hins, hl, hfs⟩ := inst_at hx hd r1
  obtain ⟨u, rfl, ru⟩ := vals1 rv
  obtain rfl : u = Value.ref ad := ru
  obtain ⟨mA, J0, _, _, _, _⟩ := ins_get I.hok hins
  obtain ⟨od, J, _⟩ := J0.look
  obtain ⟨fr, hF⟩ := I.fr
  refine PySem.W.len_K hF I.ok.mod.kin J hme.at_ hme.fn (thn (run_b1 (vs := [.ref ad]) (us := [.ref ad]) FB hr hm hb I (.cons rfl .nil) (sp_at0 hx (.cons r1 .nil) h)) fun u s1 ⟨y, H1, I1, ry, d1, O1, F1, ⟨e1, e2⟩, rp1, hx1, l1⟩ => ?_)
  subst e1 e2
  rw [rep_int.mp rp1] at ry
  obtain ⟨t, rfl⟩ := ry
  exact ⟨⟨by omega, by omega⟩, ⟨.int n, H1, I1.tok _, ⟨_, rfl⟩, _, _, F1, q, rep_int.mpr rfl, hx1, l1⟩⟩
/-- x[i], x of a class with its own __getitem__ -/
theorem ev_ixo (G : Fm X.prog X.w X.K X.mg X.base m k c "__getitem__" S) (hfn : ∀ f, Meth X.K (ca X.K c) "__getitem__" f → PySem.W.fnIn X.K f = true) (hr : RoomB (k + 1) X.A) (hm : ModeX m X)
    (h : Ev X F0 a r O fun d O1 => ∃ ks fs, InstD O1 c ks fs d ∧ Ev X F0 b r O1 fun y O2 => InstD O2 c ks fs d ∧ S [d, y] O2 Q fun _ _ => False)
    (hsl : ∀ x i, subscripted b true (.ref x) i = runValue (.builtin "lifetime.subscript" ⟨[.ref x, i], []⟩) := by intros; with_unfolding_all rfl)
    (ht : eval (.Subscript a b pos) X.env = (do
      let o ← eval a X.env
      let i ← holding [o] (eval b X.env)
      standAt pos
      subscriptTail a b o i) := by rfl) : Ev X F0 (.Subscript a b pos) r O Q := by
  obtain ⟨f, fd, ps, FB, hme, hb⟩ := G.ex
  intro σ H F hx en pins s I
  rw [ht]
  refine wpAny_bind (thn (h σ H F hx en pins s I) fun ov s1 ⟨v, H1, I1, rv, d, O1, F1, ⟨ks, fs, hd, q⟩, rp, hx1, l1⟩ => ?_)
  refine wpAny_bind (wpAny_holding (thn (q σ H1 F1 hx1 (en.mono l1) pins s1 I1) fun iv s2 ⟨y, H2, I2, ry, dy, O2, F2, ⟨hd2, hS⟩, rpy, hx2, l2⟩ => ?_))
  refine wpAny_bind (wpAny_standAt ?_)
  have rp2 := rp.mono l2
  obtain ⟨ad, dx, xs, rfl, hins, hl, hfs⟩ := inst_at hx2 hd2 rp2
  obtain rfl : ov = Value.ref ad := rv
  obtain ⟨mA, J0, _, _, _, _⟩ := ins_get I2.hok hins
  obtain ⟨od, J, _⟩ := J0.look
  obtain ⟨fr, hF⟩ := I2.fr
  refine PySem.W.sub_K hF I2.ok.mod.kin J hme.at_ (hfn _ hme) hme.fn (thn (run_b1 (vs := [.ref ad, y]) (us := [.ref ad, iv]) FB hr hm hb I2 (.cons rfl (.cons ry .nil)) (sp_at0 hx2 (.cons rp2 (.cons rpy .nil)) hS)) fun u s3 q3 => ep_imp q3 fun _ _ z => z.up (l1.trans l2)) (hsl _ _)
/-- x != y, x of a class with its own __eq__ (and object's __ne__) -/
structure NeK (K : PySem.W.Frag) (C : Addr) : Prop where
  ne : PySem.W.findIn K (.ref C) "__ne__" = some (some (.builtin "object.__ne__"))
  ob : PySem.W.mroIn K C (.type "object") = some true
theorem ne_run {A : Around} {E : Value → Shared → Prop} {s : Shared} {x y C f : Addr} {od : Option Obj} {ox : Obj} {K : PySem.W.Frag} {prog : Program} {w : World} {Qv : Value → Shared → Prop} (hu : A.units + 2 < cLine) (KI : K.In s.heap) (J : PySem.W.InstAt s.heap x ox C od) (Jy : PySem.W.Looks (model prog w) s.heap (typeOf (.ref y)) (.ref C)) (hn : NeK K C)
    (heq : PySem.W.findIn K (.ref C) "__eq__" = some (some (.ref f))) (hf : PySem.W.isFn K (.ref f) = true) (h : wpAny (model prog w) A.in1 (call (.ref f) [.ref x, .ref y]) (fun v s' => ∃ b, v = .bool b ∧ Qv (.bool (!b)) s') E s) :
    wpAny (model prog w) A (compareOp .NotEq (.ref x) (.ref y)) Qv E s := by
  show wpAny _ _ (richCompare .NotEq (.ref x) (.ref y)) _ _ _
  have ent : wpAny (model prog w) A.in1 (Builtin.«object.__ne__» ⟨[.ref x, .ref y], []⟩) (fun fin s' => ∃ v, fin = .done (.ret v) ∧ ∃ b, v = .bool b ∧ Qv (.bool b) s') E s := by
    unfold Builtin.«object.__ne__»
    refine wpAny_bind (m := slotArgs "__ne__" 1 _) (wpAny_pure ?_)
    refine wpAny_bind (wpAny_cRoomFor (show A.in1.units < cLine by show A.units + 1 < cLine; omega) ?_)
    refine wpAny_bind (m := callSpecialIfBound? (.ref x) (Str.ofString "__eq__") [.ref y]) (PySem.W.ifBound_K KI J heq hf (wpAny_mono h (fun v s' ⟨b, eb, q⟩ => ?_) fun _ _ e => e))
    subst eb
    refine wpAny_bind (m := truthy (.bool b)) (wpAny_truthy_bool ?_)
    exact wpAny_pure ⟨_, rfl, _, rfl, q⟩
  have one : wpAny (model prog w) A (tryCompare (.ref x) "__ne__" (.ref y)) (fun r s' => ∃ v, r = some v ∧ Qv v s') E s := by
    have go : wpAny (model prog w) A (call (.builtin "object.__ne__") [.ref x, .ref y]) (fun v s' => ∃ b, v = .bool b ∧ Qv (.bool b) s') E s :=
      wpAny_call (codeAny_call_builtin F.cmp_object.ne.plain F.cmpEntry_ne (PySem.W.check_slot F.cmpKind_ne F.cmpSplit_ne (J.type.andThen (PySem.W.looks_mroIn KI hn.ob)) (F.cmpArgs_ne _ _) (wpAny_mono ent (fun fin s' ⟨v, e1, q⟩ => by subst e1; exact q) fun _ _ z => z)))
    have fin : wpAny (model prog w) A (call (.builtin "object.__ne__") [.ref x, .ref y] >>= fun v => pure (some v)) (fun o s' => ∃ b, o = some (Value.bool b) ∧ Qv (.bool b) s') E s :=
      wpAny_bind (wpAny_mono go (fun v s' ⟨b, eb, q⟩ => wpAny_pure ⟨b, by rw [eb], q⟩) fun _ _ z => z)
    have bound : wpAny (model prog w) A (callSpecialIfBound? (.ref x) "__ne__" [.ref y]) (fun o s' => ∃ b, o = some (Value.bool b) ∧ Qv (.bool b) s') E s := by
      simp only [callSpecialIfBound?, bindSpecialIfBound?]
      refine wpAny_holding (wpAny_bind (wpAny_bind (wpAny_bind (J.type.here ((PySem.W.looks_findIn KI hn.ne).here ?_)))))
      refine wpAny_bind (wpAny_askSetting (wpAny_ite ?_))
      split
      · exact wpAny_bind (wpAny_of_eq (F.cmp_object.ne.bind _) (wpAny_pure (by exact fin)))
      · exact wpAny_tryCatch (wpAny_bind (wpAny_of_eq (F.cmp_object.ne.bind _) (wpAny_pure (by exact fin))))
    unfold tryCompare
    refine wpAny_bind (wpAny_mono bound (fun o s' ⟨b, eb, q⟩ => ?_) fun _ _ z => z)
    subst eb
    exact wpAny_pure ⟨_, rfl, q⟩
  unfold richCompare
  simp only [oneThing_ref]
  refine wpAny_holding (wpAny_bind (wpAny_cRoomFor (by omega) ?_))
  refine wpAny_bind (J.type.here (wpAny_bind (Jy.here ?_)))
  rw [if_neg (by simp)]
  refine wpAny_bind (wpAny_pure ?_)
  simp only [Bool.false_eq_true, if_false]
  refine wpAny_bind (wpAny_mono one (fun r s' z => ?_) fun _ _ e => e)
  obtain ⟨v, rfl, hq⟩ := z
  exact wpAny_pure hq
theorem od_ne_ob {ks ks2 : List Str} {fs fs2 : List D} {d d2 : D} {t : Bool} (G : Fm X.prog X.w X.K X.mg X.base m k c "__eq__" S) (hn : NeK X.K (ca X.K c)) (hr : RoomB (k + 1) X.A) (hm : ModeX m X) (hd : InstD O c ks fs d) (hd2 : InstD O c ks2 fs2 d2)
    (h : S [d, d2] O (fun z O' => z = .bl t ∧ O' = O) fun _ _ => False) : OpD X (compareOp .NotEq) O d d2 (.bl (!t)) := by
  obtain ⟨f, fd, ps, FB, hme, hb⟩ := G.ex
  intro F0 F H vx vy hx r1 r2 pins s σ u v I ru rv
  obtain ⟨a1, dx, xs, rfl, hins, _, _⟩ := inst_at hx hd r1
  obtain ⟨a2, dy, ys, rfl, hins2, _, _⟩ := inst_at hx hd2 r2
  obtain rfl : u = Value.ref a1 := ru
  obtain rfl : v = Value.ref a2 := rv
  obtain ⟨mA, J0, _, _, _, _⟩ := ins_get I.hok hins
  obtain ⟨od, J, _⟩ := J0.look
  obtain ⟨mA2, J02, _, _, _, _⟩ := ins_get I.hok hins2
  obtain ⟨od2, J2, _⟩ := J02.look
  refine ne_run (by have := hr.un; omega) I.kIn J J2.type hn hme.at_ hme.fn (thn (run_b1 (vs := [.ref a1, .ref a2]) (us := [.ref a1, .ref a2]) FB hr hm hb I (.cons rfl (.cons rfl .nil)) (sp_at0 hx (.cons r1 (.cons r2 .nil)) h)) fun u s1 ⟨y, H1, I1, ry, d1, O1, F1, ⟨e1, e2⟩, rp1, hx1, l1⟩ => ?_)
  subst e1 e2
  rw [rep_bl.mp rp1] at ry
  exact ⟨t, ry, .bl (!t), H1, I1, rfl, _, _, F1, ⟨rfl, rfl⟩, rep_bl.mpr rfl, hx1, l1⟩

/-! ## in -/
theorem any_eqV_str {x : Str} : ∀ {ys : List Str}, inV (.str x) (ys.map V.str) = decide (x ∈ ys)
  | [] => rfl
  | y :: ys => by
    have ih := any_eqV_str (x := x) (ys := ys)
    unfold inV at ih ⊢
    rw [List.map_cons, List.any_cons, ih]
    show ((y == x) || decide (x ∈ ys)) = _
    by_cases h : x = y
    · subst h; simp
    · have h2 : (y == x) = false := beq_eq_false_iff_ne.mpr (Ne.symm h)
      rw [h2]; simp [h]
theorem any_eqV_int {x : Int} : ∀ {ys : List Int}, inV (.int x) (ys.map V.int) = decide (x ∈ ys)
  | [] => rfl
  | y :: ys => by
    have ih := any_eqV_int (x := x) (ys := ys)
    unfold inV at ih ⊢
    rw [List.map_cons, List.any_cons, ih]
    show ((y == x) || decide (x ∈ ys)) = _
    by_cases h : x = y
    · subst h; simp
    · have h2 : (y == x) = false := beq_eq_false_iff_ne.mpr (Ne.symm h)
      rw [h2]; simp [h]
theorem flat_strs : ∀ {ys : List Str}, (ys.map V.str).all flatV = true
  | [] => rfl
  | y :: ys => by rw [List.map_cons, List.all_cons, flat_strs]; rfl
theorem flat_ints : ∀ {ys : List Int}, (ys.map V.int).all flatV = true
  | [] => rfl
  | y :: ys => by rw [List.map_cons, List.all_cons, flat_ints]; rfl
theorem od_in_strs {x : Str} {ys : List Str} : OpD X (compareOp .In) O (.str x) (.tup (ys.map D.str)) (.bl (decide (x ∈ ys))) := by
  intro F0 F H vx vy hx r1 r2
  obtain ⟨p, xs, rfl, h1, h2⟩ := rep_tup.mp r2
  have e := reps_strs' h2
  subst e
  rw [rep_str.mp r1]
  refine rf_of op_in_seq ⟨p, _, rfl, .inr (hx.fh.sqT h1), rfl, flat_strs, ?_⟩
  rw [if_neg Bool.false_ne_true, any_eqV_str]
  exact Po.here hx (rep_bl.mpr rfl)
theorem od_nin_strs {x : Str} {ys : List Str} : OpD X (compareOp .NotIn) O (.str x) (.tup (ys.map D.str)) (.bl (!decide (x ∈ ys))) := by
  intro F0 F H vx vy hx r1 r2
  obtain ⟨p, xs, rfl, h1, h2⟩ := rep_tup.mp r2
  have e := reps_strs' h2
  subst e
  rw [rep_str.mp r1]
  refine rf_of op_notIn_seq ⟨p, _, rfl, .inr (hx.fh.sqT h1), rfl, flat_strs, ?_⟩
  rw [if_pos rfl, any_eqV_str]
  exact Po.here hx (rep_bl.mpr rfl)
theorem od_in_ints {x : Int} {ys : List Int} : OpD X (compareOp .In) O (.int x) (.lst (ys.map D.int)) (.bl (decide (x ∈ ys))) := by
  intro F0 F H vx vy hx r1 r2
  obtain ⟨p, xs, rfl, h1, h2⟩ := rep_lst.mp r2
  have e := reps_ints' h2
  subst e
  rw [rep_int.mp r1]
  refine rf_of op_in_seq ⟨p, _, rfl, .inl (.inl (.inl (hx.fh _ _ h1))), rfl, flat_ints, ?_⟩
  rw [if_neg Bool.false_ne_true, any_eqV_int]
  exact Po.here hx (rep_bl.mpr rfl)
theorem od_in_sign {n : Nat} {z : Str} : OpD X (compareOp .In) O (.str ⟨#[n]⟩) (.str z) (.bl (decide (n ∈ z.cps.toList))) := by
  intro F0 F H vx vy hx r1 r2
  exact rf_of op_in_sign ⟨n, z, rep_str.mp r1, rep_str.mp r2, Po.here hx (rep_bl.mpr rfl)⟩

/-! ## starred arguments -/
theorem av_star {Q : List D → Om → Prop} {p : Pos} (h : Ev X F0 e r O fun d O1 => ∃ ds, (d = .tup ds ∨ d = .lst ds) ∧ Av X F0 es r O1 fun ds2 O2 => Q (ds ++ ds2) O2)
    (hs : starEach (.Starred e p :: es) X.env = (true, eval e X.env) :: starEach es X.env := by rfl) : Av X F0 (.Starred e p :: es) r O Q := by
  intro σ H F hx en
  refine tAS_of (StX.pa_star peS paS hs) ?_
  refine h.bind hx en fun d O1 F1 H1 v ⟨ds, hd, q⟩ rp hx1 en1 l1 => ?_
  have key : ∀ {p : Addr} {xs : List V}, Reps X.K F1 ds xs → tAS X es σ H1 fun ys H2 => Ao X F0 F Q (xs ++ ys) H2 := fun {p xs} h2 =>
    q.bind hx1 en1 fun ds2 O2 F2 H2 vs q2 rp2 hx2 en2 l2 => ⟨_, O2, F2, q2, (h2.mono l2).append rp2, hx2, l1.trans l2⟩
  rcases hd with rfl | rfl
  · obtain ⟨p, xs, rfl, h1, h2⟩ := rep_tup.mp rp
    exact ⟨p, xs, rfl, .inl (hx1.fh.sqT h1), key (p := p) h2⟩
  · obtain ⟨p, xs, rfl, h1, h2⟩ := rep_lst.mp rp
    exact ⟨p, xs, rfl, .inr (.inl (.inl (hx1.fh _ _ h1))), key (p := p) h2⟩

/-! ## methods of built-in types -/
def MtD (X : Cx) (id : String) (O : Om) (d : D) (ds : List D) (Q : D → Om → Prop) : Prop := ∀ F0 F H v vs, Hx X.K F0 F H O → Rep X.K F d v → Reps X.K F ds vs → rm X id v vs H (Po X F0 F Q)
/-- the receiver is of the type T -/
def tyR (O : Om) (T : String) : D → Prop
  | .str _ => T = "str"
  | .lst _ => T = "list"
  | .adr p => T = "list" ∧ ∃ ds, O p = some (.lst ds)
  | _ => False
theorem tyR_ok {T : String} {d : D} {v : V} {H : Hp} (h : tyR O T d) (hx : Hx X.K F0 F H O) (rp : Rep X.K F d v) : tyV X.K T v H := by
  cases d with
  | str x => rw [rep_str.mp rp]; exact h
  | lst ds => obtain ⟨p, xs, rfl, h1, _⟩ := rep_lst.mp rp; exact .inl ⟨h, xs, .inl (.inl (hx.fh _ _ h1))⟩
  | adr p =>
    obtain ⟨h1, ds, h2⟩ := h
    obtain ⟨_, xs, h3, _⟩ := hx.om p _ h2
    rw [rep_adr.mp rp]
    exact .inl ⟨h1, xs, .inl (.inl h3)⟩
  | _ => exact h.elim
theorem ev_bm {T id : String} {name : Str} {apos cpos : Pos} (pa : PlainAttrs T) (slot : Slot T name id) (hty : typeOf (.builtin id) = pure (.type "method_descriptor"))
    (h : Ev X F0 o r O fun d O1 => tyR O1 T d ∧ Av X F0 (e :: es) r O1 fun ds O2 => MtD X id O2 d ds Q)
    (hbase : attributeBase o name X.env (eval o X.env) = eval o X.env := by rfl)
    (hfew : ((backTo cpos (starEach (e :: es) X.env)).all (fun x => !x.1) && (backToKw cpos (keywordEach [] X.env)).all (fun x => x.1.isSome)
      && decide ((e :: es).length + ([] : List Keyword).length + (if ([] : List Keyword).isEmpty then 0 else 1) < 30)) = true := by rfl)
    (hline : (apos.endLine == cpos.line) = true := by rfl) (hs : starEach (e :: es) X.env = (false, eval e X.env) :: starEach es X.env := by rfl) (hplain : (backTo cpos (starEach es X.env)).any (·.1) = false := by rfl) : Ev X F0 (.Call (.Attribute o name apos) (e :: es) [] cpos) r O Q := by
  intro σ H F hx en
  refine tS_of (pe_bm pa slot hty mtS peS paS hbase hfew hline hs hplain) ?_
  refine h.bind hx en fun d O1 F1 H1 v ⟨ty, q⟩ rp hx1 en1 l1 => ⟨tyR_ok ty hx1 rp, ?_⟩
  exact q.bind hx1 en1 fun ds O2 F2 H2 vs q2 rp2 hx2 en2 l2 => rm_mono (q2 F0 F2 H2 v vs hx2 (rp.mono l2) rp2) fun _ _ z => z.up (l1.trans l2)
theorem md_split {x y : Str} (hy : (y.length == 0) = false) (hl : x.length ≤ 1000000) (q : Q (.lst ((Txt.split x y).map D.str)) O) : MtD X "str.split" O (.str x) [.str y] Q := by
  intro F0 F H v vs hx r1 r2
  obtain ⟨w, rfl, r3⟩ := reps1 r2
  exact rm_of mt_split ⟨x, y, rep_str.mp r1, by rw [rep_str.mp r3], hy, by rw [sizeLine_eq]; omega, fun p hp => (Po.newL hx reps_strs p hp).of (Le.refl F) fun d O' ⟨e1, e2⟩ => by rw [e1, e2]; exact q⟩
theorem md_join {x : Str} {ys : List Str} (hl : (ys.map (·.length)).sum + ys.length * x.length ≤ 16777216) (q : Q (.str (Txt.join x ys)) O) : MtD X "str.join" O (.str x) [.lst (ys.map D.str)] Q := by
  intro F0 F H v vs hx r1 r2
  obtain ⟨w, rfl, r3⟩ := reps1 r2
  obtain ⟨p, xs, rfl, h1, h2⟩ := rep_lst.mp r3
  have e := reps_strs' h2
  subst e
  exact rm_of mt_join ⟨x, p, ys, rep_str.mp r1, rfl, .inl (.inl (.inl (hx.fh _ _ h1))), hl, Po.val q hx (rep_str.mpr rfl)⟩
theorem md_append {p : Addr} {ds : List D} {d : D} (hp : O p = some (.lst ds)) (hl : ds.length ≤ 1000000) (q : Q .non (O.put p (.lst (ds ++ [d])))) : MtD X "list.append" O (.adr p) [d] Q := by
  intro F0 F H v vs hx r1 r2
  obtain ⟨w, rfl, r3⟩ := reps1 r2
  obtain ⟨_, xs, h1, h2⟩ := hx.om p _ hp
  exact rm_of mt_append ⟨p, xs, w, rep_adr.mp r1, rfl, h1, by rw [← h2.length, sizeLine_eq]; omega, .non, _, F, q, rep_non.mpr rfl, hx.setL hp (h2.append (.cons r3 .nil)), Le.refl F⟩

/-! ## items stored -/
theorem gv_sub {QR : Rho → Om → Prop} {d : D} (h : Ev X F0 o r O fun z O1 => Ev X F0 e r O1 fun i O2 => ∃ p ds j k, z = .adr p ∧ i = .int j ∧ O2 p = some (.lst ds) ∧ ixN ds.length j = some k ∧ QR r (O2.put p (.lst (ds.set k d))))
    (ha : ∀ v, assign (.Subscript o e pos) X.env v = (do
      let ov ← holding [v] (eval o X.env)
      let iv ← holding [v, ov] (eval e X.env)
      standAt pos
      holding [v, ov, iv] (setItem ov iv v)
      release [v, ov, iv] []) := by intro _; rfl) : Gv X F0 (.Subscript o e pos) d r O QR := by
  intro σ H F v hx en rp
  refine tGS_of (pg_sub peS peS set_list ha) ?_
  refine h.bind hx en fun z O1 F1 H1 x q rp1 hx1 en1 l1 => ?_
  refine q.bind hx1 en1 fun i O2 F2 H2 y ⟨p, ds, j, k, ez, ei, hp, hk, q2⟩ rp2 hx2 en2 l2 => ?_
  subst ez ei
  obtain ⟨_, xs, h1, h2⟩ := hx2.om p _ hp
  refine ⟨p, xs, j, k, rep_adr.mp rp1, rep_int.mp rp2, h1, by rw [← h2.length]; exact hk, r, _, F2, q2, hx2.setL hp (h2.set (rp.mono (l1.trans l2)) k), l1.trans l2, en2⟩
end
end K97
/-! # Part M: own exceptions, made (super().__init__(x); self.f = x), raised -/
namespace K97
open PySem PySem.Spec PyProof.Rows L2

/-! ## the own __init__, run -/
/-- what the written part says of such a class -/
structure XC (P : Program) (K : PySem.W.Frag) (C : Addr) (f v : Str) (p0 p1 p2 p3 p4 p5 p6 p7 p8 p9 : Pos) : Prop where
  oex : OexC K C
  fI : ∃ (fI cc cda : Addr) (qual : Str) (params : Arguments) (scope : Scope) (dV kV doc pm : Value) (an : Option Addr) (ct oc : Value) (od : Option Addr) (osl : Array (Option Value)) (cdD : ClassData) (ccl cl : Value) (cdd cld : Option Addr) (vs : Array Value) (ccs csl : Array (Option Value)) (file : Str) (tf : Tok) (ar : Arg),
    PySem.W.findIn K (.ref C) "__init__" = some (some (.ref fI)) ∧ PySem.W.typeIn K (.ref fI) = some (.type "function") ∧
    K.lookup fI = some ⟨oc, od, .func (PySem.W.fnX "__init__" qual params
      [.Expr (.Call (.Attribute (.Call (.Name "super" p0) [] [] p1) "__init__" p2) [.Name v p3] [] p4) p5, .Assign [.Attribute (.Name "self" p6) f p7] (.Name v p8) p9] scope [("__class__", cc)] dV kV doc pm an (.ref cda) ct), osl⟩ ∧
    PySem.W.codeIn K (.ref cda) qual = true ∧ K.lookup cda = some ⟨ccl, cdd, .fields vs, ccs⟩ ∧ vs[2]? = some (.str file tf) ∧ ((P.main.file : Str) == file) = true ∧
    K.lookup cc = some ⟨cl, cld, .cell (some (.ref C)), csl⟩ ∧ PySem.W.clsIn K C = some cdD ∧
    (params.posonlyargs ++ params.args).head? = some ar ∧ ar.arg = "self" ∧
    scope.names.lookup ("super" : Str) = some .globalImplicit ∧ scope.names.lookup ("__class__" : Str) = some .free ∧ scope.names.lookup ("self" : Str) = some .local ∧ scope.names.lookup v = some .local ∧ scope.kind = .function ∧ scope.isCoroutine = false ∧ scope.isGenerator = false ∧
    (∀ x ∈ scope.names, x.2 ≠ .cell) ∧ (∀ a b : Value, bindArgs (PySem.W.fnX "__init__" qual params
      [.Expr (.Call (.Attribute (.Call (.Name "super" p0) [] [] p1) "__init__" p2) [.Name v p3] [] p4) p5, .Assign [.Attribute (.Name "self" p6) f p7] (.Name v p8) p9] scope [("__class__", cc)] dV kV doc pm an (.ref cda) ct) ⟨[a, b], []⟩ = pure (([("self", a), (v, b)] : List (Str × Value))))
  hev : ∀ env : PySem.Env, ∃ pl, eval (.Call (.Attribute (.Call (.Name "super" p0) [] [] p1) "__init__" p2) [.Name v p3] [] p4) env = (do
      let ov ← attributeBase (.Call (.Name "super" p0) [] [] p1) "__init__" env (eval (.Call (.Name "super" p0) [] [] p1) env)
      standAt p2.atName
      let (f, first) ← holding [ov] (getMethod ov "__init__" pl)
      callWith p4 f first (backTo p4 (starEach [.Name v p3] env)) [])
  mro : PySem.W.mroIn K C (.ref C) = some true
  sup : PySem.W.ks_superIn K C C "__init__" = some (some (.builtin "ValueError.__init__"))
  sta : PySem.W.nsIn K cStatics "thirdparty.any" = some none
  ve : PySem.W.subIn K (.ref C) (.type "ValueError") = some true
  at_ : PySem.W.findIn K (.ref C) f = some none
  gsup : PySem.W.nsIn K mainGlobals "super" = some none
  top : (P.main.scope.names.lookup ("super" : Str)).isSome = false
  nv : v ≠ "self"
  nd : (v == ("__debug__" : Str)) = false
section
variable {P : Program} {w : World} {A : Around} {K : PySem.W.Frag} {C : Addr} {f v : Str} {p0 p1 p2 p3 p4 p5 p6 p7 p8 p9 : Pos}
open PySem.W in
theorem exc_init_run (T : XC P K C f v p0 p1 p2 p3 p4 p5 p6 p7 p8 p9) {s : Shared} {mg mb : Str → Option Value} {a t0 : Addr} {u : Value} {fI : Addr} (hfI : findIn K (.ref C) "__init__" = some (some (.ref fI))) (X : K.In s.heap) (hlim : s.heap.NoLimit) (hns : s.heap.Ns mainGlobals mg) (hnb : s.heap.Ns builtinsNs mb) (hbb : ∀ x : Str, x ≠ "__name__" → mb x = bootBuiltins x)
    (hd : A.depth < recursionLimit) (hKa : K.lookup a = none) (ha : s.heap.get? a = some (PySem.HandSPX.excO C t0)) {R : Result → Shared → Prop}
    (hq : ∀ h' tk dx t1, (∀ b o, b ≠ a → s.heap.get? b = some o → h'.get? b = some o) → s.heap.objs.size ≤ dx → dx ≠ a → h'.get? a = some ({ cls := .ref C, dict := some dx, data := .fields #[.ref t1, .none, .none, .none, .bool false, .none] } : Obj) →
      h'.Ns1 dx (fun y => if y = f then some u else none) → R (.ok (.ret .none)) { s with heap := h', toks := tk }) :
    codeAny (model P w) A (.call (.ref fI) ⟨[.ref a, u], []⟩) R s := by
  obtain ⟨fI', cc, cda, qual, params, scope, dV, kV, doc, pm, an, ct, oc, od, osl, cdD, ccl, cl, cdd, cld, vs, ccs, csl, file, tf, ar, e1, e2, e3, e4, e5, e6, e7, e8, e9, e10, e11, s1, s2, s3, s4, s5, s6, s7, s8, hb⟩ := T.fI
  rw [hfI] at e1
  cases e1
  obtain ⟨nm, q, N, bs, bm, sn, sub, ab, col, dd, k0, k1, k2, k3, k5, hC, hbm⟩ := T.oex.cls
  have hcl : clsIn K C = some { name := nm, bases := bs, mro := .ref C :: bm, ns := N, qualname := q, hasDict := true, slotNames := sn, subclasses := sub, abstract := ab, collection := col, hasDel := false } := by unfold clsIn; rw [hC] <;> rfl
  have hself : (v == ("self" : Str)) = false := beq_eq_false_iff_ne.mpr T.nv
  refine ks_codeAny_call_defAt (binds := ([(("self" : Str), Value.ref a), (v, u)] : List (Str × Value))) hd (X _ _ e3) rfl hlim (codeRec_of X e4) rfl (.of_eq (hb _ _)) s8 (fun x hx => ?_) (fun g n1 k1 => ?_) s6 s7 s5
  · rcases List.mem_cons.mp hx with e | hx
    · rw [e]; exact s3
    · rw [List.mem_singleton.mp hx]; exact s4
  have ne_a : ∀ {b : Addr} {o : Obj}, s.heap.get? b = some o → g.get? b = some o := fun {b o} e => k1 b o e
  have Xg : K.In g := X.keeps k1
  have hag := ne_a ha
  have mself : (List.lookup ("self" : Str) (([((("self" : Str)), Value.ref a), (v, u)] : List (Str × Value)).reverse)) = some (.ref a) := by
    show List.lookup ("self" : Str) [(v, u), (("self" : Str), Value.ref a)] = _
    rw [List.lookup_cons, show (("self" : Str) == v) = false from beq_eq_false_iff_ne.mpr (Ne.symm T.nv), List.lookup_cons]
    rfl
  have mv : (List.lookup v (([((("self" : Str)), Value.ref a), (v, u)] : List (Str × Value)).reverse)) = some u := by
    show List.lookup v [(v, u), (("self" : Str), Value.ref a)] = _
    rw [List.lookup_cons, show (v == v) = true from beq_self_eq_true v]
  obtain ⟨oD, hD1, hD2⟩ : ∃ oD, g.get? C = some oD ∧ oD.data = .cls cdD := by
    unfold clsIn at e9
    split at e9
    · rename_i c d cd' sl ho
      cases e9
      exact ⟨_, Xg _ _ ho, rfl⟩
    · cases e9
  have hinst : ∀ {h : Heap}, h.get? a = some (PySem.HandSPX.excO C t0) → InstAt h a (PySem.HandSPX.excO C t0) C none := fun e => ⟨e, rfl, rfl, trivial⟩
  obtain ⟨hh, gn, dr, tk, os⟩ := s
  refine ks_wpAt_execs_cons ?_
  have hint : interactive (callEnv (PySem.W.fnX "__init__" qual params [.Expr (.Call (.Attribute (.Call (.Name "super" p0) [] [] p1) "__init__" p2) [.Name v p3] [] p4) p5, .Assign [.Attribute (.Name "self" p6) f p7] (.Name v p8) p9] scope [("__class__", cc)] dV kV doc pm an (.ref cda) ct) hh.objs.size fI) = false := by
    unfold interactive
    have e : (callEnv (PySem.W.fnX "__init__" qual params [.Expr (.Call (.Attribute (.Call (.Name "super" p0) [] [] p1) "__init__" p2) [.Name v p3] [] p4) p5, .Assign [.Attribute (.Name "self" p6) f p7] (.Name v p8) p9] scope [("__class__", cc)] dV kV doc pm an (.ref cda) ct) hh.objs.size fI).scope.kind = .function := s5
    simp [e]
  obtain ⟨pl, hev⟩ := T.hev (callEnv (PySem.W.fnX "__init__" qual params [.Expr (.Call (.Attribute (.Call (.Name "super" p0) [] [] p1) "__init__" p2) [.Name v p3] [] p4) p5, .Assign [.Attribute (.Name "self" p6) f p7] (.Name v p8) p9] scope [("__class__", cc)] dV kV doc pm an (.ref cda) ct) hh.objs.size fI)
  refine ks_wpAt_Expr_any (hi := hint) (ks_wpAt_MethodCall (pl := pl) ?_ hev)
  refine ks_wpAt_super_base s1 s2 (by decide) rfl (Xg _ _ e3) rfl e10 rfl (Xg _ _ e5) rfl e6 e7 T.top ?_
  have hkc : ∀ y, Env.kindOf (callEnv (PySem.W.fnX "__init__" qual params [.Expr (.Call (.Attribute (.Call (.Name "super" p0) [] [] p1) "__init__" p2) [.Name v p3] [] p4) p5, .Assign [.Attribute (.Name "self" p6) f p7] (.Name v p8) p9] scope [("__class__", cc)] dV kV doc pm an (.ref cda) ct) hh.objs.size fI) y = scope.names.lookup y := fun y => rfl
  generalize hE : (callEnv (PySem.W.fnX "__init__" qual params [.Expr (.Call (.Attribute (.Call (.Name "super" p0) [] [] p1) "__init__" p2) [.Name v p3] [] p4) p5, .Assign [.Attribute (.Name "self" p6) f p7] (.Name v p8) p9] scope [("__class__", cc)] dV kV doc pm an (.ref cda) ct) hh.objs.size fI) = env at hkc ⊢
  have eL : env.locals = hh.objs.size := by rw [← hE]; rfl
  have eK : env.scope.kind = .function := by rw [← hE]; exact s5
  have eC : env.cells = [(("__class__" : Str), cc)] := by rw [← hE]; rfl
  have eG : env.globals = mainGlobals := by rw [← hE]; rfl
  have eB : env.builtins = builtinsNs := by rw [← hE]; rfl
  rw [← eL] at n1
  refine ks_loadName_global eK ((hkc _).trans s1) (Calls.loadGlobal_builtin (by rw [eG]; exact hns.keeps k1) (mg_none_of X hns T.gsup) (by rw [eB]; exact hnb.keeps k1) ((hbb _ (by decide +kernel)).trans (by decide +kernel)) ⟨rfl, ?_⟩)
  refine wpAny_loadName_free eK ((hkc _).trans s2) (by rw [eC]; rfl) ⟨_, Xg _ _ e8, rfl⟩ ?_
  rw [e11]
  refine wpAny_loadName_local eK ((hkc _).trans s3) n1 mself ?_
  refine ks_wpAny_isType_cls hD1 hD2 ⟨rfl, ?_⟩
  refine ks_wpAny_call_super hD1 hD2 hag rfl (fun c e => by cases e) (looks_mroIn Xg T.mro) fun g2 so k2 => ?_
  have X2 : K.In g2 := Xg.keeps k2
  have ha2 : g2.get? a = some (PySem.HandSPX.excO C t0) := k2 _ _ hag
  have n2 := n1.keeps k2
  -- the bound ValueError.__init__
  refine kxs_getMethod kxs_ValueError so (looks_opaque X2 T.sta) (l₀ := .ref C :: bm) ((looks_clsIn X2 hcl).andThen .now) rfl X2 ?_ ((hinst ha2).type.andThen (looks_subIn X2 T.ve)) (fun e => ?_) (by decide) ?_
  · have z := T.sup
    unfold ks_superIn at z
    rw [hcl] at z
    exact z
  · rw [e] at ha2
    rw [X2 _ _ hC] at ha2
    cases ha2
  show wpAny _ _ (callWith p4 (.ref g2.objs.size) [] (backTo p4 (starEach [.Name v p3] env)) []) _ _ _
  have k3 : ∀ b o, g2.get? b = some o → (g2.push (kxs_mw "ValueError.__init__" a)).get? b = some o := fun b o e => Heap.get?_push_of_some _ e
  generalize hg3 : g2.push (kxs_mw "ValueError.__init__" a) = g3 at k3 ⊢
  have hu3 : g3.get? g2.objs.size = some (kxs_mw "ValueError.__init__" a) := by rw [← hg3]; exact Heap.get?_push_at rfl rfl
  have X3 : K.In g3 := X2.keeps k3
  have ha3 := k3 _ _ ha2
  have n3 := n2.keeps k3
  refine kxs_callWith (i := "ValueError.__init__") (x := a) (by rfl) (Calls.evalArgs_plain (Calls.spliced_cons (wpAny_Name (wpAny_loadName_local eK ((hkc _).trans s4) n3 mv ?_) T.nd)))
  refine Calls.spliced_nil ⟨hu3, ?_⟩
  show wpAny _ _ (call (.ref g2.objs.size) [u]) _ _ _
  refine wpAny_call (codeAny_of_tree ?_)
  show wpAny _ _ (callAny (.ref g2.objs.size) ⟨[u], []⟩) _ _ _
  simp only [callAny]
  refine wpAny_bind (wpAny_load hu3 ?_)
  simp only [kxs_mw, show (Value.type "method-wrapper" == Value.type "method" || Value.type "method-wrapper" == Value.type "builtin_function_or_method" || Value.type "method-wrapper" == Value.type "method-wrapper") = true by decide, if_true]
  refine KFB.if_so (by decide) ?_
  refine wpAny_bind (check_bound_init F.excBase_ValueError.toExcCallFacts (X3 _ _ hC) ha3 rfl ?_)
  refine wpAny_bind (wpAny_pure (wpAny_pure ⟨plainId_quiet F.excBase_ValueError.init.plain _, codeAny_builtin F.excBase_ValueError.initEntry ?_⟩))
  refine exc_init_tree (cls := .ref C) (t0 := t0) (dv := none) (c2 := .none) (c3 := .none) (b4 := .bool false) ha3 (by show 1 ≤ sizeLine; decide) fun g4 k4 ha4 _ => ?_
  -- self.f = v
  have la : a < hh.objs.size := Heap.lt_size ha
  have aL : hh.objs.size ≠ a := Nat.ne_of_gt la
  have k14 : ∀ b o, b ≠ a → hh.get? b = some o → g4.get? b = some o := fun b o hb e => k4 b o hb (k3 _ _ (k2 _ _ (k1 _ _ e)))
  have na_ : ∀ {b : Addr} {o : Obj}, K.lookup b = some o → b ≠ a := fun {b o} e z => by
    rw [z, hKa] at e
    cases e
  have X4 : K.In g4 := fun b o e => k14 b o (na_ e) (X _ _ e)
  have n4 : g4.Ns env.locals _ := Heap.Ns.at' n3 fun o e => k4 _ o (by rw [eL]; exact aL) e
  refine ks_wpAt_execs_cons ?_
  refine wpAt_of_wpAny (plainObj_wpAny_Assign_Attribute (wpAny_Name (wpAny_loadName_local eK ((hkc _).trans s4) n4 mv ?_) T.nd) (by rfl))
  refine wpAny_Name (wpAny_loadName_local eK ((hkc _).trans s3) n4 mself ?_)
  refine set_plain X4 (ox := PySem.HandSPX.excO C g3.objs.size) (od := none) ⟨ha4, rfl, rfl, trivial⟩ T.oex.sa ?_
  refine PySem.HandSPX.exc_osa X4 ha4 hcl (show PySem.HandSPX.refsVE (.ref C :: bm) = true from hbm) rfl T.at_ fun g5 tk' dx k5 dn dne ha5 hn5 => ?_
  refine wpAt_of_wpAny (wpAny_execs_nil ?_)
  exact hq g5 _ dx _ (fun b o hb e => k5 b o hb (k14 b o hb e)) (Nat.le_trans (by
    obtain ⟨o, _, _, e, _⟩ := n4
    have z := Heap.lt_size e
    rw [eL] at z
    exact Nat.le_of_lt z) dn) dne ha5 hn5
end
theorem Hx.lay {K : PySem.W.Frag} {F0 F H : Hp} {O : Om} (h : Hx K F0 F H O) {p : Addr} (hp : H p = none) (o : HO) : Hx K F0 F (upd H p o) O := by
  have ne : ∀ b, (∃ u, H b = some u) → b ≠ p := fun b ⟨u, q⟩ => ne_of_none q hp
  refine ⟨h.f0, fun a u q => by rw [upd_ne (ne a ⟨_, h.fh _ _ q⟩)]; exact h.fh _ _ q, fun a u q => ?_⟩
  obtain ⟨h1, h2⟩ := h.om a u q
  exact ⟨h1, h2.grow (Le.refl F) (fun b hb => upd_ne (ne b hb)) fun _ _ q => q⟩

/-! ## an expression that makes an exception; raise -/
def QxH (X : Cx) (F0 F1 : Hp) (Q : Exn → Om → Prop) : XK := fun cls d H => ∃ x O F, Q x O ∧ ExAt X.K F H cls d x ∧ Hx X.K F0 F H O ∧ Le F1 F
/-- the exception stands, outside of what is told -/
def MkQ (X : Cx) (pins : List (Addr × Obj)) (σ : St) (Q : XK) (u : Value) (s' : Shared) : Prop :=
  ∃ (a : Addr) (oe : Obj) (vs : Array Value) (sI : Shared) (H' : Hp) (cls : Value) (d : Option Addr), u = .ref a ∧ Inv X pins σ H' sI ∧ (∀ b o, sI.heap.get? b = some o → s'.heap.get? b = some o) ∧ sI.heap.get? a = none ∧ s'.heap.get? a = some oe ∧
    Zc cls d oe ∧ oe.data = .fields vs ∧ vs[1]? = some .none ∧ H' a = none ∧ s'.os = sI.os ∧ AllBare s'.gens ∧ Raises X cls ∧ Q cls d H' ∧ vs[2]? = some .none
def Ex (X : Cx) (F0 : Hp) (e : Expr) (r : Rho) (O : Om) (Q : Exn → Om → Prop) : Prop := ∀ pins s σ H F, Inv X pins σ H s → Hx X.K F0 F H O → En X.K F r σ → wpAny (model X.prog X.w) X.A (eval e X.env) (MkQ X pins σ (QxH X F0 F Q)) X.xe s
section
variable {X : Cx} {F0 F : Hp} {r : Rho} {O : Om} {e : Expr} {es : List Expr} {pos p : Pos} {C : Co} {QE : Exn → Om → Prop} {f v : Str} {p0 p1 p2 p3 p4 p5 p6 p7 p8 p9 : Pos}
theorem ex_new {c : Str} (T : XC X.prog X.K (He.ga X.K c) f v p0 p1 p2 p3 p4 p5 p6 p7 p8 p9) (hr : RoomB 0 X.A) (gC : X.mg c = some (.ref (He.ga X.K c))) (h : Ev X F0 e r O fun d O1 => QE ⟨c, some (f, d)⟩ O1) (hg : Gl X c := by rfl)
    (hdb : (c == ("__debug__" : Str)) = false := by decide) (he : starEach [e] X.env = (false, eval e X.env) :: starEach [] X.env := by rfl) : Ex X F0 (.Call (.Name c p) [e] [] pos) r O QE := by
  intro pins s σ H F I hx en
  obtain ⟨nm, q, N, bs, bm, sn, sub, ab, col, dd, k0, k1, k2, k3, k5, hC, hbm⟩ := T.oex.cls
  obtain ⟨fI, cc, cda, qual, params, scope, dV, kV, doc, pm, an, ct, oc, od, osl, cdD, ccl, cl, cdd, cld, vs, ccs, csl, file, tf, ar, iC, tI, _⟩ := id T.fI
  have hav : Av X F0 [e] r O fun ds O1 => ∃ d, ds = [d] ∧ QE ⟨c, some (f, d)⟩ O1 := av_cons (h.mono fun d O1 q => av_nil ⟨d, rfl, q⟩) he
  refine wpAny_Call_Name_kw (ld_glob I hg gC ?_ hdb)
  refine PySem.W.callWith_K (h₀ := X.base) I.ok.mod.kin T.oex.kC (thn (hav σ H F hx en pos pins s I) fun us s1 ⟨vs, H1, I1, rv, ds, O1, F1, ⟨d, ed, q⟩, rp, hx1, l1⟩ => ⟨I1.kIn, ?_⟩) he rfl
  subst ed
  obtain ⟨y, rfl, r1⟩ := reps1 rp
  obtain ⟨u, rfl, ru⟩ := vals1 rv
  show wpAny _ _ (call (.ref (He.ga X.K c)) [u]) _ _ _
  have KI := I1.kIn
  have G := I1.mod.glob.keeps I1.bk
  obtain ⟨mb, hb1, hb2⟩ := I1.mod.blt
  have B := hb1.keeps I1.bk
  have L := I1.ok.mod.nolimit.keeps I1.bk
  obtain ⟨hp, g, dr, tk, os⟩ := s1
  have kk : ∀ b o, hp.get? b = some o → ((hp.push (PySem.W.kdv_tup [u])).push (PySem.HandSPX.excO (He.ga X.K c) hp.objs.size)).get? b = some o := fun b o e => Heap.get?_push_of_some _ (Heap.get?_push_of_some _ e)
  have hget : ((hp.push (PySem.W.kdv_tup [u])).push (PySem.HandSPX.excO (He.ga X.K c) hp.objs.size)).get? (hp.objs.size + 1) = some (PySem.HandSPX.excO (He.ga X.K c) hp.objs.size) := by heap_get
  have KN : X.K.lookup (hp.objs.size + 1) = none := by
    cases z : X.K.lookup (hp.objs.size + 1) with
    | none => rfl
    | some o => exact absurd (Heap.lt_size (KI _ _ z)) (by simp)
  refine wpAny_call (PySem.HandSPX.call_own PySem.F.excBase_ValueError (fun Y => PySem.HandSPX.refsVE_contains Y bm hbm) (KI _ _ hC) (PySem.W.looks_findIn KI iC) (fun self => PySem.W.bind_fn KI self tI) (by show 1 ≤ sizeLine; decide)
    (exc_init_run T iC (fun b o e => kk _ _ (KI b o e)) (L.keeps kk) (G.keeps kk) (B.keeps kk) hb2 (by rw [make_depth]; have := hr.dp; omega) KN hget fun h' tk' dx t1 k2 dn dne ha hn => ?_))
  refine ⟨rfl, ?_⟩
  have k3 : ∀ b o, hp.get? b = some o → h'.get? b = some o := fun b o e => k2 b o (Nat.ne_of_lt (Nat.lt_succ_of_lt (Heap.lt_size e))) (kk _ _ e)
  obtain ⟨Gh, g1, g2⟩ := restrict h' fun b => decide (b ≠ hp.objs.size + 1)
  have gk : ∀ b, b ≠ hp.objs.size + 1 → Gh.get? b = h'.get? b := fun b hb => g1 b (decide_eq_true hb)
  have ge : Gh.get? (hp.objs.size + 1) = none := g2 _ (by simp)
  have dn2 : hp.objs.size ≤ dx := Nat.le_trans (Nat.le_trans (Nat.le_succ _) (by rw [Heap.size_push, Heap.size_push]; exact Nat.le_succ _)) dn
  have hdx : H1 dx = none := I1.hok.fresh dn2
  have rel : ∀ g, RelO (([(f, y)] : List (Str × V)).lookup g) (if g = f then some u else none) := relO_put (fs := []) (mA := fun _ => none) ru fun g => True.intro
  have J : Inv X pins σ (upd H1 dx (.xd [(f, y)])) ⟨Gh, g, dr, tk', os⟩ := I1.laid (t' := tk') (a := dx) (o := .xd [(f, y)]) (h' := Gh) (fun b o e => (gk b (Nat.ne_of_lt (Nat.lt_succ_of_lt (Heap.lt_size e)))).trans (k3 b o e)) dn2 ⟨_, hn.at fun o e => (gk dx dne).trans e, rel⟩
  refine ⟨hp.objs.size + 1, _, _, _, _, .ref (He.ga X.K c), some dx, rfl, J, fun b o z => ?_, ge, ha, ⟨rfl, rfl⟩, rfl, rfl, ?_, rfl, I1.bare, raises_own T.oex.exC T.oex.tyC, ⟨⟨c, some (f, d)⟩, O1, F1, q, ⟨rfl, dx, y, rfl, upd_same, hx1.fh.free hdx, r1⟩, hx1.lay hdx _, l1⟩, rfl⟩
  · by_cases hb : b = hp.objs.size + 1
    · rw [hb, ge] at z; cases z
    · exact (gk b hb).symm.trans z
  · rw [upd_ne (Ne.symm dne)]
    exact I1.hok.fresh (Nat.le_succ _)
/-- C(), C without an own __init__ -/
theorem ex_bare {c : Str} (q : PySem.W.excIn X.K (He.ga X.K c) He.veBase "ValueError.__new__" = true) (kC : PySem.W.keepIn X.K (.ref (He.ga X.K c)) = true) (rs : Raises X (.ref (He.ga X.K c))) (gC : X.mg c = some (.ref (He.ga X.K c))) (h : QE ⟨c, none⟩ O) (hg : Gl X c := by rfl)
    (hdb : (c == ("__debug__" : Str)) = false := by decide) : Ex X F0 (.Call (.Name c p) [] [] pos) r O QE := by
  intro pins s σ H F I hx en
  refine wpAny_Call_Name_kw (ld_glob I hg gC ?_ hdb)
  refine PySem.W.callWith_K0 I.kIn kC ?_
  obtain ⟨bm, N, nm, qn, bs, hdct, sn, sub, ab, col, dd, k0, k1, k2, k3, k5, mN, hC, hN, hni, T⟩ := exc_obj I.kIn q
  exact wpAny_call_exc_subT PySem.F.excBase_ValueError T hC hN hni (fun h' e hm => by
    obtain ⟨t, he, _, _⟩ := hm.there
    exact ⟨e, _, _, s, H, _, none, rfl, I, hm.keeps, hm.new, he, ⟨rfl, rfl⟩, rfl, rfl, I.hok.gone hm.new, rfl, I.bare, rs, ⟨_, O, F, h, ⟨rfl, rfl⟩, hx, Le.refl F⟩, rfl⟩) (by show 0 ≤ sizeLine; decide)
theorem s_raise (ht : Heat X) (xe : XeR X F0 r QE) (h : Ex X F0 e r O QE) : Sv X F0 (.Raise (some e) none pos) r O C := by
  intro σ H F hx en pins s I
  show wpAny _ _ (do standAt pos; raiseStmt X.env (some (do let v ← eval e X.env; standAt pos; pure v)) none) _ _ _
  have hm : wpAny (model X.prog X.w) X.A (do let v ← eval e X.env; standAt pos; pure v) (MkQ X pins σ (QxH X F0 F QE)) X.xe s := wpAny_bind (wpAny_mono (h pins s σ H F I hx en) (fun u s1 hu => wpAny_bind (wpAny_standAt (wpAny_pure hu))) fun _ _ z => z)
  rcases ht with hh | ⟨pp, hot⟩
  · refine wpAny_bind (wpAny_standAt (raise_made hh (wpAny_mono hm (fun u s1 hu => ?_) fun _ _ z => z)))
    obtain ⟨a, oe, vs, sI, H', cls, d, rfl, J, k, hne, ha, hz, hd, h1, na, os, ag, rr, ⟨qx, qO, qF, q1, q2, q3, q4⟩, hi0⟩ := hu
    have hi : 2 < vs.size := (Array.getElem?_eq_some_iff.mp hi0).1
    have q : ∃ x O F, QE x O ∧ ExAt X.K F H' cls d x ∧ Hx X.K F0 F H' O ∧ En X.K F r σ := ⟨qx, qO, qF, q1, q2, q3, en.mono q4⟩
    obtain ⟨r1, r2⟩ := rr (model X.prog X.w) s1.heap (J.kIn.keeps k)
    exact ⟨a, oe, vs, cls, rfl, ha, hz.1, hd, h1, r1, r2, xe _ _ (XE.new J k hne ha hz hd h1 na os ag q)⟩
  · refine wpAny_bind (wpAny_standAt (HotX.raise_made_hot (x1 := pp.1) (wpAny_mono hm (fun u s1 hu => ?_) fun _ _ z => z)))
    obtain ⟨a, oe, vs, sI, H', cls, d, rfl, J, k, hne, ha, hz, hd, h1, na, os, ag, rr, ⟨qx, qO, qF, q1, q2, q3, q4⟩, hi0⟩ := hu
    have hi : 2 < vs.size := (Array.getElem?_eq_some_iff.mp hi0).1
    have q : ∃ x O F, QE x O ∧ ExAt X.K F H' cls d x ∧ Hx X.K F0 F H' O ∧ En X.K F r σ := ⟨qx, qO, qF, q1, q2, q3, en.mono q4⟩
    obtain ⟨r1, r2⟩ := rr (model X.prog X.w) s1.heap (J.kIn.keeps k)
    obtain ⟨hh, vs1, e1, c1⟩ := hot.hot
    have P1 := (hot.now J).1
    have nap : pp.1 ≠ a := fun z => by rw [z, hne] at P1; cases P1
    have h1' : (vs.setIfInBounds 2 (Value.ref pp.1))[1]? = some Value.none := by
      rw [show (vs.setIfInBounds 2 (Value.ref pp.1))[1]? = vs[1]? by first | exact Array.getElem?_setIfInBounds_ne (by decide) | simp [Array.getElem?_setIfInBounds]]
      exact h1
    refine ⟨a, oe, vs, cls, rfl, ha, hz.1, hd, h1, hi, nap, ⟨hh, pp.2, vs1, k _ _ P1, e1, c1⟩, r1, r2, xe _ _ (XE.new J (fun b u z => ?_) hne (Heap.get?_update_self _ ha (Obj.isFreed_of_fields (Obj.data_mapFields hd _))) ⟨(Obj.cls_mapFields ..).trans hz.1, (HandSPX.dict_mapFields ..).trans hz.2⟩ (Obj.data_mapFields hd _) h1' na os ag q)⟩
    have nab : a ≠ b := fun y => by rw [← y, hne] at z; cases z
    show (s1.heap.update a (Obj.mapFields (·.setIfInBounds 2 (.ref pp.1)))).get? b = some u
    rw [Heap.get?_update_other _ _ nab]
    exact k b u z
end
end K97
/-! # Part N: try; a callee whose exception has no context; a callee that is handed an exception -/
namespace K97
open PySem PySem.Spec PyProof.Rows L2

/-! ## exceptions without context -/
section
variable (P : Program) (w : World) (K : PySem.W.Frag) (mg : Str → Option Value) (base : Heap)
structure FnN (k : Nat) (f : Addr) (fd : FuncData) (ps : List Str) (sp : Sp) : Prop where
  len : ∀ vs H Q E, sp vs H Q E → vs.length = ps.length
  run : ∀ (A : Around) (outer : List PySem.Env) (s : Shared) (H : Hp) (args : Args) (us : List Value) (vs : List V) (Q : VK) (E : XK), RoomB k A → A.handled = none → Env0 P w K mg base A outer s H → BindsTo s fd args (ps.zip us) → Vals vs us → sp vs H Q E →
    codeAny (model P w) A (.call (.ref f) args) (CR (L2N.CX P w) outer P w H s Q E) s
end
abbrev cxN (P : Program) (w : World) (K : PySem.W.Frag) (mg : Str → Option Value) (base : Heap) (N : List Str) (qual : Str) (scope : Scope) (f : Addr) (cd : Value) (A : Around) (outer : List PySem.Env) (s : Shared) (H : Hp) (E : XK) : Cx :=
  cxOf (L2N.CX P w) P w K mg base N qual scope f cd A outer s H E
def XeRN (X : Cx) (F0 : Hp) (r : Rho) (QE : Exn → Om → Prop) : Prop := L2N.Takes X fun cls d σ H => ∃ x O F, QE x O ∧ ExAt X.K F H cls d x ∧ Hx X.K F0 F H O ∧ En X.K F r σ
section
variable {P : Program} {w : World} {K : PySem.W.Frag} {mg : Str → Option Value} {base : Heap}
theorem fn_bN {k : Nat} {f : Addr} {name qual : Str} {params : Arguments} {body : List Stmt} {scope : Scope} {dV kV doc pm cdv ct oc : Value} {an od : Option Addr}
    {osl : Array (Option Value)} {N ps : List Str} {sp : Sp} (lk : K.lookup f = some ⟨oc, od, .func (PySem.W.fnOf name qual params body scope dV kV doc pm an cdv ct), osl⟩) (hcd : PySem.W.codeIn K cdv qual = true) (S : FnScope N ps scope)
    (len : ∀ vs H Q E, sp vs H Q E → vs.length = ps.length)
    (hbody : ∀ (A : Around) (outer : List PySem.Env) (s : Shared) (H : Hp) (vs : List V) (Q : VK) (E : XK), A.handled = none → RoomB k (cxN P w K mg base N qual scope f cdv A outer s H E).A → sp vs H Q E →
      tSSs (cxN P w K mg base N qual scope f cdv A outer s H E) body { nx := fun _ H' => Q .non H', rt := Q } (L2.start N vs) H) :
    FnN P w K mg base (k + 1) f (PySem.W.fnOf name qual params body scope dV kV doc pm an cdv ct) ps sp := by
  refine ⟨len, fun A outer s H args us vs Q E hr hA e0 hb r hsp => ?_⟩
  have hl := len _ _ _ _ hsp
  have KX : K.In s.heap := e0.mod.kin.keeps fun b o e => (e0.bs b o e).1
  have lim : s.heap.NoLimit := e0.mod.nolimit.keeps fun b o e => (e0.bs b o e).1
  have hkind : ∀ y ∈ ps.zip us, scope.names.lookup y.1 = some .local ∨ (scope.names.lookup y.1 = some .cell ∧ ((cellsFrom (s.heap.objs.size + 1) scope.names []).lookup y.1).isSome = true) := fun y hy =>
    (S.par y.1 (List.of_mem_zip (show (y.1, y.2) ∈ ps.zip us from hy)).1).imp id fun q => ⟨q, PySem.W.cellsFrom_some _ _ _ (.inl q)⟩
  refine codeAny_call_function hr.depth (KX _ _ lk) rfl S.co S.gen rfl (PySem.W.codeRec_of KX hcd) (hb _ _ _ _ (wpAny_newFunctionEnv_cells S.kind hkind fun env he s1 x => ?_))
  subst he
  refine ⟨lim.keeps x.toInCall.keep, codeAny_func ?_⟩
  have I := inv_start (CX := L2N.CX P w) (E := E) S (A := A) (f := f) (cd := cdv) hA e0 hl r x
  refine wpAny_mono (hbody A outer s H vs Q E hA (hr.deeper _) hsp [] s1 I) (fun fl s' hs => ?_) fun e s' hs => hs
  have fin : ∀ {σ' : St} {H' : Hp} {v : V} {u : Value}, Inv (cxN P w K mg base N qual scope f cdv A outer s H E) [] σ' H' s' → RelV v u → Q v H' → CE outer P w H s Q u s' :=
    fun {σ' H' v u} J rv q => ⟨v, H', J.os, J.bare, J.base, J.hok, rv, q⟩
  cases fl with
  | ret u => obtain ⟨v, σ', H', J, rv, q⟩ := hs; exact fin J rv q
  | next => obtain ⟨σ', H', J, q⟩ := hs; exact fin (v := V.non) (u := Value.none) J rfl q
  | brk => obtain ⟨_, _, _, q⟩ := hs; exact False.elim q
  | cont => obtain ⟨_, _, _, q⟩ := hs; exact False.elim q
theorem fn_dN {k : Nat} {f : Addr} {name qual : Str} {params : Arguments} {body : List Stmt} {scope : Scope} {dvs : List V} {kws : List (Str × V)} {fd : FuncData} {N ps : List Str} {S : SpD}
    (F : FunD K name qual params body scope dvs kws f fd) (sc : FnScope N ps scope) (len : ∀ ds O QD QE, S ds O QD QE → ds.length = ps.length)
    (hb : ∀ (cdv : Value) (A : Around) (outer : List PySem.Env) (s : Shared) (H : Hp) (E : XK) (F0 : Hp) (ds : List D) (O : Om) (QD : D → Om → Prop) (QE : Exn → Om → Prop),
      A.handled = none → RoomB k (cxN P w K mg base N qual scope f cdv A outer s H E).A → (∀ r, XeRN (cxN P w K mg base N qual scope f cdv A outer s H E) F0 r QE) → S ds O QD QE →
      Ssv (cxN P w K mg base N qual scope f cdv A outer s H E) F0 body (rho0 N ds) O { nx := fun _ O' => QD .non O', rt := QD }) : FnN P w K mg base (k + 1) f fd ps (sp K S) := by
  obtain ⟨oc, od, dV, kV, doc, pm, an, cdv, ct, osl, rfl, lk, hcd, _, _⟩ := F.ex
  refine fn_bN lk hcd sc (fun vs H Q E h => ?_) fun A outer s H vs Q E hm hr h => ?_
  · obtain ⟨F0, O, ds, QD, QE, hx, rp, hs, _⟩ := h
    rw [← rp.length]
    exact len _ _ _ _ hs
  · obtain ⟨F0, O, ds, QD, QE, hx, rp, hs, hq, he⟩ := h
    have xe : ∀ r, XeRN (cxN P w K mg base N qual scope f cdv A outer s H E) F0 r QE := fun r u s' x =>
      L2N.XE.leave (X := cxN P w K mg base N qual scope f cdv A outer s H E) (E := E) rfl rfl rfl (fun cls d σ H ⟨x, O', F', q, ea, hx', _⟩ => he _ _ _ ⟨x, O', F', q, ea, hx'⟩) x
    refine tSSs_mono (hb cdv A outer s H E F0 ds O QD QE hm hr xe hs _ H F0 hx (en0 rp)) ⟨fun σ' H' ⟨r, O', F', q, hx', l, _⟩ => ?_, fun v H' ⟨d, O', F', q, rp', hx', l⟩ => hq _ _ _ _ _ q rp' hx', fun _ _ ⟨_, _, _, z, _⟩ => z.elim, fun _ _ ⟨_, _, _, z, _⟩ => z.elim⟩
    exact hq _ _ _ _ _ q (rep_non.mpr rfl) hx'
structure FgN (P : Program) (w : World) (K : PySem.W.Frag) (mg : Str → Option Value) (base : Heap) (k : Nat) (x : Str) (S : SpD) : Prop where
  ex : ∃ f fd ps, FnN P w K mg base k f fd ps (sp K S) ∧ mg x = some (.ref f) ∧ PySem.W.keepIn K (.ref f) = true ∧ Binds K fd ps []
end
section
variable {X : Cx} {F0 F : Hp} {r : Rho} {O : Om} {Q : D → Om → Prop} {QE : Exn → Om → Prop} {a b c e : Expr} {es : List Expr} {pos p2 : Pos} {C : Co} {k : Nat} {S : SpD}
theorem ev_callN {x : Str} {p : Pos} (G : FgN X.prog X.w X.K X.mg X.base k x S) (hr : RoomB k X.A) (hm : X.A.handled = none) (hxe : XeRN X F0 r QE) (h : Av X F0 (e :: es) r O fun ds O1 => S ds O1 Q QE) (hg : Gl X x := by rfl)
    (hdb : (x == ("__debug__" : Str)) = false := by decide) (he : starEach (e :: es) X.env = (false, eval e X.env) :: starEach es X.env := by rfl) (hpl : (backTo pos (starEach es X.env)).any (·.1) = false := by rfl) : Ev X F0 (.Call (.Name x p) (e :: es) [] pos) r O Q := by
  obtain ⟨f, fd, ps, G, hmg, hk, hb⟩ := G.ex
  intro σ H F hx en pins s I
  refine wpAny_Call_Name_kw (ld_glob I hg hmg ?_ hdb)
  refine PySem.W.callWith_K (h₀ := X.base) I.ok.mod.kin hk (thn (h σ H F hx en pos pins s I) fun us s1 ⟨vs, H1, I1, rv, ds, O1, F1, hs, rp, hx1, l1⟩ => ⟨I1.kIn, ?_⟩) he hpl
  have hsp := sp_at (X := X) hx1 rp hs
  have hl : (us ++ []).length = ps.length := by rw [List.append_nil, ← rv.length]; exact G.len _ _ _ _ hsp
  have hb' := hb s1 us I1.kIn hl
  rw [List.append_nil] at hb'
  refine wpAny_call (codeAny_mono (G.run X.A X.stack s1 H1 ⟨us, []⟩ us vs _ _ hr hm I1.env0 hb' rv hsp) fun res s' hq => ?_)
  cases res with
  | error er => exact hxe _ _ (L2N.XE.of_call I1 (fun cls d H' ⟨x, O', F', q, ea, hx', l'⟩ => ⟨x, O', F', q, ea, hx', (en.mono l1).mono l'⟩) hq)
  | ok fl =>
    cases fl with
    | ret u => exact ep_imp (I1.after hq) fun _ _ z => z.up l1
    | next => exact False.elim hq
    | brk => exact False.elim hq
    | cont => exact False.elim hq
theorem s_raiseN (hh : X.A.handled = none) (xe : XeRN X F0 r QE) (h : Ex X F0 e r O QE) : Sv X F0 (.Raise (some e) none pos) r O C := by
  intro σ H F hx en pins s I
  show wpAny _ _ (do standAt pos; raiseStmt X.env (some (do let v ← eval e X.env; standAt pos; pure v)) none) _ _ _
  refine wpAny_bind (wpAny_standAt (raise_made hh (wpAny_bind (wpAny_mono (h pins s σ H F I hx en) (fun u s1 hu => wpAny_bind (wpAny_standAt (wpAny_pure ?_))) fun _ _ z => z))))
  obtain ⟨a, oe, vs, sI, H', cls, d, rfl, J, k, hne, ha, hz, hd, h1, na, os, ag, rr, ⟨qx, qO, qF, q1, q2, q3, q4⟩, hi0⟩ := hu
  obtain ⟨r1, r2⟩ := rr (model X.prog X.w) s1.heap (J.kIn.keeps k)
  exact ⟨a, oe, vs, cls, rfl, ha, hz.1, hd, h1, r1, r2, xe _ _ (L2N.XE.new J k hne ha ⟨hz.1, hz.2, fun vs' e => by rw [hd] at e; cases e; exact hi0⟩ hd h1 na os ag ⟨qx, qO, qF, q1, q2, q3, en.mono q4⟩)⟩

/-! ## try: body; except c: a suite that may raise -/
theorem s_try {x : Str} {cv : Value} {body suite : List Stmt} {b₀ : Stmt} {np pos' : Pos} (hs : X.stack = X.env :: X.outer) (hf : X.env.frame = some X.env.locals) (hc : Names X x cv) (hpa : ∀ hd : Option Value, PassesOwnAt (model X.prog X.w) (X.A.mark hd) X.A X.env X.xe)
    (QN QE : Exn → Om → Prop) (xe : XeR X F0 r QE)
    (hk1 : ∀ x O, QN x O → ∃ b, PySem.W.exmOne X.K (.ref (He.ga X.K x.c)) cv = some b ∧ (b = false → QE x O) ∧
      (b = true → ∀ (a : Addr) (oe : Obj) (pn : List (Addr × Obj)), Heat (L2H.suiteX X a ((a, oe) :: pn)) → XeR (L2H.suiteX X a ((a, oe) :: pn)) F0 r QE → Ssv (L2H.suiteX X a ((a, oe) :: pn)) F0 (b₀ :: suite) r O C))
    (hk2 : ∀ x O, QE x O → PySem.W.exmOne X.K (.ref (He.ga X.K x.c)) cv = some false)
    (hb : ∀ (F2 : Hp) (pn : List (Addr × Obj)) (xe' : Value → Shared → Prop), XeRN (X.tr pn xe') F2 r QN → XeR (X.tr pn xe') F2 r QE → PassesOwn (model X.prog X.w) X.A X.env xe' → Ssv (X.tr pn xe') F2 body r O C) :
    Sv X F0 (.Try body [.ExceptHandler (some (.Name x np)) none (b₀ :: suite) pos'] [] [] pos) r O C := by
  intro σ H F hx en
  have hx' : Hx X.K F F H O := ⟨Le.refl F, hx.fh, hx.om⟩
  have hcls : ∀ {F' : Hp} {H' : Hp} {cls : Value} {d : Option Addr} {y : Exn}, ExAt X.K F' H' cls d y → cls = .ref (He.ga X.K y.c) := fun h => h.1
  have up0 : ∀ {F1 : Hp} {H1 : Hp} {O1 : Om}, Hx X.K F F1 H1 O1 → Hx X.K F0 F1 H1 O1 := fun h => ⟨hx.f0.trans h.f0, h.fh, h.om⟩
  refine tSS_of (L2H.ps_try_onlyX (X := X) (x := x) (c := cv) (Wout := fun cls d σ H => ∃ x O F, QE x O ∧ ExAt X.K F H cls d x ∧ Hx X.K F0 F H O ∧ En X.K F r σ)
    (tb := fun W D σ H => ∀ (pn : List (Addr × Obj)) (xe' : Value → Shared → Prop), L2N.Takes (X.tr pn xe') W → L2.Takes (X.tr pn xe') (L2H.wPass X.K cv fun cls d σ H => ∃ x O F, QE x O ∧ ExAt X.K F H cls d x ∧ Hx X.K F0 F H O ∧ En X.K F r σ) → PassesOwn (model X.prog X.w) X.A X.env xe' → tSSs (X.tr pn xe') body D σ H)
    (ts := fun a cls d D σ H => ∀ (oe : Obj) (pn : List (Addr × Obj)), L2N.Zn cls d oe → (∃ vs, oe.data = .fields vs) → L2.Takes (L2H.suiteX X a ((a, oe) :: pn)) (fun cls d σ H => ∃ x O F, QE x O ∧ ExAt X.K F H cls d x ∧ Hx X.K F0 F H O ∧ En X.K F r σ) → L2H.HotC (L2H.suiteX X a ((a, oe) :: pn)) → tSSs (L2H.suiteX X a ((a, oe) :: pn)) (b₀ :: suite) D σ H)
    hs hf hc hpa xe (fun W pn xe' t1 t2 po => ⟨fun pins s σ H D I h => h pn xe' t1 t2 po pins s I⟩) (fun a oe cls d pn z1 z2 z3 z4 => ⟨fun pins s σ H D I h => h oe pn z1 z2 z3 z4 pins s I⟩)) ?_
  intro pn xe' t1 t2 po
  have hbd := hb F pn xe' (fun u s' y => t1 u s' ?_) (fun u s' y => t2 u s' ?_) po σ H F hx' en
  · refine tSSs_mono hbd ?_
    exact ⟨fun σ' H' ⟨r, O', F', q, h', l, n⟩ => ⟨r, O', F', q, up0 h', l, n⟩, fun v H' ⟨d, O', F', q, rp, h', l⟩ => ⟨d, O', F', q, rp, up0 h', l⟩, fun σ' H' ⟨r, O', F', q, h', l, n⟩ => ⟨r, O', F', q, up0 h', l, n⟩, fun σ' H' ⟨r, O', F', q, h', l, n⟩ => ⟨r, O', F', q, up0 h', l, n⟩⟩
  · obtain ⟨a, B, sI, pins, σ1, H1, cls, d, e1, I1, nb, up, sky, na, os, ag, y, O1, F1, q, ea, hx1, en1⟩ := y
    refine ⟨a, B, sI, pins, σ1, H1, cls, d, e1, I1, nb, up, sky, na, os, ag, ?_⟩
    obtain ⟨bb, hb1, hno, hyes⟩ := hk1 y O1 q
    rw [← hcls ea] at hb1
    refine ⟨bb, hb1, fun hT a2 na2 oe pn2 zn hd tk hot => ?_, fun hF => ⟨y, O1, F1, hno hF, ea, up0 hx1, en1⟩⟩
    have heat : Heat (L2H.suiteX X a2 ((a2, oe) :: pn2)) := by
      obtain ⟨p, h1, h2⟩ := hot
      refine .inr ⟨p, h1, fun v e => ?_, .inr h2⟩
      obtain ⟨_, vs, e2, _⟩ := h1
      rw [e2] at e; cases e
    have Z := hyes hT a2 oe pn2 heat tk σ1 H1 F1 (up0 hx1) en1
    exact tSSs_mono Z (ends.up (X := L2H.suiteX X a2 ((a2, oe) :: pn2)) hx1.f0)
  · obtain ⟨a, B, sI, pins, σ1, H1, cls, d, e1, I1, nb, up, sky, na, os, ag, y, O1, F1, q, ea, hx1, en1⟩ := y
    refine ⟨a, B, sI, pins, σ1, H1, cls, d, e1, I1, nb, up, sky, na, os, ag, ?_, y, O1, F1, q, ea, up0 hx1, en1⟩
    rw [hcls ea]
    exact hk2 y O1 q
end
end K97
/-! # Part O: an exception that is held: isinstance, its field, as an argument; except c as e -/
namespace K97
open PySem PySem.Spec PyProof.Rows L2

section
variable {prog : Program} {w : World} {A : Around} {E : Value → Shared → Prop} {s : Shared} {K : PySem.W.Frag} {x D : Addr} {ox : Obj} {od : Option Obj}
open PySem.W PySem.Calls in
theorem exc_cls (T : L2.ExcC K D) {Q : Option Value → Shared → Prop} (kin : K.In s.heap) (ins : PySem.W.InstAt s.heap x ox D od) (h : Q (some (.ref D)) { s with toks := s.toks + 1 }) :
    wpAny (model prog w) A (getAttr? (.ref x) "__class__") Q E s := by
  have hf : findObj K D od "__class__" = some (.bind (.builtin "getset_descriptor.__get__") (.builtin "object.__class__")) := by
    obtain ⟨cd, hc, _⟩ := any_some T.hd
    unfold findObj
    rw [hc, Option.bind_some, T.ha, Option.bind_some]
    simp [T.hn, T.ht]
  obtain ⟨hp, g, d, t, os⟩ := s
  have y0 := ins.type (M := model prog w)
  have y1 := looks_findIn (M := model prog w) kin T.hg
  have y2 := looks_findIn (M := model prog w) kin T.hk
  have y3 := looks_find (M := model prog w) kin ins hf
  have ysub : Looks (model prog w) hp (isInstance (.ref x) (.type "BaseException")) true := y0.andThen (looks_subIn kin T.hs)
  have e0 : (false && onTheHeap (Value.builtin "BaseException.__getattribute__")) = false := rfl
  have e2 : (Value.builtin "BaseException.__getattribute__" == Value.builtin "object.__getattribute__") = false := by decide +kernel
  have e1 : (onTheHeap (Value.ref D) && Value.builtin "BaseException.__getattribute__" == Value.builtin "object.__getattribute__") = false := by rw [e2]; rfl
  unfold getAttr? getAttrBy?
  unfold getAttrBy
  refine wpAny_bind (wpAny_mkText (wpAny_bind (wpAny_attempt (wpAny_holding (wpAny_bind (y0.at (wpAny_bind (y1.at ?_))))))))
  show wpAny _ _ (if (onTheHeap (Value.ref D) && Value.builtin "BaseException.__getattribute__" == Value.builtin "object.__getattribute__") = true then _ else _) _ _ _
  rw [e1, if_neg Bool.false_ne_true]
  unfold getAttrByItsOwn
  unfold hookBefore
  refine wpAny_bind ?_
  rw [if_pos (show onTheHeap (.ref D) = true from rfl)]
  refine y2.at ?_
  refine wpAny_bind (wpAny_attempt (wpAny_holding ?_))
  unfold callGetattribute
  rw [e0, if_neg Bool.false_ne_true]
  unfold boundAndCalled
  rw [PySem.F.excAttr_ValueError.ga.bind (.ref x)]; refine wpAny_bind (wpAny_pure ?_)
  show wpAny _ _ (call (.builtin "BaseException.__getattribute__") [.ref x, .str "__class__" t]) _ _ _
  refine wpAny_call (codeAny_call_builtin PySem.F.excAttr_ValueError.ga.plain PySem.F.entry_bexc_ga (@check_slot (model prog w) _ _ ⟨hp, g, d, t + 1, os⟩ "BaseException.__getattribute__" "BaseException" "__getattribute__" (.ref x) [.str "__class__" t] [] _ (by decide +kernel) (by decide +kernel) ysub (PySem.F.args_bexc_ga (.ref x) (.str "__class__" t)) ?_))
  unfold Builtin.«object.__getattribute__»; refine wpAny_bind (wpAny_of_eq (a := ((Value.ref x : Value), [Value.str "__class__" t])) (by first | rfl | (simp only [slotArgs]; rfl)) ?_)
  refine wpAny_bind (wpAny_pure (wpAny_bind (y0.at (wpAny_bind (y3.at ?_)))))
  show wpAny _ _ (holding [.builtin "object.__class__"] (call (.builtin "getset_descriptor.__get__") [.builtin "object.__class__", .ref x, .ref D]) >>= ret) _ _ _
  refine wpAny_bind (wpAny_holding (wpAny_call (class_get (s := ⟨hp, g, d, t + 1, os⟩) (ox := ox) (od := od) kin ins T.hm (wpAny_pure ?_))))
  show wpAny _ _ (handedOut (.ref D)) _ _ _
  rw [handedOut_of (v := .ref D) rfl]
  first
    | exact wpAny_pure (wpAny_pure h)
    | exact wpAny_pure h
    | exact wpAny_pure (wpAny_bind (wpAny_pure (wpAny_pure h)))
open PySem.W in
theorem exc_kit (T : L2.ExcC K D) : KitX K (.ref x) (.ref D) (fun h => InstAt h x ox D od) := by
  have isT : ∀ {cd : Option ClassData} (h : Heap), K.In h → True := fun _ _ => trivial
  refine ⟨fun _ _ _ I => I.type, fun _ _ X _ => ?_, fun h tp dd its n sl X htp => ?_, fun X I k => exc_cls T X I k⟩
  · obtain ⟨cdD, hcD, _⟩ := any_some T.hd
    unfold clsIn at hcD
    split at hcD
    · rename_i ho
      intro A' Q' E' s' k q
      unfold isType loadHead
      exact wpAny_bind (wpAny_loadPart (k _ _ (X _ _ ho)) (wpAny_pure q))
    · cases hcD
  · obtain ⟨cdD, hcD, _⟩ := any_some T.hd
    unfold clsIn at hcD
    split at hcD
    · rename_i ho
      refine Bool.eq_false_iff.mpr fun q => ?_
      have e : D = tp := Value.ref.inj (beq_iff_eq.mp q)
      subst e
      have z := (X _ _ ho).symm.trans htp
      cases z
    · cases hcD
end

/-! ## an exception that is held -/
/-- the object a is the exception x, held by the code; the frozen part F0 shows its field -/
structure XAt (X : Cx) (F0 : Hp) (a : Addr) (x : Exn) : Prop where
  ex : ∃ (oe : Obj) (d : Option Addr), (a, oe) ∈ X.pn ∧ oe.cls = .ref (He.ga X.K x.c) ∧ oe.dict = d ∧ (∃ vs, oe.data = .fields vs) ∧ match x.a with
    | none => d = none
    | some (f, z) => ∃ dx v, d = some dx ∧ F0 dx = some (.xd [(f, v)]) ∧ Rep X.K F0 z v
section
variable {X : Cx} {F0 F : Hp} {r : Rho} {O : Om} {Q : D → Om → Prop} {QE : Exn → Om → Prop} {a : Addr} {e : Expr} {es : List Expr} {pos : Pos} {x : Exn} {C : Co}
theorem XAt.inst (h : XAt X F0 a x) {pins : List (Addr × Obj)} {σ : St} {H : Hp} {s : Shared} (I : Inv X pins σ H s) (l : Le F0 H) : ∃ oe od, PySem.W.InstAt s.heap a oe (He.ga X.K x.c) od := by
  obtain ⟨oe, d, hp, hc, hd, ⟨vs, hv⟩, hm⟩ := h.ex
  have g := (I.pin (a, oe) (List.mem_append_left _ hp)).1
  have nc : PySem.W.notCls oe = true := by unfold PySem.W.notCls; rw [hv]
  rcases hx : x.a with _ | ⟨f, z⟩
  · rw [hx] at hm
    have hm : d = none := hm
    exact ⟨oe, none, g, hc, nc, by rw [hd, hm]; trivial⟩
  · rw [hx] at hm
    obtain ⟨dx, v, h1, h2, _⟩ := hm
    have ho : ObjOk X.prog X.w H s.heap dx (.xd [(f, v)]) := I.hok dx _ (l _ _ h2)
    obtain ⟨mA, hns, hr⟩ := ho
    obtain ⟨od, ho, hl⟩ := lookIn_ns hns
    exact ⟨oe, some od, g, hc, nc, by rw [hd, h1]; exact ho⟩
/-- isinstance(e, an own class) -/
theorem ev_isE {x2 : Str} {p : Pos} {c : Expr} {C : Addr} {b : Bool} (hx : XAt X F0 a x) (T : ExcC X.K (He.ga X.K x.c)) (hk : PySem.W.kitOne X.K (.ref (He.ga X.K x.c)) (.ref C) = some b)
    (h : Av X F0 [e, c] r O fun ds O1 => ds = [.adr a, .adr C] ∧ Q (.bl b) O1) (hm : X.mg x2 = none) (hv : bootBuiltins x2 = some (.builtin "isinstance")) (hg : Gl X x2 := by rfl) (hn : x2 ≠ "__name__" := by decide)
    (hdb : (x2 == ("__debug__" : Str)) = false := by decide) (he : starEach (e :: [c]) X.env = (false, eval e X.env) :: starEach [c] X.env := by rfl) (hpl : (backTo pos (starEach [c] X.env)).any (·.1) = false := by rfl) : Ev X F0 (.Call (.Name x2 p) (e :: [c]) [] pos) r O Q := by
  intro σ H F hx0 en
  refine tS_of (pe_callB clS hg hm hv paS hn hdb he hpl) ?_
  refine h.bind hx0 en fun ds O1 F1 H1 vs ⟨e1, q⟩ rp hx1 en1 l1 => ?_
  subst e1
  obtain ⟨v1, _, rfl, r1, rp⟩ := Reps.cons_iff.mp rp
  obtain ⟨v2, _, rfl, r2, rp⟩ := Reps.cons_iff.mp rp
  obtain rfl := Reps.nil_iff.mp rp
  obtain rfl := rep_adr.mp r1
  obtain rfl := rep_adr.mp r2
  intro pins s σ' us I rv
  cases rv with
  | cons rx rr =>
    cases rr with
    | cons rt rr =>
      cases rr
      cases rx
      cases rt
      obtain ⟨oe, od, J⟩ := hx.inst I (hx1.f0.trans hx1.fh)
      exact PySem.W.kia_one (exc_kit T) I.kIn J hk (fun z => nomatch z) fun tk => ⟨.bl b, H1, I.kept (t' := tk) fun _ _ z => z, rfl, _, O1, F1, q, rep_bl.mpr rfl, hx1, l1⟩
/-- e.f -/
theorem ev_xf {n : Str} {z : D} (hx : XAt X F0 a x) (hz : x.a = some (n, z)) (T : XfC X.K (He.ga X.K x.c)) (hno : PySem.W.findIn X.K (.ref (He.ga X.K x.c)) n = some none)
    (h : Ev X F0 e r O fun d O1 => d = .adr a ∧ Q z O1) (hb : attributeBase e n X.env (eval e X.env) = eval e X.env := by rfl) : Ev X F0 (.Attribute e n pos) r O Q := by
  intro σ H F hx0 en pins s I
  refine attr_of hb (thn (h σ H F hx0 en pins s I) fun u s1 ⟨v, H1, I1, rv, d, O1, F1, ⟨ed, q⟩, rp, hx1, l1⟩ => ?_)
  subst ed
  obtain rfl := rep_adr.mp rp
  obtain rfl : u = Value.ref a := rv
  obtain ⟨oe, d, hp, hc, hd, ⟨vs, hv⟩, hm⟩ := hx.ex
  rw [hz] at hm
  obtain ⟨dx, v, rfl, h2, h3⟩ := hm
  have lH : Le F0 H1 := hx1.f0.trans hx1.fh
  have ho : ObjOk X.prog X.w H1 s1.heap dx (.xd [(n, v)]) := I1.hok dx _ (lH _ _ h2)
  obtain ⟨mA, hns, hr⟩ := ho
  obtain ⟨od, ho, hl⟩ := lookIn_ns hns
  have e1 : ([(n, v)] : List (Str × V)).lookup n = some v := by simp
  obtain ⟨u, hu, ru⟩ := RelO.some_of (v := v) (o := mA n) (by rw [← e1]; exact hr n)
  have g := (I1.pin (a, oe) (List.mem_append_left _ hp)).1
  have nc : PySem.W.notCls oe = true := by unfold PySem.W.notCls; rw [hv]
  have J : PySem.W.InstAt s1.heap a oe (He.ga X.K x.c) (some od) := ⟨g, hc, nc, by rw [hd]; exact ho⟩
  exact HandSPX.exc_get I1.kIn J T.ga T.gg T.exC (PySem.W.findObj_own T.hdC hno rfl (by rw [hl, hu])) (handed_of ru) ⟨v, H1, I1.tok _, ru, z, O1, F1, q, h3.mono hx1.f0, hx1, l1⟩
end

/-! ## a def that is handed an exception -/
def XOb (K : PySem.W.Frag) (F : Hp) (oe : Obj) (x : Exn) : Prop := ∃ (d : Option Addr), oe.cls = .ref (He.ga K x.c) ∧ oe.dict = d ∧ (∃ vs, oe.data = .fields vs) ∧ match x.a with
    | none => d = none
    | some (f, z) => ∃ dx v, d = some dx ∧ F dx = some (.xd [(f, v)]) ∧ Rep K F z v
theorem XOb.mono {K : PySem.W.Frag} {F F' : Hp} {oe : Obj} {x : Exn} (h : XOb K F oe x) (l : Le F F') : XOb K F' oe x := by
  obtain ⟨d, h1, h2, h3, h4⟩ := h
  refine ⟨d, h1, h2, h3, ?_⟩
  rcases hx : x.a with _ | ⟨f, z⟩
  · rw [hx] at h4; exact h4
  · rw [hx] at h4
    obtain ⟨dx, v, q1, q2, q3⟩ := h4
    exact ⟨dx, v, q1, l _ _ q2, q3.mono l⟩
section
variable (P : Program) (w : World) (K : PySem.W.Frag) (mg : Str → Option Value) (base : Heap)
structure FnE (k : Nat) (f : Addr) (fd : FuncData) (y : Str) (ok : Exn → Prop) (S : Exn → D) : Prop where
  run : ∀ (A : Around) (outer : List PySem.Env) (s : Shared) (H : Hp) (args : Args) (a : Addr) (oe : Obj) (x : Exn) (F : Hp) (O : Om) (Q : VK), RoomB k A → Env0 P w K mg base A outer s H → BindsTo s fd args [(y, .ref a)] → L2H.PinOk outer H s (a, oe) →
    XOb K F oe x → Hx K F F H O → ok x → (∀ F' H' v, Rep K F' (S x) v → Hx K F F' H' O → Q v H') → codeAny (model P w) A (.call (.ref f) args) (CR (L2.CX P w) outer P w H s Q fun _ _ _ => False) s
end
abbrev cxE (P : Program) (w : World) (K : PySem.W.Frag) (mg : Str → Option Value) (base : Heap) (N : List Str) (qual : Str) (scope : Scope) (f : Addr) (cd : Value) (A : Around) (outer : List PySem.Env) (s : Shared) (H : Hp) (p : Addr × Obj) : Cx :=
  { cxB P w K mg base N qual scope f cd A outer s H (fun _ _ _ => False) with pn := [p] }
section
variable {P : Program} {w : World} {K : PySem.W.Frag} {mg : Str → Option Value} {base : Heap}
theorem fn_e {k : Nat} {f : Addr} {name qual : Str} {params : Arguments} {body : List Stmt} {scope : Scope} {dvs : List V} {kws : List (Str × V)} {fd : FuncData} {N : List Str} {y : Str} {ok : Exn → Prop} {S : Exn → D}
    (FD : FunD K name qual params body scope dvs kws f fd) (sc : FnScope N [y] scope)
    (hb : ∀ (cdv : Value) (A : Around) (outer : List PySem.Env) (s : Shared) (H : Hp) (a : Addr) (oe : Obj) (x : Exn) (F0 : Hp) (O : Om), RoomB k (cxE P w K mg base N qual scope f cdv A outer s H (a, oe)).A → XAt (cxE P w K mg base N qual scope f cdv A outer s H (a, oe)) F0 a x → ok x →
      Ssv (cxE P w K mg base N qual scope f cdv A outer s H (a, oe)) F0 body (rho0 N [.adr a]) O { nx := fun _ _ => False, rt := fun d O' => d = S x ∧ O' = O }) : FnE P w K mg base (k + 1) f fd y ok S := by
  obtain ⟨oc, od, dV, kV, doc, pm, an, cdv, ct, osl, rfl, lk, hcd, _, _⟩ := FD.ex
  refine ⟨fun A outer s H args a oe x F O Q hr e0 hbi hpin xo hx ox hq => ?_⟩
  have KX : K.In s.heap := e0.mod.kin.keeps fun b o e => (e0.bs b o e).1
  have lim : s.heap.NoLimit := e0.mod.nolimit.keeps fun b o e => (e0.bs b o e).1
  have hkind : ∀ t ∈ [(y, Value.ref a)], scope.names.lookup t.1 = some .local ∨ (scope.names.lookup t.1 = some .cell ∧ ((cellsFrom (s.heap.objs.size + 1) scope.names []).lookup t.1).isSome = true) := fun t ht => by
    rw [List.mem_singleton] at ht
    subst ht
    exact (sc.par y (List.mem_singleton.mpr rfl)).imp id fun q => ⟨q, PySem.W.cellsFrom_some _ _ _ (.inl q)⟩
  refine codeAny_call_function hr.depth (KX _ _ lk) rfl sc.co sc.gen rfl (PySem.W.codeRec_of KX hcd) (hbi _ _ _ _ (wpAny_newFunctionEnv_cells sc.kind hkind fun env he s1 xc => ?_))
  subst he
  refine ⟨lim.keeps xc.toInCall.keep, codeAny_func ?_⟩
  have I0 := L2H.inv_startH (CX := L2.CX P w) (E := fun _ _ _ => False) sc (A := A) (f := f) (cd := cdv) hpin e0 (vs := [.ref a]) (us := [.ref a]) rfl (.cons rfl .nil) xc
  have I : Inv (cxE P w K mg base N qual scope f cdv A outer s H (a, oe)) [] (L2.start N [.ref a]) H s1 :=
    inv_recast I0 (A.deeper _) A.handled.isNone rfl (fun z => Option.isNone_iff_eq_none.mp z) _
  have xa : XAt (cxE P w K mg base N qual scope f cdv A outer s H (a, oe)) F a x := ⟨let ⟨d, z1, z2, z3, z4⟩ := xo; ⟨oe, d, List.mem_singleton.mpr rfl, z1, z2, z3, z4⟩⟩
  refine wpAny_mono (hb cdv A outer s H a oe x F O (hr.deeper _) xa ox _ H F hx (en0 (.cons (rep_adr.mpr rfl) .nil)) [] s1 I) (fun fl s' hs => ?_) fun e s' hs => hs
  cases fl with
  | ret u => obtain ⟨v, σ', H', J, rv, d, O', F', ⟨rfl, rfl⟩, rp, hx', l⟩ := hs; exact ⟨v, H', J.os, J.bare, J.base, J.hok, rv, hq _ _ _ rp hx'⟩
  | next => obtain ⟨_, _, _, _, _, _, z, _⟩ := hs; exact z.elim
  | brk => obtain ⟨_, _, _, _, _, _, z, _⟩ := hs; exact z.elim
  | cont => obtain ⟨_, _, _, _, _, _, z, _⟩ := hs; exact z.elim
structure FgE (P : Program) (w : World) (K : PySem.W.Frag) (mg : Str → Option Value) (base : Heap) (k : Nat) (x : Str) (ok : Exn → Prop) (S : Exn → D) : Prop where
  ex : ∃ f fd y, FnE P w K mg base k f fd y ok S ∧ mg x = some (.ref f) ∧ PySem.W.keepIn K (.ref f) = true ∧ Binds K fd [y] []
end
section
variable {X : Cx} {F0 F : Hp} {r : Rho} {O : Om} {Q : D → Om → Prop} {QE : Exn → Om → Prop} {a : Addr} {e : Expr} {pos : Pos} {k : Nat} {x : Exn} {C : Co}
theorem ev_callE {f : Str} {p : Pos} {ok : Exn → Prop} {S : Exn → D} (G : FgE X.prog X.w X.K X.mg X.base k f ok S) (hr : RoomB k X.A) (hx : XAt X F0 a x) (ho : ok x) (h : Ev X F0 e r O fun d O1 => d = .adr a ∧ Q (S x) O1) (hg : Gl X f := by rfl)
    (hdb : (f == ("__debug__" : Str)) = false := by decide) (he : starEach (e :: []) X.env = (false, eval e X.env) :: starEach [] X.env := by rfl) (hpl : (backTo pos (starEach [] X.env)).any (·.1) = false := by rfl) : Ev X F0 (.Call (.Name f p) [e] [] pos) r O Q := by
  obtain ⟨ff, fd, y, G, hmg, hk, hb⟩ := G.ex
  have hav : Av X F0 [e] r O fun ds O1 => ds = [.adr a] ∧ Q (S x) O1 := av_cons (h.mono fun d O' ⟨h1, h2⟩ => av_nil ⟨by rw [h1], h2⟩) he
  intro σ H F hx0 en pins s I
  refine wpAny_Call_Name_kw (ld_glob I hg hmg ?_ hdb)
  refine PySem.W.callWith_K (h₀ := X.base) I.ok.mod.kin hk (thn (hav σ H F hx0 en pos pins s I) fun us s1 ⟨vs, H1, I1, rv, ds, O1, F1, ⟨e1, q⟩, rp, hx1, l1⟩ => ⟨I1.kIn, ?_⟩) he hpl
  subst e1
  obtain ⟨v1, _, rfl, r1, rp⟩ := Reps.cons_iff.mp rp
  obtain rfl := Reps.nil_iff.mp rp
  obtain rfl := rep_adr.mp r1
  cases rv with
  | cons rx rr =>
    cases rr
    cases rx
    obtain ⟨oe, d, hp, hc, hd, hv, hm⟩ := hx.ex
    have z := I1.pin (a, oe) (List.mem_append_left _ hp)
    have stk : a ∉ frs X.stack := fun hm => by
      rcases List.mem_cons.mp (I1.stkSub a hm) with e | hb
      · exact z.2.2.1 e
      · exact z.2.2.2.1 hb
    have hb' := hb s1 [.ref a] I1.kIn rfl
    refine wpAny_call (codeAny_mono (G.run X.A X.stack s1 H1 ⟨[.ref a], []⟩ a oe x F1 O1 (Po X F0 F Q) hr I1.env0 hb' ⟨z.1, z.2.1, stk, z.2.2.2.2⟩ (XOb.mono ⟨d, hc, hd, hv, hm⟩ hx1.f0) ⟨Le.refl _, hx1.fh, hx1.om⟩ ho fun F' H' v rp' hx' => ⟨_, O1, F', q, rp', ⟨hx1.f0.trans hx'.f0, hx'.fh, hx'.om⟩, l1.trans hx'.f0⟩) fun res s' hq => ?_)
    cases res with
    | error er => exact (xer0 (X := X) (F0 := F0) (r := r)) _ _ (XE.of_call I1 (fun cls d H' z => z.elim) hq)
    | ok fl =>
      cases fl with
      | ret u => exact I1.after hq
      | next => exact False.elim hq
      | brk => exact False.elim hq
      | cont => exact False.elim hq
/-! ## try: body; except c as n: suite -/
theorem Hx.frzX {K : PySem.W.Frag} {H : Hp} (h : Hx K F0 F H O) {dx : Addr} {fs : List (Str × V)} (hd : H dx = some (.xd fs)) (hF : F dx = none) : Hx K F0 (upd F dx (.xd fs)) H O ∧ Le F (upd F dx (.xd fs)) := by
  have le : Le F (upd F dx (.xd fs)) := fun a u q => by rw [upd_ne (ne_of_none q hF)]; exact q
  refine ⟨⟨h.f0.trans le, fun a u q => ?_, fun a u q => ?_⟩, le⟩
  · by_cases e : a = dx
    · subst e; rw [upd_same] at q; rw [hd]; exact q
    · rw [upd_ne e] at q; exact h.fh _ _ q
  · obtain ⟨h1, h2⟩ := h.om a u q
    have na : a ≠ dx := by
      rintro rfl
      cases u with
      | lst fs => obtain ⟨zs, q1, q2⟩ := h2; rw [hd] at q1; cases q1
      | ob c ks fs => obtain ⟨dx, zs, q1, q2⟩ := h2; rw [hd] at q1; cases q1
      | raw u => have q1 := h2.1; rw [hd] at q1; exact h2.2.2 _ (Option.some.inj q1).symm
    refine ⟨by rw [upd_ne na]; exact h1, ?_⟩
    cases u with
    | lst fs => obtain ⟨zs, q1, q2⟩ := h2; exact ⟨zs, q1, q2.mono le⟩
    | ob c ks fs =>
      obtain ⟨ddx, zs, q1, q2, q3, q4, q5⟩ := h2
      exact ⟨ddx, zs, q1, q2, by rw [upd_ne (by rintro rfl; rw [hd] at q2; cases q2)]; exact q3, q4, q5.mono le⟩
    | raw u => exact h2
theorem s_tryAs {x n : Str} {cv : Value} {i : Nat} {body suite : List Stmt} {b₀ : Stmt} {np pos' : Pos} (hs : X.stack = X.env :: X.outer) (hf : X.env.frame = some X.env.locals) (hN : X.N.Nodup) (hi : X.N[i]? = some n) (hln : X.env.kindOf n = some .local) (hc : Names X x cv)
    (QN QE : Exn → Om → Prop) (xe : XeR X F0 r QE)
    (hk : ∀ y O1, QN y O1 → ∃ b, PySem.W.exmOne X.K (.ref (He.ga X.K y.c)) cv = some b ∧ (b = false → QE y O1) ∧
      (b = true → ∀ (F2 : Hp) (a : Addr) (oe : Obj) (pn : List (Addr × Obj)), XAt (X.suite a ((a, oe) :: pn)) F2 a y → Ssv (X.suite a ((a, oe) :: pn)) F2 (b₀ :: suite) (r.set i (some (.adr a))) O1 { nx := fun r O => C.nx (r.set i none) O, rt := C.rt, bk := fun r O => C.bk (r.set i none) O, ct := fun r O => C.ct (r.set i none) O }))
    (hb : ∀ (F2 : Hp) (pn : List (Addr × Obj)) (xe' : Value → Shared → Prop), XeR (X.tr pn xe') F2 r QN → PassesOwn (model X.prog X.w) X.A X.env xe' → Ssv (X.tr pn xe') F2 body r O C) :
    Sv X F0 (.Try body [.ExceptHandler (some (.Name x np)) (some n) (b₀ :: suite) pos'] [] [] pos) r O C := by
  intro σ H F hx en
  have hx' : Hx X.K F F H O := ⟨Le.refl F, hx.fh, hx.om⟩
  have up0 : ∀ {F1 : Hp} {H1 : Hp} {O1 : Om}, Hx X.K F F1 H1 O1 → Hx X.K F0 F1 H1 O1 := fun h => ⟨hx.f0.trans h.f0, h.fh, h.om⟩
  refine tSS_of (L2.ps_try_as (X := X) (x := x) (n := n) (c := cv) (i := i) (Wout := fun cls d σ H => ∃ x O F, QE x O ∧ ExAt X.K F H cls d x ∧ Hx X.K F0 F H O ∧ En X.K F r σ)
    (tb := fun W D σ H => ∀ (pn : List (Addr × Obj)) (xe' : Value → Shared → Prop), Takes (X.tr pn xe') W → PassesOwn (model X.prog X.w) X.A X.env xe' → tSSs (X.tr pn xe') body D σ H)
    (ts := fun a cls d D σ H => ∀ (oe : Obj) (pn : List (Addr × Obj)), Zc cls d oe → (∃ vs, oe.data = .fields vs) → tSSs (X.suite a ((a, oe) :: pn)) (b₀ :: suite) D σ H)
    hs hf hN hi hln hc xe (fun W pn xe' t1 po => ⟨fun pins s σ H D I h => h pn xe' t1 po pins s I⟩) (fun a oe cls d pn z1 z2 => ⟨fun pins s σ H D I h => h oe pn z1 z2 pins s I⟩)) ?_
  intro pn xe' t1 po
  have hbd := hb F pn xe' (fun u s' y => t1 u s' ?_) po σ H F hx' en
  · refine tSSs_mono hbd ?_
    exact ⟨fun σ' H' ⟨r, O', F', q, h', l, n⟩ => ⟨r, O', F', q, up0 h', l, n⟩, fun v H' ⟨d, O', F', q, rp, h', l⟩ => ⟨d, O', F', q, rp, up0 h', l⟩, fun σ' H' ⟨r, O', F', q, h', l, n⟩ => ⟨r, O', F', q, up0 h', l, n⟩, fun σ' H' ⟨r, O', F', q, h', l, n⟩ => ⟨r, O', F', q, up0 h', l, n⟩⟩
  · obtain ⟨a, B, sI, pins, σ1, H1, cls, d, e1, I1, nb, up, sky, na, os, ag, y, O1, F1, q, ea, hx1, en1⟩ := y
    refine ⟨a, B, sI, pins, σ1, H1, cls, d, e1, I1, nb, up, sky, na, os, ag, ?_⟩
    obtain ⟨bb, hb1, hno, hyes⟩ := hk y O1 q
    have ec : cls = .ref (He.ga X.K y.c) := ea.1
    subst ec
    refine ⟨bb, hb1, fun hT a2 na2 oe pn2 zn hd => ?_, fun hF => ⟨y, O1, F1, hno hF, ea, up0 hx1, en1⟩⟩
    have fz : ∃ F2, Hx X.K F F2 H1 O1 ∧ Le F1 F2 ∧ XOb X.K F2 oe y := by
      obtain ⟨_, hm⟩ := ea
      rcases hy : y.a with _ | ⟨f, z⟩
      · rw [hy] at hm
        exact ⟨F1, hx1, Le.refl _, d, zn.1, zn.2, hd, by rw [hy]; exact hm⟩
      · rw [hy] at hm
        obtain ⟨dx, v, e1, e2, e3, e4⟩ := hm
        obtain ⟨g1, g2⟩ := hx1.frzX e2 e3
        exact ⟨_, g1, g2, d, zn.1, zn.2, hd, by rw [hy]; exact ⟨dx, v, e1, upd_same, e4.mono g2⟩⟩
    obtain ⟨F2, hx2, l2, dd, z1, z2, z3, z4⟩ := fz
    have xa : XAt (X.suite a2 ((a2, oe) :: pn2)) F2 a2 y := ⟨oe, dd, List.mem_cons_self, z1, z2, z3, z4⟩
    have Z := hyes hT F2 a2 oe pn2 xa _ H1 F2 ⟨Le.refl _, hx2.fh, hx2.om⟩ ((en1.mono l2).set (rep_adr.mpr rfl) i)
    have up2 : ∀ {F3 : Hp} {H3 : Hp} {O3 : Om}, Hx X.K F2 F3 H3 O3 → Hx X.K F0 F3 H3 O3 := fun h => ⟨(hx.f0.trans hx2.f0).trans h.f0, h.fh, h.om⟩
    refine tSSs_mono Z ⟨fun σ' H' ⟨r, O', F', q, h', l, n⟩ => ⟨_, O', F', q, up2 h', hx2.f0.trans l, ?_⟩, fun v H' ⟨d, O', F', q, rp, h', l⟩ => ⟨d, O', F', q, rp, up2 h', hx2.f0.trans l⟩, fun σ' H' ⟨r, O', F', q, h', l, n⟩ => ⟨_, O', F', q, up2 h', hx2.f0.trans l, ?_⟩, fun σ' H' ⟨r, O', F', q, h', l, n⟩ => ⟨_, O', F', q, up2 h', hx2.f0.trans l, ?_⟩⟩
    all_goals (
      refine ⟨by rw [List.length_set, List.length_set]; exact n.len, fun j d q => ?_⟩
      by_cases hj : i = j
      · subst hj
        rw [List.getElem?_set] at q
        simp at q
      · rw [List.getElem?_set_ne hj] at q
        obtain ⟨v, e1, e2⟩ := n.at_ j d q
        exact ⟨v, by rw [List.getElem?_set_ne hj]; exact e1, e2⟩)
end
end K97
/-! # Part P: dicts with texts as keys -/
namespace K97
open PySem PySem.Spec PyProof.Rows L2

/-! ## plain -/
abbrev zK (ks : List Str) (xs : List V) : List (Key × V) := (ks.map Sum.inr).zip xs
theorem valV_zK {k : Str} : ∀ {ks : List Str} {xs : List V}, valV (zK ks xs) (Sum.inr k : Key) = (ks.zip xs).lookup k
  | [], xs => by simp [zK, valV]
  | _ :: _, [] => by simp [zK, valV]
  | j :: ks, x :: xs => by
    show valV ((Sum.inr j, x) :: zK ks xs) (Sum.inr k : Key) = ((j, x) :: ks.zip xs).lookup k
    by_cases e : j = k
    · subst e
      rw [valV_pos rfl]
      simp
    · have h1 : valV ((Sum.inr j, x) :: zK ks xs) (Sum.inr k : Key) = valV (zK ks xs) (Sum.inr k : Key) := by
        unfold valV
        rw [List.find?_cons_of_neg]
        simp [e]
      rw [h1, valV_zK]
      have : (k == j) = false := by simpa using Ne.symm e
      simp [List.lookup_cons, this]
section
variable {K : PySem.W.Frag} {F0 F H H' : Hp} {O : Om}
/-- new frozen objects at the places N -/
theorem Hx.layAll (h : Hx K F0 F H O) (N : Addr → Prop) [DecidablePred N] (hn : ∀ b, N b → H b = none) (hk : ∀ b o, H b = some o → H' b = some o) :
    Hx K F0 (fun b => if N b then H' b else F b) H' O ∧ Le F (fun b => if N b then H' b else F b) := by
  have le : Le F (fun b => if N b then H' b else F b) := fun a o q => by
    have : ¬ N a := fun z => by
      have h2 := hn a z
      rw [h.fh _ _ q] at h2; cases h2
    show (if N a then H' a else F a) = some o
    rw [if_neg this]; exact q
  refine ⟨⟨h.f0.trans le, fun a o q => ?_, fun a o q => ?_⟩, le⟩
  · have q : (if N a then H' a else F a) = some o := q
    by_cases e : N a
    · rw [if_pos e] at q; exact q
    · rw [if_neg e] at q; exact hk _ _ (h.fh _ _ q)
  · obtain ⟨h1, h2⟩ := h.om a o q
    have na : ∀ b, (∃ u, H b = some u) → ¬ N b := fun b ⟨u, hu⟩ z => by rw [hn b z] at hu; cases hu
    refine ⟨by show (if N a then H' a else F a) = none; rw [if_neg (na a h2.ex)]; exact h1, h2.grow le (fun b ⟨u, hu⟩ => by rw [hu, hk _ _ hu]) fun b hb q => ?_⟩
    show (if N b then H' b else F b) = none
    rw [if_neg (na b hb)]; exact q
end

section
variable {X : Cx} {F0 F : Hp} {r : Rho} {O : Om} {Q : D → Om → Prop} {a b c e : Expr} {es : List Expr} {pos : Pos} {k : Nat}
/-- {k1: v1, k2: v2} -/
theorem ev_dict2 {k1 k2 : Str} {j1 j2 : Nat} {p1 p2 : Pos} (hk : k1 ≠ k2) (h : ∀ p, O p = none → Ev X F0 a r (O.put p (.raw (.dK []))) fun d1 O1 => Ev X F0 b r O1 fun d2 O2 => O2 p = some (.raw (.dK [])) ∧ Q (.dict [k1, k2] [d1, d2]) (O2.del p)) :
    Ev X F0 (.Dict [some (.Constant (.str k1) j1 p1), some (.Constant (.str k2) j2 p2)] [a, b] pos) r O Q := by
  intro σ H F hx en
  refine tS_of (pe_disp (pps_cons peS peS (pps_cons peS peS pps_nil)) rfl rfl (by simp) (by show 2 ≤ 15; omega)) ?_
  intro p hp
  have g := hx.gone hp
  have hx1 : Hx X.K F0 F (upd H p (.dK [])) (O.put p (.raw (.dK []))) := hx.newR hp (.dK []) ⟨fun x z => (by cases z), fun f z => (by cases z)⟩
  show tS X _ σ _ _
  refine tS_of pe_str ?_
  refine (h p g.2).bind hx1 en fun d1 O1 F1 H1 v1 q1 rp1 hx2 en2 l1 => ?_
  show tS X _ σ _ _
  refine tS_of pe_str ?_
  refine q1.bind hx2 en2 fun d2 O2 F2 H2 v2 ⟨hO2, q2⟩ rp2 hx3 en3 l2 => ?_
  obtain ⟨_, hH2, _⟩ := hx3.om p _ hO2
  refine ⟨hH2, [(Sum.inr k1, v1), (Sum.inr k2, v2)], rfl, by show 2 ≤ 15; omega, ?_⟩
  have hm : mergeK [] [((Sum.inr k1 : Key), v1), (Sum.inr k2, v2)] = zK [k1, k2] [v1, v2] := by
    simp [mergeK, putK, zK, hk]
  rw [hm]
  obtain ⟨hx4, l3⟩ := hx3.seal hO2 (fun x z => by cases z) (.dK (zK [k1, k2] [v1, v2]))
  exact ⟨_, _, _, q2, rep_dict.mpr ⟨p, [v1, v2], rfl, upd_same, rfl, .cons (rp1.mono (l2.trans l3)) (.cons (rp2.mono l3) .nil)⟩, hx4, (l1.trans l2).trans l3⟩
/-- d[k] -/
theorem ev_dget (hr : RoomB k X.A) (h : Ev X F0 a r O fun x O1 => Ev X F0 b r O1 fun y O2 => ∃ ks ds kk z, x = .dict ks ds ∧ y = .str kk ∧ (ks.zip ds).lookup kk = some z ∧ Q z O2) (hs : NoSl b := by exact fun _ _ => rfl) : Ev X F0 (.Subscript a b pos) r O Q := by
  intro σ H F hx en
  refine tS_of (pe_dget (by have := hr.un; omega) peS peS hs) ?_
  refine h.bind hx en fun x O1 F1 H1 v q rp1 hx1 en1 l1 => ?_
  refine q.bind hx1 en1 fun y O2 F2 H2 u ⟨ks, ds, kk, z, ex, ey, el, q2⟩ rp2 hx2 en2 l2 => ?_
  subst ex ey
  obtain ⟨p, xs, rfl, hp, hl, rps⟩ := rep_dict.mp (rp1.mono l2)
  obtain rfl := rep_str.mp rp2
  obtain ⟨w, e1, e2⟩ := lookup_zip rps el
  refine ⟨p, w, rfl, .inl ⟨_, Sum.inr kk, .inl (hx2.fh _ _ hp), rfl, ?_⟩, z, O2, F2, q2, e2, hx2, l1.trans l2⟩
  rw [valV_zK, e1]
/-- list(d.items()) -/
theorem paired_reps {F : Hp} {K : PySem.W.Frag} {H' : Hp} : ∀ {ks : List Str} {ds : List D} {xs : List V} {ts : List Addr}, ks.length = xs.length → Reps K F ds xs → (∀ t ∈ ts, ∀ o, H' t = some o → F t = some o) → Paired (fun (t : Addr) (q : Key × V) => H' t = some (.tup [kV q.1, q.2])) ts (zK ks xs) →
    Reps K F ((ks.zip ds).map fun q => .tup [.str q.1, q.2]) (ts.map V.ref)
  | [], [], xs, ts, hl, hr, ht, h => by
    obtain rfl := Reps.nil_iff.mp hr
    cases h
    exact .nil
  | [], _ :: _, xs, ts, hl, hr, ht, h => by
    obtain ⟨x, t, rfl, _, _⟩ := Reps.cons_iff.mp hr
    simp at hl
  | _ :: _, [], xs, ts, hl, hr, ht, h => by
    obtain rfl := Reps.nil_iff.mp hr
    simp at hl
  | j :: ks, d :: ds, _, ts, hl, hr, ht, h => by
    obtain ⟨x, xs, rfl, h1, h2⟩ := Reps.cons_iff.mp hr
    have h : Paired (fun (t : Addr) (q : Key × V) => H' t = some (.tup [kV q.1, q.2])) ts ((Sum.inr j, x) :: zK ks xs) := h
    cases h with
    | cons g t =>
      rename_i tt tts
      refine .cons (rep_tup.mpr ⟨tt, [.str j, x], rfl, .inl (.inl (ht tt List.mem_cons_self _ g)), .cons (rep_str.mpr rfl) (.cons h1 .nil)⟩) (paired_reps (by simpa using hl) h2 (fun u hu => ht u (List.mem_cons_of_mem _ hu)) t)
theorem ev_items {p apos cpos : Pos} (hc : X.calm = true) (h : Ev X F0 e r O fun d O1 => ∃ ks ds, d = .dict ks ds ∧ Q (.lst ((ks.zip ds).map fun q => .tup [.str q.1, q.2])) O1) (hm : X.mg "list" = none) (hg : Gl X "list" := by rfl) (hv : bootBuiltins "list" = some (.type "list") := by decide +kernel)
    (hbase : attributeBase e "items" X.env (eval e X.env) = eval e X.env := by rfl) (hline : (apos.endLine == cpos.line) = true := by rfl)
    (hs : starEach [.Call (.Attribute e "items" apos) [] [] cpos] X.env = (false, eval (.Call (.Attribute e "items" apos) [] [] cpos) X.env) :: starEach [] X.env := by rfl) :
    Ev X F0 (.Call (.Name "list" p) [.Call (.Attribute e "items" apos) [] [] cpos] [] pos) r O Q := by
  intro σ H F hx en
  refine tS_of (LiI.pe_listItems hc peS hg hm hv hbase hline hs) ?_
  refine h.bind hx en fun d O1 F1 H1 v ⟨ks, ds, ed, q⟩ rp hx1 en1 l1 => ?_
  subst ed
  obtain ⟨pd, xs, rfl, hp, hl, rps⟩ := rep_dict.mp rp
  refine ⟨pd, _, rfl, hx1.fh _ _ hp, fun H' q' ts hk hq' hts hni hq2 hpr => ?_⟩
  classical
  obtain ⟨hx2, l2⟩ := hx1.layAll (H' := H') (fun b => b = q' ∨ b ∈ ts) (fun b hb => hb.elim (fun z => by rw [z]; exact hq') (hts b)) hk
  refine ⟨_, O1, _, q, rep_lst.mpr ⟨q', _, rfl, ?_, paired_reps hl (rps.mono l2) (fun t ht o ho => ?_) hpr⟩, hx2, l1.trans l2⟩
  · show (if q' = q' ∨ q' ∈ ts then H' q' else F1 q') = _
    rw [if_pos (.inl rfl)]; exact hq2
  · show (if t = q' ∨ t ∈ ts then H' t else F1 t) = _
    rw [if_pos (.inr ht)]; exact ho
/-- dict(pairs) -/
theorem pair_at {F H : Hp} {K : PySem.W.Frag} (le : Le F H) : ∀ {ks : List Str} {ds : List D} {us : List V}, ks.length = ds.length → Reps K F ((ks.zip ds).map fun q => .tup [.str q.1, q.2]) us →
    ∃ (ps : List Addr) (xs : List V), us = ps.map V.ref ∧ ks.length = xs.length ∧ Reps K F ds xs ∧ Paired (fun p (kv : Key × V) => SqT K H p [kV kv.1, kv.2]) ps (zK ks xs)
  | [], [], us, hl, h => by
    obtain rfl := Reps.nil_iff.mp h
    exact ⟨[], [], rfl, rfl, .nil, .nil⟩
  | [], _ :: _, us, hl, h => by simp at hl
  | _ :: _, [], us, hl, h => by simp at hl
  | k :: ks, d :: ds, us, hl, h => by
    obtain ⟨u, us, rfl, h1, h2⟩ := Reps.cons_iff.mp h
    obtain ⟨p, xs, rfl, hs, hr⟩ := rep_tup.mp h1
    obtain ⟨x1, _, rfl, r1, hr⟩ := Reps.cons_iff.mp hr
    obtain ⟨x2, _, rfl, r2, hr⟩ := Reps.cons_iff.mp hr
    obtain rfl := Reps.nil_iff.mp hr
    obtain rfl := rep_str.mp r1
    obtain ⟨ps, xs, rfl, e1, e2, e3⟩ := pair_at le (ks := ks) (ds := ds) (by simpa using hl) h2
    exact ⟨p :: ps, x2 :: xs, rfl, by simp [e1], .cons r2 e2, .cons (le.sqT hs) e3⟩
theorem cl_dict {ks : List Str} {ds : List D} {ks2 : List Str} {ds2 : List D} (hc : X.calm = true) (hl : ks.length = ds.length)
    (hm : ∀ (F : Hp) (xs : List V), Reps X.K F ds xs → ∃ xs2, mergeK [] (zK ks xs) = zK ks2 xs2 ∧ ks2.length = xs2.length ∧ Reps X.K F ds2 xs2) (q : Q (.dict ks2 ds2) O) : ClD X (.type "dict") O [.lst ((ks.zip ds).map fun q => .tup [.str q.1, q.2])] Q := by
  intro F0 F H vs hx rp
  obtain ⟨v, rfl, rp1⟩ := reps1 rp
  obtain ⟨p, us, rfl, hp, hr⟩ := rep_lst.mp rp1
  obtain ⟨ps, xs, rfl, e1, e2, e3⟩ := pair_at hx.fh hl hr
  obtain ⟨xs2, m1, m2, m3⟩ := hm F xs e2
  refine rc_of (call_dictP hc) ⟨p, ps, zK ks xs, rfl, .inl (.inl (hx.fh _ _ hp)), e3, fun p2 hp2 => ?_⟩
  obtain ⟨hx2, l2⟩ := hx.new hp2 (.dK (mergeK [] (zK ks xs)))
  rw [m1] at hx2 l2 ⊢
  exact ⟨_, O, _, q, rep_dict.mpr ⟨p2, xs2, rfl, upd_same, m2, m3.mono l2⟩, hx2, l2⟩
/-- three pairs, the third's key the first's or the second's -/
theorem merge3 {k1 k2 : Str} (hne : k1 ≠ k2) {d1 d2 d3 : D} {F : Hp} {K : PySem.W.Frag} {xs : List V} (k : Str) (hk : k = k1 ∨ k = k2) (h : Reps K F [d1, d2, d3] xs) :
    ∃ xs2, mergeK [] (zK [k1, k2, k] xs) = zK [k1, k2] xs2 ∧ [k1, k2].length = xs2.length ∧ Reps K F (if k = k1 then [d3, d2] else [d1, d3]) xs2 := by
  obtain ⟨x1, _, rfl, r1, h⟩ := Reps.cons_iff.mp h
  obtain ⟨x2, _, rfl, r2, h⟩ := Reps.cons_iff.mp h
  obtain ⟨x3, _, rfl, r3, h⟩ := Reps.cons_iff.mp h
  obtain rfl := Reps.nil_iff.mp h
  rcases hk with rfl | rfl
  · refine ⟨[x3, x2], ?_, rfl, ?_⟩
    · have := Ne.symm hne
      simp [mergeK, putK, zK, hne, this]
    · rw [if_pos rfl]; exact .cons r3 (.cons r2 .nil)
  · refine ⟨[x1, x3], ?_, rfl, ?_⟩
    · simp [mergeK, putK, zK, hne]
    · rw [if_neg (Ne.symm hne)]; exact .cons r1 (.cons r3 .nil)
/-! ## {k: v for k in (k1, k2)} -/
theorem Hx.setR {K : PySem.W.Frag} {H : Hp} (h : Hx K F0 F H O) {p : Addr} {o u : HO} (hp : O p = some (.raw o)) (ho : (∀ x, u ≠ .own x) ∧ ∀ f, u ≠ .xd f) : Hx K F0 F (upd H p u) (O.put p (.raw u)) := by
  obtain ⟨hF, hy, hno, _⟩ := h.om p _ hp
  refine ⟨h.f0, fun a v q => ?_, fun a v q => ?_⟩
  · rw [upd_ne (by rintro rfl; rw [hF] at q; cases q)]; exact h.fh _ _ q
  · by_cases e : a = p
    · subst e
      rw [Om.put_same] at q
      cases q
      exact ⟨hF, upd_same, ho⟩
    · rw [Om.put_ne e] at q
      obtain ⟨h1, h2⟩ := h.om a v q
      refine ⟨h1, ?_⟩
      cases v with
      | lst fs => obtain ⟨zs, q1, q2⟩ := h2; exact ⟨zs, by rw [upd_ne e]; exact q1, q2⟩
      | ob c ks fs =>
        obtain ⟨dx, zs, q1, q2, q3⟩ := h2
        exact ⟨dx, zs, by rw [upd_ne e]; exact q1, by rw [upd_ne (by rintro rfl; rw [hy] at q2; exact hno _ (Option.some.inj q2))]; exact q2, q3⟩
      | raw u => exact ⟨by rw [upd_ne e]; exact h2.1, h2.2⟩
theorem dk_free {kvs : List (Key × V)} : (∀ x, HO.dK kvs ≠ .own x) ∧ ∀ f, HO.dK kvs ≠ .xd f := ⟨fun x z => (by cases z), fun f z => (by cases z)⟩
theorem wipe_one {σ : St} {i : Nat} {v : V} : L2.wipe (σ.set i (some v)) [i] = L2.wipe σ [i] := by
  show (σ.set i (some v)).set i none = σ.set i none
  rw [List.set_set]
theorem wipe_two {σ : St} {i : Nat} {v : V} : L2.wipe ((L2.wipe σ [i]).set i (some v)) [i] = L2.wipe σ [i] := by
  show ((σ.set i none).set i (some v)).set i none = σ.set i none
  rw [List.set_set, List.set_set]
theorem ev_dc2 {x : Str} {i : Nat} {kx vx iter : Expr} {scope : Scope} {py : Pos} {k1 k2 : Str} {z1 z2 : D} (hc : X.calm = true) (hN : X.N.Nodup) (hk : k1 ≠ k2) (hi : X.N[i]? = some x) (ok : BlkOk X.N X.env.scope scope [(x, i)])
    (hlo : ∀ (s : Shared) (H : Hp) (C : Addr) (cl : List (Str × Addr)) (fp : List Addr), Loc (X.blk s H scope (compEnvC scope cl C X.env) fp).env.scope x ∧ ((X.blk s H scope (compEnvC scope cl C X.env) fp).fn x = true ∨ (X.blk s H scope (compEnvC scope cl C X.env) fp).env.scope.names.lookup x = some .local))
    (h : Ev X F0 iter r O fun d O1 => d = .tup [.str k1, .str k2] ∧ Q (.dict [k1, k2] [z1, z2]) O1 ∧ ∀ (s : Shared) (H : Hp) (C : Addr) (cl : List (Str × Addr)) (fp : List Addr), Heat (X.blk s H scope (compEnvC scope cl C X.env) fp) → ∀ O2, Sup O1 O2 → ∀ p ∈ [(k1, z1), (k2, z2)],
      (Ev (X.blk s H scope (compEnvC scope cl C X.env) fp) F0 kx ((wip r [i]).set i (some (.str p.1))) O2 fun d O3 => O3 = O2 ∧ d = .str p.1) ∧
        Ev (X.blk s H scope (compEnvC scope cl C X.env) fp) F0 vx ((wip r [i]).set i (some (.str p.1))) O2 fun d O4 => O4 = O2 ∧ d = p.2)
    (hh : X.A.handled = none) (hs : ∀ x, foldedSetIterable iter X.env x = pure x := by intro _; rfl) : Ev X F0 (.DictComp kx vx [⟨.Name x py, iter, [], 0⟩] scope pos) r O Q := by
  intro σ H F hx en
  refine tS_of (pe_dc (X := X) (own := [(x, i)]) (tk := fun σ H Q => ∀ s0 H0 C cl fp, tS (X.blk s0 H0 scope (compEnvC scope cl C X.env) fp) kx σ H Q) (tv := fun σ H Q => ∀ s0 H0 C cl fp, tS (X.blk s0 H0 scope (compEnvC scope cl C X.env) fp) vx σ H Q)
    hc hN (pi_tup peS) ok (fun s H C cl fp => pg_name (X := X.blk s H scope (compEnvC scope cl C X.env) fp) hN hi (hlo s H C cl fp).1 (hlo s H C cl fp).2) (fun s H C cl fp => pts_nil) (fun s0 H0 C cl fp => ⟨fun pins s σ H Q I q => q s0 H0 C cl fp pins s I⟩) (fun s0 H0 C cl fp => ⟨fun pins s σ H Q I q => q s0 H0 C cl fp pins s I⟩) hs) ?_
  refine h.bind hx en fun d O1 F1 H1 v ⟨ed, q, body⟩ rp hx1 en1 l1 => ?_
  subst ed
  obtain ⟨a, us, rfl, hq, hrp⟩ := rep_tup.mp rp
  obtain ⟨u1, _, rfl, g1, hrp⟩ := Reps.cons_iff.mp hrp
  obtain ⟨u2, _, rfl, g2, hrp⟩ := Reps.cons_iff.mp hrp
  obtain rfl := Reps.nil_iff.mp hrp
  obtain rfl := rep_str.mp g1
  obtain rfl := rep_str.mp g2
  refine ⟨a, rfl, ⟨_, hx1.fh.sqT hq⟩, fun dd hD => ?_⟩
  have hDo := hx1.gone hD
  let Pv : List Str → List D → Hp → Prop := fun ks ds H => ∃ F2 xs2, Hx X.K F0 F2 H (O1.put dd (.raw (.dK (zK ks xs2)))) ∧ ks.length = xs2.length ∧ Reps X.K F2 ds xs2 ∧ Le F1 F2
  have step : ∀ (k : Str) (z : D) (ks : List Str) (ds : List D) (H : Hp), (k, z) ∈ [(k1, z1), (k2, z2)] → (∀ (xs : List V) (v : V), ks.length = xs.length → putK (zK ks xs) (Sum.inr k : Key) v = zK (ks ++ [k]) (xs ++ [v])) → ks.length ≤ 2 → Pv ks ds H →
      (∀ s0 H0 C cl fp, tS (X.blk s0 H0 scope (compEnvC scope cl C X.env) fp) kx ((L2.wipe σ [i]).set i (some (.str k))) H fun y H4 => ∀ s0 H0 C cl fp, tS (X.blk s0 H0 scope (compEnvC scope cl C X.env) fp) vx ((L2.wipe σ [i]).set i (some (.str k))) H4 fun z2 H5 =>
        ∃ kvs kk, y = kV kk ∧ H5 dd = some (.dK kvs) ∧ kvs.length < sizeLine ∧ Pv (ks ++ [k]) (ds ++ [z]) (upd H5 dd (.dK (putK kvs kk z2)))) := by
    intro k z ks ds H hm hput hl2 ⟨F2, xs2, hx2, hl, hr, l2⟩ s0 H0 C cl fp pins s I
    have en2 : En X.K F2 ((wip r [i]).set i (some (.str k))) ((L2.wipe σ [i]).set i (some (.str k))) := ((en1.mono l2).wipe [i]).set (rep_str.mpr rfl) i
    have supp : Sup O1 (O1.put dd (.raw (.dK (zK ks xs2)))) := Sup.put hDo.2
    have hb := fun (s : Shared) (H : Hp) (C : Addr) (cl : List (Str × Addr)) (fp : List Addr) => body s H C cl fp (.inl hh) _ supp (k, z) hm
    refine ((hb s0 H0 C cl fp).1.bind hx2 en2 fun d O3 F3 H3 y ⟨e3, ed3⟩ rp3 hx3 en3 l3 => ?_) pins s I
    subst e3 ed3
    obtain rfl := rep_str.mp rp3
    intro s0 H0 C cl fp pins s I
    refine ((hb s0 H0 C cl fp).2.bind hx3 en3 fun d O4 F4 H4 y ⟨e4, ed4⟩ rp4 hx4 en4 l4 => ?_) pins s I
    subst e4 ed4
    have hraw := (hx4.om dd _ Om.put_same).2.1
    have ln : (zK ks xs2).length ≤ 2 := by simp [zK]; omega
    refine ⟨zK ks xs2, Sum.inr k, rfl, hraw, by rw [sizeLine_eq]; omega, F4, xs2 ++ [y], ?_, by simp [hl], (hr.mono (l3.trans l4)).append (.cons rp4 .nil), (l2.trans l3).trans l4⟩
    rw [hput _ _ hl]
    have := hx4.setR Om.put_same (u := .dK (zK (ks ++ [k]) (xs2 ++ [y]))) dk_free
    rw [Om.put_put] at this
    exact this
  refine dc_tup (K := X.K) (a := a) (xs := [.str k1, .str k2]) (g := gName i) (tt := tYes) (tk := fun σ H Q => ∀ s0 H0 C cl fp, tS (X.blk s0 H0 scope (compEnvC scope cl C X.env) fp) kx σ H Q) (tv := fun σ H Q => ∀ s0 H0 C cl fp, tS (X.blk s0 H0 scope (compEnvC scope cl C X.env) fp) vx σ H Q) (vs := [i]) (σ := σ) (H1 := H1) (D := dd) (Qd := Po X F0 F Q (.ref dd)) (fun j H => Pv ([k1, k2].take j) ([z1, z2].take j) H) ?_ ?_ ?_ ?_
  · refine ⟨F1, [], ?_, rfl, .nil, Le.refl _⟩
    exact hx1.newR hD (.dK []) dk_free
  · intro j H hj ⟨F2, xs2, hx2, hl, hr, l2⟩
    exact (l2.trans hx2.fh).sqT hq
  · intro j x H hj hp
    refine ⟨wipe_two, ?_⟩
    match j, hj with
    | 0, hj => cases hj; exact step k1 z1 [] [] H List.mem_cons_self (fun xs v hl => by cases xs with | nil => simp [zK, putK] | cons => simp at hl) (Nat.zero_le _) hp
    | 1, hj =>
      cases hj
      refine step k2 z2 [k1] [z1] H (List.mem_cons_of_mem _ List.mem_cons_self) (fun xs v hl => ?_) (by show 1 ≤ 2; omega) hp
      match xs, hl with
      | [x], _ => simp [zK, putK, hk]
    | j + 2, hj => simp at hj
  · intro H ⟨F2, xs2, hx2, hl, hr, l2⟩
    have hraw := (hx2.om dd _ Om.put_same).2.1
    obtain ⟨hx3, l3⟩ := hx2.seal Om.put_same (fun x z => (by cases z)) (.dK (zK [k1, k2] xs2))
    have hu : upd H dd (.dK (zK [k1, k2] xs2)) = H := by
      funext b
      by_cases e : b = dd
      · rw [e, upd_same]; exact hraw.symm
      · rw [upd_ne e]
    rw [hu] at hx3
    rw [Om.put_del hDo.2] at hx3
    exact ⟨_, O1, _, q, rep_dict.mpr ⟨dd, xs2, rfl, upd_same, hl, hr.mono l3⟩, hx3, (l1.trans l2).trans l3⟩
end
end K97
set_option maxHeartbeats 3200000
/-! # Part S: set(ints), sorted(set), whatever is handled -/
namespace K97
open PySem PySem.Spec PyProof.Rows L2
section
variable {P : Program} {w : World} {A : Around} {E : Value → Shared → Prop} {s : Shared} {a I : Addr} {es : Array (Int × Value)} {ep : Nat} {t : SetTable}
/-- the new set, empty -/
abbrev so0 (w : World) : Obj := { cls := .type "set", dict := none, data := .set #[] 0 (.fresh 0 0 (!w.params.followText "set-order")) }
theorem call_setH {l : Addr} {items : Array Value} (ns : List Int) {Q : Value → Shared → Prop} (hA : HeatAt A s.heap) (hl : s.heap.IsList l items) (hit : IntsAre items.toList ns) (hb : ns.length + 1 < scanBound)
    (h : ∀ (h' : Heap) (tk c : Nat), SetR w h' s.heap.objs.size (fun j => decide (j ∈ ns)) c → c ≤ ns.length → (∀ b o, s.heap.get? b = some o → h'.get? b = some o) → Q (.ref s.heap.objs.size) { s with heap := h', toks := tk }) :
    wpAny (model P w) A (call (.type "set") [.ref l]) Q E s := by
  have isz : items.size = ns.length := by have q := IntsAre.length hit; rw [Array.length_toList] at q; exact q
  obtain ⟨mc, mt, hmro⟩ := F.called_set.mro
  have s1 := F.called_set.made
  have s2 := F.called_set.sub
  refine wpAny_call (codeAny_of_tree ?_)
  show wpAny _ _ (callAny (.type "set") _) _ E _
  refine wpAny_pure ⟨Code.quiet_builtin _ (by decide +kernel), codeAny_builtin F.entry_type_call ?_⟩
  rw [Around.under_plain (weight_type_call_type "set" [Value.ref l] []) rfl]
  have s3 := F.called_set.notType
  have s4 := F.called_set.canCreate
  have s5 := F.typeCall_set_1 (Value.ref l)
  repeat (any_goals (first | assumption | wp_step))
  refine codeAny_mono (code_set_led1 (.ref l) (E := E) (Q₁ := fun obj t1 => obj = .ref s.heap.objs.size ∧ t1 = { s with heap := s.heap.push (so0 w) }) ⟨rfl, rfl⟩) fun r t1 hr => ?_
  cases r with
  | error e => exact hr
  | ok fl =>
    cases fl with
    | ret obj =>
      obtain ⟨rfl, rfl⟩ := hr
      have gS : (s.heap.push (so0 w)).get? s.heap.objs.size = some (so0 w) := Heap.get?_push_size _ rfl
      have tS : Shared.TypeIs { s with heap := s.heap.push (so0 w) } (.ref s.heap.objs.size) "set" := ⟨_, gS, rfl⟩
      have s6 := F.called_set.init.lookup
      have s7 := F.called_set.init.bind (Value.ref s.heap.objs.size)
      repeat (any_goals (first | assumption | wp_step))
      refine codeAny_mono (codeAny_call_builtin (R := wants (fun r t2 => r = .none ∧ ∃ h' tk c, t2 = { s with heap := h', toks := tk } ∧ SetR w h' s.heap.objs.size (fun j => decide (j ∈ ns)) c ∧ c ≤ ns.length ∧ (∀ b o, s.heap.get? b = some o → h'.get? b = some o)) E) F.called_set.init.plain F.entry_set_init (check_set_init_1 tS ?_)) fun r2 t2 hr2 => ?_
      · obtain ⟨ol, hol, hcl, nl, hdl⟩ := hl
        obtain ⟨ocls, odict, odata, oslots⟩ := ol
        simp only at hcl hdl
        subst hcl; subst hdl
        have hol2 : (s.heap.push (so0 w)).get? l = some { cls := .type "list", dict := odict, data := .seq items nl, slots := oslots } := Heap.get?_push_of_some _ hol
        have s8 := F.sub_list_set
        have s9 := F.sub_list_frozenset
        have s10 : (Value.type "list" == Value.type "dict") = false := by decide
        have hl1 : (s.heap.push (so0 w)).IsList l items := ⟨_, hol2, rfl, nl, rfl⟩
        unfold Builtin.«set.__init__» noKeywords Builtin.Frozenset.updateFrom
        generalize hPI : pyIter = PI
        wp_walk
        subst hPI
        refine wpAny_pyIter_list hl1 (wpAny_bind (wpAny_runValue ?_))
        have lS : l < s.heap.objs.size := Heap.lt_size hol
        have z1 : (s.heap.push (so0 w)).objs.size = s.heap.objs.size + 1 := Heap.size_push ..
        have neI : l ≠ (s.heap.push (so0 w)).objs.size := by rw [z1]; exact Nat.ne_of_lt (Nat.lt_succ_of_lt lS)
        have hx : ∀ x1, A.in1.in1.in1.handled = some (.ref x1) → x1 ≠ (s.heap.push (so0 w)).objs.size := fun x1 hx => by
          have hx : A.handled = some (.ref x1) := hx
          rcases hA with q | ⟨y, q, o, vs, e, _⟩
          · rw [q] at hx; cases hx
          · rw [q] at hx; cases hx
            rw [z1]; exact Nat.ne_of_lt (Nat.lt_succ_of_lt (Heap.lt_size e))
        have nS : s.heap.objs.size ∉ (s.heap.push (so0 w)).objs.size :: l :: K97.hotL A.in1.in1.in1 := fun hm => by
          rcases List.mem_cons.mp hm with e | hm
          · rw [z1] at e; exact absurd e (Nat.ne_of_lt (Nat.lt_succ_self _))
          · rcases List.mem_cons.mp hm with e | hm
            · exact absurd e.symm (Nat.ne_of_lt lS)
            · exact absurd (HeatAt.hotL (A := A) hA _ hm).1 (Nat.lt_irrefl _)
        have hval : ∀ (i : Nat) (v : Value), items[i]? = some v → ∃ k t, ns[i]? = some k ∧ v = .int k t := fun i v hv => by
          have hi : i < ns.length := by rw [← isz]; exact (Array.getElem?_eq_some_iff.mp hv).1
          obtain ⟨t, e⟩ := PyProof.Rows.IntsAre.int_at hit i v (by rw [Array.getElem?_toList]; exact hv)
          refine ⟨ns[i], t, List.getElem?_eq_getElem hi, ?_⟩
          rw [e, List.getD_eq_getElem?_getD, List.getElem?_eq_getElem hi] <;> rfl
        have ht1 : HeatAt A.in1.in1.in1 ((s.heap.push (so0 w)).push { cls := .type "list_iterator", data := .fields #[.ref l, .int 0 0] }) := HeatAt.frame (A := A) hA fun b hb o e => Heap.get?_push_of_some _ (Heap.get?_push_of_some _ e)
        refine set_update_ints ((walks_l (A := A.in1.in1.in1) _ l neI items hx).toS) s.heap.objs.size nS ns isz hb hval (items.size - 0) 0 _ (by omega) (Nat.zero_le _) ⟨⟨⟨_, Heap.get?_push_size _ rfl, rfl, rfl⟩, (hl1.push _)⟩, ht1⟩ ?_ ?_
        · exact ⟨0, Nat.le_refl 0, setR_new_at (Heap.get?_push_of_some _ gS)⟩
        · intro t3 c3 hm hc3 hS3
          obtain ⟨h3, g3, d3, k3, o3⟩ := t3
          have e1 : g3 = s.gens := hm.gens
          have e2 : d3 = s.drawn := hm.drawn
          have e3 : o3 = s.os := hm.os
          subst e1 e2 e3
          show wpAny _ _ _ _ _ _
          refine wpAny_pure ?_
          show wpAny _ _ (ret Value.none) _ _ _
          rw [isz] at hc3
          refine wpAny_pure ⟨rfl, h3, k3, c3, rfl, hS3, hc3, fun b o e => ?_⟩
          have b0 : b < s.heap.objs.size := Heap.lt_size e
          refine hm.heap b o (fun hm => ?_) (Heap.get?_push_of_some _ (Heap.get?_push_of_some _ e))
          rcases List.mem_cons.mp hm with e | hm
          · exact absurd e (Nat.ne_of_lt b0)
          · have q := List.mem_singleton.mp hm
            rw [z1] at q; exact absurd q (Nat.ne_of_lt (Nat.lt_succ_of_lt b0))
      · cases r2 with
        | error e => exact hr2
        | ok fl2 =>
          cases fl2 with
          | ret r =>
            obtain ⟨rfl, h', tk, c', rfl, hS', hc', hk'⟩ := hr2
            repeat (any_goals (first | assumption | wp_step))
            exact h _ _ _ hS' hc' hk'
          | _ => exact hr2.elim
    | _ => exact hr.elim
end
end K97
set_option maxHeartbeats 3200000
/-! # Part U: a set of ints walked, sorted, whatever is handled -/
namespace K97
open PySem PySem.Spec PyProof.Rows L2
section
variable {P : Program} {w : World} {A : Around} {E : Value → Shared → Prop} {s : Shared} {a I it : Addr} {es : Array (Int × Value)} {ep sl i : Nat} {t : SetTable}
theorem end_set {Q : Option Value → Shared → Prop} (ht : HeatAt A s.heap) (hx : ∀ x1, A.handled = some (.ref x1) → x1 ≠ it) (hit : IsSI s.heap it (.int (sl : Int) 0) i a es.size ep) (ha : SetAt s.heap a es ep t) (hf : t.fits es.size = true)
    (hN : ∀ (A' : Around) (E' : Value → Shared → Prop) (Q' : Option (Value × Nat) → Shared → Prop), Q' none s → wpAny (model P w) A' (setNext a sl i ep) Q' E' s) (q : ∀ g, Heap.ExtBut it s.heap g → Q none { s with heap := g }) :
    wpAny (model P w) A (pyNext (.ref it)) Q E s := by
  obtain ⟨oi, g0, gc, gd⟩ := id hit
  obtain ⟨oa, ga, _, da⟩ := id ha
  unfold pyNext
  refine wpAny_bind (wpAny_attempt (wpAny_callSpecial?_slot (name := Str.ofString "__next__") hit.typeIs slot_si_next (wpAny_call_entry slot_si_next hit.typeIs entry_si_next ?_ (args_si_next _))))
  unfold Builtin.«set_iterator.__next__»; refine wpAny_bind (m := slotArgs "__next__" 0 _) (wpAny_pure (wpAny_bind (wpAny_fieldsOf g0 gd ?_)))
  show wpAny _ _ (setEntries a >>= _) _ _ _
  refine wpAny_bind (wpAny_setEntries_of ga da hf (wp_if_neg (by simp) ?_))
  try refine wpAny_bind (wpAny_pure ?_)
  show wpAny _ _ (setNext a sl i ep >>= _) _ _ _
  refine wpAny_bind (hN _ _ _ ?_)
  show wpAny _ _ (setField (.ref it) 2 .none >>= _) _ _ _
  refine wpAny_bind (wpAny_setField g0 gd (by simp) ?_)
  exact stop_at (k := it) (Heap.SameBut.update ..).extBut ht hx q
theorem end_drawn {Q : Option Value → Shared → Prop} {p : Addr} {ys : List Nat} (ht : HeatAt A s.heap) (hx : ∀ x1, A.handled = some (.ref x1) → x1 ≠ it) (hit : IsSI s.heap it (.ref p) i a es.size ep) (ha : SetAt s.heap a es ep t) (hf : t.fits es.size = true)
    (hp : s.heap.get? p = some { cls := .type "tuple", data := .seq (ys.map fun (k : Nat) => rawInt (k : Int)).toArray }) (hj : ys[i]? = none) (q : ∀ g, Heap.ExtBut it s.heap g → Q none { s with heap := g }) :
    wpAny (model P w) A (pyNext (.ref it)) Q E s := by
  obtain ⟨oi, g0, gc, gd⟩ := id hit
  obtain ⟨oa, ga, _, da⟩ := id ha
  unfold pyNext
  refine wpAny_bind (wpAny_attempt (wpAny_callSpecial?_slot (name := Str.ofString "__next__") hit.typeIs slot_si_next (wpAny_call_entry slot_si_next hit.typeIs entry_si_next ?_ (args_si_next _))))
  unfold Builtin.«set_iterator.__next__»; refine wpAny_bind (m := slotArgs "__next__" 0 _) (wpAny_pure (wpAny_bind (wpAny_fieldsOf g0 gd ?_)))
  show wpAny _ _ (setEntries a >>= _) _ _ _
  refine wpAny_bind (wpAny_setEntries_of ga da hf (wp_if_neg (by simp) ?_))
  try refine wpAny_bind (wpAny_pure ?_)
  show wpAny _ _ (seqItems? (.ref p) >>= _) _ _ _
  refine wpAny_bind (wpAny_seqItems hp rfl ?_)
  have hij : (ys.map fun (k : Nat) => rawInt (k : Int)).toArray[(Int.toNat (i : Int))]? = none := by simp [hj]
  dsimp only
  rw [hij]
  show wpAny _ _ (setField (.ref it) 0 (rawInt 0) >>= _) _ _ _
  refine wpAny_bind (wpAny_setField g0 gd (by simp) ?_)
  have g1 := Heap.get?_update_self (Obj.mapFields (·.setIfInBounds 0 (rawInt 0))) g0 (Obj.isFreed_of_fields (Obj.data_mapFields gd _))
  have d1 := Obj.data_mapFields gd (·.setIfInBounds 0 (rawInt 0))
  show wpAny _ _ (setField (.ref it) 2 .none >>= _) _ _ _
  refine wpAny_bind (wpAny_setField g1 d1 (by simp) ?_)
  exact stop_at (k := it) (fun b o hb e => (Heap.get?_update_other _ _ (Ne.symm hb)).trans ((Heap.get?_update_other _ _ (Ne.symm hb)).trans e)) ht hx q

theorem walks_sx (hx : ∀ x1, A.handled = some (.ref x1) → x1 ≠ I) (hne : a ≠ I) (hf : t.fits es.size = true) (hbt : w.params.followText "set-order" = true) :
    Walks P w A I (I :: a :: hotL A) [I] (pickOrder (w.params.setOrder a ep) es).size (fun j v => ((pickOrder (w.params.setOrder a ep) es)[j]?).map (·.2) = some v) (fun i h => (IsSI h I (.int ((0 : Nat) : Int) 0) i a es.size ep ∧ SetAt h a es ep t) ∧ HeatAt A h) where
  sub := fun b hb => by rw [List.mem_singleton.mp hb]; exact List.mem_cons_self
  frame := fun _ _ _ st k => ⟨⟨st.1.1.at fun o e => k I (by simp) o e, st.1.2.at fun o e => k a (by simp) o e⟩, st.2.frame fun b hb => k b (by simp [hb])⟩
  item := fun i s Q E hi st q => by
    have e := Array.getElem?_eq_getElem hi
    refine next_item (x := ((pickOrder (w.params.setOrder a ep) es)[i]).2) (nx := 0) st.1.1 st.1.2 hf (fun A' E' Q' h => setNext_text st.1.2 hf hbt (by rw [e]; exact h)) fun g i1 s1 => ?_
    exact q _ g s.toks (congrArg (Option.map fun q : Int × Value => q.2) e) ⟨⟨i1, st.1.2.at fun o e => s1.extBut a o hne e⟩, st.2.keep hx fun b o hb e => s1.extBut b o hb e⟩ fun b o hb e => s1.extBut b o (fun z => hb (by simp [z])) e
  done := fun s Q E st q => by
    have e : (pickOrder (w.params.setOrder a ep) es)[(pickOrder (w.params.setOrder a ep) es).size]? = none := Array.getElem?_eq_none (Nat.le_refl _)
    exact end_set st.2 hx st.1.1 st.1.2 hf (fun A' E' Q' h => setNext_text st.1.2 hf hbt (by rw [e]; exact h)) fun g x1 => q g s.toks fun b o hb e => x1 b o (fun z => hb (by simp [z])) e
  self := fun _ _ _ _ st q => iter_self st.1.1 q
theorem walks_sl (hx : ∀ x1, A.handled = some (.ref x1) → x1 ≠ I) (hne : a ≠ I) (hf : t.fits es.size = true) (r : Ris t.place.toList) (hbt : w.params.followText "set-order" = false) (hdr : (!t.plain && decide (es.size > 1)) = false) (hl : t.led = true) :
    Walks P w A I (I :: a :: hotL A) [I] es.size (fun j v => (es[j]?).map (·.2) = some v) (fun i h => (IsSI h I (.int ((slotAt t i : Nat) : Int) 0) i a es.size ep ∧ SetAt h a es ep t) ∧ HeatAt A h) where
  sub := fun b hb => by rw [List.mem_singleton.mp hb]; exact List.mem_cons_self
  frame := fun _ _ _ st k => ⟨⟨st.1.1.at fun o e => k I (by simp) o e, st.1.2.at fun o e => k a (by simp) o e⟩, st.2.frame fun b hb => k b (by simp [hb])⟩
  item := fun i s Q E hi st q => by
    have hps : t.place.size = es.size := by simp only [SetTable.fits, Bool.and_eq_true, beq_iff_eq] at hf; exact hf.1
    have hip : i < t.place.size := by rw [hps]; exact hi
    have e := Array.getElem?_eq_getElem hi
    have e2 := Array.getElem?_eq_getElem hip
    have hb := below_slotAt r (Nat.le_of_lt hip)
    have hnx : slotAt t (i + 1) = t.place[i] + 1 := by
      show (t.place.toList[i]?.getD 0) + 1 = _
      rw [Array.getElem?_toList, e2] <;> rfl
    refine next_item (x := (es[i]).2) (nx := t.place[i] + 1) st.1.1 st.1.2 hf (fun A' E' Q' h => setNext_led st.1.2 hf hbt hdr hl (by rw [hb, e, e2]; exact h)) fun g i1 s1 => ?_
    exact q _ g s.toks (congrArg (Option.map fun q : Int × Value => q.2) e) ⟨⟨by rw [hnx]; exact i1, st.1.2.at fun o e => s1.extBut a o hne e⟩, st.2.keep hx fun b o hb e => s1.extBut b o hb e⟩ fun b o hb e => s1.extBut b o (fun z => hb (by simp [z])) e
  done := fun s Q E st q => by
    have hps : t.place.size = es.size := by simp only [SetTable.fits, Bool.and_eq_true, beq_iff_eq] at hf; exact hf.1
    have e : es[es.size]? = none := Array.getElem?_eq_none (Nat.le_refl _)
    have e2 : t.place[es.size]? = none := Array.getElem?_eq_none (Nat.le_of_eq hps)
    have hb : SetTable.below t.place (slotAt t es.size) = es.size := below_slotAt r (Nat.le_of_eq hps.symm)
    exact end_set st.2 hx st.1.1 st.1.2 hf (fun A' E' Q' h => setNext_led st.1.2 hf hbt hdr hl (by rw [hb, e, e2]; exact h)) fun g x1 => q g s.toks fun b o hb e => x1 b o (fun z => hb (by simp [z])) e
  self := fun _ _ _ _ st q => iter_self st.1.1 q
theorem walks_sd {p : Addr} {ys : List Nat} (hx : ∀ x1, A.handled = some (.ref x1) → x1 ≠ I) (hne : a ≠ I) (hpe : p ≠ I) (hf : t.fits es.size = true) (hy : ∀ j ∈ ys, j < es.size) :
    Walks P w A I (I :: a :: p :: hotL A) [I] ys.length (fun j v => (ys[j]?).bind (fun q => (es[q]?).map (·.2)) = some v) (fun i h => (IsSI h I (.ref p) i a es.size ep ∧ SetAt h a es ep t ∧ h.get? p = some { cls := .type "tuple", data := .seq (ys.map fun (k : Nat) => rawInt (k : Int)).toArray }) ∧ HeatAt A h) where
  sub := fun b hb => by rw [List.mem_singleton.mp hb]; exact List.mem_cons_self
  frame := fun _ _ _ st k => ⟨⟨st.1.1.at fun o e => k I (by simp) o e, st.1.2.1.at fun o e => k a (by simp) o e, k p (by simp) _ st.1.2.2⟩, st.2.frame fun b hb => k b (by simp [hb])⟩
  item := fun i s Q E hi st q => by
    have e := List.getElem?_eq_getElem hi
    have hlt : ys[i] < es.size := hy _ (List.getElem_mem hi)
    have e2 := Array.getElem?_eq_getElem hlt
    refine next_drawn_item st.1.1 st.1.2.1 hf st.1.2.2 e e2 fun g i1 s1 => ?_
    have hpv : (ys[i]?).bind (fun q => (es[q]?).map (·.2)) = some (es[ys[i]]'hlt).2 := by
      rw [e]
      show (es[ys[i]]?).map (·.2) = _
      rw [e2] <;> rfl
    exact q _ g s.toks hpv ⟨⟨i1, st.1.2.1.at fun o e => s1.extBut a o hne e, s1.extBut p _ hpe st.1.2.2⟩, st.2.keep hx fun b o hb e => s1.extBut b o hb e⟩ fun b o hb e => s1.extBut b o (fun z => hb (by simp [z])) e
  done := fun s Q E st q => end_drawn st.2 hx st.1.1 st.1.2.1 hf st.1.2.2 (List.getElem?_eq_none (Nat.le_refl _)) fun g x1 => q g s.toks fun b o hb e => x1 b o (fun z => hb (by simp [z])) e
  self := fun _ _ _ _ st q => iter_self st.1.1 q
/-- what iter(set) gives -/
structure SIt (P : Program) (w : World) (A : Around) (s : Shared) (a : Addr) (es : Array (Int × Value)) (s2 : Shared) (I : Addr) : Prop where
  ex : ∃ (fp : List Addr) (St : Nat → Heap → Prop) (out : List Value) (Pv : Nat → Value → Prop), (∀ b o, s.heap.get? b = some o → s2.heap.get? b = some o) ∧ s2.gens = s.gens ∧ s2.os = s.os ∧ s2.toks = s.toks ∧ s.heap.objs.size ≤ I ∧
    (∀ b ∈ fp, b = a ∨ s.heap.objs.size ≤ b ∨ b ∈ hotL A) ∧ out.Perm (es.toList.map (·.2)) ∧ Walks P w A I fp [I] out.length Pv St ∧ (∀ j v, Pv j v → out[j]? = some v) ∧ St 0 s2.heap
theorem SIt.of {s2 : Shared} {fp : List Addr} {St : Nat → Heap → Prop} {out : List Value} {Pv : Nat → Value → Prop} {n : Nat} (W : Walks P w A I fp [I] n Pv St) (hn : out.length = n) (k : ∀ b o, s.heap.get? b = some o → s2.heap.get? b = some o)
    (g : s2.gens = s.gens) (ho : s2.os = s.os) (tk : s2.toks = s.toks) (hI : s.heap.objs.size ≤ I) (hfp : ∀ b ∈ fp, b = a ∨ s.heap.objs.size ≤ b ∨ b ∈ hotL A) (hp : out.Perm (es.toList.map (·.2))) (hPv : ∀ j v, Pv j v → out[j]? = some v) (hst : St 0 s2.heap) : SIt P w A s a es s2 I := by
  subst hn
  exact ⟨fp, St, out, Pv, k, g, ho, tk, hI, hfp, hp, W, hPv, hst⟩
theorem hot_new {h : Heap} (hA : HeatAt A h) {b : Addr} (hb : h.objs.size ≤ b) : ∀ x1, A.handled = some (.ref x1) → x1 ≠ b := fun x1 hx => by
  rcases hA with q | ⟨y, q, o, vs, e, _⟩
  · rw [q] at hx; cases hx
  · rw [q] at hx; cases hx
    exact Nat.ne_of_lt (Nat.lt_of_lt_of_le (Heap.lt_size e) hb)
theorem iter_sH {Q : Value → Shared → Prop} (hA : HeatAt A s.heap) (ha : SetAt s.heap a es ep t) (hf : t.fits es.size = true) (hsz : es.size < scanBound) (r : Ris t.place.toList) (hl : w.params.followText "set-order" = true ∨ t.led = true)
    (hQ : ∀ s2 I, SIt P w A s a es s2 I → Q (.ref I) s2) : wpAny (model P w) A (pyIter (.ref a)) Q E s := by
  obtain ⟨o, ho, hc, hd⟩ := id ha
  have tS : s.TypeIs (.ref a) "set" := ⟨o, ho, hc⟩
  have hlt : a < s.heap.objs.size := Heap.lt_size ho
  refine wpAny_pyIter_slot tS F.slot_set_iter (wpAny_call_entry F.slot_set_iter tS entry_s_iter ?_ (F.args_set_iter_1 _))
  unfold Builtin.«frozenset.__iter__»; refine wpAny_bind (m := Builtin.Frozenset.slot0 "__iter__" _) (wpAny_of_eq (a := a) (by rfl) (wpAny_bind (m := Builtin.Frozenset.sizeOf a) ?_))
  unfold Builtin.Frozenset.sizeOf
  refine wpAny_bind (wpAny_setEntries_of ho hd hf (wpAny_pure ?_))
  first | refine wpAny_bind (setDrawn_at ha hf ?_) | refine wpAny_bind (wpAny_bind (setDrawn_at ha hf ?_))
  have two : ∀ (h2 : Heap) (b : Addr), b ∈ s.heap.objs.size :: a :: hotL A → b = a ∨ s.heap.objs.size ≤ b ∨ b ∈ hotL A := fun h2 b hb => by
    rcases List.mem_cons.mp hb with z | hb
    · exact .inr (.inl (Nat.le_of_eq z.symm))
    · exact (List.mem_cons.mp hb).elim .inl fun z => .inr (.inr z)
  cases hb : w.params.followText "set-order" with
  | true =>
    refine wp_if_neg (by simp) ?_
    first | refine wpAny_bind (wpAny_pure ?_) | refine wpAny_pure ?_
    refine wpAny_bind (wpAny_setEpoch_of ho hd hf (wpAny_bind (wpAny_newObj_type (wpAny_pure ⟨_, rfl, "set_iterator", _, ⟨_, Heap.get?_push_size _ rfl, rfl⟩, slot_si_next.lookup, ?_⟩))))
    have hne : a ≠ s.heap.objs.size := Nat.ne_of_lt hlt
    have hp := pick_perm (w.params.setOrder a ep) es
    refine hQ _ _ (SIt.of (out := (pickOrder (w.params.setOrder a ep) es).toList.map (·.2)) (walks_sx (P := P) (ep := ep) (hot_new hA (Nat.le_refl _)) hne hf hb) (by rw [List.length_map, Array.length_toList]) (fun b u e => Heap.get?_push_of_some _ e) rfl rfl rfl (Nat.le_refl _) (fun b hb' => two s.heap b hb') (hp.map _) (fun j v q => ?_)
      ⟨⟨⟨_, Heap.get?_push_size _ rfl, rfl, rfl⟩, ha.at fun u e => Heap.get?_push_of_some _ e⟩, hA.frame fun b hb o e => Heap.get?_push_of_some _ e⟩)
    rw [List.getElem?_map, Array.getElem?_toList]; exact q
  | false =>
    have hled : t.led = true := hl.resolve_left (by rw [hb]; exact Bool.false_ne_true)
    cases hdr : (!t.plain && decide (es.size > 1)) with
    | false =>
      refine wp_if_neg (by simp) ?_
      first | refine wpAny_bind (wpAny_pure ?_) | refine wpAny_pure ?_
      refine wpAny_bind (wpAny_setEpoch_of ho hd hf (wpAny_bind (wpAny_newObj_type (wpAny_pure ⟨_, rfl, "set_iterator", _, ⟨_, Heap.get?_push_size _ rfl, rfl⟩, slot_si_next.lookup, ?_⟩))))
      have hne : a ≠ s.heap.objs.size := Nat.ne_of_lt hlt
      refine hQ _ _ (SIt.of (out := es.toList.map (·.2)) (walks_sl (P := P) (ep := ep) (hot_new hA (Nat.le_refl _)) hne hf r hb hdr hled) (by rw [List.length_map, Array.length_toList]) (fun b u e => Heap.get?_push_of_some _ e) rfl rfl rfl (Nat.le_refl _) (fun b hb' => two s.heap b hb') (List.Perm.refl _) (fun j v q => ?_)
        ⟨⟨⟨_, Heap.get?_push_size _ rfl, rfl, rfl⟩, ha.at fun u e => Heap.get?_push_of_some _ e⟩, hA.frame fun b hb o e => Heap.get?_push_of_some _ e⟩)
      rw [List.getElem?_map, Array.getElem?_toList]; exact q
    | true =>
      refine wp_if_pos rfl (wpAny_bind (drawOrder_at _ _ _ _ (Nat.le_of_eq List.length_range) fun ys d hp => ?_))
      have hyl : ys.length = es.size := by rw [hp.length_eq, List.length_range]
      have hsl : (ys.map fun (k : Nat) => rawInt (k : Int)).length ≤ sizeLine := by rw [List.length_map, hyl]; exact fits_of_scanBound hsz
      first | refine wpAny_bind (wpAny_newTuple ?_ hsl) | refine wpAny_newTuple ?_ hsl
      generalize hob : ({ cls := .type "tuple", data := .seq (ys.map fun (k : Nat) => rawInt (k : Int)).toArray } : Obj) = ob
      have ho2 : (s.heap.push ob).get? a = some o := Heap.get?_push_of_some _ ho
      refine wpAny_bind (wpAny_setEpoch_of ho2 hd hf (wpAny_bind (wpAny_newObj_type (wpAny_pure ⟨_, rfl, "set_iterator", _, ⟨_, Heap.get?_push_size _ rfl, rfl⟩, slot_si_next.lookup, ?_⟩))))
      have hsz2 : (s.heap.push ob).objs.size = s.heap.objs.size + 1 := size_push' _ _
      have hne : a ≠ (s.heap.push ob).objs.size := by rw [hsz2]; exact Nat.ne_of_lt (Nat.lt_succ_of_lt hlt)
      have hpe : s.heap.objs.size ≠ (s.heap.push ob).objs.size := by rw [hsz2]; exact Nat.ne_of_lt (Nat.lt_succ_self _)
      have hys : ∀ j ∈ ys, j < es.size := fun j hj => List.mem_range.mp (hp.mem_iff.mp hj)
      have hpm : (ys.map fun q => ((es[q]?).map (·.2)).getD Value.none).Perm (es.toList.map (·.2)) := by
        rw [← range_map es]
        exact hp.map _
      have hA2 : HeatAt A (s.heap.push ob) := hA.frame fun b hb o e => Heap.get?_push_of_some _ e
      refine hQ _ _ (SIt.of (out := ys.map fun q => ((es[q]?).map (·.2)).getD Value.none) (walks_sd (P := P) (w := w) (ep := ep) (t := t) (hot_new hA2 (Nat.le_refl _)) hne hpe hf hys) (List.length_map _) (fun b u e => Heap.get?_push_of_some _ (Heap.get?_push_of_some _ e)) rfl rfl rfl (by rw [hsz2]; exact Nat.le_succ _) (fun b hb' => ?_) hpm (fun j v q => ?_)
        ⟨⟨⟨_, Heap.get?_push_size _ rfl, rfl, rfl⟩, ha.at fun u e => Heap.get?_push_of_some _ (Heap.get?_push_of_some _ e), by subst hob; exact Heap.get?_push_of_some _ (Heap.get?_push_size _ rfl)⟩, hA2.frame fun b hb o e => Heap.get?_push_of_some _ e⟩)
      · rcases List.mem_cons.mp hb' with z | z
        · exact .inr (.inl (by rw [z, hsz2]; exact Nat.le_succ _))
        · rcases List.mem_cons.mp z with z | z
          · exact .inl z
          · rcases List.mem_cons.mp z with z | z
            · exact .inr (.inl (Nat.le_of_eq z.symm))
            · exact .inr (.inr z)
      · rw [List.getElem?_map]
        cases hy : ys[j]? with
        | none => rw [hy] at q; cases q
        | some k =>
          rw [hy] at q
          have q' : (es[k]?).map (·.2) = some v := q
          show some (((es[k]?).map (·.2)).getD Value.none) = some v
          rw [q'] <;> rfl
end
end K97
set_option maxHeartbeats 3200000
/-! # Part V: sorted(set(ints)) over data -/
namespace K97
open PySem PySem.Spec PyProof.Rows L2
section
variable {P : Program} {w : World} {A : Around} {E : Value → Shared → Prop} {s : Shared} {a : Addr} {es : Array (Int × Value)} {ep : Nat} {t : SetTable}
abbrev emL : Obj := { cls := .type "list", data := .seq ([] : List Value).toArray }
theorem collect_sH {Q : List Value → Shared → Prop} (hA : HeatAt A s.heap) (ha : SetAt s.heap a es ep t) (hf : t.fits es.size = true) (hsz : es.size < scanBound) (r : Ris t.place.toList) (hl : w.params.followText "set-order" = true ∨ t.led = true)
    (hQ : ∀ s' out, (∀ b o, s.heap.get? b = some o → s'.heap.get? b = some o) → s.heap.objs.size ≤ s'.heap.objs.size → s'.gens = s.gens → s'.os = s.os → out.Perm (es.toList.map (·.2)) → Q out s') :
    wpAny (model P w) A (collect (.ref a)) Q E s := by
  obtain ⟨o, ho, hc, hd⟩ := id ha
  have hlt : a < s.heap.objs.size := Heap.lt_size ho
  have neS : s.heap.objs.size ≠ a := Nat.ne_of_gt hlt
  unfold collect
  refine wpAny_bind (wpAny_runValue (codeAny_builtin F.entry_proto_collect ?_))
  rw [Around.under_plainId F.plain_proto_collect _]
  show wpAny _ A.in1 (newList [] >>= fun l => again (.builtin "list.__iadd__" ⟨[l, .ref a], []⟩)) _ E s
  refine wpAny_bind (wpAny_newObj_type (wpAny_pure ⟨plainId_quiet F.plain_list_iadd _, codeAny_builtin F.entry_list_iadd ?_⟩))
  rw [Around.under_plainId F.plain_list_iadd _]
  have gS : (s.heap.push emL).get? s.heap.objs.size = some emL := Heap.get?_push_size _ rfl
  have ha1 : SetAt (s.heap.push emL) a es ep t := ha.at fun u e => Heap.get?_push_of_some _ e
  have z1 : (s.heap.push emL).objs.size = s.heap.objs.size + 1 := size_push' _ _
  have hA1 : HeatAt A.in1 (s.heap.push emL) := HeatAt.frame (A := A) hA fun b hb o e => Heap.get?_push_of_some _ e
  show wpAny _ A.in1 (Builtin.List.listExtendWith (.ref s.heap.objs.size) (.ref a) (.ref s.heap.objs.size)) _ E _
  unfold Builtin.List.listExtendWith
  refine wpAny_bind (wpAny_typeOf (T := "set") ⟨o, Heap.get?_push_of_some _ ho, hc⟩ ?_)
  have c1 : Builtin.List.listSameRef (.ref s.heap.objs.size) (.ref a) = false := by simp [Builtin.List.listSameRef, neS]
  have c2 : (Value.type "set" == Value.type "list") = false := by decide
  have c3 : (Value.type "set" == Value.type "tuple") = false := by decide
  simp only [c1, c2, c3, Bool.or_false, Bool.false_eq_true, if_false]
  refine wpAny_bind (iter_sH (A := A.in1) (s := { s with heap := s.heap.push emL }) hA1 ha1 hf hsz r hl fun s2 I hit => ?_)
  obtain ⟨fp, St, out, Pv, k2, g2, o2, t2, hI, hfp, hp, W, hPv, hst⟩ := hit.ex
  have hI' : s.heap.objs.size + 1 ≤ I := by rw [← z1]; exact hI
  have nSf : s.heap.objs.size ∉ fp := fun hm => by
    rcases hfp _ hm with z | z | z
    · exact neS z
    · have z' : s.heap.objs.size + 1 ≤ s.heap.objs.size := by rw [← z1]; exact z
      exact absurd z' (Nat.not_succ_le_self _)
    · exact absurd (HeatAt.hotL (A := A) hA _ z).1 (Nat.lt_irrefl _)
  have ho2 := k2 a o (Heap.get?_push_of_some _ ho)
  have tS2 : s2.TypeIs (.ref a) "set" := ⟨o, ho2, hc⟩
  refine wpAny_bind (wpAny_holding ?_)
  unfold Builtin.List.listLengthHint
  refine wpAny_bind (wpAny_specialOf tS2 F.slot_set_len.lookup ?_)
  (generalize hid : ("set.__len__" : String) = id1; (fail_if_success (clear hid id1)); wp_delta; rw [show splitId id1 = some ("set", "__len__") from by subst hid; decide +kernel]; subst hid)
  refine wpAny_bind (wpAny_isInstance (b := true) tS2 sub_set_self ?_)
  show wpAny _ A.in1 (typeOf (.ref a) >>= _) _ E _
  refine wpAny_bind (wpAny_typeOf tS2 (wpAny_pure ?_))
  show wpAny _ A.in1 (rule "list.extend.makes-room" >>= fun _ => Builtin.List.listTouch (.ref s.heap.objs.size) >>= fun _ => again (.builtin "list.extend.loop" ⟨[.ref s.heap.objs.size, .ref I, .ref s.heap.objs.size], []⟩)) _ E _
  refine wpAny_bind (wpAny_rule ?_)
  have gS2 := k2 _ _ gS
  refine wpAny_bind ?_
  show wpAny _ A.in1 (updateSeq s.heap.objs.size (·.push .none) >>= fun _ => updateSeq s.heap.objs.size (·.pop)) _ E _
  refine wpAny_bind (wpAny_updateSeq gS2 rfl ?_)
  have gS3 := Heap.get?_update_self (Obj.mapSeq (·.push Value.none)) gS2 rfl
  refine wpAny_updateSeq gS3 rfl ?_
  have gS4 := Heap.get?_update_self (Obj.mapSeq (·.pop)) gS3 rfl
  have oth : ∀ b u, b ≠ s.heap.objs.size → s2.heap.get? b = some u → ((s2.heap.update s.heap.objs.size (Obj.mapSeq (·.push Value.none))).update s.heap.objs.size (Obj.mapSeq (·.pop))).get? b = some u := fun b u hb e =>
    (Heap.get?_update_other _ _ (Ne.symm hb)).trans ((Heap.get?_update_other _ _ (Ne.symm hb)).trans e)
  have hn : out.length ≤ sizeLine := by
    rw [hp.length_eq, List.length_map, Array.length_toList]
    exact fits_of_scanBound hsz
  have st2 : St 0 ((s2.heap.update s.heap.objs.size (Obj.mapSeq (·.push Value.none))).update s.heap.objs.size (Obj.mapSeq (·.pop))) := W.frame 0 _ _ hst fun b hb u e => oth b u (fun z => nSf (z ▸ hb)) e
  refine wpAny_pure ⟨plainId_quiet F.plain_extend_loop _, codeAny_extend_loopS W.toS hn _ nSf _ out.length 0 _ _ _ rfl (Nat.zero_le _) st2 gS4 (ItemsOf.nil Pv) fun s' acc' c' hm hS' hacc => ?_⟩
  show wpAny _ A (load s.heap.objs.size >>= _) _ E s'
  refine wpAny_bind (wpAny_load hS' ?_)
  have eo := items_out hacc hPv
  refine wpAny_pure ?_
  show Q acc'.toList s'
  rw [eo]
  refine hQ s' out (fun b u e => ?_) (Nat.le_of_lt (Heap.lt_size hS')) (Eq.trans hm.gens g2) (Eq.trans hm.os o2) hp
  have hbl : b < s.heap.objs.size := Heap.lt_size e
  refine hm.heap b u (fun z => ?_) (oth b u (Nat.ne_of_lt hbl) (k2 b u (Heap.get?_push_of_some _ e)))
  have no : ∀ x : Addr, s.heap.objs.size ≤ x → b ≠ x := fun x hx => Nat.ne_of_lt (Nat.lt_of_lt_of_le hbl hx)
  rcases List.mem_cons.mp z with z | z
  · first
      | exact no _ (Nat.le_refl _) z
      | exact no _ (Nat.le_of_succ_le hI') z
  · have z := List.mem_singleton.mp z
    first
      | exact no _ (Nat.le_refl _) z
      | exact no _ (Nat.le_of_succ_le hI') z
theorem sorted_sH {S : Int → Bool} {n : Nat} {Q : Value → Shared → Prop} (R : SetR w s.heap a S n) (hA : HeatAt A s.heap) (h64 : n < 64)
    (hQ : ∀ s' p (out : Array Value) (c : Nat) (ns : List Int), (∀ b o, s.heap.get? b = some o → s'.heap.get? b = some o) → s'.gens = s.gens → s'.os = s.os → s.heap.objs.size ≤ p →
      s'.heap.get? p = some (seqObj "list" out c) → IntsAre out.toList ns → ns.Pairwise (· < ·) → (∀ k, k ∈ ns ↔ S k = true) → ns.length = n → Q (.ref p) s') :
    wpAny (model P w) A (call (.builtin "sorted") [.ref a]) Q E s := by
  obtain ⟨o, es, ep, t, ho, hex, hd, g, nd, hm, hb, hf, hn, hr, hl⟩ := R
  refine Calls.call_function_entry kind_sorted plain_sorted entry_sorted (args_sorted1 _) ?_
  unfold Builtin.«sorted»; refine wpAny_bind (m := checkCount "sorted" 1 1 _) (wpAny_pure ?_)
  refine wpAny_bind (collect_sH (A := A.in1) (show HeatAt A.in1 s.heap from hA) ⟨o, ho, hex.1, hd⟩ hf hb hr hl fun s1 vs k1 hz g1 o1 pm => ?_)
  have hvl : vs.length = n := by rw [pm.length_eq, List.length_map, Array.length_toList]; exact hn
  have hI : IntsAre vs (vs.map Builtin.Re.reRawOf) := ints_of vs fun v hv => by
    obtain ⟨e, he, q⟩ := List.mem_map.mp (pm.mem_iff.mp hv)
    obtain ⟨k, tk, h1, _⟩ := g e he
    exact ⟨k, tk, by rw [← q]; exact h1⟩
  have pk : (vs.map Builtin.Re.reRawOf).Perm (es.toList.map keyOf) := by
    have q := pm.map Builtin.Re.reRawOf
    rw [List.map_map] at q
    exact q
  refine wpAny_bind (wpAny_newList ?_ (by rw [hvl, sizeLine_eq]; omega))
  have gL : (s1.heap.push (seqObj "list" vs.toArray 0)).get? s1.heap.objs.size = some (seqObj "list" vs.toArray 0) := Heap.get?_push_size _ rfl
  refine wpAny_bind (wpAny_holding (wpAny_call_entry slot_list_sort ⟨_, gL, rfl⟩ entry_list_sort (list_sort_tree gL hI (by rw [hvl]; exact h64) fun out ns' a1 a2 a3 => ⟨_, rfl, ?_⟩) (args_list_sort _)))
  obtain ⟨c, hc⟩ := sortedHeap_at (vs := vs) (out := out) gL
  have pn : ns'.Perm (es.toList.map keyOf) := a2.trans pk
  refine wpAny_pure ⟨_, rfl, hQ _ s1.heap.objs.size out c ns' (fun b u e => ?_) g1 o1 hz hc a1 (lt_of_le_nodup ns' a3 (pn.nodup_iff.mpr nd)) (fun k => by rw [pn.mem_iff, ← hm k]) ?_⟩
  · have q := k1 b u e
    have hlt := Heap.lt_size q
    show (sortedHeap (s1.heap.push (seqObj "list" vs.toArray 0)) s1.heap.objs.size vs out).get? b = some u
    rw [sortedHeap_old (Nat.ne_of_lt hlt) (by rw [size_push']; exact Nat.lt_succ_of_lt hlt)]
    exact Heap.get?_push_of_some _ q
  · rw [pn.length_eq, List.length_map, Array.length_toList]; exact hn
end
/-! ## the plain side -/
def insU (x : Int) : List Int → List Int
  | [] => [x]
  | y :: r => if x < y then x :: y :: r else if x = y then y :: r else y :: insU x r
/-- the members, once each, rising -/
def sU (ns : List Int) : List Int := ns.foldr insU []
theorem mem_insU {x k : Int} : ∀ {l : List Int}, k ∈ insU x l ↔ k = x ∨ k ∈ l
  | [] => by simp [insU]
  | y :: r => by
    unfold insU
    split
    · simp
    · split
      · rename_i h; subst h; simp
      · rw [List.mem_cons, mem_insU (l := r), List.mem_cons]
        constructor
        · rintro (h | h | h)
          · exact .inr (.inl h)
          · exact .inl h
          · exact .inr (.inr h)
        · rintro (h | h | h)
          · exact .inr (.inl h)
          · exact .inl h
          · exact .inr (.inr h)
theorem pw_insU {x : Int} : ∀ {l : List Int}, l.Pairwise (· < ·) → (insU x l).Pairwise (· < ·)
  | [], _ => by simp [insU]
  | y :: r, h => by
    obtain ⟨h1, h2⟩ := List.pairwise_cons.mp h
    unfold insU
    split
    · rename_i hx
      exact List.pairwise_cons.mpr ⟨fun z hz => by rcases List.mem_cons.mp hz with e | e; (rw [e]; exact hx); (have := h1 z e; omega), h⟩
    · split
      · exact h
      · refine List.pairwise_cons.mpr ⟨fun z hz => ?_, pw_insU h2⟩
        rcases mem_insU.mp hz with e | e
        · rw [e]; omega
        · exact h1 z e
theorem mem_sU {k : Int} : ∀ {ns : List Int}, k ∈ sU ns ↔ k ∈ ns
  | [] => by simp [sU]
  | x :: ns => by
    show k ∈ insU x (sU ns) ↔ _
    rw [mem_insU, mem_sU, List.mem_cons]
theorem pw_sU : ∀ {ns : List Int}, (sU ns).Pairwise (· < ·)
  | [] => List.Pairwise.nil
  | x :: ns => pw_insU pw_sU
theorem rise_uniq : ∀ {xs ys : List Int}, xs.Pairwise (· < ·) → ys.Pairwise (· < ·) → (∀ k, k ∈ xs ↔ k ∈ ys) → xs = ys
  | [], [], _, _, _ => rfl
  | [], y :: ys, _, _, h => absurd ((h y).mpr List.mem_cons_self) (by simp)
  | x :: xs, [], _, _, h => absurd ((h x).mp List.mem_cons_self) (by simp)
  | x :: xs, y :: ys, h1, h2, h => by
    obtain ⟨a1, a2⟩ := List.pairwise_cons.mp h1
    obtain ⟨b1, b2⟩ := List.pairwise_cons.mp h2
    have e : x = y := by
      rcases List.mem_cons.mp ((h x).mp List.mem_cons_self) with q | q
      · exact q
      · rcases List.mem_cons.mp ((h y).mpr List.mem_cons_self) with p | p
        · exact p.symm
        · have := b1 x q; have := a1 y p; omega
    subst e
    rw [rise_uniq a2 b2 fun k => ?_]
    constructor
    · intro q
      rcases List.mem_cons.mp ((h k).mp (List.mem_cons_of_mem _ q)) with p | p
      · have := a1 k q; omega
      · exact p
    · intro q
      rcases List.mem_cons.mp ((h k).mpr (List.mem_cons_of_mem _ q)) with p | p
      · have := b1 k q; omega
      · exact p
section
variable {X : Cx} {F0 F : Hp} {r : Rho} {O : Om} {Q : D → Om → Prop} {e : Expr} {pos : Pos}
theorem vals_ints {ns : List Int} {us : List Value} (h : IntsAre us ns) : Vals (ns.map V.int) us := by
  induction h with
  | nil => exact .nil
  | cons k tk _ ih => exact .cons ⟨tk, rfl⟩ ih
theorem ints_vals : ∀ {ns : List Int} {us : List Value}, Vals (ns.map V.int) us → IntsAre us ns
  | [], _, h => by cases h; exact .nil
  | n :: ns, _, h => by
    rw [List.map_cons] at h
    cases h with
    | cons r t => obtain ⟨k, rfl⟩ := r; exact .cons n k (ints_vals t)
/-- sorted(set(e)) -/
theorem ev_sset {p p2 q : Pos} (ht : Heat X) (h : Ev X F0 e r O fun d O1 => ∃ ns : List Int, d = .lst (ns.map .int) ∧ ns.length < 64 ∧ Q (.lst ((sU ns).map .int)) O1) (hm : X.mg "sorted" = none) (hm2 : X.mg "set" = none) (hg : Gl X "sorted" := by rfl) (hg2 : Gl X "set" := by rfl)
    (na : starEach [e] X.env = (false, eval e X.env) :: starEach [] X.env := by rfl) : Ev X F0 (.Call (.Name "sorted" p) [.Call (.Name "set" p2) [e] [] q] [] pos) r O Q := by
  intro σ H F hx en pins s I
  refine Call_ (ld_blt I hg hm boot_sorted ?_)
  refine PyProof.Rows.callWith_builtin1 (PyProof.Rows.args_cons ?_ rfl) rfl rfl
  refine Call_ (ld_blt I hg2 hm2 boot_set ?_)
  refine PyProof.Rows.callWith_type1 (PyProof.Rows.args_cons (thn (h σ H F hx en pins s I) fun v s1 ⟨x, H1, I1, r1, d, O1, F1, ⟨ns, ed, hl, q1⟩, rp, hx1, l1⟩ => PyProof.Rows.args_nil ?_) na) na rfl
  subst ed
  obtain ⟨l, xs, rfl, hl1, hrs⟩ := rep_lst.mp rp
  obtain rfl := reps_ints' hrs
  cases r1
  obtain ⟨its, rv, pl, hz⟩ := I1.list (.inl (.inl (hx1.fh _ _ hl1)))
  have hA := ht.at I1
  refine call_setH ns hA pl.isList (by simpa using ints_vals rv) (by unfold scanBound; omega) fun h' tk c R hc hk => ?_
  refine PyProof.Rows.args_nil ?_
  have I2 : Inv X pins σ H1 { s1 with heap := h', toks := tk } := I1.kept hk
  refine sorted_sH R (ht.at I2) (by omega) fun s3 p3 out c3 ms k3 g3 o3 hp3 hS3 hi3 hpw hmem hlen => ?_
  have e : ms = sU ns := rise_uniq hpw pw_sU fun k => by rw [hmem k, mem_sU]; simp
  subst e
  have nn := I2.hok.fresh hp3
  have hz2 : ((sU ns).map V.int).length ≤ sizeLine := by rw [List.length_map, hlen, sizeLine_eq]; omega
  have J : Inv X pins σ (upd H1 p3 (.lst ((sU ns).map V.int))) { ({ s1 with heap := h', toks := tk } : Shared) with heap := s3.heap, gens := s3.gens, drawn := s3.drawn, toks := s3.toks } :=
    I2.call (ch := []) (Un.laid k3 hp3 nn) (I2.hok.laid k3 hp3 ⟨hz2, out.toList, c3, vals_ints hi3, hS3⟩) (by rw [g3]; exact I2.bare) (fun _ z => nomatch z)
  have es : s3 = { s1 with heap := s3.heap, gens := s3.gens, drawn := s3.drawn, toks := s3.toks } := by
    cases s3; cases s1; cases o3; rfl
  rw [es]
  obtain ⟨hx2, l2⟩ := hx1.new nn (.lst ((sU ns).map V.int))
  exact ⟨.ref p3, _, J, rfl, _, O1, _, q1, rep_lst.mpr ⟨p3, _, rfl, upd_same, reps_ints⟩, hx2, l1.trans l2⟩
end
end K97
set_option maxHeartbeats 3200000
/-! # Part Z: list(zip(a, b)) of two lists, while nothing is handled -/
namespace K97
open PySem PySem.Spec PyProof.Rows L2
theorem zip_nolen : typeLookup (.type "zip") "__len__" = pure none := by rw [typeLookup_type, builtinLookup_eq_fast]; kernel_rfl
theorem zip_nohint : typeLookup (.type "zip") "__length_hint__" = pure none := by rw [typeLookup_type, builtinLookup_eq_fast]; kernel_rfl
section
variable {P : Program} {w : World} {A : Around} {E : Value → Shared → Prop} {s : Shared} {z TI TO i1 i2 l1 l2 : Addr} {xs ys : Array Value}
/-- zip's own objects while it is walked -/
structure ZSt (S z TI TO i1 i2 l1 l2 : Addr) (xs ys : Array Value) (i : Nat) (h : Heap) : Prop where
  pair : IsPair h TI (.ref i1) (.ref i2)
  it1 : h.IsListIter i1 l1 i
  it2 : h.IsListIter i2 l2 i
  li1 : h.IsList l1 xs
  li2 : h.IsList l2 ys
  own : (IsZip h z TI TO .none ∧ ∃ a b, IsPair h TO a b) ∨ ∃ T f oT, PySem.IsZipHeld h z TI TO T f ∧ h.get? T = some oT ∧ T ≠ z ∧ T ≠ i1 ∧ T ≠ i2 ∧ T ≠ S
theorem ZSt.at {i : Nat} {h h' : Heap} {S : Addr} (st : ZSt S z TI TO i1 i2 l1 l2 xs ys i h) (hS : ∀ b ∈ [z, TI, TO, i1, i2, l1, l2], b ≠ S) (k : ∀ b o, b ≠ S → h.get? b = some o → h'.get? b = some o) : ZSt S z TI TO i1 i2 l1 l2 xs ys i h' := by
  obtain ⟨p, a1, a2, b1, b2, c⟩ := st
  have ne : ∀ {b}, b ∈ [z, TI, TO, i1, i2, l1, l2] → ∀ o, h.get? b = some o → h'.get? b = some o := fun hb o e => k _ o (hS _ hb) e
  refine ⟨ne (by simp) _ p, a1.at fun o e => ne (by simp) o e, a2.at fun o e => ne (by simp) o e, b1.at fun o e => ne (by simp) o e, b2.at fun o e => ne (by simp) o e, ?_⟩
  rcases c with ⟨c1, a, b, c2⟩ | ⟨T, f, oT, c1, c2, c3⟩
  · exact .inl ⟨ne (by simp) _ c1, a, b, ne (by simp) _ c2⟩
  · exact .inr ⟨T, f, oT, ne (by simp) _ c1, k _ _ c3.2.2.2 c2, c3⟩
theorem z_item {S : Addr} {i : Nat} {Q : Option Value → Shared → Prop} (D : ZipApart z TI TO i1 i2 l1 l2) (st : ZSt S z TI TO i1 i2 l1 l2 xs ys i s.heap) {x y : Value} (hS : S < s.heap.objs.size) (hx : xs[i]? = some x) (hy : ys[i]? = some y)
    (q : ∀ h', ZSt S z TI TO i1 i2 l1 l2 xs ys (i + 1) h' → IsPair h' s.heap.objs.size x y → h'.objs.size = s.heap.objs.size + 1 → (∀ c o, c ∉ [z, TO, i1, i2] → s.heap.get? c = some o → h'.get? c = some o) → Q (some (.ref s.heap.objs.size)) { s with heap := h' }) :
    wpAny (model P w) A (pyNext (.ref z)) Q E s := by
  obtain ⟨p, a1, a2, b1, b2, c⟩ := st
  have lt : ∀ {c o}, s.heap.get? c = some o → s.heap.objs.size ≠ c := fun e => Nat.ne_of_gt (Heap.lt_size e)
  have n1 : s.heap.objs.size ≠ i1 := let ⟨_, e, _⟩ := a1; lt e
  have n2 : s.heap.objs.size ≠ i2 := let ⟨_, e, _⟩ := a2; lt e
  rcases c with ⟨c1, a, b, c2⟩ | ⟨T, f, oT, c1, c2, r1, r2, r3, r4⟩
  · refine wpAny_pyNext_zip_item D c1 p c2 a1 a2 b1 b2 hx hy fun h' e1 e2 e3 e4 e5 e6 k => ?_
    refine q h' ⟨k _ _ D.TIz D.TITO D.TIi1 D.TIi2 p, e3, e4, b1.at fun o e => k _ o D.l1z D.l1TO D.l1i1 D.l1i2 e, b2.at fun o e => k _ o D.l2z D.l2TO D.l2i1 D.l2i2 e, .inr ⟨s.heap.objs.size, false, _, e1, e5, lt c1, n1, n2, Nat.ne_of_gt hS⟩⟩ e5 e6 fun c o hc e => ?_
    simp only [List.mem_cons, List.not_mem_nil, or_false, not_or] at hc
    exact k c o hc.1 hc.2.1 hc.2.2.1 hc.2.2.2 e
  · refine PySem.wpAny_pyNext_zip_item_held D c1 c2 p a1 a2 b1 b2 hx hy fun h' e1 e3 e4 e5 e6 k => ?_
    refine q h' ⟨k _ _ D.TIz D.TIi1 D.TIi2 p, e3, e4, b1.at fun o e => k _ o D.l1z D.l1i1 D.l1i2 e, b2.at fun o e => k _ o D.l2z D.l2i1 D.l2i2 e, .inr ⟨T, true, oT, e1, k _ _ r1 r2 r3 c2, r1, r2, r3, r4⟩⟩ e5 e6 fun c o hc e => ?_
    simp only [List.mem_cons, List.not_mem_nil, or_false, not_or] at hc
    exact k c o hc.1 hc.2.2.1 hc.2.2.2 e
theorem z_done {S : Addr} {i : Nat} {Q : Option Value → Shared → Prop} (hh : A.handled = none) (D : ZipApart z TI TO i1 i2 l1 l2) (st : ZSt S z TI TO i1 i2 l1 l2 xs ys i s.heap) (hend : xs[i]? = none ∨ ys[i]? = none)
    (q : ∀ h', (∀ c o, c ∉ [z, TO, i1, i2] → s.heap.get? c = some o → h'.get? c = some o) → Q none { s with heap := h' }) : wpAny (model P w) A (pyNext (.ref z)) Q E s := by
  obtain ⟨p, a1, a2, b1, b2, c⟩ := st
  rcases c with ⟨c1, a, b, c2⟩ | ⟨T, f, oT, c1, c2, r1, r2, r3, r4⟩
  · refine wpAny_pyNext_zip_end hh D c1 p c2 a1 a2 b1 b2 hend fun h' k => q h' fun c o hc e => ?_
    simp only [List.mem_cons, List.not_mem_nil, or_false, not_or] at hc
    exact k c o hc.1 hc.2.1 hc.2.2.1 hc.2.2.2 e
  · refine PySem.wpAny_pyNext_zip_end_held hh D c1 c2 p a1 a2 b1 b2 hend fun h' k => q h' fun c o hc e => ?_
    simp only [List.mem_cons, List.not_mem_nil, or_false, not_or] at hc
    exact k c o hc.1 hc.2.2.1 hc.2.2.2 e
/-- the pairs made so far stand one behind the other from S + 1 on -/
def ZPs (S : Addr) (xs ys : Array Value) (n : Nat) (h : Heap) : Prop := ∀ j x y, j < n → xs[j]? = some x → ys[j]? = some y → IsPair h (S + 1 + j) x y
theorem zl_loop {S : Addr} {res : Value} {R : Result → Shared → Prop} (hh : A.handled = none) (D : ZipApart z TI TO i1 i2 l1 l2) (hS : ∀ b ∈ [z, TI, TO, i1, i2, l1, l2], b < S) (n : Nat) (hn : n = min xs.size ys.size) (hn2 : n ≤ sizeLine)
    (hR : ∀ h' tk c, h'.get? S = some { cls := .type "list", dict := none, data := .seq ((List.range n).map fun j => Value.ref (S + 1 + j)).toArray c, slots := #[] } → ZPs S xs ys n h' → (∀ b o, b < S → b ∉ [z, TO, i1, i2] → s.heap.get? b = some o → h'.get? b = some o) → R (.ok (.ret res)) { s with heap := h', toks := tk }) :
    ∀ (k i : Nat) (h : Heap) (tk c : Nat), n - i = k → i ≤ n → ZSt S z TI TO i1 i2 l1 l2 xs ys i h → h.objs.size = S + 1 + i → h.get? S = some { cls := .type "list", dict := none, data := .seq ((List.range i).map fun j => Value.ref (S + 1 + j)).toArray c, slots := #[] } →
      ZPs S xs ys i h → (∀ b o, b < S → b ∉ [z, TO, i1, i2] → s.heap.get? b = some o → h.get? b = some o) →
      codeAny (model P w) A (.builtin "list.extend.loop" ⟨[.ref S, .ref z, res], []⟩) R { s with heap := h, toks := tk } := by
  intro k
  induction k with
  | zero =>
    intro i h tk c hk hi st hsz hl hp keep
    have e : i = n := by omega
    subst e
    refine codeAny_builtin PySem.F.entry_extend_loop ?_
    rw [Around.under_plainId PySem.F.plain_extend_loop _]
    show wpAny _ A.in1 (pyNext (.ref z) >>= _) _ _ _
    have hend : xs[i]? = none ∨ ys[i]? = none := by
      rcases Nat.le_total xs.size ys.size with q | q
      · exact .inl (Array.getElem?_eq_none (by omega))
      · exact .inr (Array.getElem?_eq_none (by omega))
    refine wpAny_bind (z_done (A := A.in1) (s := { s with heap := h, toks := tk }) hh D st hend fun h' k => ?_)
    have up : ∀ b o, b ∉ [z, TO, i1, i2] → h.get? b = some o → h'.get? b = some o := k
    have off : ∀ b : Addr, S ≤ b → b ∉ [z, TO, i1, i2] := fun b hb hm => by
      have : b < S := hS b (by simp only [List.mem_cons, List.not_mem_nil, or_false] at hm ⊢; rcases hm with e | e | e | e <;> simp [e])
      exact absurd this (Nat.not_lt_of_le hb)
    refine wpAny_pure (hR h' tk c (up S _ (off S (Nat.le_refl _)) hl) (fun j x y hj hx hy => up _ _ (off _ (by show S ≤ S + 1 + j; rw [Nat.add_assoc]; exact Nat.le_add_right _ _)) (hp j x y hj hx hy)) fun b o h1 h2 e => up b o h2 (keep b o h1 h2 e))
  | succ k ih =>
    intro i h tk c hk hi st hsz hl hp keep
    have hlt : i < n := by omega
    have hx := Array.getElem?_eq_getElem (show i < xs.size by omega)
    have hy := Array.getElem?_eq_getElem (show i < ys.size by omega)
    refine codeAny_builtin PySem.F.entry_extend_loop ?_
    rw [Around.under_plainId PySem.F.plain_extend_loop _]
    show wpAny _ A.in1 (pyNext (.ref z) >>= _) _ _ _
    refine wpAny_bind (z_item (A := A.in1) (s := { s with heap := h, toks := tk }) D st (by show S < h.objs.size; rw [hsz]; exact Nat.lt_of_lt_of_le (Nat.lt_succ_self S) (Nat.le_add_right _ _)) hx hy fun h' st' hpr hz' k => ?_)
    have up : ∀ b o, b ∉ [z, TO, i1, i2] → h.get? b = some o → h'.get? b = some o := k
    have off : ∀ b : Addr, S ≤ b → b ∉ [z, TO, i1, i2] := fun b hb hm => by
      have : b < S := hS b (by simp only [List.mem_cons, List.not_mem_nil, or_false] at hm ⊢; rcases hm with e | e | e | e <;> simp [e])
      exact absurd this (Nat.not_lt_of_le hb)
    have hz' : h'.objs.size = h.objs.size + 1 := hz'
    have hpr : IsPair h' h.objs.size _ _ := hpr
    rw [hsz] at hpr hz'
    have hl' := up S _ (off S (Nat.le_refl _)) hl
    show wpAny _ A.in1 (updateSeq S (·.push (Value.ref h.objs.size)) >>= _) _ _ _
    rw [hsz]
    refine wpAny_bind ?_
    have nS : ∀ j : Nat, (S + 1 + j : Addr) ≠ S := fun j => Nat.ne_of_gt (by rw [Nat.add_assoc]; exact Nat.lt_add_of_pos_right (by omega))
    have oth : ∀ b o, b ≠ S → h'.get? b = some o → (h'.update S (Obj.mapSeq (·.push (Value.ref (S + 1 + i))))).get? b = some o := fun b o hb e => (Heap.get?_update_other _ _ (Ne.symm hb)).trans e
    have hsz2 : (((List.range i).map fun j => Value.ref (S + 1 + j)).toArray).size = i := by simp
    have nm : ∀ b ∈ [z, TI, TO, i1, i2, l1, l2], b ≠ S := fun b hb => Nat.ne_of_lt (hS b hb)
    have ea : ((List.range (i + 1)).map fun j => Value.ref (S + 1 + j)).toArray = ((List.range i).map fun j => Value.ref (S + 1 + j)).toArray.push (Value.ref (S + 1 + i)) := by simp [List.range_succ]
    have hc1 := Heap.get?_update_self (Obj.mapSeq (·.push (Value.ref (S + 1 + i)))) hl' rfl
    obtain ⟨c2, hc2⟩ : ∃ c2, (h'.update S (Obj.mapSeq (·.push (Value.ref (S + 1 + i))))).get? S = some { cls := .type "list", dict := none, data := .seq ((List.range (i + 1)).map fun j => Value.ref (S + 1 + j)).toArray c2, slots := #[] } := by
      rw [ea]; exact ⟨_, hc1⟩
    refine wpAny_updateSeq hl' rfl (wpAny_pure ⟨plainId_quiet PySem.F.plain_extend_loop _, ih (i + 1) _ tk c2 (by omega) hlt (st'.at nm oth) ?_ ?_ ?_ ?_⟩) (by rw [hsz2]; omega) (by show (Array.push _ _).size ≤ sizeLine + 1; rw [Array.size_push, hsz2]; omega)
    · show (h'.update _ _).objs.size = _
      rw [Heap.size_update, hz']
      omega
    · exact hc2
    · intro j x y hj hx2 hy2
      by_cases e : j = i
      · subst e
        rw [hx] at hx2; rw [hy] at hy2
        cases hx2; cases hy2
        exact oth _ _ (nS j) hpr
      · exact oth _ _ (nS j) (up _ _ (off _ (by show S ≤ S + 1 + j; rw [Nat.add_assoc]; exact Nat.le_add_right _ _)) (hp j x y (by omega) hx2 hy2))
    · intro b o h1 h2 e
      exact oth b o (Nat.ne_of_lt h1) (up b o h2 (keep b o h1 h2 e))
/-- list(z) -/
theorem call_listZ {Q : Value → Shared → Prop} (hh : A.handled = none) (D : ZipApart z TI TO i1 i2 l1 l2) (st : IsZip s.heap z TI TO .none ∧ IsPair s.heap TI (.ref i1) (.ref i2) ∧ (∃ a b, IsPair s.heap TO a b) ∧ s.heap.IsListIter i1 l1 0 ∧ s.heap.IsListIter i2 l2 0 ∧ s.heap.IsList l1 xs ∧ s.heap.IsList l2 ys) (n : Nat) (hn : n = min xs.size ys.size) (hn2 : n ≤ sizeLine)
    (hQ : ∀ h' tk c, h'.get? s.heap.objs.size = some { cls := .type "list", dict := none, data := .seq ((List.range n).map fun j => Value.ref (s.heap.objs.size + 1 + j)).toArray c, slots := #[] } → ZPs s.heap.objs.size xs ys n h' → (∀ b o, b ∉ [z, TO, i1, i2] → s.heap.get? b = some o → h'.get? b = some o) → Q (.ref s.heap.objs.size) { s with heap := h', toks := tk }) :
    wpAny (model P w) A (call (.type "list") [.ref z]) Q E s := by
  obtain ⟨z1, z2, ⟨ta, tb, z3⟩, ⟨o4, z4, z4b⟩, ⟨o5, z5, z5b⟩, ⟨o6, z6, z6b⟩, ⟨o7, z7, z7b⟩⟩ := st
  generalize hS0 : s.heap.objs.size = S
  have lt : ∀ {b o}, s.heap.get? b = some o → b < S := fun e => by rw [← hS0]; exact Heap.lt_size e
  have hS : ∀ b ∈ [z, TI, TO, i1, i2, l1, l2], b < S := fun b hb => by
    simp only [List.mem_cons, List.not_mem_nil, or_false] at hb
    rcases hb with rfl | rfl | rfl | rfl | rfl | rfl | rfl
    · exact lt z1
    · exact lt z2
    · exact lt z3
    · exact lt z4
    · exact lt z5
    · exact lt z6
    · exact lt z7
  have st0 : ∀ (h : Heap), (∀ b o, b ≠ S → s.heap.get? b = some o → h.get? b = some o) → ZSt S z TI TO i1 i2 l1 l2 xs ys 0 h := fun h k => by
    have up : ∀ {b o}, s.heap.get? b = some o → h.get? b = some o := fun e => k _ _ (Nat.ne_of_lt (lt e)) e
    exact ⟨up z2, ⟨o4, up z4, z4b⟩, ⟨o5, up z5, z5b⟩, ⟨o6, up z6, z6b⟩, ⟨o7, up z7, z7b⟩, .inl ⟨up z1, ta, tb, up z3⟩⟩
  refine callType_codes (Q₁ := fun obj t1 => obj = .ref S ∧ t1 = { s with heap := s.heap.push emL }) PySem.F.called_list (PySem.F.typeCall_list_1 _) PySem.F.entry_list_init (code_list_new _ ⟨by rw [hS0], rfl⟩) fun obj t1 h1 => ?_
  obtain ⟨rfl, rfl⟩ := h1
  have gS : (s.heap.push emL).get? S = some emL := by rw [← hS0]; exact Heap.get?_push_size _ rfl
  refine ⟨⟨_, gS, rfl⟩, PySem.F.args_list_init_2 _ _, ?_⟩
  show wpAny _ _ (do let old ← Builtin.List.listItems (.ref S); Builtin.List.listUpdate (.ref S) (fun _ => #[]); letGo old.toList.reverse; Builtin.List.listExtendWith (.ref S) (.ref z) .none) _ _ _
  refine wpAny_bind ?_
  unfold Builtin.List.listItems
  refine wpAny_bind (wpAny_seqItems gS rfl (wpAny_pure ?_))
  show wpAny _ _ (updateSeq S (fun _ => #[]) >>= fun _ => letGo (#[] : Array Value).toList.reverse >>= fun _ => Builtin.List.listExtendWith (.ref S) (.ref z) .none) _ _ _
  refine wpAny_bind (wpAny_updateSeq gS rfl ?_)
  have gS2 := Heap.get?_update_self (Obj.mapSeq (fun _ => (#[] : Array Value))) gS rfl
  refine wpAny_bind (wpAny_letGo ?_)
  have up1 : ∀ b o, b ≠ S → s.heap.get? b = some o → ((s.heap.push emL).update S (Obj.mapSeq (fun _ => (#[] : Array Value)))).get? b = some o := fun b o hb e => (Heap.get?_update_other _ _ (Ne.symm hb)).trans (Heap.get?_push_of_some _ e)
  have hz1 : ((s.heap.push emL).update S (Obj.mapSeq (fun _ => (#[] : Array Value)))).objs.size = S + 1 := by rw [Heap.size_update, Heap.size_push, hS0]
  generalize hg : (s.heap.push emL).update S (Obj.mapSeq (fun _ => (#[] : Array Value))) = g at gS2 up1 hz1
  have gz := up1 z _ (Nat.ne_of_lt (lt z1)) z1
  have tz : ∀ tk, Shared.TypeIs { s with heap := g, toks := tk } (.ref z) "zip" := fun tk => ⟨_, gz, rfl⟩
  have nz : S ≠ z := Nat.ne_of_gt (lt z1)
  unfold Builtin.List.listExtendWith
  refine wpAny_bind (wpAny_typeOf (tz _) ?_)
  have c1 : Builtin.List.listSameRef (.ref S) (.ref z) = false := by simp [Builtin.List.listSameRef, nz]
  have c2 : (Value.type "zip" == Value.type "list") = false := by decide
  have c3 : (Value.type "zip" == Value.type "tuple") = false := by decide
  simp only [c1, c2, c3, Bool.or_false, Bool.false_eq_true, if_false]
  refine wpAny_bind (wpAny_pyIter_zip gz (wpAny_bind (wpAny_holding ?_)))
  unfold Builtin.List.listLengthHint
  refine wpAny_bind (wpAny_specialOf (tz _) zip_nolen ?_)
  show wpAny _ _ (specialOf (Value.ref z) (Str.ofString "__length_hint__") >>= _) _ _ _
  refine wpAny_bind (wpAny_specialOf (tz _) zip_nohint (wpAny_pure ?_))
  show wpAny _ _ (rule "list.extend.makes-room" >>= fun _ => Builtin.List.listTouch (.ref S) >>= fun _ => again (.builtin "list.extend.loop" ⟨[.ref S, .ref z, .none], []⟩)) _ _ _
  refine wpAny_bind (wpAny_rule (wpAny_bind ?_))
  show wpAny _ _ (updateSeq S (·.push .none) >>= fun _ => updateSeq S (·.pop)) _ _ _
  refine wpAny_bind (wpAny_updateSeq gS2 rfl ?_)
  have gS3 := Heap.get?_update_self (Obj.mapSeq (·.push Value.none)) gS2 rfl
  refine wpAny_updateSeq gS3 rfl ?_
  have gS4 := Heap.get?_update_self (Obj.mapSeq (·.pop)) gS3 rfl
  have up2 : ∀ b o, b ≠ S → s.heap.get? b = some o → ((g.update S (Obj.mapSeq (·.push Value.none))).update S (Obj.mapSeq (·.pop))).get? b = some o := fun b o hb e =>
    (Heap.get?_update_other _ _ (Ne.symm hb)).trans ((Heap.get?_update_other _ _ (Ne.symm hb)).trans (up1 b o hb e))
  refine wpAny_pure ⟨plainId_quiet PySem.F.plain_extend_loop _, zl_loop (A := A.in1) (S := S) (s := s) hh D hS n hn hn2 (fun h' tk c e1 e2 e3 => ⟨rfl, ?_⟩) n 0 _ _ _ rfl (Nat.zero_le _) (st0 _ up2) ?_ gS4 (fun j x y hj => absurd hj (Nat.not_lt_zero _)) fun b o h1 h2 e => up2 b o (Nat.ne_of_lt h1) e⟩
  · rw [Heap.size_update, Heap.size_update, hz1]
  · rw [hS0] at hQ
    exact hQ h' tk c e1 e2 fun b o hb e => e3 b o (lt e) hb e
end
/-! ## over data -/
theorem n1 {S j : Nat} : S < S + 1 + (0 + j) := by omega
theorem n2 {S j : Nat} : S + 1 ≤ S + 1 + (0 + j) := by omega
theorem n3 {S j n : Nat} (h : j < n) : S + 1 + (0 + j) < S + 1 + n := by omega
theorem n4 {S b : Nat} (h : b < S) : ¬ S + 1 ≤ b := by omega
theorem n5 {S b : Nat} (h : S + 1 ≤ b) : b = S + 1 + (b - (S + 1)) := by omega
theorem n6 {S j n : Nat} (h : S + 1 + j < S + 1 + n) : j < n := by omega
theorem vals_refs2 (base : Addr) : ∀ (js : List Nat), Vals (js.map fun j => V.ref (base + j)) (js.map fun j => Value.ref (base + j))
  | [] => .nil
  | j :: js => .cons rfl (vals_refs2 base js)
theorem reps_pairs {K : PySem.W.Frag} {F G : Hp} {base : Addr} (l : Le F G) : ∀ {ds es : List D} {xs ys : List V} {k : Nat}, Reps K F ds xs → Reps K F es ys → (∀ j x y, xs[j]? = some x → ys[j]? = some y → G (base + (k + j)) = some (.tup [x, y])) → xs.length = ys.length →
    Reps K G (List.zipWith (fun x y => D.tup [x, y]) ds es) ((List.range' k xs.length).map fun j => V.ref (base + j))
  | [], es, xs, ys, k, h1, h2, h3, hl => by
    obtain rfl := Reps.nil_iff.mp h1
    exact .nil
  | _ :: _, [], xs, ys, k, h1, h2, h3, hl => by
    obtain rfl := Reps.nil_iff.mp h2
    obtain ⟨x, t, rfl, _, _⟩ := Reps.cons_iff.mp h1
    simp at hl
  | d :: ds, e :: es, _, _, k, h1, h2, h3, hl => by
    obtain ⟨x, xs, rfl, a1, a2⟩ := Reps.cons_iff.mp h1
    obtain ⟨y, ys, rfl, b1, b2⟩ := Reps.cons_iff.mp h2
    rw [List.zipWith_cons_cons, List.length_cons, List.range'_succ, List.map_cons]
    refine .cons (rep_tup.mpr ⟨base + k, [x, y], rfl, .inl (.inl (h3 0 x y rfl rfl)), .cons (a1.mono l) (.cons (b1.mono l) .nil)⟩) (reps_pairs l (k := k + 1) a2 b2 (fun j x' y' e1 e2 => ?_) (by simpa using hl))
    have := h3 (j + 1) x' y' (by simpa using e1) (by simpa using e2)
    rw [show k + 1 + j = k + (j + 1) by omega]
    exact this
section
variable {X : Cx} {F0 F : Hp} {r : Rho} {O : Om} {Q : D → Om → Prop} {e e2 : Expr} {pos : Pos}
theorem ev_lzip {p p2 q : Pos} (hh : X.A.handled = none) (h : Av X F0 [e, e2] r O fun dd O1 => ∃ ds es, dd = [.lst ds, .lst es] ∧ ds.length = es.length ∧ ds.length ≤ 100000 ∧ Q (.lst (List.zipWith (fun x y => D.tup [x, y]) ds es)) O1) (hm : X.mg "list" = none) (hm2 : X.mg "zip" = none) (hg : Gl X "list" := by rfl) (hg2 : Gl X "zip" := by rfl)
    (hs : starEach [e, e2] X.env = (false, eval e X.env) :: starEach [e2] X.env := by rfl) (hpl : (backTo q (starEach [e2] X.env)).any (·.1) = false := by rfl)
    (hs0 : starEach [.Call (.Name "zip" p2) [e, e2] [] q] X.env = (false, eval (.Call (.Name "zip" p2) [e, e2] [] q) X.env) :: starEach [] X.env := by rfl) : Ev X F0 (.Call (.Name "list" p) [.Call (.Name "zip" p2) [e, e2] [] q] [] pos) r O Q := by
  intro σ H F hx en pins s I
  refine Call_ (ld_blt I hg hm boot_list ?_)
  refine PyProof.Rows.callWith_type1 ?_ hs0 rfl
  rw [hs0]
  show wpAny _ _ (spliced ((false, eval (.Call (.Name "zip" p2) [e, e2] [] q) X.env) :: backTo pos (starEach [] X.env))) _ _ s
  refine Calls.spliced_cons ?_
  refine Call_ (ld_blt I hg2 hm2 PyProof.Rows.boot_zip (PyProof.Rows.callWith_type1 (thn (h σ H F hx en q pins s I) fun us s1 ⟨vs, H1, I1, r1, dd, O1, F1, ⟨ds, es, ed, hl, hz, q1⟩, rp, hx1, l1⟩ => ?_) hs hpl))
  subst ed
  obtain ⟨v1, v2, rfl, rp1, rp2⟩ := reps2 rp
  obtain ⟨a, xs, rfl, ha, hra⟩ := rep_lst.mp rp1
  obtain ⟨b, ys, rfl, hb, hrb⟩ := rep_lst.mp rp2
  cases r1 with
  | cons r rr =>
    cases rr with
    | cons r' rr =>
      cases rr
      cases r
      cases r'
      obtain ⟨its, rv, pl1, _⟩ := I1.list (.inl (.inl (hx1.fh _ _ ha)))
      obtain ⟨its2, rv2, pl2, _⟩ := I1.list (.inl (.inl (hx1.fh _ _ hb)))
      have la : a < s1.heap.objs.size := pl1.lt
      have lb : b < s1.heap.objs.size := pl2.lt
      refine call_zip_2 pl1.isList pl2.isList fun h' hz' hTI hTO h1 h2 hsz hk => ?_
      refine Calls.spliced_nil ?_
      have e1 := hra.length
      have e2 := hrb.length
      have e3 := rv.length
      have e4 := rv2.length
      have hn : xs.length = min its.toArray.size its2.toArray.size := by rw [List.size_toArray, List.size_toArray]; omega
      have Dz := PySem.W.ktu_apart s1.heap.objs.size a b la lb
      refine call_listZ (s := { s1 with heap := h' }) hh Dz ⟨hz', hTI, ⟨_, _, hTO⟩, h1, h2, pl1.isList.at fun o e => hk _ _ e, pl2.isList.at fun o e => hk _ _ e⟩ xs.length hn (by rw [sizeLine_eq]; omega) fun h3 tk c hL hP hk3 => ?_
      have hsz : h'.objs.size = s1.heap.objs.size + 5 := hsz
      have hL : h3.get? h'.objs.size = _ := hL
      have hP : ZPs h'.objs.size its.toArray its2.toArray xs.length h3 := hP
      have hS5 : s1.heap.objs.size + 5 = h'.objs.size := hsz.symm
      have kh : ∀ b o, s1.heap.get? b = some o → h3.get? b = some o := fun b o e => hk3 b o (fun hm => by
        have hb := Heap.lt_size e
        simp only [List.mem_cons, List.not_mem_nil, or_false] at hm
        rcases hm with e | e | e | e <;> (rw [e] at hb; exact absurd hb (Nat.not_lt_of_le (by first | exact Nat.le_add_right _ _ | exact Nat.le_refl _)))) (hk _ _ e)
      show ∃ v H', _
      generalize h'.objs.size = S at hL hP hS5 ⊢
      have big : ∀ b o, s1.heap.get? b = some o → b < S := fun b o e => by rw [← hS5]; exact Nat.lt_of_lt_of_le (Heap.lt_size e) (Nat.le_add_right _ _)
      have gap : ∀ b : Addr, S ≤ b → H1 b = none := fun b hb => I1.hok.fresh (Nat.le_trans (by rw [← hS5]; exact Nat.le_add_right _ _) hb)
      let G : Hp := fun b => if b = S then some (.lst ((List.range' 0 xs.length).map fun j => V.ref (S + 1 + j))) else if S + 1 ≤ b ∧ b < S + 1 + xs.length then some (.tup [xs.getD (b - (S + 1)) .non, ys.getD (b - (S + 1)) .non]) else H1 b
      have gS : G S = some (.lst ((List.range' 0 xs.length).map fun j => V.ref (S + 1 + j))) := if_pos rfl
      have gT : ∀ j x y, xs[j]? = some x → ys[j]? = some y → G (S + 1 + (0 + j)) = some (.tup [x, y]) := fun j x y hx hy => by
        have hj : j < xs.length := (List.getElem?_eq_some_iff.mp hx).1
        show (if _ then _ else _) = _
        have ej : (S + 1 + (0 + j) : Nat) - (S + 1) = j := by omega
        rw [if_neg (Nat.ne_of_gt n1), if_pos ⟨n2, n3 hj⟩, ej]
        simp [List.getD_eq_getElem?_getD, hx, hy]
      have gO : ∀ b : Addr, b ≠ S → ¬ (S + 1 ≤ b ∧ b < S + 1 + xs.length) → G b = H1 b := fun b h1 h2 => by
        show (if _ then _ else _) = _
        rw [if_neg h1, if_neg h2]
      have low : ∀ b : Addr, b < S → G b = H1 b := fun b hb => gO b (Nat.ne_of_lt hb) (fun z => n4 hb z.1)
      have kp : ∀ b u, H1 b = some u → G b = some u := fun b u e => by
        have hb : b < S := by
          rcases Nat.lt_or_ge b S with q | q
          · exact q
          · rw [gap b q] at e; cases e
        rw [low b hb]; exact e
      have J : Inv X pins σ G { s1 with heap := h3, toks := tk } := by
        refine I1.call' (ch := []) rfl ⟨fun b o q _ _ _ => kh b o q, fun b o q _ _ _ => ⟨o.slots, kh b o q⟩, fun b o q n _ => (low b (big b o q)).trans n, fun b o q _ => ⟨o, kh b o q⟩, fun b zs q => kp b _ q, fun b o u q => kp b _ q, fun b ps q => ⟨#[], by rw [kp b _ q]; simp⟩⟩ (fun b u q => ?_) I1.bare fun b z => by simp at z
        by_cases h1 : b = S
        · subst h1
          rw [gS] at q
          cases q
          refine ⟨by rw [List.length_map, List.length_range', sizeLine_eq]; omega, (List.range xs.length).map fun j => Value.ref (b + 1 + j), c, ?_, hL⟩
          rw [← List.range_eq_range']
          exact vals_refs2 _ _
        · by_cases h2 : S + 1 ≤ b ∧ b < S + 1 + xs.length
          · obtain ⟨j, rfl⟩ : ∃ j : Nat, b = S + 1 + j := ⟨b - (S + 1), n5 h2.1⟩
            have hj : j < xs.length := n6 h2.2
            have hx := List.getElem?_eq_getElem hj
            have hy := List.getElem?_eq_getElem (show j < ys.length from (by rw [← e2, ← hl, e1]; exact hj))
            have g1 := gT j _ _ hx hy
            rw [Nat.zero_add] at g1
            rw [g1] at q
            cases q
            obtain ⟨u1, a1, a2⟩ := rv.get hx
            obtain ⟨u2, b1, b2⟩ := rv2.get hy
            have hpj := hP j u1 u2 hj (by simpa using a1) (by simpa using b1)
            exact ⟨by show 2 ≤ sizeLine; decide, [u1, u2], .cons a2 (.cons b2 .nil), ⟨_, hpj, rfl, _, rfl⟩⟩
          · rw [gO b h1 h2] at q
            exact (I1.hok b u q).stay (fun d v _ y => kh d v y) (fun d y => kp d _ y) fun d zs y => kp d _ y
      classical
      obtain ⟨hx2, l2⟩ := hx1.layAll (H' := G) (fun b => b = S ∨ (S + 1 ≤ b ∧ b < S + 1 + xs.length)) (fun b hb => hb.elim (fun z => by rw [z]; exact gap S (Nat.le_refl _)) fun z => gap b (Nat.le_of_succ_le z.1)) kp
      refine ⟨.ref S, G, J, rfl, _, O1, _, q1, rep_lst.mpr ⟨S, _, rfl, ?_, (reps_pairs (base := S + 1) (k := 0) (G := fun b => if b = S ∨ (S + 1 ≤ b ∧ b < S + 1 + xs.length) then G b else F1 b) l2 hra hrb (fun j x y e1 e2 => ?_) (by omega))⟩, hx2, l1.trans l2⟩
      · show (if S = S ∨ _ then G S else _) = _
        rw [if_pos (.inl rfl)]; exact gS
      · have hj : j < xs.length := (List.getElem?_eq_some_iff.mp e1).1
        show (if _ then _ else _) = _
        rw [if_pos (.inr ⟨n2, n3 hj⟩)]
        exact gT j x y e1 e2
end
end K97
/-! # Part Y: xs[a:] = ys, o[i] += n, x in rows, repr, isinstance of an own class -/
namespace K97
open PySem PySem.Spec PyProof.Rows L2
/-! ## xs[a:] = ys -/
section
variable {P : Program} {w : World} {A : Around} {E : Value → Shared → Prop} {s : Shared}
theorem tail_eq (its its2 : List Value) (a : Nat) : its.toArray.extract 0 a ++ its2.toArray ++ its.toArray.extract its.toArray.size its.toArray.size = (its.take a ++ its2).toArray := by
  apply Array.toList_inj.mp
  simp
theorem bounds_open {a n : Nat} (h : a ≤ n) : sliceBounds (some (a : Int)) none none n = ((a : Int), (n : Int), 1) := by
  simp only [sliceBounds, Option.getD_none]
  have h1 : ¬ ((a : Int) < 0) := by omega
  simp only [h1, if_false, show (1 : Int) > 0 by decide, if_true]
  congr 1
  omega
theorem setItem_open {l b sl : Addr} {items new : Array Value} {n n2 : Nat} {vl : Value} {a : Nat} {Q : Unit → Shared → Prop}
    (e : s.heap.get? l = some { cls := .type "list", data := .seq items n }) (e2 : s.heap.get? b = some { cls := .type "list", data := .seq new n2 }) (hne : l ≠ b) (hs : s.heap.IsSliceOf sl vl .none .none) (pl : IsPart vl (some (a : Int))) (hac : a ≤ items.size)
    (hsz : items.size + new.size ≤ sizeLine) (h : Q () { s with heap := s.heap.update l (Obj.mapSeq fun xs => xs.extract 0 a ++ new ++ xs.extract items.size xs.size) }) :
    wpAny (model P w) A (setItem (.ref l) (.ref sl) (.ref b)) Q E s := by
  have i1 : s.heap.IsList l items := PySem.IsL.isList e
  have i2 : s.heap.IsList b new := PySem.IsL.isList e2
  obtain ⟨so, hos, hcs, hds⟩ := id hs
  have tsl : s.TypeIs (.ref sl) "slice" := ⟨so, hos, hcs⟩
  have st0 : ¬ ((rawPart none == rawInt 0) = true) := Bool.false_ne_true
  have same : Builtin.List.listSameRef (.ref l) (.ref b) = false := by
    unfold Builtin.List.listSameRef
    exact beq_eq_false_iff_ne.mpr hne
  have hmax : (max (a : Int) (items.size : Int)).toNat = items.size := by omega
  have hz' : ((fun xs : Array Value => xs.extract 0 a ++ new ++ xs.extract items.size xs.size) items).size ≤ sizeLine + 1 := by
    simp only [Array.size_append, Array.size_extract]
    omega
  unfold setItem
  try with_reducible refine wpAny_holding ?_
  first | refine wpAny_bind (wpAny_pure ?_) | skip
  refine wpAny_bind (wpAny_sequenceKey i1.typeIs (by decide) ?_)
  refine wpAny_bind (wpAny_callSpecial?_slot (name := Str.ofString "__setitem__") i1.typeIs slot_list_setitem (wpAny_call_entry slot_list_setitem i1.typeIs entry_list_setitem ?_ (args_list_setitem _ _ _)))
  show wpAny _ _ (Builtin.List.listSubscript? (.ref sl) >>= _) _ _ _
  refine wpAny_bind ?_
  unfold Builtin.List.listSubscript?
  refine wpAny_bind (wpAny_specialOf tsl slice_no_index ?_)
  simp only [Option.isNone_none, if_true]
  refine wpAny_pure ?_
  show wpAny _ _ (typeOf (.ref sl) >>= _) _ _ _
  refine wpAny_bind (wpAny_typeOf tsl ?_)
  first
    | rw [if_neg (by decide)]
    | refine PySem.W.KFB.if_not (by decide) ?_
  rw [listSliceParts_eq]
  refine wpAny_bind (wpAny_bind (wpAny_field hos hds (x := .none) rfl (wpAny_bind (wpAny_listPart .none ?_))))
  rw [if_neg st0]
  refine wpAny_bind (wpAny_field hos hds (x := vl) rfl (wpAny_bind (wpAny_listPart pl ?_)))
  refine wpAny_bind (wpAny_field hos hds (x := .none) rfl (wpAny_bind (wpAny_listPart .none (wpAny_pure ?_))))
  first
    | simp only [same, Bool.false_eq_true, if_false]
    | refine PySem.W.KFB.if_not same ?_
    | (dsimp only
       rw [if_neg (by rw [same]; exact Bool.false_ne_true)])
  refine wpAny_bind (m := Builtin.List.listAllItems (.ref b) "must assign iterable to extended slice") ?_
  unfold Builtin.List.listAllItems
  refine wpAny_bind (wpAny_typeOf i2.typeIs ?_)
  first
    | refine PySem.W.KFB.if_so (by decide) ?_
    | rw [if_pos (by decide)]
    | simp only [beq_self_eq_true, Bool.true_or, if_true]
  unfold Builtin.List.listItems
  refine wpAny_bind (wpAny_seqItems e2 rfl (wpAny_pure (wpAny_bind (wpAny_bind (wpAny_seqItems e rfl (wpAny_pure ?_))))))
  refine wpAny_bind (wpAny_of_eq ((sliceIndices_raw (some (a : Int)) none none items.size (by simp)).trans (congrArg (pure : Int × Int × Int → Sem (Int × Int × Int)) (bounds_open hac))) ?_)
  show wpAny _ _ (if ((1 : Int) == 1) = true then _ else _) _ _ _
  rw [if_pos (by decide)]
  refine wpAny_bind (wpAny_rule ?_)
  first
    | simp only [notLongL hsz, Bool.false_eq_true, if_false]
    | refine PySem.W.KFB.if_not (notLongL hsz) ?_
  first | refine wpAny_bind (wpAny_pure ?_) | skip
  show wpAny _ _ (updateSeq l (fun xs => xs.extract 0 ((a : Int)).toNat ++ new ++ xs.extract (max (a : Int) (items.size : Int)).toNat xs.size) >>= _) _ _ _
  rw [hmax, Int.toNat_natCast]
  refine wpAny_bind (wpAny_updateSeq (hz := Nat.le_trans (Nat.le_add_right _ _) hsz) (_hz' := hz') e rfl (wpAny_bind (wpAny_letGo ?_)))
  first
    | exact wpAny_bind (wpAny_pure (wpAny_pure ⟨.none, rfl, wpAny_pure h⟩))
    | exact wpAny_pure ⟨.none, rfl, wpAny_pure h⟩
end
section
variable {X : Cx} {F0 F : Hp} {r : Rho} {O : Om} {Q : D → Om → Prop} {a b c e o : Expr} {es : List Expr} {pos p2 : Pos} {k : Nat} {C : Co}
theorem gv_cut {lo : Expr} {QR : Rho → Om → Prop} {es : List D} (h : Ev X F0 o r O fun z O1 => Ev X F0 lo r O1 fun i O2 => ∃ (p : Addr) (ds : List D) (m : Nat), z = .adr p ∧ i = .int m ∧ O2 p = some (.lst ds) ∧ m ≤ ds.length ∧ ds.length + es.length ≤ 1000000 ∧ QR r (O2.put p (.lst (ds.take m ++ es))))
    (ha : ∀ v, assign (.Subscript o (.Slice (some lo) none none p2) pos) X.env v = (do
      let ov ← holding [v] (eval o X.env)
      let iv ← holding [v, ov] (eval (.Slice (some lo) none none p2) X.env)
      standAt pos
      holding [v, ov, iv] (setItem ov iv v)
      release [iv, v, ov] []) := by intro _; rfl) : Gv X F0 (.Subscript o (.Slice (some lo) none none p2) pos) (.lst es) r O QR := by
  intro σ H F v hx en rp pins s u I rv
  obtain ⟨b, ys, rfl, hb, hys⟩ := rep_lst.mp rp
  cases (show u = Value.ref b from rv)
  rw [ha]
  refine wpAny_bind (wpAny_holding (thn (h σ H F hx en pins s I) fun ov s1 ⟨x1, H1, I1, r1, z, O1, F1, q, rp1, hx1, l1⟩ => ?_))
  refine wpAny_bind (wpAny_holding (wpAny_Slice (thn ((po_some (X := X) (te := tS X lo) peS).run pins s1 σ H1 (fun oi H2 => ∃ (p : Addr) (ds : List D) (m : Nat) (O2 : Om) (F2 : Hp), z = .adr p ∧ oi = some (m : Int) ∧ O2 p = some (.lst ds) ∧ m ≤ ds.length ∧ ds.length + es.length ≤ 1000000 ∧ QR r (O2.put p (.lst (ds.take m ++ es))) ∧ Hx X.K F0 F2 H2 O2 ∧ Le F1 F2) I1 ?_)
    fun vl s2 ⟨oi, H2, I2, pl, p, ds, m, O2, F2, ez, ei, hp, hm, hz, q2, hx2, l2⟩ => ?_)))
  · refine tS_mono (q σ H1 F1 hx1 (en.mono l1)) fun y H2 ⟨d, O2, F2, ⟨p, ds, m, ez, ed, hp, hm, hz, q2⟩, rp2, hx2, l2⟩ => ?_
    subst ed
    exact ⟨m, rep_int.mp rp2, p, ds, m, O2, F2, ez, rfl, hp, hm, hz, q2, hx2, l2⟩
  · subst ez ei
    rw [evalPart_none]
    refine wpAny_pure (wpAny_pure ?_)
    have I3 : Inv X pins σ H2 { s2 with heap := s2.heap.push { cls := .type "slice", data := .fields #[vl, .none, .none] } } := I2.kept (t' := s2.toks) fun b ob q => Heap.get?_push_of_some _ q
    refine wpAny_bind (wpAny_standAt (wpAny_bind (wpAny_holding ?_)))
    obtain rfl : x1 = V.ref p := rep_adr.mp rp1
    cases (show ov = Value.ref p from r1)
    obtain ⟨hpF, xs, h1, h2⟩ := hx2.om p _ hp
    have hb2 : F2 b = some (.lst ys) := l2 _ _ (l1 _ _ hb)
    have hne : p ≠ b := fun z => by rw [z, hb2] at hpF; cases hpF
    obtain ⟨z1, its, n1, ra, hl1, g1⟩ := I3.lstM h1
    obtain ⟨z2, its2, n2, rb, hl2, g2⟩ := I3.lstM (hx2.fh _ _ hb2)
    have e1 := h2.length
    have e2 := hys.length
    have e3 := ra.length
    have e4 := rb.length
    refine setItem_open (a := m) g1 g2 hne (Heap.IsSliceOf.new ..) pl (by rw [List.size_toArray]; omega) (by rw [List.size_toArray, List.size_toArray, sizeLine_eq]; omega) ?_
    have J := I3.lset (f := fun xs : Array Value => xs.extract 0 m ++ its2.toArray ++ xs.extract its.toArray.size xs.size) (its' := its.take m ++ its2) (t' := s2.toks) h1 g1 (show (fun xs : Array Value => xs.extract 0 m ++ its2.toArray ++ xs.extract its.toArray.size xs.size) its.toArray = _ from tail_eq its its2 m) (Vals.append (ra.take _) rb) (by rw [List.length_append, List.length_take, sizeLine_eq]; omega)
    have hx3 := hx2.setL hp ((h2.take m).append (hys.mono (l1.trans l2)))
    exact wpAny_release ⟨σ, _, J, r, _, F2, q2, hx3, l1.trans l2, (en.mono l1).mono l2⟩
/-! ## o[i] += n -/
def rGt (K : PySem.W.Frag) : V → V → Hp → VK → Prop := fun o i H Q => ∃ p xs v, ∃ j : Nat, o = .ref p ∧ i = .int j ∧ H p = some (.lst xs) ∧ xs[j]? = some v ∧ Q v H
theorem pg_lst : PGet X (rGt X.K) := by
  intro pins s σ H o i ov iv Q I ro ri h
  obtain ⟨p, xs, v, j, rfl, rfl, hp, hj, q⟩ := h
  cases ro
  obtain ⟨t, rfl⟩ := ri
  obtain ⟨its, rv, pl, hz⟩ := I.list (.inl (.inl hp))
  obtain ⟨w, ew, rw'⟩ := rv.get hj
  have hl := rv.length
  have hn := line63
  have hlt : j < its.length := (List.getElem?_eq_some_iff.mp ew).1
  have hj2 : ((j : Int)).toNat = j := by omega
  exact wpAny_getItem_list pl.isList (by omega) (by omega) (by rw [hj2]; simpa using ew) ⟨v, H, I, rw', q⟩
theorem s_augO {op : Operator} {tpos : Pos} {f : Int → Int → Int} {i : Expr} (ho : PIp X op (ipI f)) (h : Ev X F0 o r O fun z O1 => Ev X F0 i r O1 fun y O2 => ∃ (p : Addr) (ds : List D) (j : Nat) (m : Int), z = .adr p ∧ y = .int j ∧ O2 p = some (.lst ds) ∧ ds[j]? = some (.int m) ∧
      Ev X F0 e r O2 fun u O3 => ∃ n, u = .int n ∧ O3 = O2 ∧ C.nx r (O2.put p (.lst (ds.set j (.int (f m n))))))
    (ha : ∀ ov iv new, augStore i ov iv new = (do holding [new, ov, iv] (setItem ov iv new); release [new, ov, iv] []; pure .next) := by intros; rfl) : Sv X F0 (.AugAssign (.Subscript o i tpos) op e pos) r O C := by
  intro σ H F hx en
  refine tSS_of (ps_augS peS peS pg_lst peS ho set_list ha) ?_
  refine h.bind hx en fun z O1 F1 H1 x1 q rp1 hx1 en1 l1 => ?_
  refine q.bind hx1 en1 fun y O2 F2 H2 x2 ⟨p, ds, j, m, ez, ey, hp, hj, q2⟩ rp2 hx2 en2 l2 => ?_
  subst ez ey
  obtain rfl := rep_adr.mp rp1
  obtain rfl := rep_int.mp rp2
  obtain ⟨_, xs, h1, h2⟩ := hx2.om p _ hp
  obtain ⟨v, e1, e2⟩ := h2.get hj
  refine ⟨p, xs, v, j, rfl, rfl, h1, e1, ?_⟩
  obtain rfl := rep_int.mp e2
  refine q2.bind hx2 en2 fun u O3 F3 H3 x3 ⟨n, eu, eO, q3⟩ rp3 hx3 en3 l3 => ?_
  subst eu eO
  obtain rfl := rep_int.mp rp3
  refine ⟨m, n, rfl, rfl, ?_⟩
  obtain ⟨_, xs3, g1, g2⟩ := hx3.om p _ hp
  have hlt : j < ds.length := (List.getElem?_eq_some_iff.mp hj).1
  have hix : ixN xs3.length (j : Int) = some j := by
    rw [← g2.length]
    unfold ixN
    simp [hlt]
  exact ⟨p, xs3, j, j, rfl, rfl, g1, hix, r, _, F3, q3, hx3.setL hp (g2.set (rep_int.mpr rfl) j), (l1.trans l2).trans l3, en3⟩
/-! ## x in rows, repr -/
theorem plains_at {ds : List D} : D.pds ds = ds.map D.pd := by
  induction ds with
  | nil => rfl
  | cons d ds ih => rw [D.pds, ih, List.map_cons]
theorem od_in_rows {x : D} {ds : List D} (hu : X.A.units + 65 < cLine) (px : x.ok = true) (py : (D.lst ds).ok = true) : OpD X (compareOp .In) O x (.lst ds) (.bl (ds.any fun z => PyData.eqv z.pd x.pd)) := by
  intro F0 F H vx vy hx r1 r2
  obtain ⟨p1, p2⟩ := Bool.and_eq_true_iff.mp px
  obtain ⟨q1, q2⟩ := Bool.and_eq_true_iff.mp py
  have e : (D.pds ds).any (fun z => PyData.eqv z x.pd) = ds.any fun z => PyData.eqv z.pd x.pd := by rw [plains_at, List.any_map]; rfl
  have d2 := dp_of q1 (r2.mono hx.fh)
  rw [D.pd] at d2 q2
  exact rf_of (op_inD hu) ⟨x.pd, D.pds ds, dp_of p1 (r1.mono hx.fh), d2, p2, q2, Po.here hx (rep_bl.mpr (by rw [e]))⟩
theorem cl_repr {d : D} (hd : (∃ ds, d = .lst ds) ∨ ∃ ds, d = .tup ds) (hr : RoomB k X.A) (hp : d.plain = true) (hs : d.pd.showable = true) (hnd : d.pd.hasDict = false) (hde : d.pd.depth ≤ 100) (hsz : d.pd.shown.length ≤ sizeLine) (q : Q (.str d.pd.shown) O) : ClD X (.builtin "repr") O [d] Q := by
  intro F0 F H vs hx rp
  obtain ⟨v, rfl, r1⟩ := reps1 rp
  have hdp := dp_of hp (r1.mono hx.fh)
  intro pins s σ us I rv
  obtain ⟨u, rfl, rx⟩ := vals1 rv
  obtain ⟨as, rr⟩ := Dp.reads I d.pd v u hdp rx
  have ha : ∃ a, u = .ref a := by
    rcases hd with ⟨ds, rfl⟩ | ⟨ds, rfl⟩
    · obtain ⟨a, xs, rfl, _⟩ := rep_lst.mp r1; exact ⟨a, rx⟩
    · obtain ⟨a, xs, rfl, _⟩ := rep_tup.mp r1; exact ⟨a, rx⟩
  obtain ⟨a, rfl⟩ := ha
  exact repr_of_reads' rr hs (PyData.noDict_hsm hnd) hr.gd (by have := hr.un; omega) (fun _ _ e => e) (fun h' u tk hk => ⟨.str d.pd.shown, H, I.kept (t' := tk) hk, ⟨u, rfl⟩, Po.val q hx (rep_str.mpr rfl)⟩) hsz
/-! ## isinstance of an own class -/
structure IsiC (K : PySem.W.Frag) (C : Addr) : Prop where
  cls : Cls K C
  ha : PySem.W.findIn K (.ref C) "__class__" = some (some (.builtin "object.__class__"))
  hn : PySem.W.specialIn K (.builtin "object.__class__") "__get__" = some (some (.builtin "getset_descriptor.__get__"))
  ht : PySem.W.takesIn K (.builtin "object.__class__") = some true
  hm : PySem.W.mroIn K C (.type "object") = some true
theorem cl_isC {c : Cl} {ks : List Str} {ds : List D} {d : D} {C : Addr} {k : Bool} (hd : InstD O c ks ds d) (T : IsiC X.K (ca X.K c)) (hk : PySem.W.kitOne X.K (.ref (ca X.K c)) (.ref C) = some k) (q : Q (.bl k) O) : ClD X (.builtin "isinstance") O [d, .adr C] Q := by
  intro F0 F H vs hx rp
  obtain ⟨v, w, rfl, r1, r2⟩ := reps2 rp
  obtain rfl := rep_adr.mp r2
  obtain ⟨a, dx, xs, rfl, h1, _⟩ := inst_at hx hd r1
  exact rc_of call_isi ⟨.ref a, .ref C, _, _, k, rfl, .own C, .base (.ins h1 T.cls T.ha T.hn T.ht T.hm), hk, Po.val q hx (rep_bl.mpr rfl)⟩
end
end K97
/-! # Part W: the program's facts; how a def's contract is proved -/
namespace K97
open PySem PySem.Spec PyProof.Rows L2

/-- what is known of the module -/
structure Wd (P : Program) (w : World) (K : PySem.W.Frag) (mg : Str → Option Value) (base : Heap) : Prop where
  kin : K.In base
  defs : fn.map (fun d => fnAt K (d.pa.ad K)) = fn.map DefX.val
  oks : (fn.all fun d => d.ok K) = true
  glo : ∀ x ∈ gls, mg x = some (.ref (He.ga K x))
  fre : ∀ x ∈ fres, mg x = none
  cls : ∀ c, Cls K (ca K c)
  nat : ∀ p ∈ flds, NoAttr K (ca K p.1) p.2
  mth : ∀ p ∈ mths, Meth K (ca K p.1) p.2 (He.ma K (ca K p.1) p.2)
  gfn : PySem.W.fnIn K (He.ma K (ca K .book) "__getitem__") = true
  mkc : ∀ c, Mk K (ca K c) (He.ma K (ca K c) "__init__")
  prp : ∀ p ∈ prps, PropOf K (ca K p.1) p.2 (He.ma K (ca K p.1) p.2) (getterOf K (He.ma K (ca K p.1) p.2))
  isi : ∀ c, IsiC K (ca K c)
  kit : PySem.W.kitOne K (.ref (ca K .book)) (.ref (ca K .book)) = some true
  neb : NeK K (ca K .book)
  xc : ∀ p ∈ xcs, ∃ p0 p1 p2 p3 p4 p5 p6 p7 p8 p9, XC P K (He.ga K p.1) p.2 p.2 p0 p1 p2 p3 p4 p5 p6 p7 p8 p9
  xin : PySem.W.excIn K (He.ga K "Nothing") He.veBase "ValueError.__new__" = true
  xkp : PySem.W.keepIn K (.ref (He.ga K "Nothing")) = true
  xf : ∀ p ∈ xcs, XfC K (He.ga K p.1) ∧ PySem.W.findIn K (.ref (He.ga K p.1)) p.2 = some none
  xi : ∀ c ∈ xns, ExcC K (He.ga K c)
  xk : ∀ c ∈ xns, ∀ c2 ∈ xns, PySem.W.kitOne K (.ref (He.ga K c)) (.ref (He.ga K c2)) = some (c == c2)
  xt : ∀ c ∈ xns, PySem.W.exmOne K (.ref (He.ga K c)) (.ref (He.ga K "NoText")) = some (c == "NoText")
  bkd : ∀ F, Rep K F (.tup []) (.ref (bookD K))
  wds : ∀ F, Rep K F (.tup [.str "change", .str "label", .str "till"]) (.ref (He.ga K "WORDS"))
  plc : ∀ F, Rep K F (.tup [.str "label", .str "till"]) (.ref (He.ga K "PLACES"))
  xl : ∀ c ∈ xns, PySem.W.exmOne K (.ref (He.ga K c)) (.ref (He.ga K "LabelError")) = some true
section
variable {P : Program} {w : World} {K : PySem.W.Frag} {mg : Str → Option Value} {base : Heap}
theorem Wd.def_ (W : Wd P w K mg base) (i : Nat) {d : DefX} (h : fn[i]? = some d) : ∃ fd, FunD K d.name d.qual (defArgs d.st) (defBody d.st) (defScope d.st) (d.dvs K) [] (d.pa.ad K) fd := by
  have e2 : (fn.map fun d => fnAt K (d.pa.ad K))[i]? = (fn.map DefX.val)[i]? := by rw [W.defs]
  rw [List.getElem?_map, List.getElem?_map, h] at e2
  exact DefX.funD (Option.some.inj e2) (List.all_eq_true.mp W.oks d (List.mem_of_getElem? h))
/-- a body keeps the contract -/
abbrev Bod (P : Program) (w : World) (K : PySem.W.Frag) (mg : Str → Option Value) (base : Heap) (m : Mode) (k : Nat) (d : DefX) (N : List Str) (S : SpD) : Prop :=
  ∀ (cdv : Value) (A : Around) (outer : List PySem.Env) (s : Shared) (H : Hp) (E : XK) (F0 : Hp) (ds : List D) (O : Om) (QD : D → Om → Prop) (QE : Exn → Om → Prop),
      ModeX m (cxB P w K mg base N d.qual (defScope d.st) (d.pa.ad K) cdv A outer s H E) → RoomB k (cxB P w K mg base N d.qual (defScope d.st) (d.pa.ad K) cdv A outer s H E).A → XeD (cxB P w K mg base N d.qual (defScope d.st) (d.pa.ad K) cdv A outer s H E) F0 QE → S ds O QD QE →
      Ssv (cxB P w K mg base N d.qual (defScope d.st) (d.pa.ad K) cdv A outer s H E) F0 (defBody d.st) (rho0 N ds) O { nx := fun _ O' => QD .non O', rt := QD }
theorem Wd.fg (W : Wd P w K mg base) (i : Nat) {d : DefX} {x : Str} {m : Mode} {k : Nat} {N ps : List Str} {S : SpD} (sc : FnScope N ps (defScope d.st)) (h : fn[i]? = some d) (hp : d.pa = .glo x) (hx : x ∈ gls) (hd : d.dfl = [])
    (hb : ∀ (kV doc pm : Value) (an : Option Addr) (cdv ct : Value) (us : List Value), us.length = ps.length → bindArgs (PySem.W.fnOf d.name d.qual (defArgs d.st) (defBody d.st) (defScope d.st) .none kV doc pm an cdv ct) ⟨us, []⟩ = pure (ps.zip us))
    (len : ∀ ds O QD QE, S ds O QD QE → ds.length = ps.length) (B : Bod P w K mg base m k d N S) : Fg P w K mg base m (k + 1) x S := by
  obtain ⟨fd, F⟩ := W.def_ i h
  have e : d.dvs K = [] := by unfold DefX.dvs; rw [hd]; rfl
  refine ⟨d.pa.ad K, fd, ps, fn_d F sc len B, ?_, F.kp, ?_⟩
  · rw [hp]; exact W.glo x hx
  · rw [e] at F; exact F.bindsN hb
theorem Wd.fm (W : Wd P w K mg base) (i : Nat) {d : DefX} {c : Cl} {x : Str} {m : Mode} {k : Nat} {N ps : List Str} {S : SpD} (sc : FnScope N ps (defScope d.st)) (h : fn[i]? = some d) (hp : d.pa = .meth c.nm x) (hx : (c, x) ∈ mths) (hd : d.dfl = [])
    (hb : ∀ (kV doc pm : Value) (an : Option Addr) (cdv ct : Value) (us : List Value), us.length = ps.length → bindArgs (PySem.W.fnOf d.name d.qual (defArgs d.st) (defBody d.st) (defScope d.st) .none kV doc pm an cdv ct) ⟨us, []⟩ = pure (ps.zip us))
    (len : ∀ ds O QD QE, S ds O QD QE → ds.length = ps.length) (B : Bod P w K mg base m k d N S) : Fm P w K mg base m (k + 1) c x S := by
  obtain ⟨fd, F⟩ := W.def_ i h
  have e : d.dvs K = [] := by unfold DefX.dvs; rw [hd]; rfl
  refine ⟨⟨d.pa.ad K, fd, ps, fn_d F sc len B, ?_, ?_⟩, W.cls c⟩
  · rw [hp]; exact W.mth (c, x) hx
  · rw [e] at F; exact F.bindsN hb
theorem Wd.fp (W : Wd P w K mg base) (i : Nat) {d : DefX} {c : Cl} {x : Str} {m : Mode} {k : Nat} {N ps : List Str} {S : SpD} (sc : FnScope N ps (defScope d.st)) (h : fn[i]? = some d) (hp : d.pa = .prop c.nm x) (hx : (c, x) ∈ prps) (hd : d.dfl = [])
    (hb : ∀ (kV doc pm : Value) (an : Option Addr) (cdv ct : Value) (us : List Value), us.length = ps.length → bindArgs (PySem.W.fnOf d.name d.qual (defArgs d.st) (defBody d.st) (defScope d.st) .none kV doc pm an cdv ct) ⟨us, []⟩ = pure (ps.zip us))
    (len : ∀ ds O QD QE, S ds O QD QE → ds.length = ps.length) (B : Bod P w K mg base m k d N S) : Fp P w K mg base m (k + 1) c x S := by
  obtain ⟨fd, F⟩ := W.def_ i h
  have e : d.dvs K = [] := by unfold DefX.dvs; rw [hd]; rfl
  refine ⟨⟨He.ma K (ca K c) x, d.pa.ad K, fd, ps, fn_d F sc len B, ?_, ?_⟩, W.cls c⟩
  · rw [hp]; exact W.prp (c, x) hx
  · rw [e] at F; exact F.bindsN hb
/-- a class made, nothing left out -/
theorem Wd.mk0 (W : Wd P w K mg base) (i : Nat) {d : DefX} {c : Cl} {m : Mode} {k : Nat} {N ps : List Str} {S : SpD} (sc : FnScope N ps (defScope d.st)) (h : fn[i]? = some d) (hp : d.pa = .meth c.nm "__init__") (hx : c.nm ∈ gls) (hd : d.dfl = [])
    (hb : ∀ (kV doc pm : Value) (an : Option Addr) (cdv ct : Value) (us : List Value), us.length = ps.length → bindArgs (PySem.W.fnOf d.name d.qual (defArgs d.st) (defBody d.st) (defScope d.st) .none kV doc pm an cdv ct) ⟨us, []⟩ = pure (ps.zip us))
    (len : ∀ ds O QD QE, S ds O QD QE → ds.length = ps.length) (B : Bod P w K mg base m k d N S) : Mkr P w K mg base m (k + 1) c [] S := by
  obtain ⟨fd, F⟩ := W.def_ i h
  have e : d.dvs K = [] := by unfold DefX.dvs; rw [hd]; rfl
  refine ⟨⟨d.pa.ad K, fd, ps, [], [], fn_d F sc len B, ?_, ?_, .nil, fun _ => .nil⟩, W.glo _ hx⟩
  · rw [hp]; exact W.mkc c
  · rw [e] at F; exact F.bindsN hb
/-- .. n values handed, the j-th default and those behind it used -/
theorem Wd.mk1 (W : Wd P w K mg base) (i : Nat) {d : DefX} {c : Cl} {m : Mode} {k : Nat} {N ps : List Str} {S : SpD} (sc : FnScope N ps (defScope d.st)) (h : fn[i]? = some d) (hp : d.pa = .meth c.nm "__init__") (hx : c.nm ∈ gls) (hd : d.dfl ≠ []) (n j : Nat) (hn : n + (d.dfl.length - j) = ps.length)
    (hb : ∀ (T : Addr) (kV doc pm : Value) (an : Option Addr) (cdv ct : Value) (us its : List Value), us.length = n → its.length = d.dfl.length →
      ∃ k, bindArgs (PySem.W.fnOf d.name d.qual (defArgs d.st) (defBody d.st) (defScope d.st) (.ref T) kV doc pm an cdv ct) ⟨us, []⟩ = seqItems? (.ref T) >>= k ∧ k (some its.toArray) = pure (ps.zip (us ++ its.drop j)))
    (dd : List D) (hdd : ∀ F, Reps K F dd ((d.dvs K).drop j)) (len : ∀ ds O QD QE, S ds O QD QE → ds.length = ps.length) (B : Bod P w K mg base m k d N S) : Mkr P w K mg base m (k + 1) c dd S := by
  obtain ⟨fd, F⟩ := W.def_ i h
  have hl : (d.dvs K).length = d.dfl.length := List.length_map _
  obtain ⟨ds, hv, hb2⟩ := F.binds1 n j (fun z => hd (by cases e : d.dfl with | nil => rfl | cons a b => rw [z, e] at hl; cases hl)) (by rw [hl]; exact hn) fun T kV doc pm an cdv ct us its h1 h2 => hb T kV doc pm an cdv ct us its h1 (by rw [h2, hl])
  refine ⟨⟨d.pa.ad K, fd, ps, _, ds, fn_d F sc len B, ?_, hb2, hv, hdd⟩, W.glo _ hx⟩
  rw [hp]; exact W.mkc c
/-- what a body lets pass -/
theorem po_b {N : List Str} {qual : Str} {scope : Scope} {f : Addr} {cd : Value} {A : Around} {outer : List PySem.Env} {s : Shared} {H : Hp} {E : XK} :
    PassesOwn (model P w) (cxB P w K mg base N qual scope f cd A outer s H E).A (cxB P w K mg base N qual scope f cd A outer s H E).env (cxB P w K mg base N qual scope f cd A outer s H E).xe :=
  passes_of (X := cxB P w K mg base N qual scope f cd A outer s H E) rfl
end

/-! ## the answers of operations, handed on -/
section
variable {X : Cx} {O : Om} {Q : D → Om → Prop} {QB : Bool → Om → Prop} {i j : Int} {x y : Str}
theorem z_add (q : Q (.int (i + j)) O) : ∃ z, OpD X (binaryOp .Add) O (.int i) (.int j) z ∧ Q z O := ⟨_, od_add, q⟩
theorem z_adds (h : x.length + y.length ≤ 1000000) (q : Q (.str (x ++ y)) O) : ∃ z, OpD X (binaryOp .Add) O (.str x) (.str y) z ∧ Q z O := ⟨_, od_adds h, q⟩
end
end K97
namespace K97
open PySem PySem.Spec PyProof.Rows L2
section
variable {P : Program} {w : World} {K : PySem.W.Frag} {mg : Str → Option Value} {base : Heap}
def S_is_integer : SpD := fun ds O Q _ => ∃ i, ds = [.int i] ∧ Q (.bl true) O
theorem f_is_integer (W : Wd P w K mg base) : Fg P w K mg base .any 1 "is_integer" S_is_integer := by
  refine W.fg 6 (d := d_is_integer) sc_is_integer rfl rfl (by decide +kernel) rfl (fun _ _ _ _ _ _ us hl => match us, hl with | [_], _ => rfl) (fun ds O Q QE ⟨i, e, _⟩ => by rw [e]; rfl) ?_
  rintro cdv A outer s H E F0 ds O Q QE hm hr xe ⟨i, rfl, q⟩
  refine ss_cons (s_ret ?_)
  refine ev_and ?_
  refine ev_blt ?_ (W.fre _ (by decide +kernel)) boot_isinstance
  refine av_cons (ev_name (i := 0) rfl ?_)
  refine av_cons (ev_ty ?_ (W.fre _ (by decide +kernel)) boot_int)
  refine av_nil (cl_isi rfl rfl ?_)
  refine ⟨_, rfl, fun _ => ?_, nofun⟩
  refine ev_one (ev_not ?_)
  refine ev_blt ?_ (W.fre _ (by decide +kernel)) boot_isinstance
  refine av_cons (ev_name (i := 0) rfl ?_)
  refine av_cons (ev_ty ?_ (W.fre _ (by decide +kernel)) boot_bool)
  refine av_nil (cl_isi rfl rfl ?_)
  exact ⟨_, rfl, q⟩
end
end K97
/-! # what the walks use -/
namespace K97
open PySem PySem.Spec PyProof.Rows L2
/-! ## numbers' texts -/
abbrev iS (i : Int) : Str := Str.ofString (toString i)
/-- a number that the texts may hold -/
def Sm (i : Int) : Prop := i.natAbs < 10 ^ 45
theorem Sm.log {i : Int} (h : Sm i) : i.natAbs.log2 < 1920 := by
  unfold Sm at h
  rcases Nat.eq_zero_or_pos i.natAbs with e | e
  · rw [e]; decide
  · rw [Nat.log2_lt (by omega)]
    exact Nat.lt_of_lt_of_le h (by decide +kernel)
theorem Sm.fit {i : Int} (h : Sm i) : (iS i).length ≤ 1921 := int_text_len_1921 h.log
section
variable {Q : D → Om → Prop} {O : Om}
theorem bq {a b : Bool} (e : a = b) (q : Q (.bl a) O) : Q (.bl b) O := e ▸ q
theorem iq {a b : Int} (e : a = b) (q : Q (.int a) O) : Q (.int b) O := e ▸ q
theorem sq {a b : Str} (e : a = b) (q : Q (.str a) O) : Q (.str b) O := e ▸ q
theorem lq {a b : List D} (e : a = b) (q : Q (.lst a) O) : Q (.lst b) O := e ▸ q
theorem tq {a b : List D} (e : a = b) (q : Q (.tup a) O) : Q (.tup b) O := e ▸ q
theorem dq {a b : D} (e : a = b) (q : Q a O) : Q b O := e ▸ q
end
theorem Str.len_app (x y : Str) : (x ++ y).length = x.length + y.length := by
  show (Str.append x y).cps.size = _
  simp [Str.append, Str.length]
end K97
/-! # comprehensions over encoded lists -/
namespace K97
open PySem PySem.Spec PyProof.Rows L2
theorem ext_set : ∀ {r : Rho} {i : Nat} {v : Option D}, r[i]? = some none → Ext r (r.set i v)
  | [], i, v, h => by simp at h
  | none :: r, 0, v, h => by
    show Ext (none :: r) (v :: r)
    exact Ext.refl r
  | some d :: r, 0, v, h => by simp at h
  | none :: r, i + 1, v, h => by
    show Ext (none :: r) (none :: r.set i v)
    exact ext_set (r := r) (by simpa using h)
  | some d :: r, i + 1, v, h => by
    show Ext (some d :: r) (some d :: r.set i v)
    exact ⟨rfl, ext_set (r := r) (by simpa using h)⟩
theorem Ext.trans : ∀ {a b c : Rho}, Ext a b → Ext b c → Ext a c
  | [], [], [], _, _ => trivial
  | [], [], _ :: _, _, h => h.elim
  | [], _ :: _, _, h, _ => h.elim
  | none :: _, [], _, h, _ => h.elim
  | some _ :: _, [], _, h, _ => h.elim
  | none :: a, none :: b, [], _, g => g.elim
  | none :: a, some _ :: b, [], _, g => g.elim
  | none :: a, none :: b, _ :: c, h, g => Ext.trans (a := a) (b := b) (c := c) h g
  | none :: a, some _ :: b, _ :: c, h, g => Ext.trans (a := a) (b := b) (c := c) h g.2
  | some d :: a, e :: b, c, h, g => by
    obtain ⟨rfl, h2⟩ := h
    cases c with
    | nil => exact g.elim
    | cons x c => exact ⟨g.1, Ext.trans (a := a) (b := b) (c := c) h2 g.2⟩
theorem ext_set2 {r : Rho} {i j : Nat} {v w : Option D} (h : r[i]? = some none) (h2 : r[j]? = some none) (hij : i ≠ j) : Ext r ((r.set i v).set j w) :=
  (ext_set h).trans (ext_set (by rw [List.getElem?_set_ne hij]; exact h2))
section
variable {X : Cx} {F0 F : Hp} {r : Rho} {O : Om} {tg iter elt c : Expr} {ifs : List Expr} {scope : Scope} {own : List (Str × Nat)} {pos pos' : Pos} {x : Str} {i : Nat} {d : D}
theorem bd_name {y : D} (h : Ev X F0 elt (r.set i (some d)) O fun z O5 => O5 = O ∧ z = y) (hN : X.N.Nodup) (hr : r[i]? = some none := by rfl) (hi : X.N[i]? = some x := by rfl) (hl : Loc X.env.scope x := by first | exact Or.inl rfl | exact Or.inr rfl)
    (hf : X.fn x = true ∨ X.env.scope.names.lookup x = some .local := by first | exact .inl rfl | exact .inr rfl | assumption) : Bd X F0 (.Name x pos) [] elt r O d (some y) :=
  gv_name ⟨rfl, ext_set hr, tsv_nil ⟨rfl, rfl, h⟩⟩ hN hi hl hf
theorem bd_if {y : D} {k : Bool} (h : Tv X F0 c (r.set i (some d)) O fun b O4 => O4 = O ∧ b = k) (h2 : k = true → Ev X F0 elt (r.set i (some d)) O fun z O5 => O5 = O ∧ z = y) (hN : X.N.Nodup) (hr : r[i]? = some none := by rfl) (hi : X.N[i]? = some x := by rfl) (hl : Loc X.env.scope x := by first | exact Or.inl rfl | exact Or.inr rfl)
    (hf : X.fn x = true ∨ X.env.scope.names.lookup x = some .local := by first | exact .inl rfl | exact .inr rfl | assumption) : Bd X F0 (.Name x pos) [c] elt r O d (if k then some y else none) := by
  refine gv_name ⟨rfl, ext_set hr, tsv_one (h.mono fun b O4 ⟨e1, e2⟩ => ⟨e1, ?_⟩)⟩ hN hi hl hf
  subst e2
  cases b with
  | true => exact ⟨rfl, h2 rfl⟩
  | false => rfl
/-- a comprehension over the encoded list as -/
theorem ev_lcm {α : Type} {Q : D → Om → Prop} (enc : α → D) (dec : D → Option α) (hdec : ∀ a, dec (enc a) = some a) (own : List (Str × Nat)) (hN : X.N.Nodup) (ht : Heat X)
    (hi : Iv X F0 tg iter r O fun ds O1 => ∃ (as : List α) (g : α → Option D), ds = as.map enc ∧ as.length ≤ 100000 ∧ Q (.lst (as.filterMap g)) O1 ∧ ∀ (s : Shared) (H : Hp) (C : Addr) (cl : List (Str × Addr)) (fp : List Addr), Heat (X.blk s H scope (compEnvC scope cl C X.env) fp) →
      ∀ O2, Sup O1 O2 → ∀ a ∈ as, Bd (X.blk s H scope (compEnvC scope cl C X.env) fp) F0 tg ifs elt (wip r (own.map (·.2))) O2 (enc a) (g a))
    (ok : BlkOk X.N X.env.scope scope own := by exact blkOk_by (by decide)) (hs : ∀ x, foldedSetIterable iter X.env x = pure x := by intro _; rfl) : Ev X F0 (.ListComp elt [⟨tg, iter, ifs, 0⟩] scope pos) r O Q := by
  refine ev_lc own hN ht (fun pins s σ H F I hx en => thn (hi pins s σ H F I hx en) fun u s1 q => thn q fun v s2 ⟨it, fp, tn, ds, O1, F1, H2, rfl', I2, T, st2, f2, ⟨as, g, hds, hl, qq, body⟩, hx2, l2⟩ => ⟨it, fp, tn, ds, O1, F1, H2, rfl', I2, T, st2, f2, ⟨fun d => (dec d).bind g, by rw [hds, List.length_map]; exact hl, ?_, ?_⟩, hx2, l2⟩) ok hs
  · subst hds
    have e : (as.map enc).filterMap (fun d => (dec d).bind g) = as.filterMap g := by
      rw [List.filterMap_map]
      congr 1
      funext a
      show (dec (enc a)).bind g = g a
      rw [hdec]; rfl
    rw [e]; exact qq
  · intro s H C cl fp hh O2 sp d hd
    subst hds
    obtain ⟨a, ha, rfl⟩ := List.mem_map.mp hd
    have this := body s H C cl fp hh O2 sp a ha
    have e : (dec (enc a)).bind g = g a := by rw [hdec]; rfl
    show Bd _ F0 tg ifs elt _ O2 (enc a) ((dec (enc a)).bind g)
    rw [e]
    exact this
/-- name = [..] on one line, over the encoded list as -/
theorem s_setLcm {α : Type} {C : Co} {i : Nat} {y : Str} {py spos : Pos} (enc : α → D) (dec : D → Option α) (hdec : ∀ a, dec (enc a) = some a) (own : List (Str × Nat)) (hN : X.N.Nodup) (ht : Heat X)
    (hi : Iv X F0 tg iter r O fun ds O1 => ∃ (as : List α) (g : α → Option D), ds = as.map enc ∧ as.length ≤ 100000 ∧ C.nx (r.set i (some (.lst (as.filterMap g)))) O1 ∧ ∀ (s : Shared) (H : Hp) (C : Addr) (cl : List (Str × Addr)) (fp : List Addr), Heat (X.blk s H scope (compEnvC scope cl C X.env) fp) →
      ∀ O2, Sup O1 O2 → ∀ a ∈ as, Bd (X.blk s H scope (compEnvC scope cl C X.env) fp) F0 tg ifs elt (wip r (own.map (·.2))) O2 (enc a) (g a))
    (ok : BlkOk X.N X.env.scope scope own := by exact blkOk_by (by decide)) (hy : X.N[i]? = some y := by rfl) (hyl : X.env.scope.names.lookup y = some .local := by rfl)
    (hsw : swapsWith (.ListComp elt [⟨tg, iter, ifs, 0⟩] scope pos) (some (.Name y py)) spos.line X.env = pure true := by rfl)
    (hs : ∀ x, foldedSetIterable iter X.env x = pure x := by intro _; rfl) : Sv X F0 (.Assign [.Name y py] (.ListComp elt [⟨tg, iter, ifs, 0⟩] scope pos) spos) r O C := by
  refine s_setLc own hN ht (fun pins s σ H F I hx en => thn (hi pins s σ H F I hx en) fun u s1 q => thn q fun v s2 ⟨it, fp, tn, ds, O1, F1, H2, rfl', I2, T, st2, f2, ⟨as, g, hds, hl, qq, body⟩, hx2, l2⟩ => ⟨it, fp, tn, ds, O1, F1, H2, rfl', I2, T, st2, f2, ⟨fun d => (dec d).bind g, by rw [hds, List.length_map]; exact hl, ?_, ?_⟩, hx2, l2⟩) hy hyl hsw ok hs
  · subst hds
    have e : (as.map enc).filterMap (fun d => (dec d).bind g) = as.filterMap g := by
      rw [List.filterMap_map]
      congr 1
      funext a
      show (dec (enc a)).bind g = g a
      rw [hdec]; rfl
    rw [e]; exact qq
  · intro s H C cl fp hh O2 sp d hd
    subst hds
    obtain ⟨a, ha, rfl⟩ := List.mem_map.mp hd
    have this := body s H C cl fp hh O2 sp a ha
    have e : (dec (enc a)).bind g = g a := by rw [hdec]; rfl
    show Bd _ F0 tg ifs elt _ O2 (enc a) ((dec (enc a)).bind g)
    rw [e]
    exact this
end
def decI : D → Option Int
  | .int i => some i
  | _ => none
def decS : D → Option Str
  | .str i => some i
  | _ => none
def decP : D → Option (Int × Int)
  | .tup [.int i, .int j] => some (i, j)
  | _ => none
theorem decI_e (i : Int) : decI (.int i) = some i := rfl
theorem decS_e (i : Str) : decS (.str i) = some i := rfl
abbrev pD (c : Int × Int) : D := .tup [.int c.1, .int c.2]
theorem decP_e (c : Int × Int) : decP (pD c) = some c := rfl
theorem fm_some {α β : Type} (g : α → β) (as : List α) : as.filterMap (fun a => some (g a)) = as.map g := by
  induction as with
  | nil => rfl
  | cons a as ih => rw [List.filterMap_cons, ih]; rfl
theorem fm_if {α β : Type} (p : α → Bool) (g : α → β) (as : List α) : as.filterMap (fun a => if p a then some (g a) else none) = (as.filter p).map g := by
  induction as with
  | nil => rfl
  | cons a as ih =>
    rw [List.filterMap_cons, List.filter_cons]
    cases h : p a with
    | true => simp [ih]
    | false => simp [ih]
end K97
/-! # Walk A: kinds, notation -/
namespace K97
open PySem PySem.Spec PyProof.Rows L2
section
variable {P : Program} {w : World} {K : PySem.W.Frag} {mg : Str → Option Value} {base : Heap}
def S_is_price : SpD := fun ds O Q _ => ∃ i, ds = [.int i] ∧ Q (.bl (decide (0 ≤ i))) O
theorem S_is_price_len {ds O Q QE} (h : S_is_price ds O Q QE) : ds.length = 1 := by obtain ⟨i, e, _⟩ := h; rw [e]; rfl
theorem f_is_price (W : Wd P w K mg base) : Fg P w K mg base .any 2 "is_price" S_is_price := by
  refine W.fg 7 (d := d_is_price) sc_is_price rfl rfl (by decide +kernel) rfl (fun _ _ _ _ _ _ us hl => match us, hl with | [_], _ => rfl) (fun ds O Q QE h => S_is_price_len h) ?_
  rintro cdv A outer s H E F0 ds O Q QE hm hr xe ⟨i, rfl, q⟩
  refine ss_cons (s_ret (ev_and ?_))
  refine ev_call (f_is_integer W) (hr.mono (by decide)) trivial xer0 (av_cons (ev_name (i := 0) rfl (av_nil ⟨i, rfl, ?_⟩)))
  refine ⟨true, rfl, fun _ => ?_, nofun⟩
  exact ev_one (ev_cmp (ev_name (i := 0) rfl (ev_int ⟨_, od_ge, q⟩)))
def S_is_board : SpD := fun ds O Q _ => ∃ i j, ds = [.tup [.int i, .int j]] ∧ Q (.bl (decide (0 ≤ i ∧ 0 ≤ j ∧ i ≤ j))) O
theorem S_is_board_len {ds O Q QE} (h : S_is_board ds O Q QE) : ds.length = 1 := by obtain ⟨i, j, e, _⟩ := h; rw [e]; rfl
theorem f_is_board (W : Wd P w K mg base) : Fg P w K mg base .any 3 "is_board" S_is_board := by
  refine W.fg 8 (d := d_is_board) sc_is_board rfl rfl (by decide +kernel) rfl (fun _ _ _ _ _ _ us hl => match us, hl with | [_], _ => rfl) (fun ds O Q QE h => S_is_board_len h) ?_
  rintro cdv A outer s H E F0 ds O Q QE hm hr xe ⟨i, j, rfl, q⟩
  refine ss_cons (s_if (tv_w (tw_or (tv_not (tv_val (ev_blt (av_cons (ev_name (i := 0) rfl (av_cons (ev_ty (av_nil (cl_isi rfl rfl ?_)) (W.fre _ (by decide +kernel)) boot_tuple)))) (W.fre _ (by decide +kernel)) boot_isinstance))))))
  refine ⟨true, rfl, fun _ => ?_, nofun⟩
  refine tw_or1 (tv_cmp (ev_blt (av_cons (ev_name (i := 0) rfl (av_nil (cl_len_tup (ev_int ⟨_, od_nei, ?_⟩))))) (W.fre _ (by decide +kernel)) boot_len))
  refine ⟨fun z => absurd z (by simp), fun _ => ss_nil (ss_cons (s_ret (ev_and ?_)))⟩
  refine ev_call (f_is_price W) (hr.mono (by decide)) trivial xer0 (av_cons (ev_ix (ev_name (i := 0) rfl (ev_int ⟨_, xd_tup rfl, av_nil ⟨i, rfl, ?_⟩⟩))))
  refine ⟨_, rfl, fun h1 => ev_and ?_, fun h1 => bq (by simp at h1 ⊢; first | omega | (intros; omega)) q⟩
  refine ev_call (f_is_price W) (hr.mono (by decide)) trivial xer0 (av_cons (ev_ix (ev_name (i := 0) rfl (ev_int ⟨_, xd_tup rfl, av_nil ⟨j, rfl, ?_⟩⟩))))
  refine ⟨_, rfl, fun h2 => ev_one ?_, fun h2 => bq (by simp at h1 h2 ⊢; first | omega | (intros; omega)) q⟩
  refine ev_cmp (ev_ix (ev_name (i := 0) rfl (ev_int ⟨_, xd_tup rfl, ev_ix (ev_name (i := 0) rfl (ev_int ⟨_, xd_tup rfl, ?_⟩))⟩)))
  exact ⟨_, od_le, bq (decide_eq_decide.mpr ⟨fun h => h.2.2, fun h => ⟨of_decide_eq_true h1, of_decide_eq_true h2, h⟩⟩) q⟩
def S_is_change : SpD := fun ds O Q _ => ∃ c, ds = [pD c] ∧ Q (.bl (decide (0 ≤ c.2))) O
theorem S_is_change_len {ds O Q QE} (h : S_is_change ds O Q QE) : ds.length = 1 := by obtain ⟨i, e, _⟩ := h; rw [e]; rfl
theorem f_is_change (W : Wd P w K mg base) : Fg P w K mg base .any 3 "is_change" S_is_change := by
  refine W.fg 9 (d := d_is_change) sc_is_change rfl rfl (by decide +kernel) rfl (fun _ _ _ _ _ _ us hl => match us, hl with | [_], _ => rfl) (fun ds O Q QE h => S_is_change_len h) ?_
  rintro cdv A outer s H E F0 ds O Q QE hm hr xe ⟨c, rfl, q⟩
  refine ss_cons (s_ret (ev_and (ev_blt (av_cons (ev_name (i := 0) rfl (av_cons (ev_ty (av_nil (cl_isi rfl rfl ?_)) (W.fre _ (by decide +kernel)) boot_tuple)))) (W.fre _ (by decide +kernel)) boot_isinstance)))
  refine ⟨true, rfl, fun _ => ev_and ?_, nofun⟩
  refine ev_cmp (ev_blt (av_cons (ev_name (i := 0) rfl (av_nil (cl_len_tup (ev_int ⟨_, od_eqi, ?_⟩))))) (W.fre _ (by decide +kernel)) boot_len)
  refine ⟨_, rfl, fun _ => ev_and ?_, fun z => absurd z (by simp)⟩
  refine ev_call (f_is_integer W) (hr.mono (by decide)) trivial xer0 (av_cons (ev_ix (ev_name (i := 0) rfl (ev_int ⟨_, xd_tup rfl, av_nil ⟨c.1, rfl, ?_⟩⟩))))
  refine ⟨true, rfl, fun _ => ev_one ?_, nofun⟩
  exact ev_call (f_is_price W) (hr.mono (by decide)) trivial xer0 (av_cons (ev_ix (ev_name (i := 0) rfl (ev_int ⟨_, xd_tup rfl, av_nil ⟨c.2, rfl, q⟩⟩))))
def S_is_index : SpD := fun ds O Q _ => ∃ i n, ds = [.int i, .int n] ∧ Q (.bl (decide (0 ≤ i ∧ i < n))) O
theorem S_is_index_len {ds O Q QE} (h : S_is_index ds O Q QE) : ds.length = 2 := by obtain ⟨i, n, e, _⟩ := h; rw [e]; rfl
theorem f_is_index (W : Wd P w K mg base) : Fg P w K mg base .any 3 "is_index" S_is_index := by
  refine W.fg 10 (d := d_is_index) sc_is_index rfl rfl (by decide +kernel) rfl (fun _ _ _ _ _ _ us hl => match us, hl with | [_, _], _ => rfl) (fun ds O Q QE h => S_is_index_len h) ?_
  rintro cdv A outer s H E F0 ds O Q QE hm hr xe ⟨i, n, rfl, q⟩
  refine ss_cons (s_ret (ev_and ?_))
  refine ev_call (f_is_price W) (hr.mono (by decide)) trivial xer0 (av_cons (ev_name (i := 0) rfl (av_nil ⟨i, rfl, ?_⟩)))
  refine ⟨_, rfl, fun h1 => ?_, fun h1 => bq (by simp at h1 ⊢; first | omega | (intros; omega)) q⟩
  exact ev_one (ev_cmp (ev_name (i := 0) rfl (ev_name (i := 1) rfl ⟨_, od_lt, bq (by simp at h1 ⊢; first | omega | (intros; omega)) q⟩)))
/-! ## notation -/
abbrev tSight (c : Int × Int) : Str := iS c.2 ++ " at " ++ iS c.1
def SmP (c : Int × Int) : Prop := Sm c.1 ∧ Sm c.2
def S_show_sighting : SpD := fun ds O Q _ => ∃ c, ds = [pD c] ∧ SmP c ∧ Q (.str (tSight c)) O
theorem S_show_sighting_len {ds O Q QE} (h : S_show_sighting ds O Q QE) : ds.length = 1 := by obtain ⟨i, e, _⟩ := h; rw [e]; rfl
theorem f_show_sighting (W : Wd P w K mg base) : Fg P w K mg base .any 1 "show_sighting" S_show_sighting := by
  refine W.fg 0 (d := d_show_sighting) sc_show_sighting rfl rfl (by decide +kernel) rfl (fun _ _ _ _ _ _ us hl => match us, hl with | [_], _ => rfl) (fun ds O Q QE h => S_show_sighting_len h) ?_
  rintro cdv A outer s H E F0 ds O Q QE hm hr xe ⟨c, rfl, ⟨s1, s2⟩, q⟩
  have f1 : (Str.ofString (toString c.1)).length ≤ 1921 := s1.fit
  have f2 : (Str.ofString (toString c.2)).length ≤ 1921 := s2.fit
  refine ss_cons (s_ret (ev_op (ev_op (ev_typ (av_cons (ev_ix (ev_name (i := 0) rfl (ev_int ⟨_, xd_tup rfl, av_nil (cl_str_int s2.log (ev_str ⟨_, od_adds ?_, ?_⟩))⟩)))) (W.fre _ (by decide +kernel)) boot_str))))
  · have : (Str.ofString " at ").length = 4 := by decide +kernel
    omega
  refine ev_typ (av_cons (ev_ix (ev_name (i := 0) rfl (ev_int ⟨_, xd_tup rfl, av_nil (cl_str_int s1.log ⟨_, od_adds ?_, q⟩)⟩)))) (W.fre _ (by decide +kernel)) boot_str
  rw [Str.len_app]
  have : (Str.ofString " at ").length = 4 := by decide +kernel
  omega
abbrev tBoard (c : Int × Int) : Str := iS c.1 ++ " to " ++ iS c.2
def S_show_board : SpD := fun ds O Q _ => ∃ c, ds = [pD c] ∧ SmP c ∧ Q (.str (tBoard c)) O
theorem S_show_board_len {ds O Q QE} (h : S_show_board ds O Q QE) : ds.length = 1 := by obtain ⟨i, e, _⟩ := h; rw [e]; rfl
theorem f_show_board (W : Wd P w K mg base) : Fg P w K mg base .any 1 "show_board" S_show_board := by
  refine W.fg 2 (d := d_show_board) sc_show_board rfl rfl (by decide +kernel) rfl (fun _ _ _ _ _ _ us hl => match us, hl with | [_], _ => rfl) (fun ds O Q QE h => S_show_board_len h) ?_
  rintro cdv A outer s H E F0 ds O Q QE hm hr xe ⟨c, rfl, ⟨s1, s2⟩, q⟩
  have f1 : (Str.ofString (toString c.1)).length ≤ 1921 := s1.fit
  have f2 : (Str.ofString (toString c.2)).length ≤ 1921 := s2.fit
  refine ss_cons (s_ret (ev_op (ev_op (ev_typ (av_cons (ev_ix (ev_name (i := 0) rfl (ev_int ⟨_, xd_tup rfl, av_nil (cl_str_int s1.log (ev_str ⟨_, od_adds ?_, ?_⟩))⟩)))) (W.fre _ (by decide +kernel)) boot_str))))
  · have : (Str.ofString " to ").length = 4 := by decide +kernel
    omega
  refine ev_typ (av_cons (ev_ix (ev_name (i := 0) rfl (ev_int ⟨_, xd_tup rfl, av_nil (cl_str_int s2.log ⟨_, od_adds ?_, q⟩)⟩)))) (W.fre _ (by decide +kernel)) boot_str
  rw [Str.len_app]
  have : (Str.ofString " to ").length = 4 := by decide +kernel
  omega
theorem sum_le {α : Type} {f : α → Nat} {n : Nat} : ∀ {as : List α}, (∀ a ∈ as, f a ≤ n) → (as.map f).sum ≤ n * as.length
  | [], _ => by simp
  | a :: as, h => by
    have h1 := h a List.mem_cons_self
    have h2 := sum_le (as := as) fun b hb => h b (List.mem_cons_of_mem _ hb)
    rw [List.map_cons, List.sum_cons, List.length_cons, Nat.mul_succ]
    omega
abbrev tMoments (ms : List Int) : Str := if ms = [] then "none" else Txt.join " " (ms.map iS)
def S_show_moments : SpD := fun ds O Q _ => ∃ ms : List Int, ds = [.lst (ms.map .int)] ∧ (∀ m ∈ ms, Sm m) ∧ ms.length ≤ 1000 ∧ Q (.str (tMoments ms)) O
theorem S_show_moments_len {ds O Q QE} (h : S_show_moments ds O Q QE) : ds.length = 1 := by obtain ⟨i, e, _⟩ := h; rw [e]; rfl
theorem f_show_moments (W : Wd P w K mg base) : Fg P w K mg base .heat 1 "show_moments" S_show_moments := by
  refine W.fg 3 (d := d_show_moments) sc_show_moments rfl rfl (by decide +kernel) rfl (fun _ _ _ _ _ _ us hl => match us, hl with | [_], _ => rfl) (fun ds O Q QE h => S_show_moments_len h) ?_
  rintro cdv A outer s H E F0 ds O Q QE hm hr xe ⟨ms, rfl, hs, hl, q⟩
  refine ss_cons (s_ret (ev_if (tv_cmp (ev_blt (av_cons (ev_name (i := 0) rfl (av_nil (cl_len_lst (ev_int ⟨_, od_gt, ?_⟩))))) (W.fre _ (by decide +kernel)) boot_len))))
  refine ⟨fun h1 => ?_, fun h1 => ev_str (sq ?_ q)⟩
  · have h2 : ms ≠ [] := by rintro rfl; simp at h1
    have nd : N_show_moments.Nodup := by decide
    refine ev_bm PySem.F.plainAttrs_str PySem.F.slot_str_join PySem.F.type_str_join (ev_str ⟨rfl, av_cons (ev_lcm D.int decI decI_e [("moment", 1)] nd hm (iv_val (ev_name (i := 0) rfl ⟨_, rfl, ms, fun m => some (.str (iS m)), rfl, by omega, ?_, ?_⟩)) (show BlkOk N_show_moments (defScope d_show_moments.st) _ _ from blkOk_by (by decide +kernel)))⟩)
    · rw [fm_some]
      refine av_nil ?_
      rw [show (ms.map fun m => D.str (iS m)) = (ms.map iS).map D.str by rw [List.map_map]; rfl]
      refine md_join ?_ (sq ?_ q)
      · have h3 := sum_le (as := ms) (f := fun m => (iS m).length) (n := 1921) fun m hm => (hs m hm).fit
        have h4 : (Str.ofString " ").length = 1 := by decide +kernel
        rw [List.map_map, List.length_map, h4]
        show (ms.map fun m => (iS m).length).sum + _ ≤ _
        omega
      · show (if ms = [] then _ else _) = _
        rw [if_neg h2]
    · intro s H C cl fp hh O2 sp m hm2
      exact bd_name (i := 1) (ev_typ (av_cons (ev_name (i := 1) rfl (av_nil (cl_str_int (hs m hm2).log ⟨rfl, rfl⟩)))) (W.fre _ (by decide +kernel)) boot_str) nd
  · have h2 : ms = [] := by
      cases ms with
      | nil => rfl
      | cons m ms => simp at h1
    show (if ms = [] then _ else _) = _
    rw [if_pos h2]
end
end K97
/-! # Walk B: deeds, windows as texts; Book -/
namespace K97
open PySem PySem.Spec PyProof.Rows L2
section
variable {P : Program} {w : World} {K : PySem.W.Frag} {mg : Str → Option Value} {base : Heap}
/-- a deed: its word, its sighting -/
abbrev dD (c : Str × Int × Int) : D := .tup [.str c.1, .int c.2.1, .int c.2.2]
abbrev tDeed (c : Str × Int × Int) : Str := c.1 ++ " " ++ tSight c.2
theorem len_sight {c : Int × Int} (h : SmP c) : (tSight c).length ≤ 3846 := by
  have f1 : (iS c.1).length ≤ 1921 := h.1.fit
  have f2 : (iS c.2).length ≤ 1921 := h.2.fit
  show (iS c.2 ++ _ ++ iS c.1).length ≤ _
  rw [Str.len_app, Str.len_app]
  have : (Str.ofString " at ").length = 4 := by decide +kernel
  omega
def S_show_deed : SpD := fun ds O Q _ => ∃ c, ds = [dD c] ∧ SmP c.2 ∧ c.1.length ≤ 1000 ∧ Q (.str (tDeed c)) O
theorem S_show_deed_len {ds O Q QE} (h : S_show_deed ds O Q QE) : ds.length = 1 := by obtain ⟨i, e, _⟩ := h; rw [e]; rfl
theorem f_show_deed (W : Wd P w K mg base) : Fg P w K mg base .any 2 "show_deed" S_show_deed := by
  refine W.fg 4 (d := d_show_deed) sc_show_deed rfl rfl (by decide +kernel) rfl (fun _ _ _ _ _ _ us hl => match us, hl with | [_], _ => rfl) (fun ds O Q QE h => S_show_deed_len h) ?_
  rintro cdv A outer s H E F0 ds O Q QE hm hr xe ⟨c, rfl, sm, hw, q⟩
  have f1 := len_sight sm
  have f2 : (Str.ofString " ").length = 1 := by decide +kernel
  refine ss_cons (s_ret (ev_op (ev_op (ev_ix (ev_name (i := 0) rfl (ev_int ⟨_, xd_tup rfl, ev_str ⟨_, od_adds (by omega), ?_⟩⟩))))))
  refine ev_call (f_show_sighting W) (hr.mono (by decide)) trivial xer0 (av_cons (ev_slice (ev_name (i := 0) rfl (pv_some (ev_int ⟨_, rfl, pv_none ⟨_, sd_tup (by show 2 < 3; decide), av_nil ⟨c.2, rfl, sm, ⟨_, od_adds ?_, q⟩⟩⟩⟩)))))
  rw [Str.len_app]
  omega
/-- None or a number -/
abbrev oD : Option Int → D
  | none => .non
  | some i => .int i
def decO : D → Option (Option Int)
  | .non => some none
  | .int i => some (some i)
  | _ => none
theorem decO_e (o : Option Int) : decO (oD o) = some o := by cases o <;> rfl
abbrev tOpt : Option Int → Str
  | none => "ever"
  | some i => iS i
abbrev tWindow (c : Option Int × Option Int) : Str := tOpt c.1 ++ " to " ++ tOpt c.2
def SmO (o : Option Int) : Prop := ∀ i, o = some i → Sm i
theorem len_opt {o : Option Int} (h : SmO o) : (tOpt o).length ≤ 1921 := by
  cases o with
  | none => show (Str.ofString "ever").length ≤ 1921; decide +kernel
  | some i => exact (h i rfl).fit
def S_show_window : SpD := fun ds O Q _ => ∃ c : Option Int × Option Int, ds = [.tup [oD c.1, oD c.2]] ∧ SmO c.1 ∧ SmO c.2 ∧ Q (.str (tWindow c)) O
theorem S_show_window_len {ds O Q QE} (h : S_show_window ds O Q QE) : ds.length = 1 := by obtain ⟨i, e, _⟩ := h; rw [e]; rfl
theorem f_show_window (W : Wd P w K mg base) : Fg P w K mg base .heat 1 "show_window" S_show_window := by
  refine W.fg 5 (d := d_show_window) sc_show_window rfl rfl (by decide +kernel) rfl (fun _ _ _ _ _ _ us hl => match us, hl with | [_], _ => rfl) (fun ds O Q QE h => S_show_window_len h) ?_
  rintro cdv A outer s H E F0 ds O Q QE hm hr xe ⟨c, rfl, s1, s2, q⟩
  have nd : N_show_window.Nodup := by decide
  have f1 := len_opt s1
  have f2 := len_opt s2
  have f3 : (Str.ofString " to ").length = 4 := by decide +kernel
  refine ss_cons (s_asg (ev_lcm oD decO decO_e [("moment", 3)] nd hm (iv_val (ev_name (i := 0) rfl ⟨_, rfl, [c.1, c.2], fun o => some (.str (tOpt o)), rfl, by show 2 ≤ 100000; decide, ?_, ?_⟩)) (show BlkOk N_show_window (defScope d_show_window.st) _ _ from blkOk_by (by decide +kernel))))
  · refine gv_tup hm (.inr rfl) (gvs_cons (gv_name (i := 1) (gvs_cons (gv_name (i := 2) (gvs_nil ?_) nd) ) nd))
    refine ss_cons (s_ret (ev_op (ev_op (ev_name (i := 1) rfl (ev_str ⟨_, od_adds ?_, ev_name (i := 2) rfl ⟨_, od_adds ?_, q⟩⟩)))))
    · omega
    · rw [Str.len_app]; omega
  · intro s H C cl fp hh O2 sp o ho
    refine bd_name (i := 3) (ev_if (tv_cmp (ev_name (i := 3) rfl (ev_non ⟨_, od_isN, ⟨fun h1 => ?_, fun h1 => ?_⟩⟩)))) nd
    · cases o with
      | none => exact ev_str ⟨rfl, rfl⟩
      | some i => cases h1
    · cases o with
      | none => cases h1
      | some i =>
        have sm : Sm i := by
          rcases List.mem_cons.mp ho with e | e
          · exact s1 i e.symm
          · exact s2 i (List.mem_singleton.mp e).symm
        exact ev_typ (av_cons (ev_name (i := 3) rfl (av_nil (cl_str_int sm.log ⟨rfl, rfl⟩)))) (W.fre _ (by decide +kernel)) boot_str
end
end K97
/-! # Walk C: Book -/
namespace K97
open PySem PySem.Spec PyProof.Rows L2
abbrev bkD (f : Int) (ch : List (Int × Int)) : D := .obj .book ["its_changes", "its_prices"] [.tup (ch.map pD), .tup ((f :: ch.map (·.2)).map .int)]
structure BkOk (f : Int) (ch : List (Int × Int)) : Prop where
  f0 : 0 ≤ f
  c0 : ∀ c ∈ ch, 0 ≤ c.2
  up : ch.Pairwise fun a b => a.1 < b.1
  len : ch.length ≤ 200
theorem atI_nat {α : Type} {xs : List α} {i : Nat} {x : α} (h : xs[i]? = some x) : atI xs (i : Int) = some x := by
  have hi : i < xs.length := (List.getElem?_eq_some_iff.mp h).1
  unfold atI ixN
  rw [if_pos (by omega), if_pos (by omega)]
  simpa using h
theorem getmap {α β : Type} {f : α → β} {xs : List α} {i : Nat} {x : α} (h : xs[i]? = some x) : (xs.map f)[i]? = some (f x) := by rw [List.getElem?_map, h]; rfl
theorem pw_get {α : Type} {R : α → α → Prop} {xs : List α} (h : xs.Pairwise R) {i j : Nat} {a b : α} (ha : xs[i]? = some a) (hb : xs[j]? = some b) (hij : i < j) : R a b := by
  obtain ⟨h1, e1⟩ := List.getElem?_eq_some_iff.mp ha
  obtain ⟨h2, e2⟩ := List.getElem?_eq_some_iff.mp hb
  rw [← e1, ← e2]
  exact List.pairwise_iff_getElem.mp h i j h1 h2 hij
section
variable {X : Cx} {F0 : Hp} {r : Rho} {O : Om} {Q : D → Om → Prop}
/-- a sequence of pairs, a tuple or a list -/
structure SeqP (X : Cx) (d : D) (ch : List (Int × Int)) : Prop where
  it : itD d = some (ch.map pD)
  ty : ∃ T k1 k2, tyNm d = some T ∧ kitB T "list" = some k1 ∧ kitB T "tuple" = some k2 ∧ (k1 || k2) = true
  ix : ∀ (O : Om) (j : Nat) (c : Int × Int), ch[j]? = some c → IxD X O d (.int j) (pD c)
  len : ∀ (O : Om) (Q : D → Om → Prop), Q (.int ch.length) O → ClD X (.builtin "len") O [d] Q
  tup : ∀ (O : Om) (Q : D → Om → Prop), Q (.tup (ch.map pD)) O → ClD X (.type "tuple") O [d] Q
theorem seq_tup {ch : List (Int × Int)} : SeqP X (.tup (ch.map pD)) ch :=
  ⟨rfl, ⟨"tuple", false, true, rfl, rfl, rfl, rfl⟩, fun O j c h => xd_tup (atI_nat (getmap h)), fun O Q q => cl_len_tup (by rw [List.length_map]; exact q), fun O Q q => cl_tuple_tup q⟩
theorem seq_lst {ch : List (Int × Int)} : SeqP X (.lst (ch.map pD)) ch :=
  ⟨rfl, ⟨"list", true, false, rfl, rfl, rfl, rfl⟩, fun O j c h => xd_lst (atI_nat (getmap h)), fun O Q q => cl_len_lst (by rw [List.length_map]; exact q), fun O Q q => cl_tuple_lst q⟩
end
section
variable {P : Program} {w : World} {K : PySem.W.Frag} {mg : Str → Option Value} {base : Heap}
def S_Book_init : SpD := fun ds O Q _ => ∃ p f ch d, ds = [.adr p, .int f, d] ∧ (d = .tup (ch.map pD) ∨ d = .lst (ch.map pD)) ∧ BkOk f ch ∧ O p = some (.ob .book [] []) ∧
  Q .non (O.put p (.ob .book ["its_changes", "its_prices"] [.tup (ch.map pD), .tup ((f :: ch.map (·.2)).map .int)]))
theorem S_Book_init_len {ds O Q QE} (h : S_Book_init ds O Q QE) : ds.length = 3 := by obtain ⟨p, f, ch, d, e, _⟩ := h; rw [e]; rfl
theorem b_Book_init (W : Wd P w K mg base) : Bod P w K mg base .heat 3 d_Book_init N_Book_init S_Book_init := by
  rintro cdv A outer s H E F0 ds O Q QE hm hr xe ⟨p, f, ch, d, rfl, hd, ok, hO, q⟩
  have nd : N_Book_init.Nodup := by decide
  have SP : SeqP (cxB P w K mg base N_Book_init d_Book_init.qual (defScope d_Book_init.st) (Pa.ad K d_Book_init.pa) cdv A outer s H E) d ch := by
    rcases hd with rfl | rfl
    · exact seq_tup
    · exact seq_lst
  obtain ⟨T, k1, k2, t1, t2, t3, t4⟩ := SP.ty
  refine ss_cons (s_if ?_)
  refine tv_not ?_
  refine tv_val ?_
  refine ev_call (f_is_price W) (hr.mono (by decide)) trivial xer0 ?_
  refine av_cons (ev_name (i := 1) rfl ?_)
  refine av_nil ?_
  refine ⟨f, rfl, ?_⟩
  refine ⟨_, rfl, fun h1 => absurd h1 (by simp [ok.f0]), fun _ => ?_⟩
  refine ss_nil ?_
  refine ss_cons (s_if ?_)
  refine tv_w ?_
  refine tw_or ?_
  refine tv_not ?_
  refine tv_val ?_
  refine ev_blt ?_ (W.fre _ (by decide +kernel)) boot_isinstance
  refine av_cons (ev_name (i := 2) rfl ?_)
  refine av_cons (ev_tup ?_)
  refine av_cons (ev_ty ?_ (W.fre _ (by decide +kernel)) boot_list)
  refine av_cons (ev_ty ?_ (W.fre _ (by decide +kernel)) boot_tuple)
  refine av_nil ?_
  refine ⟨by show 2 ≤ 100000; decide, ?_⟩
  refine av_nil ?_
  refine cl_isi2 t1 t2 t3 ?_
  refine ⟨_, rfl, fun _ => ?_, fun h => absurd h (by rw [t4]; decide)⟩
  have hl := ok.len
  refine tw_or1 ?_
  refine tv_not ?_
  refine tv_val ?_
  refine ev_blt ?_ (W.fre _ (by decide +kernel)) boot_all
  refine av_cons (ev_lcm pD decP decP_e [("change", 4)] nd hm (iv_val (ev_name (i := 2) rfl ⟨_, SP.it, ch, fun c => some (.bl (decide (0 ≤ c.2))), rfl, by omega, ?_, ?_⟩)) (show BlkOk N_Book_init (defScope d_Book_init.st) _ _ from blkOk_by (by decide +kernel)))
  rotate_left
  · intro s H C cl fp hh O2 sp c hc
    refine bd_name (i := 4) ?_ nd
    refine ev_call (f_is_change W) (hr.mono (by decide)) trivial xer0 ?_
    refine av_cons (ev_name (i := 4) rfl ?_)
    refine av_nil ?_
    exact ⟨c, rfl, rfl, rfl⟩
  rw [fm_some]
  refine av_nil ?_
  rw [show (ch.map fun c => D.bl (decide (0 ≤ c.2))) = (ch.map fun c => decide (0 ≤ c.2)).map D.bl by rw [List.map_map]; rfl]
  refine cl_all hm ⟨_, rfl, ?_⟩
  have ha : (ch.map fun c => decide (0 ≤ c.2)).all id = true := by
    rw [List.all_eq_true]
    intro x hx
    obtain ⟨c, hc, rfl⟩ := List.mem_map.mp hx
    simpa using ok.c0 c hc
  rw [ha]
  refine ⟨nofun, fun _ => ss_nil ?_⟩
  refine ss_cons (s_for po_b hm (iv_range2 (ev_int ⟨1, rfl, ⟨by decide, by decide⟩, ?_⟩) (W.fre _ (by decide +kernel))))
  refine ev_blt ?_ (W.fre _ (by decide +kernel)) boot_len
  refine av_cons (ev_name (i := 2) rfl ?_)
  refine av_nil ?_
  refine SP.len _ _ ⟨_, rfl, ⟨by omega, by omega⟩, ?_⟩
  refine ⟨fun _ r2 O2 => O2 = O ∧ ∃ v, r2 = [some (.adr p), some (.int f), some d, v, none, none, none], ⟨rfl, none, rfl⟩, ?_, ?_⟩
  · rintro i dd r2 O2 hi ⟨rfl, v, rfl⟩
    obtain ⟨hi, rfl⟩ := rngD_get.mp hi
    have h1 : i + 1 < ch.length := by omega
    have g1 := List.getElem?_eq_getElem h1
    have g0 := List.getElem?_eq_getElem (show i < ch.length by omega)
    have hlt := pw_get ok.up g0 g1 (by omega)
    refine gv_name (i := 3) ?_ nd
    refine ss_cons (s_if ?_)
    refine tv_cmp ?_
    refine ev_ix ?_
    refine ev_ix ?_
    refine ev_name (i := 2) rfl ?_
    refine ev_name (i := 3) rfl ?_
    refine ⟨_, (show (1 : Int) + (i : Int) = ((i + 1 : Nat) : Int) by omega) ▸ SP.ix _ _ _ g1, ?_⟩
    refine ev_int ?_
    refine ⟨_, xd_tup rfl, ?_⟩
    refine ev_ix ?_
    refine ev_ix ?_
    refine ev_name (i := 2) rfl ?_
    refine ev_op ?_
    refine ev_name (i := 3) rfl ?_
    refine ev_int ?_
    refine ⟨_, od_sub, ?_⟩
    refine ⟨_, (show (1 : Int) + (i : Int) - 1 = ((i : Nat) : Int) by omega) ▸ SP.ix _ _ _ g0, ?_⟩
    refine ev_int ?_
    refine ⟨_, xd_tup rfl, ?_⟩
    refine ⟨_, od_le, ?_⟩
    refine ⟨fun h => absurd (of_decide_eq_true h) (by omega), fun _ => ss_nil (ss_nil ?_)⟩
    exact ⟨rfl, _, rfl⟩
  · rintro r2 O2 ⟨rfl, v, rfl⟩
    refine ss_cons (s_fld ?_)
    refine ev_typ ?_ (W.fre _ (by decide +kernel)) boot_tuple
    refine av_cons (ev_name (i := 2) rfl ?_)
    refine av_nil ?_
    refine SP.tup _ _ ?_
    refine gv_attr (ev_name (i := 0) rfl ⟨p, .book, _, _, rfl, hO, W.cls _, W.nat (.book, "its_changes") (by decide), by decide, ?_⟩)
    refine ss_cons (s_fld ?_)
    refine ev_tup ?_
    refine av_cons (ev_name (i := 1) rfl ?_)
    refine av_star ?_
    refine ev_lcm pD decP decP_e [("moment", 5), ("price", 6)] nd hm (iv_val (ev_name (i := 2) rfl ⟨_, SP.it, ch, fun c => some (.int c.2), rfl, by omega, ?_, ?_⟩)) (show BlkOk N_Book_init (defScope d_Book_init.st) _ _ from blkOk_by (by decide +kernel))
    · rw [fm_some]
      refine ⟨_, .inr rfl, av_nil ⟨by simp; omega, ?_⟩⟩
      refine gv_attr (ev_name (i := 0) rfl ⟨p, .book, _, _, rfl, Om.put_same, W.cls _, W.nat (.book, "its_prices") (by decide), by decide, ?_⟩)
      refine ss_nil ?_
      rw [Om.put_put, List.append_nil]
      rw [show (f :: ch.map (·.2)).map D.int = D.int f :: ch.map (fun c => D.int c.2) by rw [List.map_cons, List.map_map]; rfl] at q
      exact q
    · intro s H C cl fp hh O2 sp c hc
      exact gv_tup hh (.inl rfl) (gvs_cons (gv_name (i := 5) (gvs_cons (gv_name (i := 6) (gvs_nil ⟨rfl, ext_set2 rfl rfl (by decide), tsv_nil ⟨rfl, rfl, ev_name (i := 6) rfl ⟨rfl, rfl⟩⟩⟩) nd)) nd))
end
end K97
/-! # data that may be compared -/
namespace K97
open PySem PySem.Spec PyProof.Rows L2
mutual
def D.gd : D → Bool
  | .non => true
  | .bl _ => true
  | .int _ => true
  | .str x => PyData.canLay0 (.str x)
  | .lst ds => D.gds ds
  | .tup ds => D.gds ds
  | .dict _ _ => false
  | .obj _ _ _ => false
  | .adr _ => false
  | .scr _ => false
  | .ty _ => false
def D.gds : List D → Bool
  | [] => true
  | d :: ds => d.gd && D.gds ds
end
mutual
def D.dp : D → Nat
  | .lst ds => D.dps ds + 1
  | .tup ds => D.dps ds + 1
  | _ => 0
def D.dps : List D → Nat
  | [] => 0
  | d :: ds => max d.dp (D.dps ds)
end
mutual
theorem gd_plain : ∀ {d : D}, d.gd = true → d.plain = true ∧ d.pd.canLay0 = true ∧ d.pd.depth = d.dp ∧ d.pd.hasDict = false
  | .non, _ => ⟨rfl, rfl, rfl, rfl⟩
  | .bl _, _ => ⟨rfl, rfl, rfl, rfl⟩
  | .int _, _ => ⟨rfl, rfl, rfl, rfl⟩
  | .str x, h => ⟨rfl, by rw [D.gd] at h; rw [D.pd]; exact h, rfl, rfl⟩
  | .lst ds, h => by
    rw [D.gd] at h
    obtain ⟨a, b, c, e⟩ := gds_plain h
    exact ⟨by rw [D.plain]; exact a, by rw [D.pd, PyData.canLay0]; exact b, by rw [D.pd, PyData.depth, D.dp, c], by rw [D.pd, PyData.hasDict]; exact e⟩
  | .tup ds, h => by
    rw [D.gd] at h
    obtain ⟨a, b, c, e⟩ := gds_plain h
    exact ⟨by rw [D.plain]; exact a, by rw [D.pd, PyData.canLay0]; exact b, by rw [D.pd, PyData.depth, D.dp, c], by rw [D.pd, PyData.hasDict]; exact e⟩
  | .dict _ _, h => by rw [D.gd] at h; cases h
  | .obj _ _ _, h => by rw [D.gd] at h; cases h
  | .adr _, h => by rw [D.gd] at h; cases h
  | .scr _, h => by rw [D.gd] at h; cases h
  | .ty _, h => by rw [D.gd] at h; cases h
theorem gds_plain : ∀ {ds : List D}, D.gds ds = true → D.plains ds = true ∧ PyData.canLayAll0 (D.pds ds) = true ∧ PyData.depthAll (D.pds ds) = D.dps ds ∧ PyData.hasDictAll (D.pds ds) = false
  | [], _ => ⟨rfl, rfl, rfl, rfl⟩
  | d :: ds, h => by
    rw [D.gds, Bool.and_eq_true] at h
    obtain ⟨a, b, c, e⟩ := gd_plain h.1
    obtain ⟨a2, b2, c2, e2⟩ := gds_plain h.2
    exact ⟨by rw [D.plains, a, a2]; rfl, by rw [D.pds, PyData.canLayAll0, b, b2]; rfl, by rw [D.pds, PyData.depthAll, D.dps, c, c2], by rw [D.pds, PyData.hasDictAll, e, e2]; rfl⟩
end
theorem gds_iff : ∀ {ds : List D}, D.gds ds = true ↔ ∀ d ∈ ds, d.gd = true
  | [] => by simp [D.gds]
  | d :: ds => by rw [D.gds, Bool.and_eq_true, gds_iff]; simp
theorem dps_le {n : Nat} : ∀ {ds : List D}, D.dps ds ≤ n ↔ ∀ d ∈ ds, d.dp ≤ n
  | [] => by simp [D.dps]
  | d :: ds => by
    rw [D.dps, Nat.max_le, dps_le]
    simp
theorem gd_ok {d : D} (h : d.gd = true) (hd : d.dp ≤ 64) : d.ok = true := by
  obtain ⟨a, b, c, _⟩ := gd_plain h
  unfold D.ok SeqAt.shaped
  rw [a, b, c]
  simpa using hd
theorem eqv_self {d : D} (h : d.gd = true) : PyData.eqv d.pd d.pd = true := PySem.SeqAt.eqv_refl _ (gd_plain h).2.1
theorem gd_ints {ms : List Int} : (D.lst (ms.map .int)).gd = true := by
  rw [D.gd, gds_iff]
  intro d hd
  obtain ⟨m, _, rfl⟩ := List.mem_map.mp hd
  rfl
theorem dp_ints {ms : List Int} : (D.lst (ms.map .int)).dp ≤ 1 := by
  rw [D.dp]
  have : D.dps (ms.map .int) ≤ 0 := dps_le.mpr fun d hd => by
    obtain ⟨m, _, rfl⟩ := List.mem_map.mp hd
    exact Nat.le_refl 0
  omega
theorem ok_ints {ms : List Int} : (D.lst (ms.map .int)).ok = true := gd_ok gd_ints (Nat.le_trans dp_ints (by decide))
theorem ok_intsT {ms : List Int} : (D.tup (ms.map .int)).ok = true := gd_ok gd_ints (Nat.le_trans dp_ints (by decide))
theorem gd_pairs {ms : List (Int × Int)} : (D.lst (ms.map pD)).gd = true := by
  rw [D.gd, gds_iff]
  intro d hd
  obtain ⟨m, _, rfl⟩ := List.mem_map.mp hd
  rfl
theorem dp_pairs {ms : List (Int × Int)} : (D.lst (ms.map pD)).dp ≤ 2 := by
  rw [D.dp]
  have : D.dps (ms.map pD) ≤ 1 := dps_le.mpr fun d hd => by
    obtain ⟨m, _, rfl⟩ := List.mem_map.mp hd
    exact Nat.le_refl 1
  omega
theorem ok_pairs {ms : List (Int × Int)} : (D.lst (ms.map pD)).ok = true := gd_ok gd_pairs (Nat.le_trans dp_pairs (by decide))
theorem ok_pairsT {ms : List (Int × Int)} : (D.tup (ms.map pD)).ok = true := gd_ok gd_pairs (Nat.le_trans dp_pairs (by decide))
theorem ok_nil : (D.lst []).ok = true := gd_ok rfl (by decide)
/-- a list compared with the empty one -/
theorem eqv_nil {ds : List D} : PyData.eqv (D.lst ds).pd (D.lst []).pd = decide (ds = []) := by
  cases ds with
  | nil => rfl
  | cons d ds => rfl
end K97
/-! # Walk D: Book's methods -/
namespace K97
open PySem PySem.Spec PyProof.Rows L2
section
variable {P : Program} {w : World} {K : PySem.W.Frag} {mg : Str → Option Value} {base : Heap}
theorem mk_book1 (W : Wd P w K mg base) : Mkr P w K mg base .heat 4 .book [.tup []] S_Book_init :=
  W.mk1 11 (d := d_Book_init) sc_Book_init rfl rfl (by decide +kernel) (by decide) 2 0 rfl (fun T kV doc pm an cdv ct us its h1 h2 => match us, h1, its, h2 with | [a, b], _, [c], _ => ⟨_, rfl, rfl⟩) _ (fun F => .cons (W.bkd F) .nil) (fun ds O Q QE h => S_Book_init_len h) (b_Book_init W)
theorem mk_book2 (W : Wd P w K mg base) : Mkr P w K mg base .heat 4 .book [] S_Book_init :=
  W.mk1 11 (d := d_Book_init) sc_Book_init rfl rfl (by decide +kernel) (by decide) 3 1 rfl (fun T kV doc pm an cdv ct us its h1 h2 => match us, h1, its, h2 with | [a, b, e], _, [c], _ => ⟨_, rfl, rfl⟩) _ (fun F => .nil) (fun ds O Q QE h => S_Book_init_len h) (b_Book_init W)
section
variable {X : Cx} {F0 : Hp} {r : Rho} {O : Om} {Q : D → Om → Prop} {e : Expr} {pos : Pos} {f : Int} {ch : List (Int × Int)}
/-- book.its_changes, book.its_prices -/
theorem fld_bc (W : Wd X.prog X.w X.K X.mg X.base) (h : Ev X F0 e r O fun d O1 => ∃ f ch, d = bkD f ch ∧ Q (.tup (ch.map pD)) O1) (hb : attributeBase e "its_changes" X.env (eval e X.env) = eval e X.env := by rfl) : Ev X F0 (.Attribute e "its_changes" pos) r O Q :=
  ev_fld (h.mono fun d O1 ⟨f, ch, ed, q⟩ => ⟨.book, _, _, _, .inl ed, W.cls _, W.nat (.book, "its_changes") (by decide), rfl, q⟩) hb
theorem fld_bp (W : Wd X.prog X.w X.K X.mg X.base) (h : Ev X F0 e r O fun d O1 => ∃ f ch, d = bkD f ch ∧ Q (.tup ((f :: ch.map (·.2)).map .int)) O1) (hb : attributeBase e "its_prices" X.env (eval e X.env) = eval e X.env := by rfl) : Ev X F0 (.Attribute e "its_prices" pos) r O Q :=
  ev_fld (h.mono fun d O1 ⟨f, ch, ed, q⟩ => ⟨.book, _, _, _, .inl ed, W.cls _, W.nat (.book, "its_prices") (by decide), rfl, q⟩) hb
end
def S_Book_len : SpD := fun ds O Q _ => ∃ f ch, ds = [bkD f ch] ∧ Q (.int (ch.length + 1)) O
theorem S_Book_len_len {ds O Q QE} (h : S_Book_len ds O Q QE) : ds.length = 1 := by obtain ⟨f, ch, e, _⟩ := h; rw [e]; rfl
theorem f_Book_len (W : Wd P w K mg base) : Fm P w K mg base .any 1 .book "__len__" S_Book_len := by
  refine W.fm 12 (d := d_Book_len) sc_Book_len rfl rfl (by decide +kernel) rfl (fun _ _ _ _ _ _ us hl => match us, hl with | [_], _ => rfl) (fun ds O Q QE h => S_Book_len_len h) ?_
  rintro cdv A outer s H E F0 ds O Q QE hm hr xe ⟨f, ch, rfl, q⟩
  refine ss_cons (s_ret ?_)
  refine ev_blt ?_ (W.fre _ (by decide +kernel)) boot_len
  refine av_cons (fld_bp W (ev_name (i := 0) rfl ⟨f, ch, rfl, ?_⟩))
  refine av_nil ?_
  refine cl_len_tup ?_
  refine iq ?_ q
  simp
def S_Book_getitem : SpD := fun ds O Q _ => ∃ f ch i p, ds = [bkD f ch, .int i] ∧ (f :: ch.map (·.2))[i.toNat]? = some p ∧ 0 ≤ i ∧ Q (.int p) O
theorem S_Book_getitem_len {ds O Q QE} (h : S_Book_getitem ds O Q QE) : ds.length = 2 := by obtain ⟨f, ch, i, p, e, _⟩ := h; rw [e]; rfl
theorem f_Book_getitem (W : Wd P w K mg base) : Fm P w K mg base .any 4 .book "__getitem__" S_Book_getitem := by
  refine W.fm 13 (d := d_Book_getitem) sc_Book_getitem rfl rfl (by decide +kernel) rfl (fun _ _ _ _ _ _ us hl => match us, hl with | [_, _], _ => rfl) (fun ds O Q QE h => S_Book_getitem_len h) ?_
  rintro cdv A outer s H E F0 ds O Q QE hm hr xe ⟨f, ch, i, p, rfl, hp, h0, q⟩
  have hl := (List.getElem?_eq_some_iff.mp hp).1
  have hz : (i.toNat : Int) = i := by omega
  rw [List.length_cons, List.length_map] at hl
  refine ss_cons (s_if ?_)
  refine tv_not ?_
  refine tv_val ?_
  refine ev_call (f_is_index W) (hr.mono (by decide)) trivial xer0 ?_
  refine av_cons (ev_name (i := 1) rfl ?_)
  refine av_cons (ev_blt ?_ (W.fre _ (by decide +kernel)) boot_len)
  refine av_cons (fld_bp W (ev_name (i := 0) rfl ⟨f, ch, rfl, ?_⟩))
  refine av_nil ?_
  refine cl_len_tup ?_
  refine av_nil ?_
  refine ⟨_, _, rfl, _, rfl, ?_⟩
  refine ⟨fun h => absurd h (by simp; omega), fun _ => ss_nil ?_⟩
  refine ss_cons (s_ret ?_)
  refine ev_ix ?_
  refine fld_bp W (ev_name (i := 0) rfl ⟨f, ch, rfl, ?_⟩)
  refine ev_name (i := 1) rfl ⟨_, ?_, q⟩
  rw [← hz]
  exact xd_tup (atI_nat (getmap hp))
def S_Book_eq : SpD := fun ds O Q _ => ∃ f ch, ds = [bkD f ch, bkD f ch] ∧ Q (.bl true) O
theorem S_Book_eq_len {ds O Q QE} (h : S_Book_eq ds O Q QE) : ds.length = 2 := by obtain ⟨f, ch, e, _⟩ := h; rw [e]; rfl
theorem f_Book_eq (W : Wd P w K mg base) : Fm P w K mg base .any 1 .book "__eq__" S_Book_eq := by
  refine W.fm 14 (d := d_Book_eq) sc_Book_eq rfl rfl (by decide +kernel) rfl (fun _ _ _ _ _ _ us hl => match us, hl with | [_, _], _ => rfl) (fun ds O Q QE h => S_Book_eq_len h) ?_
  rintro cdv A outer s H E F0 ds O Q QE hm hr xe ⟨f, ch, rfl, q⟩
  refine ss_cons (s_if ?_)
  refine tv_not ?_
  refine tv_val ?_
  refine ev_blt ?_ (W.fre _ (by decide +kernel)) boot_isinstance
  refine av_cons (ev_name (i := 1) rfl ?_)
  refine av_cons (ev_glob (d := .adr (ca K .book)) (v := .ref (ca K .book)) (W.glo "Book" (by decide +kernel)) rfl (fun F => rep_adr.mpr rfl) ?_)
  refine av_nil ?_
  refine cl_isC (c := .book) (.inl rfl) (W.isi _) W.kit ?_
  refine ⟨true, rfl, nofun, fun _ => ss_nil ?_⟩
  refine ss_cons (s_ret ?_)
  refine ev_and ?_
  refine ev_cmp ?_
  refine fld_bp W (ev_name (i := 0) rfl ⟨f, ch, rfl, ?_⟩)
  refine fld_bp W (ev_name (i := 1) rfl ⟨f, ch, rfl, ?_⟩)
  refine ⟨_, od_eq hr.u64 ok_intsT ok_intsT, _, rfl, fun _ => ?_, fun h => absurd h (by rw [eqv_self (by rw [D.gd]; exact gd_ints)]; decide)⟩
  refine ev_one ?_
  refine ev_cmp ?_
  refine fld_bc W (ev_name (i := 0) rfl ⟨f, ch, rfl, ?_⟩)
  refine fld_bc W (ev_name (i := 1) rfl ⟨f, ch, rfl, ?_⟩)
  refine ⟨_, od_eq hr.u64 ok_pairsT ok_pairsT, bq ?_ q⟩
  rw [eqv_self (by rw [D.gd]; exact gd_pairs)]
def S_Book_changes : SpD := fun ds O Q _ => ∃ f ch, ds = [bkD f ch] ∧ Q (.lst (ch.map pD)) O
theorem S_Book_changes_len {ds O Q QE} (h : S_Book_changes ds O Q QE) : ds.length = 1 := by obtain ⟨f, ch, e, _⟩ := h; rw [e]; rfl
theorem f_Book_changes (W : Wd P w K mg base) : Fm P w K mg base .any 1 .book "changes" S_Book_changes := by
  refine W.fm 15 (d := d_Book_changes) sc_Book_changes rfl rfl (by decide +kernel) rfl (fun _ _ _ _ _ _ us hl => match us, hl with | [_], _ => rfl) (fun ds O Q QE h => S_Book_changes_len h) ?_
  rintro cdv A outer s H E F0 ds O Q QE hm hr xe ⟨f, ch, rfl, q⟩
  refine ss_cons (s_ret ?_)
  refine ev_typ ?_ (W.fre _ (by decide +kernel)) boot_list
  refine av_cons (fld_bc W (ev_name (i := 0) rfl ⟨f, ch, rfl, ?_⟩))
  refine av_nil ?_
  refine cl_list_tup q
def S_Book_moments : SpD := fun ds O Q _ => ∃ f ch, ds = [bkD f ch] ∧ ch.length ≤ 1000 ∧ Q (.lst ((ch.map (·.1)).map .int)) O
theorem S_Book_moments_len {ds O Q QE} (h : S_Book_moments ds O Q QE) : ds.length = 1 := by obtain ⟨f, ch, e, _⟩ := h; rw [e]; rfl
theorem f_Book_moments (W : Wd P w K mg base) : Fm P w K mg base .heat 1 .book "moments" S_Book_moments := by
  refine W.fm 16 (d := d_Book_moments) sc_Book_moments rfl rfl (by decide +kernel) rfl (fun _ _ _ _ _ _ us hl => match us, hl with | [_], _ => rfl) (fun ds O Q QE h => S_Book_moments_len h) ?_
  rintro cdv A outer s H E F0 ds O Q QE hm hr xe ⟨f, ch, rfl, hl, q⟩
  have nd : N_Book_moments.Nodup := by decide
  refine ss_cons (s_ret (ev_lcm pD decP decP_e [("moment", 1), ("price", 2)] nd hm (iv_val (fld_bc W (ev_name (i := 0) rfl ⟨f, ch, rfl, _, rfl, ch, fun c => some (.int c.1), rfl, by omega, ?_, ?_⟩))) (show BlkOk N_Book_moments (defScope d_Book_moments.st) _ _ from blkOk_by (by decide +kernel))))
  · rw [fm_some]
    rw [List.map_map] at q
    exact q
  · intro s H C cl fp hh O2 sp c hc
    exact gv_tup hh (.inl rfl) (gvs_cons (gv_name (i := 1) (gvs_cons (gv_name (i := 2) (gvs_nil ⟨rfl, ext_set2 rfl rfl (by decide), tsv_nil ⟨rfl, rfl, ev_name (i := 1) rfl ⟨rfl, rfl⟩⟩⟩) nd)) nd))
end
end K97
/-! # numbers as texts -/
namespace K97
open PySem PySem.Spec PyProof.Rows L2 TL
/-- a number of at most 40 figures -/
def Nm (i : Int) : Prop := i.natAbs < 10 ^ 40
theorem Nm.sm {i : Int} (h : Nm i) : Sm i := Nat.lt_trans h (by decide +kernel)
theorem tl_pos {i : Int} (h : 0 ≤ i) : tl (iS i) = numL i.natAbs := by
  have e : i = ((i.natAbs : Nat) : Int) := by omega
  conv => lhs; rw [e]
  exact tl_num _
theorem iS_neg {i : Int} (h : i < 0) : iS i = "-" ++ iS (-i) := by
  apply ext_tl
  rw [tl_append]
  have e : toString i = "-" ++ toString (-i) := by
    obtain ⟨m, rfl⟩ := Int.eq_negSucc_of_lt_zero h
    rfl
  show tl (Str.ofString (toString i)) = _
  rw [e]
  show (Str.ofString ("-" ++ toString (-i))).cps.toList = (Str.ofString "-").cps.toList ++ (Str.ofString (toString (-i))).cps.toList
  simp only [Str.ofString_eq_toList, String.toList_append, List.map_append]
theorem numL_head : ∀ n : Nat, n = 0 ∨ ∃ c r, numL n = c :: r ∧ 49 ≤ c := by
  intro n
  induction n using Nat.strongRecOn with
  | _ n ih =>
    by_cases h : n < 10
    · by_cases h0 : n = 0
      · exact .inl h0
      · exact .inr ⟨48 + n, [], numL_lt h, by omega⟩
    · right
      rcases ih (n / 10) (by omega) with e | ⟨c, r, e, hc⟩
      · omega
      · exact ⟨c, r ++ [48 + n % 10], by rw [numL_step (by omega), e]; rfl, hc⟩
theorem int_text {i : Int} (h : Nm i) : intText? (iS i) = some i := by
  have hl : (numL i.natAbs).length ≤ 40 := numL_len (by decide) h
  by_cases h0 : 0 ≤ i
  · have e : i = ((i.natAbs : Nat) : Int) := by omega
    have := int_num (n := i.natAbs) (by omega)
    rw [← e] at this
    exact this
  · have e : i = -((i.natAbs : Nat) : Int) := by omega
    have hx : tl (iS i) = 45 :: numL i.natAbs := by
      rw [iS_neg (by omega), tl_append, tl_pos (by omega), Int.natAbs_neg]
      rfl
    have := PySem.intText_neg (x := iS i) hx (numL_digits _) (numL_ne _) (by rw [len_tl, hx, List.length_cons]; omega)
    rw [numL_val] at this
    rw [this, ← e]
theorem len_iS {i : Int} (h : Nm i) : (iS i).length ≤ 41 := by
  have hl : (numL i.natAbs).length ≤ 40 := numL_len (by decide) h
  by_cases h0 : 0 ≤ i
  · rw [len_tl, tl_pos h0]; omega
  · rw [iS_neg (by omega), len_tl, tl_append, tl_pos (by omega), Int.natAbs_neg, List.length_append]
    have : (tl (Str.ofString "-")).length = 1 := by decide +kernel
    omega
end K97
/-! # Walk E: with_change, number texts -/
namespace K97
open PySem PySem.Spec PyProof.Rows L2 TL
section
variable {P : Program} {w : World} {K : PySem.W.Frag} {mg : Str → Option Value} {base : Heap}
def S_Book_with_change : SpD := fun ds O Q _ => ∃ f ch m p, ds = [bkD f ch, .int m, .int p] ∧ BkOk f (ch ++ [(m, p)]) ∧ Q (bkD f (ch ++ [(m, p)])) O
theorem S_Book_with_change_len {ds O Q QE} (h : S_Book_with_change ds O Q QE) : ds.length = 3 := by obtain ⟨f, ch, m, p, e, _⟩ := h; rw [e]; rfl
theorem f_Book_with_change (W : Wd P w K mg base) : Fm P w K mg base .cold 6 .book "with_change" S_Book_with_change := by
  refine W.fm 18 (d := d_Book_with_change) sc_Book_with_change rfl rfl (by decide +kernel) rfl (fun _ _ _ _ _ _ us hl => match us, hl with | [_, _, _], _ => rfl) (fun ds O Q QE h => S_Book_with_change_len h) ?_
  rintro cdv A outer s H E F0 ds O Q QE hm hr xe ⟨f, ch, m, p, rfl, ok, q⟩
  have nd : N_Book_with_change.Nodup := by decide
  have hp : 0 ≤ p := ok.c0 (m, p) (List.mem_append_right _ (List.mem_singleton.mpr rfl))
  have hup := List.pairwise_append.mp ok.up
  have hlt : ∀ c ∈ ch, c.1 < m := fun c hc => hup.2.2 c hc (m, p) (List.mem_singleton.mpr rfl)
  have hl : ch.length + 1 ≤ 200 := by have := ok.len; rw [List.length_append] at this; exact this
  have ht : Heat _ := ModeX.heat hm
  refine ss_cons (s_if ?_)
  refine tv_not ?_
  refine tv_val ?_
  refine ev_call (f_is_integer W) (hr.mono (by decide)) trivial xer0 ?_
  refine av_cons (ev_name (i := 1) rfl ?_)
  refine av_nil ?_
  refine ⟨m, rfl, ?_⟩
  refine ⟨true, rfl, nofun, fun _ => ss_nil ?_⟩
  refine ss_cons (s_if ?_)
  refine tv_not ?_
  refine tv_val ?_
  refine ev_call (f_is_price W) (hr.mono (by decide)) trivial xer0 ?_
  refine av_cons (ev_name (i := 2) rfl ?_)
  refine av_nil ?_
  refine ⟨p, rfl, ?_⟩
  refine ⟨_, rfl, fun h => absurd h (by simp [hp]), fun _ => ss_nil ?_⟩
  refine ss_cons (s_setLcm (i := 3) pD decP decP_e [("change", 4)] nd ht (iv_val (fld_bc W (ev_name (i := 0) rfl ⟨f, ch, rfl, _, rfl, ch, fun c => if (!decide (c.1 = m)) then some (pD c) else none, rfl, by omega, ?_, ?_⟩))) (show BlkOk N_Book_with_change (defScope d_Book_with_change.st) _ _ from blkOk_by (by decide +kernel)))
  rotate_left
  · intro s H C cl fp hh O2 sp c hc
    refine bd_if (i := 4) (tv_cmp (ev_ix (ev_name (i := 4) rfl (ev_int ⟨_, xd_tup rfl, ev_name (i := 1) rfl ⟨_, od_nei, rfl, rfl⟩⟩)))) (fun _ => ev_name (i := 4) rfl ⟨rfl, rfl⟩) nd
  rw [fm_if, List.filter_eq_self.mpr (fun c hc => by have := hlt c hc; simp; omega)]
  have z := mk_book2 W
  refine ss_cons (s_ret (ev_frz (ev_make (mk_book2 W) (hr.mono (by decide)) ht xer0 ?_)))
  refine av_cons (ev_ix (fld_bp W (ev_name (i := 0) rfl ⟨f, ch, rfl, ?_⟩)))
  refine ev_int ?_
  refine ⟨_, xd_tup (d := .int f) (atI_nat (i := 0) rfl), ?_⟩
  refine av_cons (ev_blt ?_ (W.fre _ (by decide +kernel)) boot_sorted)
  refine av_cons (ev_lst ?_)
  refine av_star ?_
  refine ev_name (i := 3) rfl ?_
  refine ⟨_, .inr rfl, ?_⟩
  refine av_cons (ev_tup ?_)
  refine av_cons (ev_name (i := 1) rfl ?_)
  refine av_cons (ev_name (i := 2) rfl ?_)
  refine av_nil ?_
  refine ⟨by show 2 ≤ 100000; decide, ?_⟩
  refine av_nil ?_
  refine ⟨by simp; omega, ?_⟩
  refine av_nil ?_
  have e : ch.map pD ++ [D.tup [.int m, .int p]] = (ch ++ [(m, p)]).map prD := by rw [List.map_append]; rfl
  rw [e]
  refine cl_sorted_id (ok.up.imp fun {a b} h => SrtO.lexB_no.mpr (by omega)) ?_
  refine av_nil fun a ha => ⟨a, f, ch ++ [(m, p)], _, rfl, .inr rfl, ok, Om.put_same, rfl, a, .book, _, _, rfl, Om.put_same, ?_⟩
  rw [Om.put_put, Om.put_del ha]
  exact q
/-! ## number texts -/
def decC : D → Option Nat
  | .str x => x.cps[0]?
  | _ => none
theorem decC_e (c : Nat) : decC (.str ⟨#[c]⟩) = some c := rfl
theorem figs {c : Nat} (h : c ∈ tl (Str.ofString "0123456789")) : 48 ≤ c ∧ c ≤ 57 := by
  have e : tl (Str.ofString "0123456789") = [48, 49, 50, 51, 52, 53, 54, 55, 56, 57] := by decide +kernel
  rw [e] at h
  simp at h
  omega
theorem figs' {c : Nat} (h : 48 ≤ c ∧ c ≤ 57) : c ∈ tl (Str.ofString "0123456789") := by
  have e : tl (Str.ofString "0123456789") = [48, 49, 50, 51, 52, 53, 54, 55, 56, 57] := by decide +kernel
  rw [e]
  simp
  omega
structure NumOk (x : Str) : Prop where
  dig : ∀ c ∈ tl x, 48 ≤ c ∧ c ≤ 57
  l1 : 1 ≤ x.length
  l2 : x.length ≤ 40
  hd : x = "0" ∨ ∃ c r, tl x = c :: r ∧ 49 ≤ c
structure NumBad (x : Str) : Prop where
  dig : ∃ c ∈ tl x, ¬ (48 ≤ c ∧ c ≤ 57)
  l1 : 1 ≤ x.length
  l2 : x.length ≤ 41
theorem numOk {n : Int} (h0 : 0 ≤ n) (h : Nm n) : NumOk (iS n) := by
  have e := tl_pos h0
  have hl : (numL n.natAbs).length ≤ 40 := numL_len (by decide) h
  have h1 := numL_ne n.natAbs
  refine ⟨fun c hc => by rw [e] at hc; exact numL_digits _ c hc, by rw [len_tl, e]; exact Nat.pos_of_ne_zero (fun z => h1 (List.length_eq_zero_iff.mp z)), by rw [len_tl, e]; exact hl, ?_⟩
  rcases numL_head n.natAbs with z | z
  · left
    have : n = 0 := by omega
    subst this
    decide +kernel
  · right; rw [e]; exact z
theorem numBad {n : Int} (h0 : n < 0) (h : Nm n) : NumBad (iS n) := by
  have e : tl (iS n) = 45 :: tl (iS (-n)) := by
    rw [iS_neg h0, tl_append]
    rfl
  exact ⟨⟨45, by rw [e]; exact List.mem_cons_self, by omega⟩, by rw [len_tl, e, List.length_cons]; omega, len_iS h⟩
def S_is_number_text : SpD := fun ds O Q _ => ∃ x b, ds = [.str x] ∧ ((NumOk x ∧ b = true) ∨ (NumBad x ∧ b = false)) ∧ Q (.bl b) O
theorem S_is_number_text_len {ds O Q QE} (h : S_is_number_text ds O Q QE) : ds.length = 1 := by obtain ⟨x, b, e, _⟩ := h; rw [e]; rfl
theorem all_figs {x : Str} (h : ∀ c ∈ tl x, 48 ≤ c ∧ c ≤ 57) : ((tl x).map fun c => decide (c ∈ tl (Str.ofString "0123456789"))).all id = true := by
  rw [List.all_eq_true]
  intro b hb
  obtain ⟨c, hc, rfl⟩ := List.mem_map.mp hb
  exact decide_eq_true (figs' (h c hc))
theorem not_figs {x : Str} (h : ∃ c ∈ tl x, ¬ (48 ≤ c ∧ c ≤ 57)) : ((tl x).map fun c => decide (c ∈ tl (Str.ofString "0123456789"))).all id = false := by
  obtain ⟨c, hc, hn⟩ := h
  rw [List.all_eq_false]
  exact ⟨_, List.mem_map.mpr ⟨c, hc, rfl⟩, by simpa using fun z => hn (figs z)⟩
theorem f_is_number_text (W : Wd P w K mg base) : Fg P w K mg base .heat 1 "is_number_text" S_is_number_text := by
  refine W.fg 19 (d := d_is_number_text) sc_is_number_text rfl rfl (by decide +kernel) rfl (fun _ _ _ _ _ _ us hl => match us, hl with | [_], _ => rfl) (fun ds O Q QE h => S_is_number_text_len h) ?_
  rintro cdv A outer s H E F0 ds O Q QE hm hr xe ⟨x, b, rfl, hx, q⟩
  have nd : N_is_number_text.Nodup := by decide
  have l1 : 1 ≤ x.length := by rcases hx with ⟨h, _⟩ | ⟨h, _⟩ <;> exact h.l1
  have l2 : x.length ≤ 41 := by rcases hx with ⟨h, _⟩ | ⟨h, _⟩; (have := h.l2; omega); exact h.l2
  refine ss_cons (s_if ?_)
  refine tv_w ?_
  refine tw_or ?_
  refine tv_not ?_
  refine tv_chain (ev_int ?_)
  refine ev_blt ?_ (W.fre _ (by decide +kernel)) boot_len
  refine av_cons (ev_name (i := 0) rfl ?_)
  refine av_nil ?_
  refine cl_len_str (by omega) ?_
  refine ⟨_, od_le, fun h1 => ev_int ⟨_, od_le, fun h2 => ?_, fun h2 => ?_⟩, fun h1 => absurd (of_decide_eq_false h1) (by omega)⟩
  · refine tw_or1 ?_
    refine tv_not ?_
    refine tv_val ?_
    refine ev_blt ?_ (W.fre _ (by decide +kernel)) boot_all
    refine av_cons (ev_lcm (fun c => D.str ⟨#[c]⟩) decC decC_e [("sign", 1)] nd hm (iv_val (ev_name (i := 0) rfl ⟨_, rfl, tl x, fun c => some (.bl (decide (c ∈ tl (Str.ofString "0123456789")))), rfl, by rw [← len_tl]; omega, ?_, ?_⟩)) (show BlkOk N_is_number_text (defScope d_is_number_text.st) _ _ from blkOk_by (by decide +kernel)))
    rotate_left
    · intro s H C cl fp hh O2 sp c hc
      exact bd_name (i := 1) (ev_cmp (ev_name (i := 1) rfl (ev_str ⟨_, od_in_sign, rfl, rfl⟩))) nd
    rw [fm_some]
    refine av_nil ?_
    rw [show ((tl x).map fun c => D.bl (decide (c ∈ tl (Str.ofString "0123456789")))) = ((tl x).map fun c => decide (c ∈ tl (Str.ofString "0123456789"))).map D.bl by rw [List.map_map]; rfl]
    refine cl_all hm ⟨_, rfl, fun h3 => ?_, fun h3 => ss_nil ?_⟩
    · rcases hx with ⟨h, rfl⟩ | ⟨h, rfl⟩
      · rw [all_figs h.dig] at h3; cases h3
      · exact ss_cons (s_ret (ev_bl q))
    · rcases hx with ⟨h, rfl⟩ | ⟨h, rfl⟩
      · refine ss_cons (s_ret ?_)
        refine ev_or ?_
        refine ev_cmp ?_
        refine ev_name (i := 0) rfl ?_
        refine ev_str ?_
        refine ⟨_, od_eqs, _, rfl, fun h4 => ?_, fun h4 => q⟩
        rcases h.hd with e | ⟨c, r, e, hc⟩
        · rw [e] at h4; exact absurd (of_decide_eq_false h4) (by simp)
        · refine ev_one ?_
          refine ev_cmp ?_
          refine ev_ix ?_
          refine ev_name (i := 0) rfl ?_
          refine ev_int ?_
          refine ⟨_, xd_str (by omega) (c := c) (atI_nat (i := 0) (by show (tl x)[0]? = _; rw [e]; rfl)), ev_str ⟨_, od_nes, bq ?_ q⟩⟩
          have : ¬ ((⟨#[c]⟩ : Str) = Str.ofString "0") := fun z => by
            have z2 := congrArg tl z
            have z3 : tl (Str.ofString "0") = [48] := by decide +kernel
            rw [z3] at z2
            have z4 : [c] = [48] := z2
            injection z4 with z5
            omega
          rw [decide_eq_false this]; rfl
      · rw [not_figs h.dig] at h3; cases h3
  · rcases hx with ⟨h, rfl⟩ | ⟨h, rfl⟩
    · exact absurd h2 (by have := h.l2; simp; omega)
    · exact ⟨fun _ => ss_cons (s_ret (ev_bl q)), nofun⟩
end
end K97
/-! # Walk F: moments, sightings read -/
namespace K97
open PySem PySem.Spec PyProof.Rows L2 TL
abbrev jn (ws : List Str) : Str := Txt.join " " ws
def Fr (x : Str) : Prop := 32 ∉ tl x
theorem tl_sp : tl (Str.ofString " ") = [32] := by decide +kernel
theorem split_jn {ws : List Str} (hne : ws ≠ []) (h : ∀ x ∈ ws, Fr x) : Txt.split (jn ws) " " = ws := split_join tl_sp (by decide +kernel) hne h
theorem fr_iS {n : Int} : Fr (iS n) := int_text_free' 32 ⟨by decide, by decide⟩ n
theorem fr_at : Fr (Str.ofString "at") := by show 32 ∉ tl _; decide +kernel
theorem tl_jn (ws : List Str) : tl (jn ws) = joinL [32] (ws.map tl) := by
  show tl (Txt.join " " ws) = _
  rw [join_eq, tl_join, tl_sp]
theorem jn_len : ∀ {ws : List Str} {n : Nat}, (∀ x ∈ ws, x.length ≤ n) → (jn ws).length ≤ ws.length * (n + 1) := by
  intro ws n h
  rw [len_tl, tl_jn]
  induction ws with
  | nil => simp [joinL]
  | cons x r ih =>
    have h1 : (tl x).length ≤ n := by rw [← len_tl]; exact h x List.mem_cons_self
    have h2 := ih fun y hy => h y (List.mem_cons_of_mem _ hy)
    cases r with
    | nil =>
      show (tl x).length ≤ 1 * (n + 1)
      omega
    | cons y r =>
      rw [List.map_cons, List.map_cons]
      show (tl x ++ ([32] ++ joinL [32] (tl y :: r.map tl))).length ≤ _
      rw [List.map_cons] at h2
      have e : (x :: y :: r).length * (n + 1) = (y :: r).length * (n + 1) + (n + 1) := by rw [List.length_cons, Nat.add_mul, Nat.one_mul]
      rw [List.length_append, List.length_append, e]
      simp only [List.length_singleton]
      omega
theorem jn2 (a b : Str) : jn [a, b] = a ++ " " ++ b := by
  apply ext_tl
  rw [tl_jn, tl_append, tl_append, tl_sp]
  simp [joinL]
theorem jn_cons (a b : Str) (r : List Str) : jn (a :: b :: r) = a ++ " " ++ jn (b :: r) := by
  apply ext_tl
  rw [tl_jn, tl_append, tl_append, tl_jn, tl_sp]
  simp [joinL]
theorem sight_jn (c : Int × Int) : tSight c = jn [iS c.2, "at", iS c.1] := by
  apply ext_tl
  rw [tl_jn]
  show tl (iS c.2 ++ Str.ofString " at " ++ iS c.1) = _
  rw [tl_append, tl_append]
  have e1 : tl (Str.ofString " at ") = [32, 97, 116, 32] := by decide +kernel
  have e2 : tl (Str.ofString "at") = [97, 116] := by decide +kernel
  rw [e1]
  simp [joinL, e2]
section
variable {P : Program} {w : World} {K : PySem.W.Frag} {mg : Str → Option Value} {base : Heap}
theorem cut_lo {x : Str} {c : Nat} {r : List Nat} (h : tl x = c :: r) : cutS x none (some 1) = ⟨#[c]⟩ := by
  apply ext_tl
  have hl : x.length = r.length + 1 := by rw [len_tl, h]; rfl
  unfold cutS
  show ((tl x).drop _).take _ = [c]
  have e1 : HT.sIx x.length 0 none = 0 := rfl
  have e2 : HT.sIx x.length x.length (some 1) = 1 := by rw [hl]; unfold HT.sIx; simp
  rw [e1, e2, h]
  rfl
theorem cut_hi {x : Str} {c : Nat} {r : List Nat} (h : tl x = c :: r) : tl (cutS x (some 1) none) = r := by
  have hl : x.length = r.length + 1 := by rw [len_tl, h]; rfl
  unfold cutS
  show ((tl x).drop _).take _ = r
  have e1 : HT.sIx x.length 0 (some 1) = 1 := by rw [hl]; unfold HT.sIx; simp
  have e2 : HT.sIx x.length x.length none = x.length := rfl
  rw [e1, e2, h, hl]
  simp
def S_is_moment_text : SpD := fun ds O Q _ => ∃ n, ds = [.str (iS n)] ∧ Nm n ∧ Q (.bl true) O
theorem S_is_moment_text_len {ds O Q QE} (h : S_is_moment_text ds O Q QE) : ds.length = 1 := by obtain ⟨x, e, _⟩ := h; rw [e]; rfl
theorem f_is_moment_text (W : Wd P w K mg base) : Fg P w K mg base .heat 2 "is_moment_text" S_is_moment_text := by
  refine W.fg 20 (d := d_is_moment_text) sc_is_moment_text rfl rfl (by decide +kernel) rfl (fun _ _ _ _ _ _ us hl => match us, hl with | [_], _ => rfl) (fun ds O Q QE h => S_is_moment_text_len h) ?_
  rintro cdv A outer s H E F0 ds O Q QE hm hr xe ⟨n, rfl, hn, q⟩
  have hl := len_iS hn
  have hl1 : (iS n).length ≤ 1000000 := by omega
  by_cases h0 : 0 ≤ n
  · refine ss_cons (s_ret ?_)
    refine ev_or ?_
    refine ev_call (f_is_number_text W) (hr.mono (by decide)) hm xer0 ?_
    refine av_cons (ev_name (i := 0) rfl ?_)
    refine av_nil ?_
    exact ⟨_, true, rfl, .inl ⟨numOk h0 hn, rfl⟩, true, rfl, nofun, fun _ => q⟩
  · have hm' : Nm (-n) := by unfold Nm at hn ⊢; rw [Int.natAbs_neg]; exact hn
    have e : tl (iS n) = 45 :: tl (iS (-n)) := by rw [iS_neg (by omega), tl_append]; rfl
    refine ss_cons (s_ret ?_)
    refine ev_or ?_
    refine ev_call (f_is_number_text W) (hr.mono (by decide)) hm xer0 ?_
    refine av_cons (ev_name (i := 0) rfl ?_)
    refine av_nil ?_
    refine ⟨_, false, rfl, .inr ⟨numBad (by omega) hn, rfl⟩, false, rfl, fun _ => ?_, nofun⟩
    refine ev_one (ev_and (ev_cmp (ev_slice (ev_name (i := 0) rfl (pv_none (pv_some (ev_int ⟨_, rfl, _, sd_str hl1, ?_⟩)))))))
    rw [cut_lo e]
    refine ev_str ?_
    refine ⟨_, od_eqs, _, rfl, fun _ => ?_, fun h => absurd (of_decide_eq_false h) (by simp; decide +kernel)⟩
    refine ev_and ?_
    refine ev_cmp ?_
    refine ev_name (i := 0) rfl ?_
    refine ev_str ?_
    refine ⟨_, od_nes, _, rfl, fun _ => ?_, fun h => ?_⟩
    · refine ev_one (ev_call (f_is_number_text W) (hr.mono (by decide)) hm xer0 (av_cons (ev_slice (ev_name (i := 0) rfl (pv_some (ev_int ⟨_, rfl, pv_none ⟨_, sd_str hl1, ?_⟩⟩))))))
      have e2 : cutS (iS n) (some 1) none = iS (-n) := ext_tl (cut_hi e)
      rw [e2]
      exact av_nil ⟨_, true, rfl, .inl ⟨numOk (by omega) hm', rfl⟩, q⟩
    · exfalso
      have e3 : iS n = Str.ofString "-0" := by simpa using h
      have e4 := congrArg tl e3
      rw [e] at e4
      have e5 : tl (Str.ofString "-0") = [45, 48] := by decide +kernel
      rw [e5] at e4
      injection e4 with _ e6
      rw [tl_pos (by omega)] at e6
      have e7 : numL 0 = [48] := numL_lt (by decide)
      rw [← e7] at e6
      have := numL_inj e6
      omega
end
end K97
/-! # Walk G: sightings and deeds read -/
namespace K97
open PySem PySem.Spec PyProof.Rows L2 TL
section
variable {P : Program} {w : World} {K : PySem.W.Frag} {mg : Str → Option Value} {base : Heap}
abbrev sWords (c : Int × Int) : List Str := [iS c.2, "at", iS c.1]
def S_sighting_in : SpD := fun ds O Q _ => (∃ c : Int × Int, ds = [.str (jn (sWords c))] ∧ 0 ≤ c.2 ∧ Nm c.1 ∧ Nm c.2 ∧ Q (pD c) O) ∨
  ∃ ws : List Str, ds = [.str (jn ws)] ∧ ws ≠ [] ∧ (∀ x ∈ ws, Fr x) ∧ ws.length ≠ 3 ∧ (jn ws).length ≤ 100000 ∧ Q .non O
theorem S_sighting_in_len {ds O Q QE} (h : S_sighting_in ds O Q QE) : ds.length = 1 := by rcases h with ⟨f, e, _⟩ | ⟨f, e, _⟩ <;> (rw [e]; rfl)
theorem fr_sWords {c : Int × Int} : ∀ x ∈ sWords c, Fr x := by
  intro x hx
  simp only [List.mem_cons, List.not_mem_nil, or_false] at hx
  rcases hx with rfl | rfl | rfl
  · exact fr_iS
  · exact fr_at
  · exact fr_iS
theorem len_sWords {c : Int × Int} (h1 : Nm c.1) (h2 : Nm c.2) : (jn (sWords c)).length ≤ 1000 := by
  have h := jn_len (ws := sWords c) (n := 41) fun x hx => by
    simp only [List.mem_cons, List.not_mem_nil, or_false] at hx
    rcases hx with rfl | rfl | rfl
    · exact len_iS h2
    · show (Str.ofString "at").length ≤ 41; decide +kernel
    · exact len_iS h1
  have : (sWords c).length * (41 + 1) = 126 := rfl
  omega
theorem f_sighting_in (W : Wd P w K mg base) : Fg P w K mg base .heat 3 "sighting_in" S_sighting_in := by
  refine W.fg 21 (d := d_sighting_in) sc_sighting_in rfl rfl (by decide +kernel) rfl (fun _ _ _ _ _ _ us hl => match us, hl with | [_], _ => rfl) (fun ds O Q QE h => S_sighting_in_len h) ?_
  rintro cdv A outer s H E F0 ds O Q QE hm hr xe h
  have nd : N_sighting_in.Nodup := by decide
  rcases h with ⟨c, rfl, h0, n1, n2, q⟩ | ⟨ws, rfl, hne, hf, h3, hl, q⟩
  · have hl := len_sWords n1 n2
    refine ss_cons (s_set (i := 1) (ev_bm PySem.F.plainAttrs_str PySem.F.slot_str_split PySem.F.type_str_split (ev_name (i := 0) rfl ⟨rfl, av_cons (ev_str (av_nil (md_split (by decide +kernel) (by omega) ?_)))⟩)) nd)
    rw [split_jn (by simp) fr_sWords]
    refine ss_cons (s_if ?_)
    refine tv_w ?_
    refine tw_or ?_
    refine tv_cmp ?_
    refine ev_blt ?_ (W.fre _ (by decide +kernel)) boot_len
    refine av_cons (ev_name (i := 1) rfl ?_)
    refine av_nil ?_
    refine cl_len_lst ?_
    refine ev_int ?_
    refine ⟨_, od_nei, fun _ => ?_, fun h => absurd h (by simp)⟩
    refine tw_or ?_
    refine tv_cmp ?_
    refine ev_ix ?_
    refine ev_name (i := 1) rfl ?_
    refine ev_int ?_
    refine ⟨_, xd_lst (d := .str "at") rfl, ?_⟩
    refine ev_str ?_
    refine ⟨_, od_nes, fun _ => ?_, fun h => absurd h (by simp)⟩
    refine tw_or ?_
    refine tv_not ?_
    refine tv_val ?_
    refine ev_call (f_is_number_text W) (hr.mono (by decide)) hm xer0 ?_
    refine av_cons (ev_ix (ev_name (i := 1) rfl (ev_int ⟨_, xd_lst (d := .str (iS c.2)) rfl, ?_⟩)))
    refine av_nil ?_
    refine ⟨_, true, rfl, .inl ⟨numOk h0 n2, rfl⟩, true, rfl, fun _ => ?_, nofun⟩
    refine tw_or1 ?_
    refine tv_not ?_
    refine tv_val ?_
    refine ev_call (f_is_moment_text W) (hr.mono (by decide)) hm xer0 ?_
    refine av_cons (ev_ix (ev_name (i := 1) rfl (ev_int ⟨_, xd_lst (d := .str (iS c.1)) rfl, ?_⟩)))
    refine av_nil ?_
    refine ⟨_, rfl, n1, true, rfl, nofun, fun _ => ss_nil ?_⟩
    have l1 := len_iS n1
    have l2 := len_iS n2
    refine ss_cons (s_ret ?_)
    refine ev_tup ?_
    refine av_cons (ev_typ ?_ (W.fre _ (by decide +kernel)) boot_int)
    refine av_cons (ev_ix (ev_name (i := 1) rfl (ev_int ⟨_, xd_lst (d := .str (iS c.1)) rfl, ?_⟩)))
    refine av_nil ?_
    refine cl_int_str (int_text n1) (Nat.le_trans l1 (by decide)) ?_
    refine av_cons (ev_typ ?_ (W.fre _ (by decide +kernel)) boot_int)
    refine av_cons (ev_ix (ev_name (i := 1) rfl (ev_int ⟨_, xd_lst (d := .str (iS c.2)) rfl, ?_⟩)))
    refine av_nil ?_
    refine cl_int_str (int_text n2) (Nat.le_trans l2 (by decide)) ?_
    exact av_nil ⟨by show 2 ≤ 100000; decide, q⟩
  · refine ss_cons (s_set (i := 1) (ev_bm PySem.F.plainAttrs_str PySem.F.slot_str_split PySem.F.type_str_split (ev_name (i := 0) rfl ⟨rfl, av_cons (ev_str (av_nil (md_split (by decide +kernel) (by omega) ?_)))⟩)) nd)
    rw [split_jn hne hf]
    refine ss_cons (s_if ?_)
    refine tv_w ?_
    refine tw_or ?_
    refine tv_cmp ?_
    refine ev_blt ?_ (W.fre _ (by decide +kernel)) boot_len
    refine av_cons (ev_name (i := 1) rfl ?_)
    refine av_nil ?_
    refine cl_len_lst ?_
    refine ev_int ?_
    refine ⟨_, od_nei, fun h => absurd h (by simp; omega), fun _ => ⟨fun _ => ss_cons (s_ret (ev_non q)), nofun⟩⟩
end
end K97
/-! # Walk H: read_deed -/
namespace K97
open PySem PySem.Spec PyProof.Rows L2 TL
section
variable {P : Program} {w : World} {K : PySem.W.Frag} {mg : Str → Option Value} {base : Heap}
theorem Wd.fgN (W : Wd P w K mg base) (i : Nat) {d : DefX} {x : Str} {k : Nat} {N ps : List Str} {S : SpD} (sc : FnScope N ps (defScope d.st)) (h : fn[i]? = some d) (hp : d.pa = .glo x) (hx : x ∈ gls) (hd : d.dfl = [])
    (hb : ∀ (kV doc pm : Value) (an : Option Addr) (cdv ct : Value) (us : List Value), us.length = ps.length → bindArgs (PySem.W.fnOf d.name d.qual (defArgs d.st) (defBody d.st) (defScope d.st) .none kV doc pm an cdv ct) ⟨us, []⟩ = pure (ps.zip us))
    (len : ∀ ds O QD QE, S ds O QD QE → ds.length = ps.length)
    (B : ∀ (cdv : Value) (A : Around) (outer : List PySem.Env) (s : Shared) (H : Hp) (E : XK) (F0 : Hp) (ds : List D) (O : Om) (QD : D → Om → Prop) (QE : Exn → Om → Prop),
      A.handled = none → RoomB k (cxN P w K mg base N d.qual (defScope d.st) (d.pa.ad K) cdv A outer s H E).A → (∀ r, XeRN (cxN P w K mg base N d.qual (defScope d.st) (d.pa.ad K) cdv A outer s H E) F0 r QE) → S ds O QD QE →
      Ssv (cxN P w K mg base N d.qual (defScope d.st) (d.pa.ad K) cdv A outer s H E) F0 (defBody d.st) (rho0 N ds) O { nx := fun _ O' => QD .non O', rt := QD }) : FgN P w K mg base (k + 1) x S := by
  obtain ⟨fd, F⟩ := W.def_ i h
  have e : d.dvs K = [] := by unfold DefX.dvs; rw [hd]; rfl
  refine ⟨d.pa.ad K, fd, ps, fn_dN F sc len B, ?_, F.kp, ?_⟩
  · rw [hp]; exact W.glo x hx
  · rw [e] at F; exact F.bindsN hb
abbrev kinds : List Str := ["change", "label", "till"]
theorem fr_kind {x : Str} (h : x ∈ kinds) : Fr x ∧ x.length ≤ 41 := by
  simp only [List.mem_cons, List.not_mem_nil, or_false] at h
  rcases h with rfl | rfl | rfl
  · exact ⟨by show 32 ∉ tl _; decide +kernel, by decide +kernel⟩
  · exact ⟨by show 32 ∉ tl _; decide +kernel, by decide +kernel⟩
  · exact ⟨by show 32 ∉ tl _; decide +kernel, by decide +kernel⟩
abbrev noText : Exn := ⟨"NoText", some ("index", .int 0)⟩
def S_read_deed : SpD := fun ds O Q QE => (∃ (wd : Str) (c : Int × Int), ds = [.str (jn (wd :: sWords c))] ∧ wd ∈ kinds ∧ 0 ≤ c.2 ∧ Nm c.1 ∧ Nm c.2 ∧ Q (dD (wd, c)) O) ∨
  ∃ a b c : Str, ds = [.str (jn [a, b, c])] ∧ (∀ x ∈ [a, b, c], Fr x ∧ x.length ≤ 41) ∧ QE noText O
theorem S_read_deed_len {ds O Q QE} (h : S_read_deed ds O Q QE) : ds.length = 1 := by rcases h with ⟨f, _, e, _⟩ | ⟨f, _, _, e, _⟩ <;> (rw [e]; rfl)
theorem f_read_deed (W : Wd P w K mg base) : FgN P w K mg base 4 "read_deed" S_read_deed := by
  refine W.fgN 22 (d := d_read_deed) sc_read_deed rfl rfl (by decide +kernel) rfl (fun _ _ _ _ _ _ us hl => match us, hl with | [_], _ => rfl) (fun ds O Q QE h => S_read_deed_len h) ?_
  intro cdv A outer s H E F0 ds O Q QE hA hr xe h
  have nd : N_read_deed.Nodup := by decide
  have hm : ModeX .heat (cxN P w K mg base N_read_deed d_read_deed.qual (defScope d_read_deed.st) (Pa.ad K d_read_deed.pa) cdv A outer s H E) := .inl hA
  have wds : ∀ F, Rep K F (.tup (kinds.map D.str)) (.ref (He.ga K "WORDS")) := W.wds
  rcases h with ⟨wd, c, rfl, hw, h0, n1, n2, q⟩ | ⟨a, b, c, rfl, hf, q⟩
  · have hfr : ∀ x ∈ wd :: sWords c, Fr x := fun x hx => (List.mem_cons.mp hx).elim (fun e => e ▸ (fr_kind hw).1) (fr_sWords x)
    have hl : (jn (wd :: sWords c)).length ≤ 1000 := by
      have h := jn_len (ws := wd :: sWords c) (n := 41) fun x hx => by
        simp only [List.mem_cons, List.not_mem_nil, or_false] at hx
        rcases hx with rfl | rfl | rfl | rfl
        · exact (fr_kind hw).2
        · exact len_iS n2
        · show (Str.ofString "at").length ≤ 41; decide +kernel
        · exact len_iS n1
      have : (wd :: sWords c).length * (41 + 1) = 168 := rfl
      omega
    refine ss_cons (s_set (i := 1) (ev_bm PySem.F.plainAttrs_str PySem.F.slot_str_split PySem.F.type_str_split (ev_name (i := 0) rfl ⟨rfl, av_cons (ev_str (av_nil (md_split (by decide +kernel) (by omega) ?_)))⟩)) nd)
    rw [split_jn (by simp) hfr]
    refine ss_cons (s_set (i := 2) (ev_call (f_sighting_in W) (hr.mono (by decide)) hm xer0 (av_cons (ev_bm PySem.F.plainAttrs_str PySem.F.slot_str_join PySem.F.type_str_join (ev_str ⟨rfl, av_cons (ev_slice (ev_name (i := 1) rfl (pv_some (ev_int ⟨_, rfl, pv_none ⟨_, sd_lst, ?_⟩⟩))))⟩)))) nd)
    rw [show cutL ((wd :: sWords c).map D.str) (some 1) none = (sWords c).map D.str from rfl]
    have hl2 := len_sWords n1 n2
    refine av_nil (md_join ?_ (av_nil (.inl ⟨c, rfl, h0, n1, n2, ?_⟩)))
    · have e1 : (Str.ofString " ").length = 1 := by decide +kernel
      have e2 := len_iS n1
      have e3 := len_iS n2
      have e4 : (Str.ofString "at").length = 2 := by decide +kernel
      show ([(iS c.2).length, (Str.ofString "at").length, (iS c.1).length]).sum + 3 * (Str.ofString " ").length ≤ _
      rw [e1, e4]
      simp only [List.sum_cons, List.sum_nil]
      omega
    refine ss_cons (s_if ?_)
    refine tv_w ?_
    refine tw_or ?_
    refine tv_cmp ?_
    refine ev_ix ?_
    refine ev_name (i := 1) rfl ?_
    refine ev_int ?_
    refine ⟨_, xd_lst (d := .str wd) rfl, ?_⟩
    refine ev_glob (d := .tup (kinds.map D.str)) (v := .ref (He.ga K "WORDS")) (W.glo "WORDS" (by decide +kernel)) rfl wds ⟨_, od_nin_strs, fun _ => ?_, fun h => absurd h (by rw [decide_eq_true hw]; decide)⟩
    refine tw_or1 ?_
    refine tv_cmp ?_
    refine ev_name (i := 2) rfl ?_
    refine ev_non ?_
    refine ⟨_, od_isN, nofun, fun _ => ss_nil ?_⟩
    refine ss_cons (s_ret ?_)
    refine ev_tup ?_
    refine av_cons (ev_ix (ev_name (i := 1) rfl (ev_int ⟨_, xd_lst (d := .str wd) rfl, ?_⟩)))
    refine av_cons (ev_ix (ev_name (i := 2) rfl (ev_int ⟨_, xd_tup rfl, ?_⟩)))
    refine av_cons (ev_ix (ev_name (i := 2) rfl (ev_int ⟨_, xd_tup rfl, ?_⟩)))
    exact av_nil ⟨by show 3 ≤ 100000; decide, q⟩
  · have hl : (jn [a, b, c]).length ≤ 1000 := by
      have h := jn_len (ws := [a, b, c]) (n := 41) fun x hx => (hf x hx).2
      have : [a, b, c].length * (41 + 1) = 126 := rfl
      omega
    have hl2 : (jn [b, c]).length ≤ 1000 := by
      have h := jn_len (ws := [b, c]) (n := 41) fun x hx => (hf x (List.mem_cons_of_mem _ hx)).2
      have : [b, c].length * (41 + 1) = 84 := rfl
      omega
    refine ss_cons (s_set (i := 1) (ev_bm PySem.F.plainAttrs_str PySem.F.slot_str_split PySem.F.type_str_split (ev_name (i := 0) rfl ⟨rfl, av_cons (ev_str (av_nil (md_split (by decide +kernel) (by omega) ?_)))⟩)) nd)
    rw [split_jn (by simp) fun x hx => (hf x hx).1]
    refine ss_cons (s_set (i := 2) (ev_call (f_sighting_in W) (hr.mono (by decide)) hm xer0 (av_cons (ev_bm PySem.F.plainAttrs_str PySem.F.slot_str_join PySem.F.type_str_join (ev_str ⟨rfl, av_cons (ev_slice (ev_name (i := 1) rfl (pv_some (ev_int ⟨_, rfl, pv_none ⟨_, sd_lst, ?_⟩⟩))))⟩)))) nd)
    rw [show cutL ([a, b, c].map D.str) (some 1) none = [b, c].map D.str from rfl]
    refine av_nil (md_join ?_ (av_nil (.inr ⟨[b, c], rfl, by simp, fun x hx => (hf x (List.mem_cons_of_mem _ hx)).1, by simp, by omega, ?_⟩)))
    · have e1 : (Str.ofString " ").length = 1 := by decide +kernel
      have e2 := (hf b (by simp)).2
      have e3 := (hf c (by simp)).2
      show ([b.length, c.length]).sum + 2 * (Str.ofString " ").length ≤ _
      rw [e1]
      simp only [List.sum_cons, List.sum_nil]
      omega
    obtain ⟨p0, p1, p2, p3, p4, p5, p6, p7, p8, p9, T⟩ := W.xc ("NoText", "index") (by decide)
    refine ss_cons (s_if ?_)
    refine tv_w ?_
    refine tw_or ?_
    refine tv_cmp ?_
    refine ev_ix ?_
    refine ev_name (i := 1) rfl ?_
    refine ev_int ?_
    refine ⟨_, xd_lst (d := .str a) rfl, ?_⟩
    refine ev_glob (d := .tup (kinds.map D.str)) (v := .ref (He.ga K "WORDS")) (W.glo "WORDS" (by decide +kernel)) rfl wds ⟨_, od_nin_strs, fun _ => ?_, fun _ => ⟨fun _ => ?_, nofun⟩⟩
    · refine tw_or1 ?_
      refine tv_cmp ?_
      refine ev_name (i := 2) rfl ?_
      refine ev_non ?_
      refine ⟨_, od_isN, fun _ => ?_, nofun⟩
      refine ss_cons (s_raiseN hA (xe _) (ex_new T (hr.mono (by decide)) (W.glo "NoText" (by decide +kernel)) (ev_int q)))
    · refine ss_cons (s_raiseN hA (xe _) (ex_new T (hr.mono (by decide)) (W.glo "NoText" (by decide +kernel)) (ev_int q)))
end
end K97
/-! # Walk I: Line made -/
namespace K97
open PySem PySem.Spec PyProof.Rows L2 TL
abbrev msD (ch : List (Int × Int)) : List D := (ch.map (·.1)).map .int
abbrev lnD (f : Int) (ch : List (Int × Int)) (b : Int × Int) : D := .obj .line ["its_book", "its_board", "its_sent"] [bkD f ch, pD b, .tup (msD ch)]
def BdOk (b : Int × Int) : Prop := 0 ≤ b.1 ∧ 0 ≤ b.2 ∧ b.1 ≤ b.2
section
variable {P : Program} {w : World} {K : PySem.W.Frag} {mg : Str → Option Value} {base : Heap}
def S_Line_init : SpD := fun ds O Q _ => ∃ p f ch b, ds = [.adr p, bkD f ch, pD b, .non] ∧ BkOk f ch ∧ BdOk b ∧ O p = some (.ob .line [] []) ∧
  Q .non (O.put p (.ob .line ["its_book", "its_board", "its_sent"] [bkD f ch, pD b, .tup (msD ch)]))
theorem S_Line_init_len {ds O Q QE} (h : S_Line_init ds O Q QE) : ds.length = 4 := by obtain ⟨p, f, ch, b, e, _⟩ := h; rw [e]; rfl
theorem b_Line_init (W : Wd P w K mg base) : Bod P w K mg base .heat 4 d_Line_init N_Line_init S_Line_init := by
  rintro cdv A outer s H E F0 ds O Q QE hm hr xe ⟨p, f, ch, b, rfl, ok, hb, hO, q⟩
  have nd : N_Line_init.Nodup := by decide
  have hl := ok.len
  refine ss_cons (s_if ?_)
  refine tv_not ?_
  refine tv_val ?_
  refine ev_blt ?_ (W.fre _ (by decide +kernel)) boot_isinstance
  refine av_cons (ev_name (i := 1) rfl ?_)
  refine av_cons (ev_glob (d := .adr (ca K .book)) (v := .ref (ca K .book)) (W.glo "Book" (by decide +kernel)) rfl (fun F => rep_adr.mpr rfl) ?_)
  refine av_nil ?_
  refine cl_isC (c := .book) (.inl rfl) (W.isi _) W.kit ?_
  refine ⟨true, rfl, nofun, fun _ => ss_nil ?_⟩
  refine ss_cons (s_if ?_)
  refine tv_not ?_
  refine tv_val ?_
  refine ev_call (f_is_board W) (hr.mono (by decide)) trivial xer0 ?_
  refine av_cons (ev_name (i := 2) rfl ?_)
  refine av_nil ?_
  refine ⟨b.1, b.2, rfl, ?_⟩
  refine ⟨_, rfl, fun h => absurd h (by rw [decide_eq_true (show 0 ≤ b.1 ∧ 0 ≤ b.2 ∧ b.1 ≤ b.2 from hb)]; decide), fun _ => ss_nil ?_⟩
  refine ss_cons (s_if ?_)
  refine tv_w ?_
  refine tw_and ?_
  refine tv_cmp ?_
  refine ev_name (i := 3) rfl ?_
  refine ev_non ?_
  refine ⟨_, od_isNot, nofun, fun _ => ?_⟩
  refine ⟨nofun, fun _ => ss_nil ?_⟩
  refine ss_cons (s_set (i := 4) (ev_meth0 (f_Book_moments W) (hr.mono (by decide)) hm xer0 (ev_name (i := 1) rfl ⟨_, _, .inl rfl, by decide +kernel, f, ch, rfl, by omega, ?_⟩)) nd)
  refine ss_cons (s_set (i := 5) (ev_if (tv_cmp (ev_name (i := 3) rfl (ev_non ⟨_, od_isN, ⟨fun _ => ev_name (i := 4) rfl ?_, nofun⟩⟩)))) nd)
  refine ss_cons (s_for po_b hm (iv_enum (ev_name (i := 5) rfl ⟨_, rfl, ?_⟩) (W.fre _ (by decide +kernel))))
  refine ⟨fun _ r2 O2 => O2 = O ∧ ∃ v u, r2 = [some (.adr p), some (bkD f ch), some (pD b), some .non, some (.lst (msD ch)), some (.lst (msD ch)), v, u], ⟨rfl, none, none, rfl⟩, ?_, ?_⟩
  · rintro i dd r2 O2 hi ⟨rfl, v, u, rfl⟩
    obtain ⟨e, he, rfl⟩ := enD_get hi
    have hi : i < ch.length := by have := (List.getElem?_eq_some_iff.mp he).1; simpa using this
    have g0 := List.getElem?_eq_getElem hi
    have g1 : (msD ch)[i]? = some (.int ch[i].1) := getmap (getmap g0)
    rw [g1] at he
    cases he
    refine gv_tup hm (.inl rfl) (gvs_cons (gv_name (i := 6) (gvs_cons (gv_name (i := 7) (gvs_nil ?_) nd)) nd))
    refine ss_cons (s_if ?_)
    refine tv_w ?_
    refine tw_or ?_
    refine tv_cmp ?_
    refine ev_name (i := 7) rfl ?_
    refine ev_ix ?_
    refine ev_name (i := 4) rfl ?_
    refine ev_name (i := 6) rfl ?_
    refine ⟨_, xd_lst (atI_nat g1), ?_⟩
    refine ⟨_, od_lt, fun _ => ?_, fun h => absurd (of_decide_eq_true h) (by omega)⟩
    refine tw_or1 ?_
    refine tv_w ?_
    refine tw_and ?_
    refine tv_cmp ?_
    refine ev_name (i := 6) rfl ?_
    refine ev_int ?_
    refine ⟨_, od_gt, fun h => ?_, fun h => ⟨nofun, fun _ => ss_nil (ss_nil ⟨rfl, _, _, rfl⟩)⟩⟩
    have h0 : 0 < i := by have := of_decide_eq_true h; omega
    obtain ⟨j, rfl⟩ : ∃ j, i = j + 1 := ⟨i - 1, by omega⟩
    have g2 := List.getElem?_eq_getElem (show j < ch.length by omega)
    have g3 : (msD ch)[j]? = some (.int ch[j].1) := getmap (getmap g2)
    have hlt := pw_get ok.up g2 g0 (by omega)
    refine tw_and1 ?_
    refine tv_cmp ?_
    refine ev_name (i := 7) rfl ?_
    refine ev_ix ?_
    refine ev_name (i := 5) rfl ?_
    refine ev_op ?_
    refine ev_name (i := 6) rfl ?_
    refine ev_int ?_
    refine ⟨_, od_sub, ?_⟩
    refine ⟨_, (show (((j + 1 : Nat) : Int) - 1) = ((j : Nat) : Int) by omega) ▸ xd_lst (atI_nat g3), ?_⟩
    exact ⟨_, od_lt, fun h => absurd (of_decide_eq_true h) (by omega), fun _ => ss_nil (ss_nil ⟨rfl, _, _, rfl⟩)⟩
  · rintro r2 O2 ⟨rfl, v, u, rfl⟩
    refine ss_cons (s_asg (ev_tup (av_cons (ev_name (i := 1) rfl (av_cons (ev_name (i := 2) rfl (av_cons (ev_typ (av_cons (ev_name (i := 5) rfl (av_nil (cl_tuple_lst ?_)))) (W.fre _ (by decide +kernel)) boot_tuple))))))))
    refine av_nil ⟨by show 3 ≤ 100000; decide, ?_⟩
    refine gv_tup hm (.inl rfl) (gvs_cons (gv_attr (ev_name (i := 0) rfl ⟨p, .line, _, _, rfl, hO, W.cls _, W.nat (.line, "its_book") (by decide), by decide, ?_⟩)))
    refine gvs_cons (gv_attr (ev_name (i := 0) rfl ⟨p, .line, _, _, rfl, Om.put_same, W.cls _, W.nat (.line, "its_board") (by decide), by decide, ?_⟩))
    refine gvs_cons (gv_attr (ev_name (i := 0) rfl ⟨p, .line, _, _, rfl, Om.put_same, W.cls _, W.nat (.line, "its_sent") (by decide), by decide, ?_⟩))
    refine gvs_nil (ss_nil ?_)
    rw [Om.put_put, Om.put_put]
    exact q
theorem mk_line (W : Wd P w K mg base) : Mkr P w K mg base .heat 5 .line [.non] S_Line_init :=
  W.mk1 24 (d := d_Line_init) sc_Line_init rfl rfl (by decide +kernel) (by decide) 3 0 rfl (fun T kV doc pm an cdv ct us its h1 h2 => match us, h1, its, h2 with | [a, b, e], _, [c], _ => ⟨_, rfl, rfl⟩) _ (fun F => .cons (rep_non.mpr rfl) .nil) (fun ds O Q QE h => S_Line_init_len h) (b_Line_init W)
section
variable {X : Cx} {F0 : Hp} {r : Rho} {O : Om} {Q : D → Om → Prop} {e : Expr} {pos : Pos}
theorem fld_lk (W : Wd X.prog X.w X.K X.mg X.base) (h : Ev X F0 e r O fun d O1 => ∃ f ch b, d = lnD f ch b ∧ Q (bkD f ch) O1) (hb : attributeBase e "its_book" X.env (eval e X.env) = eval e X.env := by rfl) : Ev X F0 (.Attribute e "its_book" pos) r O Q :=
  ev_fld (h.mono fun d O1 ⟨f, ch, b, ed, q⟩ => ⟨.line, _, _, _, .inl ed, W.cls _, W.nat (.line, "its_book") (by decide), rfl, q⟩) hb
theorem fld_lb (W : Wd X.prog X.w X.K X.mg X.base) (h : Ev X F0 e r O fun d O1 => ∃ f ch b, d = lnD f ch b ∧ Q (pD b) O1) (hb : attributeBase e "its_board" X.env (eval e X.env) = eval e X.env := by rfl) : Ev X F0 (.Attribute e "its_board" pos) r O Q :=
  ev_fld (h.mono fun d O1 ⟨f, ch, b, ed, q⟩ => ⟨.line, _, _, _, .inl ed, W.cls _, W.nat (.line, "its_board") (by decide), rfl, q⟩) hb
theorem fld_ls (W : Wd X.prog X.w X.K X.mg X.base) (h : Ev X F0 e r O fun d O1 => ∃ f ch b, d = lnD f ch b ∧ Q (.tup (msD ch)) O1) (hb : attributeBase e "its_sent" X.env (eval e X.env) = eval e X.env := by rfl) : Ev X F0 (.Attribute e "its_sent" pos) r O Q :=
  ev_fld (h.mono fun d O1 ⟨f, ch, b, ed, q⟩ => ⟨.line, _, _, _, .inl ed, W.cls _, W.nat (.line, "its_sent") (by decide), rfl, q⟩) hb
end
def S_Line_book : SpD := fun ds O Q _ => ∃ f ch b, ds = [lnD f ch b] ∧ Q (bkD f ch) O
theorem S_Line_book_len {ds O Q QE} (h : S_Line_book ds O Q QE) : ds.length = 1 := by obtain ⟨f, ch, b, e, _⟩ := h; rw [e]; rfl
theorem f_Line_book (W : Wd P w K mg base) : Fp P w K mg base .any 1 .line "book" S_Line_book := by
  refine W.fp 25 (d := d_Line_book) sc_Line_book rfl rfl (by decide +kernel) rfl (fun _ _ _ _ _ _ us hl => match us, hl with | [_], _ => rfl) (fun ds O Q QE h => S_Line_book_len h) ?_
  rintro cdv A outer s H E F0 ds O Q QE hm hr xe ⟨f, ch, b, rfl, q⟩
  exact ss_cons (s_ret (fld_lk W (ev_name (i := 0) rfl ⟨f, ch, b, rfl, q⟩)))
def S_Line_earliest : SpD := fun ds O Q _ => ∃ f ch b, ds = [lnD f ch b] ∧ ch.length ≤ 1000 ∧ Q (.lst ((ch.map fun c => c.1 + b.1).map .int)) O
theorem S_Line_earliest_len {ds O Q QE} (h : S_Line_earliest ds O Q QE) : ds.length = 1 := by obtain ⟨f, ch, b, e, _⟩ := h; rw [e]; rfl
theorem f_Line_earliest (W : Wd P w K mg base) : Fm P w K mg base .heat 1 .line "earliest" S_Line_earliest := by
  refine W.fm 27 (d := d_Line_earliest) sc_Line_earliest rfl rfl (by decide +kernel) rfl (fun _ _ _ _ _ _ us hl => match us, hl with | [_], _ => rfl) (fun ds O Q QE h => S_Line_earliest_len h) ?_
  rintro cdv A outer s H E F0 ds O Q QE hm hr xe ⟨f, ch, b, rfl, hl, q⟩
  have nd : N_Line_earliest.Nodup := by decide
  refine ss_cons (s_ret (ev_lcm D.int decI decI_e [("moment", 1)] nd hm (iv_val (fld_ls W (ev_name (i := 0) rfl ⟨f, ch, b, rfl, _, rfl, ch.map (·.1), fun m => some (.int (m + b.1)), rfl, by rw [List.length_map]; omega, ?_, ?_⟩))) (show BlkOk N_Line_earliest (defScope d_Line_earliest.st) _ _ from blkOk_by (by decide +kernel))))
  · rw [fm_some, List.map_map]
    rw [List.map_map] at q
    exact q
  · intro s H C cl fp hh O2 sp m hm2
    refine bd_name (i := 1) (ev_op (ev_name (i := 1) rfl (ev_ix (fld_lb W (ev_name (i := 0) rfl ⟨f, ch, b, rfl, ev_int ⟨_, xd_tup rfl, ?_⟩⟩))))) nd
    exact ⟨_, od_add, rfl, rfl⟩
def S_Line_latest : SpD := fun ds O Q _ => ∃ f ch b, ds = [lnD f ch b] ∧ ch.length ≤ 1000 ∧ Q (.lst ((ch.map fun c => c.1 + b.2).map .int)) O
theorem S_Line_latest_len {ds O Q QE} (h : S_Line_latest ds O Q QE) : ds.length = 1 := by obtain ⟨f, ch, b, e, _⟩ := h; rw [e]; rfl
theorem f_Line_latest (W : Wd P w K mg base) : Fm P w K mg base .heat 1 .line "latest" S_Line_latest := by
  refine W.fm 28 (d := d_Line_latest) sc_Line_latest rfl rfl (by decide +kernel) rfl (fun _ _ _ _ _ _ us hl => match us, hl with | [_], _ => rfl) (fun ds O Q QE h => S_Line_latest_len h) ?_
  rintro cdv A outer s H E F0 ds O Q QE hm hr xe ⟨f, ch, b, rfl, hl, q⟩
  have nd : N_Line_latest.Nodup := by decide
  refine ss_cons (s_ret (ev_lcm D.int decI decI_e [("moment", 1)] nd hm (iv_val (fld_ls W (ev_name (i := 0) rfl ⟨f, ch, b, rfl, _, rfl, ch.map (·.1), fun m => some (.int (m + b.2)), rfl, by rw [List.length_map]; omega, ?_, ?_⟩))) (show BlkOk N_Line_latest (defScope d_Line_latest.st) _ _ from blkOk_by (by decide +kernel))))
  · rw [fm_some, List.map_map]
    rw [List.map_map] at q
    exact q
  · intro s H C cl fp hh O2 sp m hm2
    refine bd_name (i := 1) (ev_op (ev_name (i := 1) rfl (ev_ix (fld_lb W (ev_name (i := 0) rfl ⟨f, ch, b, rfl, ev_int ⟨_, xd_tup rfl, ?_⟩⟩))))) nd
    exact ⟨_, od_add, rfl, rfl⟩
/-- the states that the line may show at t: from .. to .. -/
abbrev lowN (ch : List (Int × Int)) (b : Int × Int) (t : Int) : Nat := ((ch.map fun c => c.1 + b.2).filter fun x => decide (x < t)).length
abbrev highN (ch : List (Int × Int)) (b : Int × Int) (t : Int) : Nat := ((ch.map fun c => c.1 + b.1).filter fun x => decide (x ≤ t)).length
def S_Line_stretch : SpD := fun ds O Q _ => ∃ f ch b t, ds = [lnD f ch b, .int t] ∧ ch.length ≤ 1000 ∧ Q (pD ((lowN ch b t : Nat), (highN ch b t : Nat))) O
theorem S_Line_stretch_len {ds O Q QE} (h : S_Line_stretch ds O Q QE) : ds.length = 2 := by obtain ⟨f, ch, b, t, e, _⟩ := h; rw [e]; rfl
theorem f_Line_stretch (W : Wd P w K mg base) : Fm P w K mg base .heat 2 .line "stretch" S_Line_stretch := by
  refine W.fm 30 (d := d_Line_stretch) sc_Line_stretch rfl rfl (by decide +kernel) rfl (fun _ _ _ _ _ _ us hl => match us, hl with | [_, _], _ => rfl) (fun ds O Q QE h => S_Line_stretch_len h) ?_
  rintro cdv A outer s H E F0 ds O Q QE hm hr xe ⟨f, ch, b, t, rfl, hl, q⟩
  have nd : N_Line_stretch.Nodup := by decide
  refine ss_cons (s_set (i := 2) (ev_blt (av_cons (ev_lcm D.int decI decI_e [("one", 3)] nd hm (iv_val (ev_meth0 (f_Line_latest W) (hr.mono (by decide)) hm xer0 (ev_name (i := 0) rfl ⟨_, _, .inl rfl, by decide +kernel, f, ch, b, rfl, hl, _, rfl, ch.map fun c => c.1 + b.2, fun x => if decide (x < t) then some (.int x) else none, rfl, by rw [List.length_map]; omega, ?_, ?_⟩))) (show BlkOk N_Line_stretch (defScope d_Line_stretch.st) _ _ from blkOk_by (by decide +kernel)))) (W.fre _ (by decide +kernel)) boot_len) nd)
  rotate_left
  · intro s H C cl fp hh O2 sp m hm2
    exact bd_if (i := 3) (tv_cmp (ev_name (i := 3) rfl (ev_name (i := 1) rfl ⟨_, od_lt, rfl, rfl⟩))) (fun _ => ev_name (i := 3) rfl ⟨rfl, rfl⟩) nd
  rw [fm_if]
  refine av_nil (cl_len_lst ?_)
  refine ss_cons (s_ret (ev_tup (av_cons (ev_name (i := 2) rfl ?_))))
  refine av_cons (ev_blt (av_cons (ev_lcm D.int decI decI_e [("one", 3)] nd hm (iv_val (ev_meth0 (f_Line_earliest W) (hr.mono (by decide)) hm xer0 (ev_name (i := 0) rfl ⟨_, _, .inl rfl, by decide +kernel, f, ch, b, rfl, hl, _, rfl, ch.map fun c => c.1 + b.1, fun x => if decide (x ≤ t) then some (.int x) else none, rfl, by rw [List.length_map]; omega, ?_, ?_⟩))) (show BlkOk N_Line_stretch (defScope d_Line_stretch.st) _ _ from blkOk_by (by decide +kernel)))) (W.fre _ (by decide +kernel)) boot_len)
  rotate_left
  · intro s H C cl fp hh O2 sp m hm2
    exact bd_if (i := 3) (tv_cmp (ev_name (i := 3) rfl (ev_name (i := 1) rfl ⟨_, od_le, rfl, rfl⟩))) (fun _ => ev_name (i := 3) rfl ⟨rfl, rfl⟩) nd
  rw [fm_if]
  refine av_nil (cl_len_lst (av_nil ⟨by show 2 ≤ 100000; decide, ?_⟩))
  rw [List.length_map, List.length_map]
  exact q
end
end K97
/-! # Walk J: window; numbers_of -/
namespace K97
open PySem PySem.Spec PyProof.Rows L2 TL
def winB (ch : List (Int × Int)) (b : Int × Int) : Nat → Option Int
  | 0 => none
  | k + 1 => ch[k]?.map fun c => c.1 + b.1
def winE (ch : List (Int × Int)) (b : Int × Int) (k : Nat) : Option Int := ch[k]?.map fun c => c.1 + b.2
section
variable {P : Program} {w : World} {K : PySem.W.Frag} {mg : Str → Option Value} {base : Heap}
def S_Line_window : SpD := fun ds O Q QE => ∃ f ch b, ∃ k : Nat, ds = [lnD f ch b, .int k] ∧ ch.length ≤ 1000 ∧ (k ≤ ch.length → Q (.tup [oD (winB ch b k), oD (winE ch b k)]) O) ∧ (ch.length < k → QE ⟨"NoNumber", some ("number", .int k)⟩ O)
theorem S_Line_window_len {ds O Q QE} (h : S_Line_window ds O Q QE) : ds.length = 2 := by obtain ⟨f, ch, b, t, e, _⟩ := h; rw [e]; rfl
theorem msT_get {ch : List (Int × Int)} {k : Nat} {c : Int × Int} (h : ch[k]? = some c) : (msD ch)[k]? = some (.int c.1) := getmap (getmap h)
theorem f_Line_window (W : Wd P w K mg base) : Fm P w K mg base .heat 4 .line "window" S_Line_window := by
  refine W.fm 29 (d := d_Line_window) sc_Line_window rfl rfl (by decide +kernel) rfl (fun _ _ _ _ _ _ us hl => match us, hl with | [_, _], _ => rfl) (fun ds O Q QE h => S_Line_window_len h) ?_
  rintro cdv A outer s H E F0 ds O Q QE hm hr xe ⟨f, ch, b, k, rfl, hl, q, qe⟩
  have nd : N_Line_window.Nodup := by decide
  have hlm : (msD ch).length = ch.length := by simp
  refine ss_cons (s_if ?_)
  refine tv_not ?_
  refine tv_val ?_
  refine ev_call (f_is_index W) (hr.mono (by decide)) trivial xer0 ?_
  refine av_cons (ev_name (i := 1) rfl ?_)
  refine av_cons (ev_op (ev_blt (av_cons (fld_ls W (ev_name (i := 0) rfl ⟨f, ch, b, rfl, av_nil (cl_len_tup (ev_int ⟨_, od_add, ?_⟩))⟩))) (W.fre _ (by decide +kernel)) boot_len))
  refine av_nil ?_
  refine ⟨_, _, rfl, _, rfl, ?_⟩
  obtain ⟨p0, p1, p2, p3, p4, p5, p6, p7, p8, p9, T⟩ := W.xc ("NoNumber", "number") (by decide)
  refine ⟨fun h => ?_, fun h => ss_nil ?_⟩
  · have h1 : ch.length < k := by rw [hlm] at h; simp at h; omega
    exact ss_cons (s_raise hm xe.nm (ex_new T (hr.mono (by decide)) (W.glo "NoNumber" (by decide +kernel)) (ev_name (i := 1) rfl (qe h1))))
  have hk : k ≤ ch.length := by rw [hlm] at h; simp at h; omega
  have last : ∀ (d : D), (d = oD (winB ch b k)) → Ssv (cxB P w K mg base N_Line_window d_Line_window.qual (defScope d_Line_window.st) (Pa.ad K d_Line_window.pa) cdv A outer s H E) F0 ((defBody d_Line_window.st).drop 2) [some (lnD f ch b), some (.int k), some d, none] O { nx := fun _ O' => Q D.non O', rt := Q } := by
    rintro d rfl
    refine ss_cons (s_set (i := 3) (ev_if (tv_cmp (ev_name (i := 1) rfl (ev_blt (av_cons (fld_ls W (ev_name (i := 0) rfl ⟨f, ch, b, rfl, av_nil (cl_len_tup ⟨_, od_lt, ?_⟩)⟩))) (W.fre _ (by decide +kernel)) boot_len)))) nd)
    refine ⟨fun h2 => ?_, fun h2 => ev_non ?_⟩
    · have h3 : k < ch.length := by rw [hlm] at h2; have := of_decide_eq_true h2; omega
      have g := List.getElem?_eq_getElem h3
      have e : winE ch b k = some (ch[k].1 + b.2) := by unfold winE; rw [g]; rfl
      rw [e] at q
      refine ev_op (ev_ix (fld_ls W (ev_name (i := 0) rfl ⟨f, ch, b, rfl, ev_name (i := 1) rfl ⟨_, xd_tup (atI_nat (msT_get g)), ev_ix (fld_lb W (ev_name (i := 0) rfl ⟨f, ch, b, rfl, ev_int ⟨_, xd_tup rfl, _, od_add, ?_⟩⟩))⟩⟩)))
      exact ss_cons (s_ret (ev_tup (av_cons (ev_name (i := 2) rfl (av_cons (ev_name (i := 3) rfl (av_nil ⟨by show 2 ≤ 100000; decide, q hk⟩)))))))
    · have h3 : ¬ k < ch.length := by rw [hlm] at h2; have := of_decide_eq_false h2; omega
      have e : winE ch b k = none := by unfold winE; rw [List.getElem?_eq_none (by omega)]; rfl
      rw [e] at q
      exact ss_cons (s_ret (ev_tup (av_cons (ev_name (i := 2) rfl (av_cons (ev_name (i := 3) rfl (av_nil ⟨by show 2 ≤ 100000; decide, q hk⟩)))))))
  refine ss_cons (s_set (i := 2) (ev_if (tv_cmp (ev_name (i := 1) rfl (ev_int ⟨_, od_gt, fun h2 => ?_, fun h2 => ev_non ?_⟩)))) nd)
  · obtain ⟨j, rfl⟩ : ∃ j, k = j + 1 := ⟨k - 1, by have := of_decide_eq_true h2; omega⟩
    have g := List.getElem?_eq_getElem (show j < ch.length by omega)
    refine ev_op (ev_ix (fld_ls W (ev_name (i := 0) rfl ⟨f, ch, b, rfl, ev_op (ev_name (i := 1) rfl (ev_int ⟨_, od_sub, _, (show (((j + 1 : Nat) : Int) - 1) = ((j : Nat) : Int) by omega) ▸ xd_tup (atI_nat (msT_get g)), ?_⟩))⟩)))
    refine ev_ix (fld_lb W (ev_name (i := 0) rfl ⟨f, ch, b, rfl, ev_int ⟨_, xd_tup rfl, _, od_add, ?_⟩⟩))
    refine last _ ?_
    show _ = oD (ch[j]?.map _)
    rw [g]; rfl
  · have h3 : k = 0 := by have := of_decide_eq_false h2; omega
    exact last _ (by rw [h3]; rfl)
end
end K97
/-! # Walk K: numbers_of, swept -/
namespace K97
open PySem PySem.Spec PyProof.Rows L2 TL
/-- lo, lo + 1, .. n of them -/
abbrev rngI (lo : Nat) (n : Nat) : List Int := (List.range n).map fun i : Nat => ((lo : Int) + (i : Int))
abbrev priceAt (f : Int) (ch : List (Int × Int)) (n : Int) : Int := (f :: ch.map (·.2)).getD n.toNat 0
abbrev numsOf (f : Int) (ch : List (Int × Int)) (b : Int × Int) (s : Int × Int) : List Int :=
  (rngI (lowN ch b s.1) (highN ch b s.1 + 1 - lowN ch b s.1)).filter fun n => decide (priceAt f ch n = s.2)
theorem lowN_le {ch : List (Int × Int)} {b : Int × Int} {t : Int} : lowN ch b t ≤ ch.length := by
  have := List.length_filter_le (fun x => decide (x < t)) (ch.map fun c => c.1 + b.2)
  simpa using this
theorem highN_le {ch : List (Int × Int)} {b : Int × Int} {t : Int} : highN ch b t ≤ ch.length := by
  have := List.length_filter_le (fun x => decide (x ≤ t)) (ch.map fun c => c.1 + b.1)
  simpa using this
theorem price_some {f : Int} {ch : List (Int × Int)} {n : Nat} (h : n ≤ ch.length) : (f :: ch.map (·.2))[n]? = some (priceAt f ch n) := by
  have hl : n < (f :: ch.map (·.2)).length := by simp; omega
  show _ = some ((f :: ch.map (·.2)).getD n 0)
  rw [List.getD_eq_getElem?_getD, List.getElem?_eq_getElem hl]; rfl
section
variable {P : Program} {w : World} {K : PySem.W.Frag} {mg : Str → Option Value} {base : Heap}
theorem getitem_fn (W : Wd P w K mg base) : ∀ g, Meth K (ca K .book) "__getitem__" g → PySem.W.fnIn K g = true := fun g hg => by
  have e1 : PySem.W.findIn K (.ref (ca K .book)) "__getitem__" = _ := (W.mth (.book, "__getitem__") (by decide)).at_
  have e2 := hg.at_
  rw [e1] at e2
  cases e2
  exact W.gfn
def S_numbers_of : SpD := fun ds O Q _ => ∃ f ch b s, ds = [lnD f ch b, pD s] ∧ ch.length ≤ 1000 ∧ Q (.lst ((numsOf f ch b s).map .int)) O
theorem S_numbers_of_len {ds O Q QE} (h : S_numbers_of ds O Q QE) : ds.length = 2 := by obtain ⟨f, ch, b, t, e, _⟩ := h; rw [e]; rfl
theorem rngD_I {lo n : Nat} : rngD (lo : Nat) n = (rngI lo n).map D.int := by unfold rngD; rw [List.map_map]; rfl
theorem f_numbers_of (W : Wd P w K mg base) : Fg P w K mg base .heat 6 "numbers_of" S_numbers_of := by
  refine W.fg 31 (d := d_numbers_of) sc_numbers_of rfl rfl (by decide +kernel) rfl (fun _ _ _ _ _ _ us hl => match us, hl with | [_, _], _ => rfl) (fun ds O Q QE h => S_numbers_of_len h) ?_
  rintro cdv A outer s H E F0 ds O Q QE hm hr xe ⟨f, ch, b, s0, rfl, hl, q⟩
  have nd : N_numbers_of.Nodup := by decide
  have l1 := lowN_le (ch := ch) (b := b) (t := s0.1)
  have l2 := highN_le (ch := ch) (b := b) (t := s0.1)
  refine ss_cons (s_asg (ev_name (i := 1) rfl (gv_tup hm (.inl rfl) (gvs_cons (gv_name (i := 2) (gvs_cons (gv_name (i := 3) (gvs_nil ?_) nd)) nd)))))
  refine ss_cons (s_asg (ev_meth (f_Line_stretch W) (hr.mono (by decide)) hm xer0 (ev_name (i := 0) rfl ⟨_, _, .inl rfl, by decide +kernel, av_cons (ev_name (i := 2) rfl (av_nil ⟨f, ch, b, s0.1, rfl, hl, ?_⟩))⟩)))
  refine gv_tup hm (.inl rfl) (gvs_cons (gv_name (i := 4) (gvs_cons (gv_name (i := 5) (gvs_nil ?_) nd)) nd))
  refine ss_cons (s_ret (ev_lcm D.int decI decI_e [("number", 6)] nd hm (iv_range2 (ev_name (i := 4) rfl ⟨_, rfl, ⟨by omega, by omega⟩, ev_op (ev_name (i := 5) rfl (ev_int ⟨_, od_add, _, rfl, ⟨by omega, by omega⟩, ?_⟩))⟩) (W.fre _ (by decide +kernel))) (show BlkOk N_numbers_of (defScope d_numbers_of.st) _ _ from blkOk_by (by decide +kernel))))
  have e : (((highN ch b s0.1 : Nat) : Int) + 1 - ((lowN ch b s0.1 : Nat) : Int)).toNat = highN ch b s0.1 + 1 - lowN ch b s0.1 := by omega
  rw [e]
  refine ⟨rngI (lowN ch b s0.1) (highN ch b s0.1 + 1 - lowN ch b s0.1), fun n => if decide (priceAt f ch n = s0.2) then some (.int n) else none, rngD_I, by simp; omega, ?_, ?_⟩
  · rw [fm_if]
    exact q
  · intro s H C cl fp hh O2 sp n hn
    obtain ⟨j, hj, rfl⟩ := List.mem_map.mp hn
    have hj := List.mem_range.mp hj
    refine bd_if (i := 6) (tv_cmp (ev_ixo (f_Book_getitem W) (getitem_fn W) (hr.mono (by decide)) trivial (ev_prop (f_Line_book W) (hr.mono (by decide)) trivial (ev_name (i := 0) rfl ⟨_, _, .inl rfl, f, ch, b, rfl, _, _, .inl rfl, ev_name (i := 6) rfl ⟨.inl rfl, f, ch, _, _, rfl, ?_, by omega, ev_name (i := 3) rfl ⟨_, od_eqi, rfl, rfl⟩⟩⟩)))) (fun _ => ev_name (i := 6) rfl ⟨rfl, rfl⟩) nd
    · have e2 : (((lowN ch b s0.1 : Nat) : Int) + (j : Int)).toNat = lowN ch b s0.1 + j := by omega
      rw [e2]
      have := price_some (f := f) (ch := ch) (n := lowN ch b s0.1 + j) (by omega)
      rw [this]
      show some ((f :: ch.map (·.2)).getD _ 0) = some ((f :: ch.map (·.2)).getD _ 0)
      rw [e2]
      rfl
end
end K97
/-! # Walk L: swept, is_seen, least_numbers -/
namespace K97
open PySem PySem.Spec PyProof.Rows L2 TL
def sweep (f : Int) (ch : List (Int × Int)) (b : Int × Int) : Int → List (Int × Int) → List Int
  | _, [] => []
  | l, s :: ss => match (numsOf f ch b s).filter fun n => decide (l ≤ n) with
    | [] => []
    | x :: _ => x :: sweep f ch b x ss
theorem sweep_len {f : Int} {ch : List (Int × Int)} {b : Int × Int} : ∀ {ss : List (Int × Int)} {l : Int}, (sweep f ch b l ss).length ≤ ss.length
  | [], l => Nat.le_refl 0
  | s :: ss, l => by
    rw [sweep]
    split
    · simp
    · rw [List.length_cons, List.length_cons]
      exact Nat.succ_le_succ sweep_len
theorem numsOf_len {f : Int} {ch : List (Int × Int)} {b s : Int × Int} : (numsOf f ch b s).length ≤ ch.length + 1 := by
  have h1 := List.length_filter_le (fun n => decide (priceAt f ch n = s.2)) (rngI (lowN ch b s.1) (highN ch b s.1 + 1 - lowN ch b s.1))
  have h2 := highN_le (ch := ch) (b := b) (t := s.1)
  rw [show (rngI (lowN ch b s.1) (highN ch b s.1 + 1 - lowN ch b s.1)).length = highN ch b s.1 + 1 - lowN ch b s.1 by simp] at h1
  show (List.filter _ _).length ≤ _
  omega
section
variable {P : Program} {w : World} {K : PySem.W.Frag} {mg : Str → Option Value} {base : Heap}
def S_swept : SpD := fun ds O Q _ => ∃ f ch b, ∃ ss : List (Int × Int), ds = [lnD f ch b, .lst (ss.map pD)] ∧ ch.length ≤ 1000 ∧ ss.length ≤ 1000 ∧ Q (.lst ((sweep f ch b 0 ss).map .int)) O
theorem S_swept_len {ds O Q QE} (h : S_swept ds O Q QE) : ds.length = 2 := by obtain ⟨f, ch, b, t, e, _⟩ := h; rw [e]; rfl
theorem f_swept (W : Wd P w K mg base) : Fg P w K mg base .heat 7 "swept" S_swept := by
  refine W.fg 32 (d := d_swept) sc_swept rfl rfl (by decide +kernel) rfl (fun _ _ _ _ _ _ us hl => match us, hl with | [_, _], _ => rfl) (fun ds O Q QE h => S_swept_len h) ?_
  rintro cdv A outer s H E F0 ds O Q QE hm hr xe ⟨f, ch, b, ss, rfl, hl, hs, q⟩
  have nd : N_swept.Nodup := by decide
  refine ss_cons (s_asg (ev_tup (av_cons (ev_lstO (av_nil ⟨by decide, fun p hp => ?_⟩)))))
  refine av_cons (ev_int ?_)
  refine av_nil ?_
  refine ⟨by show 2 ≤ 100000; decide, ?_⟩
  refine gv_tup hm (.inl rfl) (gvs_cons (gv_name (i := 2) (gvs_cons (gv_name (i := 3) (gvs_nil ?_) nd)) nd))
  refine ss_cons (s_for po_b hm (iv_val (ev_name (i := 1) rfl ⟨_, rfl, ?_⟩)))
  refine ⟨fun i r2 O2 => ∃ (fd : List Int) (l : Int) (v4 v5 : Option D), r2 = [some (lnD f ch b), some (.lst (ss.map pD)), some (.adr p), some (.int l), v4, v5, none] ∧ O2 = O.put p (.lst (fd.map .int)) ∧ sweep f ch b 0 ss = fd ++ sweep f ch b l (ss.drop i) ∧ fd.length ≤ i, ⟨[], 0, none, none, rfl, rfl, rfl, Nat.le_refl 0⟩, ?_, ?_⟩
  · rintro i d r2 O2 hi ⟨fd, l, v4, v5, rfl, rfl, hsw, hfd⟩
    rw [List.getElem?_map] at hi
    cases hg : ss[i]? with
    | none => rw [hg] at hi; cases hi
    | some s0 =>
      rw [hg] at hi
      cases hi
      have hil : i < ss.length := (List.getElem?_eq_some_iff.mp hg).1
      have hdr : ss.drop i = s0 :: ss.drop (i + 1) := by
        rw [List.drop_eq_getElem_cons hil]
        congr 1
        rw [List.getElem?_eq_getElem hil] at hg
        exact Option.some.inj hg
      refine gv_name (i := 4) ?_ nd
      refine ss_cons (s_setLcm (i := 5) D.int decI decI_e [("number", 6)] nd hm (iv_val (ev_call (f_numbers_of W) (hr.mono (by decide)) hm xer0 (av_cons (ev_name (i := 0) rfl (av_cons (ev_name (i := 4) rfl (av_nil ⟨f, ch, b, s0, rfl, hl, ?_⟩))))))) (show BlkOk N_swept (defScope d_swept.st) _ _ from blkOk_by (by decide +kernel)))
      refine ⟨_, rfl, numsOf f ch b s0, fun n => if decide (l ≤ n) then some (.int n) else none, rfl, by have := numsOf_len (f := f) (ch := ch) (b := b) (s := s0); omega, ?_, ?_⟩
      rotate_left
      · intro s H C cl fp hh O3 sp n hn
        exact bd_if (i := 6) (tv_cmp (ev_name (i := 6) rfl (ev_name (i := 3) rfl ⟨_, od_ge, rfl, rfl⟩))) (fun _ => ev_name (i := 6) rfl ⟨rfl, rfl⟩) nd
      rw [fm_if]
      rw [hdr, sweep] at hsw
      refine ss_cons (s_if ?_)
      refine tv_cmp ?_
      refine ev_name (i := 5) rfl ?_
      refine ev_lst ?_
      refine av_nil ?_
      refine ⟨by decide, ?_⟩
      refine ⟨_, od_eq hr.u64 ok_ints ok_nil, ?_⟩
      rw [eqv_nil]
      cases hf : (numsOf f ch b s0).filter fun n => decide (l ≤ n) with
      | nil =>
        rw [hf] at hsw
        refine ⟨fun _ => ss_cons (s_retL (ev_name (i := 2) rfl ⟨p, _, rfl, Om.put_same, ?_⟩)), fun h => absurd h (by simp)⟩
        rw [Om.put_del hp]
        have e : sweep f ch b 0 ss = fd := by rw [hsw]; exact List.append_nil fd
        rw [e] at q
        exact q
      | cons x t =>
        rw [hf] at hsw
        refine ⟨fun h => absurd h (by simp), fun _ => ss_nil ?_⟩
        refine ss_cons (s_set (i := 3) (ev_ix (ev_name (i := 5) rfl (ev_int ⟨_, xd_lst (d := .int x) (atI_nat (i := 0) rfl), ?_⟩))) nd)
        refine ss_cons (s_expr (ev_bm PySem.F.plainAttrs_list PySem.F.slot_list_append PySem.F.type_list_append (ev_name (i := 2) rfl ⟨?_, av_cons (ev_name (i := 3) rfl (av_nil (md_append Om.put_same (by rw [List.length_map]; omega) (ss_nil ?_))))⟩)))
        · exact ⟨rfl, _, Om.put_same⟩
        · refine ⟨fd ++ [x], x, _, _, rfl, ?_, ?_, by rw [List.length_append]; simp; omega⟩
          · rw [Om.put_put, List.map_append]; rfl
          · rw [hsw, List.append_assoc]; rfl
  · rintro r2 O2 ⟨fd, l, v4, v5, rfl, rfl, hsw, hfd⟩
    refine ss_cons (s_retL (ev_name (i := 2) rfl ⟨p, _, rfl, Om.put_same, ?_⟩))
    rw [Om.put_del hp]
    rw [List.length_map, List.drop_length, sweep, List.append_nil] at hsw
    rw [hsw] at q
    exact q
end
end K97
/-! # Walk M: is_seen, least_numbers, greatest_numbers -/
namespace K97
open PySem PySem.Spec PyProof.Rows L2 TL
section
variable {X : Cx} {F0 F : Hp} {r : Rho} {O : Om} {Q : D → Om → Prop} {e : Expr}
/-- what is no longer wanted of the heap is let go -/
theorem ev_drop (h : Ev X F0 e r O fun d O1 => ∃ O2, Sup O2 O1 ∧ Q d O2) : Ev X F0 e r O Q := fun σ H F hx en =>
  tS_mono (h σ H F hx en) fun _ _ ⟨d, O1, F1, ⟨O2, s, q⟩, rp, hx1, l1⟩ => ⟨d, O2, F1, q, rp, hx1.drop s, l1⟩
end
abbrev Seen (f : Int) (ch : List (Int × Int)) (b : Int × Int) (ss : List (Int × Int)) : Prop := (sweep f ch b 0 ss).length = ss.length
def gsweep (f : Int) (ch : List (Int × Int)) (b : Int × Int) : Int → List (Int × Int) → List Int
  | _, [] => []
  | g, s :: ss => match ((numsOf f ch b s).filter fun n => decide (n ≤ g)).getLast? with
    | none => []
    | some x => x :: gsweep f ch b x ss
abbrev greats (f : Int) (ch : List (Int × Int)) (b : Int × Int) (ss : List (Int × Int)) : List Int := (gsweep f ch b ch.length ss.reverse).reverse
/-! ## seen: the backward sweep finds numbers too -/
theorem nums_pw {f : Int} {ch : List (Int × Int)} {b s : Int × Int} : (numsOf f ch b s).Pairwise (· < ·) := by
  refine List.Pairwise.filter _ ?_
  refine List.pairwise_map.mpr ?_
  exact List.pairwise_lt_range.imp fun h => by omega
theorem last_ge {xs : List Int} (h : xs.Pairwise (· < ·)) {x y : Int} (hx : x ∈ xs) (hy : xs.getLast? = some y) : x ≤ y := by
  induction xs with
  | nil => cases hx
  | cons a r ih =>
    obtain ⟨h1, h2⟩ := List.pairwise_cons.mp h
    cases r with
    | nil =>
      simp at hx hy
      omega
    | cons c r =>
      rw [List.getLast?_cons_cons] at hy
      rcases List.mem_cons.mp hx with e | e
      · subst e
        have := h1 y (List.mem_of_getLast? hy)
        omega
      · exact ih h2 e hy
/-- x follows numbers xs one by one -/
inductive Chn (f : Int) (ch : List (Int × Int)) (b : Int × Int) : Int → List (Int × Int) → List Int → Prop where
  | nil (l : Int) : Chn f ch b l [] []
  | cons {l x : Int} {s : Int × Int} {ss : List (Int × Int)} {xs : List Int} (h : x ∈ numsOf f ch b s) (hl : l ≤ x) (t : Chn f ch b x ss xs) : Chn f ch b l (s :: ss) (x :: xs)
theorem chn_of {f : Int} {ch : List (Int × Int)} {b : Int × Int} : ∀ {ss : List (Int × Int)} {l : Int}, (sweep f ch b l ss).length = ss.length → Chn f ch b l ss (sweep f ch b l ss)
  | [], l, _ => .nil l
  | s :: ss, l, h => by
    rw [sweep] at h ⊢
    cases e : (numsOf f ch b s).filter fun n => decide (l ≤ n) with
    | nil => rw [e] at h; simp at h
    | cons x t =>
      rw [e] at h
      have hx : x ∈ (numsOf f ch b s).filter fun n => decide (l ≤ n) := by rw [e]; exact List.mem_cons_self
      obtain ⟨h1, h2⟩ := List.mem_filter.mp hx
      exact .cons h1 (of_decide_eq_true h2) (chn_of (by simpa using h))
/-- the chain, from its end -/
inductive Rch (f : Int) (ch : List (Int × Int)) (b : Int × Int) : Int → List (Int × Int) → Prop where
  | nil (g : Int) : Rch f ch b g []
  | cons {g x : Int} {s : Int × Int} {ss : List (Int × Int)} (h : x ∈ numsOf f ch b s) (hl : x ≤ g) (t : Rch f ch b x ss) : Rch f ch b g (s :: ss)
theorem Rch.up {f : Int} {ch : List (Int × Int)} {b : Int × Int} {g g2 : Int} {ss : List (Int × Int)} (h : Rch f ch b g ss) (hg : g ≤ g2) : Rch f ch b g2 ss := by
  cases h with
  | nil => exact .nil _
  | cons h hl t => exact .cons h (Int.le_trans hl hg) t
theorem gs_full {f : Int} {ch : List (Int × Int)} {b : Int × Int} : ∀ {ss : List (Int × Int)} {g : Int}, Rch f ch b g ss → (gsweep f ch b g ss).length = ss.length
  | [], g, _ => rfl
  | s :: ss, g, h => by
    cases h with
    | cons h hl t =>
      rename_i x
      have hx : x ∈ (numsOf f ch b s).filter fun n => decide (n ≤ g) := List.mem_filter.mpr ⟨h, decide_eq_true hl⟩
      rw [gsweep]
      cases e : ((numsOf f ch b s).filter fun n => decide (n ≤ g)).getLast? with
      | none =>
        rw [List.getLast?_eq_none_iff] at e
        rw [e] at hx; cases hx
      | some y =>
        have hxy : x ≤ y := last_ge (nums_pw.filter _) hx e
        rw [List.length_cons, List.length_cons]
        exact congrArg _ (gs_full (t.up hxy))
theorem nums_le {f : Int} {ch : List (Int × Int)} {b s : Int × Int} {x : Int} (h : x ∈ numsOf f ch b s) : x ≤ ch.length := by
  obtain ⟨h1, _⟩ := List.mem_filter.mp h
  obtain ⟨j, hj, rfl⟩ := List.mem_map.mp h1
  have hj := List.mem_range.mp hj
  have := highN_le (ch := ch) (b := b) (t := s.1)
  omega
/-- a chain read backwards, ahead of a tail -/
theorem rch_of {f : Int} {ch : List (Int × Int)} {b : Int × Int} : ∀ {ss : List (Int × Int)} {xs : List Int} {l : Int} {acc : List (Int × Int)}, Chn f ch b l ss xs → Rch f ch b l acc → (acc ≠ [] ∨ True) → Rch f ch b ((xs.getLast?).getD l) (ss.reverse ++ acc)
  | _, _, _, acc, .nil l, h, _ => h
  | _, _, _, acc, .cons (x := x) (s := s) (ss := ss) (xs := xs) hx hl t, h, _ => by
    rw [List.reverse_cons, List.append_assoc]
    have := rch_of (acc := s :: acc) t (.cons hx (Int.le_refl x) (h.up hl)) (.inr trivial)
    cases xs with
    | nil => exact this
    | cons y ys =>
      rw [List.getLast?_cons_cons]
      have e : ((y :: ys).getLast?).getD x = ((y :: ys).getLast?).getD 0 := by
        cases q : (y :: ys).getLast? with
        | none => simp at q
        | some z => rfl
      have e2 : ∀ l : Int, ((y :: ys).getLast?).getD l = ((y :: ys).getLast?).getD 0 := fun l => by
        cases q : (y :: ys).getLast? with
        | none => simp at q
        | some z => rfl
      rw [e2 _]
      rw [e] at this
      exact this
theorem Chn.le {f : Int} {ch : List (Int × Int)} {b : Int × Int} : ∀ {l : Int} {ss : List (Int × Int)} {xs : List Int}, Chn f ch b l ss xs → ∀ x ∈ xs, x ≤ ch.length
  | _, _, _, .nil l, x, hx => by cases hx
  | _, _, _, .cons h hl t, x, hx => by
    rcases List.mem_cons.mp hx with e | e
    · rw [e]; exact nums_le h
    · exact t.le x e
theorem greats_full {f : Int} {ch : List (Int × Int)} {b : Int × Int} {ss : List (Int × Int)} (h : Seen f ch b ss) : (gsweep f ch b ch.length ss.reverse).length = ss.length := by
  have c := chn_of h
  have r := rch_of c (.nil 0) (.inr trivial)
  rw [List.append_nil] at r
  have hg : ((sweep f ch b 0 ss).getLast?).getD 0 ≤ ch.length := by
    cases q : (sweep f ch b 0 ss).getLast? with
    | none => exact Int.natCast_nonneg _
    | some z => exact c.le z (List.mem_of_getLast? q)
  have := gs_full (r.up hg)
  rw [this, List.length_reverse]
section
variable {P : Program} {w : World} {K : PySem.W.Frag} {mg : Str → Option Value} {base : Heap}
def S_is_seen : SpD := fun ds O Q _ => ∃ f ch b, ∃ ss : List (Int × Int), ds = [lnD f ch b, .lst (ss.map pD)] ∧ ch.length ≤ 1000 ∧ ss.length ≤ 1000 ∧ Q (.bl (decide (Seen f ch b ss))) O
theorem S_is_seen_len {ds O Q QE} (h : S_is_seen ds O Q QE) : ds.length = 2 := by obtain ⟨f, ch, b, t, e, _⟩ := h; rw [e]; rfl
theorem f_is_seen (W : Wd P w K mg base) : Fg P w K mg base .heat 8 "is_seen" S_is_seen := by
  refine W.fg 33 (d := d_is_seen) sc_is_seen rfl rfl (by decide +kernel) rfl (fun _ _ _ _ _ _ us hl => match us, hl with | [_, _], _ => rfl) (fun ds O Q QE h => S_is_seen_len h) ?_
  rintro cdv A outer s H E F0 ds O Q QE hm hr xe ⟨f, ch, b, ss, rfl, hl, hs, q⟩
  refine ss_cons (s_ret (ev_cmp (ev_blt (av_cons (ev_call (f_swept W) (hr.mono (by decide)) hm xer0 (av_cons (ev_name (i := 0) rfl (av_cons (ev_name (i := 1) rfl (av_nil ⟨f, ch, b, ss, rfl, hl, hs, av_nil (cl_len_lst ?_)⟩))))))) (W.fre _ (by decide +kernel)) boot_len)))
  refine ev_blt (av_cons (ev_name (i := 1) rfl (av_nil (cl_len_lst ⟨_, od_eqi, bq ?_ q⟩)))) (W.fre _ (by decide +kernel)) boot_len
  rw [List.length_map, List.length_map]
  exact decide_eq_decide.mpr (by omega)
def S_least_numbers : SpD := fun ds O Q _ => ∃ f ch b, ∃ ss : List (Int × Int), ds = [lnD f ch b, .lst (ss.map pD)] ∧ ch.length ≤ 1000 ∧ ss.length ≤ 1000 ∧ Seen f ch b ss ∧ Q (.lst ((sweep f ch b 0 ss).map .int)) O
theorem S_least_numbers_len {ds O Q QE} (h : S_least_numbers ds O Q QE) : ds.length = 2 := by obtain ⟨f, ch, b, t, e, _⟩ := h; rw [e]; rfl
theorem f_least_numbers (W : Wd P w K mg base) : Fg P w K mg base .heat 9 "least_numbers" S_least_numbers := by
  refine W.fg 34 (d := d_least_numbers) sc_least_numbers rfl rfl (by decide +kernel) rfl (fun _ _ _ _ _ _ us hl => match us, hl with | [_, _], _ => rfl) (fun ds O Q QE h => S_least_numbers_len h) ?_
  rintro cdv A outer s H E F0 ds O Q QE hm hr xe ⟨f, ch, b, ss, rfl, hl, hs, hsn, q⟩
  refine ss_cons (s_ret (ev_if (tv_val (ev_call (f_is_seen W) (hr.mono (by decide)) hm xer0 (av_cons (ev_name (i := 0) rfl (av_cons (ev_name (i := 1) rfl (av_nil ⟨f, ch, b, ss, rfl, hl, hs, _, rfl, ?_⟩)))))))))
  refine ⟨fun _ => ?_, fun h => absurd h (by rw [decide_eq_true hsn]; decide)⟩
  exact ev_call (f_swept W) (hr.mono (by decide)) hm xer0 (av_cons (ev_name (i := 0) rfl (av_cons (ev_name (i := 1) rfl (av_nil ⟨f, ch, b, ss, rfl, hl, hs, q⟩)))))
end
end K97
/-! # Walk N: greatest_numbers -/
namespace K97
open PySem PySem.Spec PyProof.Rows L2 TL
theorem atI_last {α : Type} {xs : List α} {x : α} (h : xs.getLast? = some x) : atI xs (-1) = some x := by
  have hne : xs ≠ [] := by rintro rfl; simp at h
  have hl : 0 < xs.length := List.length_pos_iff.mpr hne
  unfold atI ixN
  rw [if_neg (by decide), if_pos (by omega)]
  show xs[((-1 : Int) + (xs.length : Int)).toNat]? = some x
  have e : ((-1 : Int) + (xs.length : Int)).toNat = xs.length - 1 := by omega
  rw [e, ← List.getLast?_eq_getElem?]
  exact h
section
variable {P : Program} {w : World} {K : PySem.W.Frag} {mg : Str → Option Value} {base : Heap}
def S_greatest_numbers : SpD := fun ds O Q _ => ∃ f ch b, ∃ ss : List (Int × Int), ds = [lnD f ch b, .lst (ss.map pD)] ∧ ch.length ≤ 1000 ∧ ss.length ≤ 1000 ∧ Seen f ch b ss ∧ Q (.lst ((greats f ch b ss).map .int)) O
theorem S_greatest_numbers_len {ds O Q QE} (h : S_greatest_numbers ds O Q QE) : ds.length = 2 := by obtain ⟨f, ch, b, t, e, _⟩ := h; rw [e]; rfl
theorem f_greatest_numbers (W : Wd P w K mg base) : Fg P w K mg base .heat 9 "greatest_numbers" S_greatest_numbers := by
  refine W.fg 35 (d := d_greatest_numbers) sc_greatest_numbers rfl rfl (by decide +kernel) rfl (fun _ _ _ _ _ _ us hl => match us, hl with | [_, _], _ => rfl) (fun ds O Q QE h => S_greatest_numbers_len h) ?_
  rintro cdv A outer s H E F0 ds O Q QE hm hr xe ⟨f, ch, b, ss, rfl, hl, hs, hsn, q⟩
  have nd : N_greatest_numbers.Nodup := by decide
  have full := greats_full hsn
  refine ss_cons (s_if (tv_not (tv_val (ev_call (f_is_seen W) (hr.mono (by decide)) hm xer0 (av_cons (ev_name (i := 0) rfl (av_cons (ev_name (i := 1) rfl (av_nil ⟨f, ch, b, ss, rfl, hl, hs, _, rfl, ?_⟩)))))))))
  refine ⟨fun h => absurd h (by rw [decide_eq_true hsn]; decide), fun _ => ss_nil ?_⟩
  refine ss_cons (s_asg (ev_tup (av_cons (ev_lstO (av_nil ⟨by decide, fun p hp => ?_⟩)))))
  refine av_cons (ev_op (ev_blt (av_cons (ev_prop (f_Line_book W) (hr.mono (by decide)) trivial (ev_name (i := 0) rfl ⟨_, _, .inl rfl, f, ch, b, rfl, av_nil (cl_len_ob (c := .book) (n := ch.length + 1) (f_Book_len W) (hr.mono (by decide)) trivial (.inl rfl) (by omega) ⟨f, ch, rfl, rfl, rfl⟩ ?_)⟩))) (W.fre _ (by decide +kernel)) boot_len))
  refine ev_int ?_
  refine ⟨_, od_sub, ?_⟩
  refine av_nil ?_
  refine ⟨by show 2 ≤ 100000; decide, ?_⟩
  rw [show (((ch.length + 1 : Nat) : Int) - 1) = (ch.length : Int) by omega]
  refine gv_tup hm (.inl rfl) (gvs_cons (gv_name (i := 2) (gvs_cons (gv_name (i := 3) (gvs_nil ?_) nd)) nd))
  refine ss_cons (s_for po_b hm (iv_reversed (ev_typ (av_cons (ev_name (i := 1) rfl (av_nil (cl_list_lst ⟨_, rfl, ?_⟩)))) (W.fre _ (by decide +kernel)) boot_list) (W.fre _ (by decide +kernel))))
  rw [← List.map_reverse]
  refine ⟨fun i r2 O2 => ∃ (fd : List Int) (g : Int) (v4 : Option D), r2 = [some (lnD f ch b), some (.lst (ss.map pD)), some (.adr p), some (.int g), v4, none] ∧ O2 = O.put p (.lst (fd.map .int)) ∧ gsweep f ch b ch.length ss.reverse = fd ++ gsweep f ch b g (ss.reverse.drop i) ∧ fd.length = i, ⟨[], _, none, rfl, rfl, rfl, rfl⟩, ?_, ?_⟩
  · rintro i d r2 O2 hi ⟨fd, g, v4, rfl, rfl, hsw, hfd⟩
    rw [List.getElem?_map] at hi
    cases hg : ss.reverse[i]? with
    | none => rw [hg] at hi; cases hi
    | some s0 =>
      rw [hg] at hi
      cases hi
      have hil : i < ss.reverse.length := (List.getElem?_eq_some_iff.mp hg).1
      have hdr : ss.reverse.drop i = s0 :: ss.reverse.drop (i + 1) := by
        rw [List.drop_eq_getElem_cons hil]
        congr 1
        rw [List.getElem?_eq_getElem hil] at hg
        exact Option.some.inj hg
      rw [hdr, gsweep] at hsw
      have hil2 : i < ss.length := by rw [List.length_reverse] at hil; exact hil
      refine gv_name (i := 4) ?_ nd
      cases hf : ((numsOf f ch b s0).filter fun n => decide (n ≤ g)).getLast? with
      | none =>
        rw [hf] at hsw
        have e := congrArg List.length hsw
        rw [full, List.length_append] at e
        simp at e
        omega
      | some x =>
        rw [hf] at hsw
        refine ss_cons (s_set (i := 3) (ev_ix (ev_lcm D.int decI decI_e [("number", 5)] nd hm (iv_val (ev_call (f_numbers_of W) (hr.mono (by decide)) hm xer0 (av_cons (ev_name (i := 0) rfl (av_cons (ev_name (i := 4) rfl (av_nil ⟨f, ch, b, s0, rfl, hl, ?_⟩))))))) (show BlkOk N_greatest_numbers (defScope d_greatest_numbers.st) _ _ from blkOk_by (by decide +kernel)))) nd)
        refine ⟨_, rfl, numsOf f ch b s0, fun n => if decide (n ≤ g) then some (.int n) else none, rfl, by have := numsOf_len (f := f) (ch := ch) (b := b) (s := s0); omega, ?_, ?_⟩
        rotate_left
        · intro s H C cl fp hh O3 sp n hn
          exact bd_if (i := 5) (tv_cmp (ev_name (i := 5) rfl (ev_name (i := 3) rfl ⟨_, od_le, rfl, rfl⟩))) (fun _ => ev_name (i := 5) rfl ⟨rfl, rfl⟩) nd
        rw [fm_if]
        have hx : (((numsOf f ch b s0).filter fun n => decide (n ≤ g)).map D.int).getLast? = some (.int x) := by rw [List.getLast?_map, hf]; rfl
        refine ev_un (ev_int ⟨_, ud_neg, _, xd_lst (atI_last hx), ?_⟩)
        refine ss_cons (s_expr (ev_bm PySem.F.plainAttrs_list PySem.F.slot_list_append PySem.F.type_list_append (ev_name (i := 2) rfl ⟨⟨rfl, _, Om.put_same⟩, av_cons (ev_name (i := 3) rfl (av_nil (md_append Om.put_same (by rw [List.length_map]; omega) (ss_nil ?_))))⟩)))
        refine ⟨fd ++ [x], x, _, rfl, ?_, ?_, by rw [List.length_append, hfd]; rfl⟩
        · rw [Om.put_put, List.map_append]; rfl
        · rw [hsw, List.append_assoc]; rfl
  · rintro r2 O2 ⟨fd, g, v4, rfl, rfl, hsw, hfd⟩
    rw [List.length_map, List.drop_length, gsweep, List.append_nil] at hsw
    refine ss_cons (s_ret (ev_drop (ev_rev (ev_name (i := 2) rfl ⟨_, .inr ⟨p, rfl, Om.put_same⟩, O, Sup.put hp, ?_⟩))))
    rw [← List.map_reverse, ← hsw]
    exact q
end
end K97
/-! # Walk O: numbers_at -/
namespace K97
open PySem PySem.Spec PyProof.Rows L2 TL
abbrev aheadN (ss : List (Int × Int)) (t : Int) : Nat := (ss.filter fun s => decide (s.1 < t)).length
abbrev uptoN (ss : List (Int × Int)) (t : Int) : Nat := (ss.filter fun s => decide (s.1 ≤ t)).length
abbrev leastL (f : Int) (ch : List (Int × Int)) (b : Int × Int) (ss : List (Int × Int)) : List Int := 0 :: sweep f ch b 0 ss
abbrev greatL (f : Int) (ch : List (Int × Int)) (b : Int × Int) (ss : List (Int × Int)) : List Int := greats f ch b ss ++ [(ch.length : Int)]
def spotOk (f : Int) (ch : List (Int × Int)) (b : Int × Int) (ss : List (Int × Int)) (n sp : Int) : Bool := decide ((leastL f ch b ss).getD sp.toNat 0 ≤ n) && decide (n ≤ (greatL f ch b ss).getD sp.toNat 0)
def spots (f : Int) (ch : List (Int × Int)) (b : Int × Int) (ss : List (Int × Int)) (t n : Int) : List Int := (rngI (aheadN ss t) (uptoN ss t + 1 - aheadN ss t)).filter (spotOk f ch b ss n)
def nAt (f : Int) (ch : List (Int × Int)) (b : Int × Int) (ss : List (Int × Int)) (t : Int) : List Int :=
  (rngI (lowN ch b t) (highN ch b t + 1 - lowN ch b t)).filter fun n => !decide (spots f ch b ss t n = [])
theorem upto_le {ss : List (Int × Int)} {t : Int} : uptoN ss t ≤ ss.length := List.length_filter_le _ _
theorem take_filter {α : Type} {xs : List α} {i : Nat} {x : α} {p : α → Bool} (h : xs[i]? = some x) : (xs.take (i + 1)).filter p = (xs.take i).filter p ++ (if p x then [x] else []) := by
  rw [List.take_succ, h, List.filter_append]
  congr 1
  cases hp : p x <;> simp [hp]
section
variable {P : Program} {w : World} {K : PySem.W.Frag} {mg : Str → Option Value} {base : Heap}
def S_numbers_at : SpD := fun ds O Q _ => ∃ f ch b, ∃ (ss : List (Int × Int)) (t : Int), ds = [lnD f ch b, .lst (ss.map pD), .int t] ∧ ch.length ≤ 1000 ∧ ss.length ≤ 1000 ∧ Seen f ch b ss ∧ Q (.lst ((nAt f ch b ss t).map .int)) O
theorem S_numbers_at_len {ds O Q QE} (h : S_numbers_at ds O Q QE) : ds.length = 3 := by obtain ⟨f, ch, b, ss, t, e, _⟩ := h; rw [e]; rfl
theorem getD_some {xs : List Int} {i : Nat} (h : i < xs.length) : xs[i]? = some (xs.getD i 0) := by
  rw [List.getD_eq_getElem?_getD, List.getElem?_eq_getElem h]; rfl
theorem f_numbers_at (W : Wd P w K mg base) : Fg P w K mg base .heat 10 "numbers_at" S_numbers_at := by
  refine W.fg 36 (d := d_numbers_at) sc_numbers_at rfl rfl (by decide +kernel) rfl (fun _ _ _ _ _ _ us hl => match us, hl with | [_, _, _], _ => rfl) (fun ds O Q QE h => S_numbers_at_len h) ?_
  rintro cdv A outer s H E F0 ds O Q QE hm hr xe ⟨f, ch, b, ss, t, rfl, hl, hs, hsn, q⟩
  have nd : N_numbers_at.Nodup := by decide
  have full := greats_full hsn
  have l1 := lowN_le (ch := ch) (b := b) (t := t)
  have l2 := highN_le (ch := ch) (b := b) (t := t)
  have lu := upto_le (ss := ss) (t := t)
  have la : aheadN ss t ≤ ss.length := List.length_filter_le _ _
  have eL : (leastL f ch b ss).length = ss.length + 1 := by rw [List.length_cons, hsn]
  have eG : (greatL f ch b ss).length = ss.length + 1 := by rw [List.length_append, List.length_reverse, full]; rfl
  refine ss_cons (s_if (tv_not (tv_val (ev_call (f_is_seen W) (hr.mono (by decide)) hm xer0 (av_cons (ev_name (i := 0) rfl (av_cons (ev_name (i := 1) rfl (av_nil ⟨f, ch, b, ss, rfl, hl, hs, _, rfl, ?_⟩)))))))))
  refine ⟨fun h => absurd h (by rw [decide_eq_true hsn]; decide), fun _ => ss_nil ?_⟩
  refine ss_cons (s_set (i := 3) (ev_op (ev_lst (av_cons (ev_int (av_nil ⟨by show 1 ≤ 100000; decide, ?_⟩))))) nd)
  refine ev_call (f_least_numbers W) (hr.mono (by decide)) hm xer0 (av_cons (ev_name (i := 0) rfl (av_cons (ev_name (i := 1) rfl (av_nil ⟨f, ch, b, ss, rfl, hl, hs, hsn, _, od_cat (by rw [List.length_map, hsn]; simp; omega), ?_⟩)))))
  refine ss_cons (s_set (i := 4) (ev_op (ev_call (f_greatest_numbers W) (hr.mono (by decide)) hm xer0 (av_cons (ev_name (i := 0) rfl (av_cons (ev_name (i := 1) rfl (av_nil ⟨f, ch, b, ss, rfl, hl, hs, hsn, ?_⟩))))))) nd)
  refine ev_lst (av_cons (ev_op (ev_blt (av_cons (ev_prop (f_Line_book W) (hr.mono (by decide)) trivial (ev_name (i := 0) rfl ⟨_, _, .inl rfl, f, ch, b, rfl, av_nil (cl_len_ob (c := .book) (n := ch.length + 1) (f_Book_len W) (hr.mono (by decide)) trivial (.inl rfl) (by omega) ⟨f, ch, rfl, rfl, rfl⟩ ?_)⟩))) (W.fre _ (by decide +kernel)) boot_len)))
  refine ev_int ?_
  refine ⟨_, od_sub, ?_⟩
  refine av_nil ?_
  refine ⟨by show 1 ≤ 100000; decide, ?_⟩
  refine ⟨_, od_cat (by rw [List.length_map, List.length_reverse, full]; simp; omega), ?_⟩
  rw [show (((ch.length + 1 : Nat) : Int) - 1) = (ch.length : Int) by omega]
  have eLm : [D.int 0] ++ (sweep f ch b 0 ss).map D.int = (leastL f ch b ss).map D.int := rfl
  have eGm : (greats f ch b ss).map D.int ++ [D.int (ch.length : Int)] = (greatL f ch b ss).map D.int := by rw [List.map_append]; rfl
  rw [eLm, eGm]
  refine ss_cons (s_set (i := 5) (ev_blt (av_cons (ev_lcm pD decP decP_e [("one", 11)] nd hm (iv_val (ev_name (i := 1) rfl ⟨_, rfl, ss, fun s => if decide (s.1 < t) then some (pD s) else none, rfl, by omega, ?_, ?_⟩)) (show BlkOk N_numbers_at (defScope d_numbers_at.st) _ _ from blkOk_by (by decide +kernel)))) (W.fre _ (by decide +kernel)) boot_len) nd)
  rotate_left
  · intro s H C cl fp hh O3 sp n hn
    exact bd_if (i := 11) (tv_cmp (ev_ix (ev_name (i := 11) rfl (ev_int ⟨_, xd_tup rfl, ev_name (i := 2) rfl ⟨_, od_lt, rfl, rfl⟩⟩)))) (fun _ => ev_name (i := 11) rfl ⟨rfl, rfl⟩) nd
  rw [fm_if]
  refine av_nil (cl_len_lst ?_)
  rw [List.length_map]
  refine ss_cons (s_set (i := 6) (ev_blt (av_cons (ev_lcm pD decP decP_e [("one", 11)] nd hm (iv_val (ev_name (i := 1) rfl ⟨_, rfl, ss, fun s => if decide (s.1 ≤ t) then some (pD s) else none, rfl, by omega, ?_, ?_⟩)) (show BlkOk N_numbers_at (defScope d_numbers_at.st) _ _ from blkOk_by (by decide +kernel)))) (W.fre _ (by decide +kernel)) boot_len) nd)
  rotate_left
  · intro s H C cl fp hh O3 sp n hn
    exact bd_if (i := 11) (tv_cmp (ev_ix (ev_name (i := 11) rfl (ev_int ⟨_, xd_tup rfl, ev_name (i := 2) rfl ⟨_, od_le, rfl, rfl⟩⟩)))) (fun _ => ev_name (i := 11) rfl ⟨rfl, rfl⟩) nd
  rw [fm_if]
  refine av_nil (cl_len_lst ?_)
  rw [List.length_map]
  refine ss_cons (s_asg (ev_meth (f_Line_stretch W) (hr.mono (by decide)) hm xer0 (ev_name (i := 0) rfl ⟨_, _, .inl rfl, by decide +kernel, av_cons (ev_name (i := 2) rfl (av_nil ⟨f, ch, b, t, rfl, hl, ?_⟩))⟩)))
  refine gv_tup hm (.inl rfl) (gvs_cons (gv_name (i := 7) (gvs_cons (gv_name (i := 8) (gvs_nil ?_) nd)) nd))
  refine ss_cons (s_set (i := 9) (ev_lstO (av_nil ⟨by decide, fun p hp => ?_⟩)) nd)
  refine ss_cons (s_for po_b hm (iv_range2 (ev_name (i := 7) rfl ⟨_, rfl, ⟨by omega, by omega⟩, ev_op (ev_name (i := 8) rfl (ev_int ⟨_, od_add, _, rfl, ⟨by omega, by omega⟩, ?_⟩))⟩) (W.fre _ (by decide +kernel))))
  have e : (((highN ch b t : Nat) : Int) + 1 - ((lowN ch b t : Nat) : Int)).toNat = highN ch b t + 1 - lowN ch b t := by omega
  rw [e, rngD_I]
  have rl : (rngI (lowN ch b t) (highN ch b t + 1 - lowN ch b t)).length ≤ 1001 := by simp; omega
  refine ⟨fun i r2 O2 => ∃ (v : Option D), r2 = [some (lnD f ch b), some (.lst (ss.map pD)), some (.int t), some (.lst ((leastL f ch b ss).map .int)), some (.lst ((greatL f ch b ss).map .int)), some (.int (aheadN ss t : Nat)), some (.int (uptoN ss t : Nat)), some (.int (lowN ch b t : Nat)), some (.int (highN ch b t : Nat)), some (.adr p), v, none, none] ∧
    O2 = O.put p (.lst ((((rngI (lowN ch b t) (highN ch b t + 1 - lowN ch b t)).take i).filter fun n => !decide (spots f ch b ss t n = [])).map .int)), ⟨none, rfl, rfl⟩, ?_, ?_⟩
  · rintro i d r2 O2 hi ⟨v, rfl, rfl⟩
    rw [List.getElem?_map] at hi
    cases hg : (rngI (lowN ch b t) (highN ch b t + 1 - lowN ch b t))[i]? with
    | none => rw [hg] at hi; cases hi
    | some n =>
      rw [hg] at hi
      cases hi
      have tf := take_filter (p := fun n => !decide (spots f ch b ss t n = [])) hg
      refine gv_name (i := 10) ?_ nd
      refine ss_cons (s_if (tv_cmp (ev_lcm D.int decI decI_e [("spot", 12)] nd hm (iv_range2 (ev_name (i := 5) rfl ⟨_, rfl, ⟨by omega, by omega⟩, ev_op (ev_name (i := 6) rfl (ev_int ⟨_, od_add, _, rfl, ⟨by omega, by omega⟩, ?_⟩))⟩) (W.fre _ (by decide +kernel))) (show BlkOk N_numbers_at (defScope d_numbers_at.st) _ _ from blkOk_by (by decide +kernel)))))
      have e2 : (((uptoN ss t : Nat) : Int) + 1 - ((aheadN ss t : Nat) : Int)).toNat = uptoN ss t + 1 - aheadN ss t := by omega
      rw [e2]
      refine ⟨rngI (aheadN ss t) (uptoN ss t + 1 - aheadN ss t), fun sp => if spotOk f ch b ss n sp then some (.int sp) else none, rngD_I, by simp; omega, ?_, ?_⟩
      rotate_left
      · intro s H C cl fp hh O3 sp x hx
        obtain ⟨j, hj, rfl⟩ := List.mem_map.mp hx
        have hj := List.mem_range.mp hj
        have ex : (((aheadN ss t : Nat) : Int) + (j : Int)) = ((aheadN ss t + j : Nat) : Int) := by omega
        have ex2 : (((aheadN ss t : Nat) : Int) + (j : Int)).toNat = aheadN ss t + j := by omega
        have g1 := getmap (f := D.int) (getD_some (xs := leastL f ch b ss) (i := aheadN ss t + j) (by omega))
        have g2 := getmap (f := D.int) (getD_some (xs := greatL f ch b ss) (i := aheadN ss t + j) (by omega))
        refine bd_if (i := 12) (k := spotOk f ch b ss n (((aheadN ss t : Nat) : Int) + (j : Int))) ?_ (fun _ => ev_name (i := 12) rfl ⟨rfl, rfl⟩) nd
        unfold spotOk
        rw [ex2]
        refine tv_chain (ev_ix (ev_name (i := 3) rfl (ev_name (i := 12) rfl ⟨_, ex ▸ xd_lst (atI_nat g1), ev_name (i := 10) rfl ⟨_, od_le, fun h1 => ?_, fun h1 => ?_⟩⟩)))
        · refine ev_ix (ev_name (i := 4) rfl (ev_name (i := 12) rfl ⟨_, ex ▸ xd_lst (atI_nat g2), _, od_le, rfl, ?_⟩))
          rw [h1]; rfl
        · exact ⟨rfl, by rw [h1]; rfl⟩
      rw [fm_if]
      refine ev_lst ?_
      refine av_nil ?_
      refine ⟨by decide, ?_⟩
      refine ⟨_, od_ne hr.u64 ok_ints ok_nil, ?_⟩
      rw [eqv_nil]
      have em : decide (((rngI (aheadN ss t) (uptoN ss t + 1 - aheadN ss t)).filter (spotOk f ch b ss n)).map D.int = []) = decide (spots f ch b ss t n = []) := decide_eq_decide.mpr List.map_eq_nil_iff
      have em2 : (!decide (((rngI (aheadN ss t) (uptoN ss t + 1 - aheadN ss t)).filter fun sp => spotOk f ch b ss n sp).map D.int = [])) = (!decide (spots f ch b ss t n = [])) := congrArg _ em
      refine ⟨fun h => ?_, fun h => ss_nil (ss_nil ?_)⟩
      · have hh : (!decide (spots f ch b ss t n = [])) = true := em2.symm.trans h
        refine ss_cons (s_expr (ev_bm PySem.F.plainAttrs_list PySem.F.slot_list_append PySem.F.type_list_append (ev_name (i := 9) rfl ⟨⟨rfl, _, Om.put_same⟩, av_cons (ev_name (i := 10) rfl (av_nil (md_append Om.put_same ?_ (ss_nil (ss_nil ?_)))))⟩)))
        · rw [List.length_map]
          have h1 := List.length_filter_le (fun n => !decide (spots f ch b ss t n = [])) ((rngI (lowN ch b t) (highN ch b t + 1 - lowN ch b t)).take i)
          have h2 : ((rngI (lowN ch b t) (highN ch b t + 1 - lowN ch b t)).take i).length ≤ (rngI (lowN ch b t) (highN ch b t + 1 - lowN ch b t)).length := by rw [List.length_take]; exact Nat.min_le_right _ _
          omega
        · refine ⟨_, rfl, ?_⟩
          rw [Om.put_put, tf, hh]
          rw [List.map_append]
          rfl
      · have hh : (!decide (spots f ch b ss t n = [])) = false := em2.symm.trans h
        refine ⟨_, rfl, ?_⟩
        rw [tf, hh]
        simp
  · rintro r2 O2 ⟨v, rfl, rfl⟩
    refine ss_cons (s_retL (ev_name (i := 9) rfl ⟨p, _, rfl, Om.put_same, ?_⟩))
    rw [Om.put_del hp, List.length_map, List.take_length]
    exact q
end
end K97
/-! # Walk P: prices_seen_at, surely_at -/
namespace K97
open PySem PySem.Spec PyProof.Rows L2 TL
abbrev pAt (f : Int) (ch : List (Int × Int)) (b : Int × Int) (ss : List (Int × Int)) (t : Int) : List Int := sU ((nAt f ch b ss t).map (priceAt f ch))
def sureO : List Int → Option Int
  | [x] => some x
  | _ => none
theorem nAt_len {f : Int} {ch : List (Int × Int)} {b : Int × Int} {ss : List (Int × Int)} {t : Int} : (nAt f ch b ss t).length ≤ ch.length + 1 := by
  have h1 := List.length_filter_le (fun n => !decide (spots f ch b ss t n = [])) (rngI (lowN ch b t) (highN ch b t + 1 - lowN ch b t))
  have h2 := highN_le (ch := ch) (b := b) (t := t)
  rw [show (rngI (lowN ch b t) (highN ch b t + 1 - lowN ch b t)).length = highN ch b t + 1 - lowN ch b t by simp] at h1
  show (List.filter _ _).length ≤ _
  omega
theorem nAt_in {f : Int} {ch : List (Int × Int)} {b : Int × Int} {ss : List (Int × Int)} {t n : Int} (h : n ∈ nAt f ch b ss t) : ∃ k : Nat, n = k ∧ k ≤ ch.length := by
  obtain ⟨h1, _⟩ := List.mem_filter.mp h
  obtain ⟨j, hj, rfl⟩ := List.mem_map.mp h1
  have hj := List.mem_range.mp hj
  have := highN_le (ch := ch) (b := b) (t := t)
  exact ⟨lowN ch b t + j, by omega, by omega⟩
section
variable {P : Program} {w : World} {K : PySem.W.Frag} {mg : Str → Option Value} {base : Heap}
def S_prices_seen_at : SpD := fun ds O Q _ => ∃ f ch b, ∃ (ss : List (Int × Int)) (t : Int), ds = [lnD f ch b, .lst (ss.map pD), .int t] ∧ ch.length ≤ 60 ∧ ss.length ≤ 1000 ∧ Seen f ch b ss ∧ Q (.lst ((pAt f ch b ss t).map .int)) O
theorem S_prices_seen_at_len {ds O Q QE} (h : S_prices_seen_at ds O Q QE) : ds.length = 3 := by obtain ⟨f, ch, b, ss, t, e, _⟩ := h; rw [e]; rfl
theorem f_prices_seen_at (W : Wd P w K mg base) : Fg P w K mg base .heat 11 "prices_seen_at" S_prices_seen_at := by
  refine W.fg 37 (d := d_prices_seen_at) sc_prices_seen_at rfl rfl (by decide +kernel) rfl (fun _ _ _ _ _ _ us hl => match us, hl with | [_, _, _], _ => rfl) (fun ds O Q QE h => S_prices_seen_at_len h) ?_
  rintro cdv A outer s H E F0 ds O Q QE hm hr xe ⟨f, ch, b, ss, t, rfl, hl, hs, hsn, q⟩
  have nd : N_prices_seen_at.Nodup := by decide
  refine ss_cons (s_ret ?_)
  refine ev_sset hm ?_ (W.fre _ (by decide +kernel)) (W.fre _ (by decide +kernel))
  refine ev_lcm D.int decI decI_e [("number", 3)] nd hm (iv_val ?_) (show BlkOk N_prices_seen_at (defScope d_prices_seen_at.st) _ _ from blkOk_by (by decide +kernel))
  refine ev_call (f_numbers_at W) (hr.mono (by decide)) hm xer0 ?_
  refine av_cons (ev_name (i := 0) rfl ?_)
  refine av_cons (ev_name (i := 1) rfl ?_)
  refine av_cons (ev_name (i := 2) rfl ?_)
  refine av_nil ?_
  refine ⟨f, ch, b, ss, t, rfl, by omega, hs, hsn, ?_⟩
  have hn := nAt_len (f := f) (ch := ch) (b := b) (ss := ss) (t := t)
  refine ⟨_, rfl, nAt f ch b ss t, fun n => some (.int (priceAt f ch n)), rfl, by omega, ?_, ?_⟩
  · rw [fm_some]
    refine ⟨(nAt f ch b ss t).map (priceAt f ch), by rw [List.map_map]; rfl, by rw [List.length_map]; omega, q⟩
  · intro s H C cl fp hh O3 sp n hn
    obtain ⟨k, rfl, hk⟩ := nAt_in hn
    refine bd_name (i := 3) (ev_ixo (f_Book_getitem W) (getitem_fn W) (hr.mono (by decide)) trivial (ev_prop (f_Line_book W) (hr.mono (by decide)) trivial (ev_name (i := 0) rfl ⟨_, _, .inl rfl, f, ch, b, rfl, _, _, .inl rfl, ev_name (i := 3) rfl ⟨.inl rfl, f, ch, _, _, rfl, ?_, by omega, rfl, rfl⟩⟩))) nd
    exact price_some hk
def S_surely_at : SpD := fun ds O Q _ => ∃ f ch b, ∃ (ss : List (Int × Int)) (t : Int), ds = [lnD f ch b, .lst (ss.map pD), .int t] ∧ ch.length ≤ 60 ∧ ss.length ≤ 1000 ∧ Seen f ch b ss ∧ Q (oD (sureO (pAt f ch b ss t))) O
theorem S_surely_at_len {ds O Q QE} (h : S_surely_at ds O Q QE) : ds.length = 3 := by obtain ⟨f, ch, b, ss, t, e, _⟩ := h; rw [e]; rfl
theorem f_surely_at (W : Wd P w K mg base) : Fg P w K mg base .heat 12 "surely_at" S_surely_at := by
  refine W.fg 38 (d := d_surely_at) sc_surely_at rfl rfl (by decide +kernel) rfl (fun _ _ _ _ _ _ us hl => match us, hl with | [_, _, _], _ => rfl) (fun ds O Q QE h => S_surely_at_len h) ?_
  rintro cdv A outer s H E F0 ds O Q QE hm hr xe ⟨f, ch, b, ss, t, rfl, hl, hs, hsn, q⟩
  have nd : N_surely_at.Nodup := by decide
  refine ss_cons (s_set (i := 3) ?_ nd)
  refine ev_call (f_prices_seen_at W) (hr.mono (by decide)) hm xer0 ?_
  refine av_cons (ev_name (i := 0) rfl ?_)
  refine av_cons (ev_name (i := 1) rfl ?_)
  refine av_cons (ev_name (i := 2) rfl ?_)
  refine av_nil ?_
  refine ⟨f, ch, b, ss, t, rfl, hl, hs, hsn, ?_⟩
  generalize pAt f ch b ss t = ps at q ⊢
  refine ss_cons (s_ret (ev_if (tv_cmp (ev_blt (av_cons (ev_name (i := 3) rfl (av_nil (cl_len_lst (ev_int ⟨_, od_eqi, ?_⟩))))) (W.fre _ (by decide +kernel)) boot_len))))
  refine ⟨fun h => ?_, fun h => ?_⟩
  · have h1 : ps.length = 1 := by have := of_decide_eq_true h; rw [List.length_map] at this; omega
    match ps, h1, q with
    | [x], _, q => exact ev_ix (ev_name (i := 3) rfl (ev_int ⟨_, xd_lst (d := .int x) (atI_nat (i := 0) rfl), q⟩))
  · have h1 : ps.length ≠ 1 := by have := of_decide_eq_false h; rw [List.length_map] at this; omega
    refine ev_non ?_
    match ps, h1, q with
    | [], _, q => exact q
    | [x], h1, q => exact absurd rfl h1
    | x :: y :: r, _, q => exact q
end
end K97
/-! # Walk Q: show_book, is_deed -/
namespace K97
open PySem PySem.Spec PyProof.Rows L2 TL
abbrev tBook (f : Int) (ch : List (Int × Int)) : Str := Txt.join "; " (iS f :: ch.map tSight)
section
variable {P : Program} {w : World} {K : PySem.W.Frag} {mg : Str → Option Value} {base : Heap}
def S_show_book : SpD := fun ds O Q _ => ∃ f ch, ds = [bkD f ch] ∧ Sm f ∧ (∀ c ∈ ch, SmP c) ∧ ch.length ≤ 60 ∧ Q (.str (tBook f ch)) O
theorem S_show_book_len {ds O Q QE} (h : S_show_book ds O Q QE) : ds.length = 1 := by obtain ⟨f, ch, e, _⟩ := h; rw [e]; rfl
theorem f_show_book (W : Wd P w K mg base) : Fg P w K mg base .heat 6 "show_book" S_show_book := by
  refine W.fg 1 (d := d_show_book) sc_show_book rfl rfl (by decide +kernel) rfl (fun _ _ _ _ _ _ us hl => match us, hl with | [_], _ => rfl) (fun ds O Q QE h => S_show_book_len h) ?_
  rintro cdv A outer s H E F0 ds O Q QE hm hr xe ⟨f, ch, rfl, sf, sc, hl, q⟩
  have nd : N_show_book.Nodup := by decide
  refine ss_cons (s_ret ?_)
  refine ev_bm PySem.F.plainAttrs_str PySem.F.slot_str_join PySem.F.type_str_join (ev_str ⟨rfl, ?_⟩)
  refine av_cons (ev_op ?_)
  refine ev_lst ?_
  refine av_cons (ev_typ ?_ (W.fre _ (by decide +kernel)) boot_str)
  refine av_cons (ev_ixo (f_Book_getitem W) (getitem_fn W) (hr.mono (by decide)) trivial (ev_name (i := 0) rfl ⟨_, _, .inl rfl, ev_int ⟨.inl rfl, f, ch, _, f, rfl, rfl, by decide, ?_⟩⟩))
  refine av_nil ?_
  refine cl_str_int sf.log ?_
  refine av_nil ?_
  refine ⟨by show 1 ≤ 100000; decide, ?_⟩
  refine ev_lcm pD decP decP_e [("change", 1)] nd hm (iv_val ?_) (show BlkOk N_show_book (defScope d_show_book.st) _ _ from blkOk_by (by decide +kernel))
  refine ev_meth0 (f_Book_changes W) (hr.mono (by decide)) trivial xer0 (ev_name (i := 0) rfl ⟨_, _, .inl rfl, by decide +kernel, f, ch, rfl, _, rfl, ch, fun c => some (.str (tSight c)), rfl, by omega, ?_, ?_⟩)
  · rw [fm_some]
    refine ⟨_, od_cat (by rw [List.length_map]; simp; omega), ?_⟩
    rw [show ([D.str (Str.ofString (toString f))] ++ ch.map fun c => D.str (tSight c)) = (iS f :: ch.map tSight).map D.str by rw [List.map_cons, List.map_map]; rfl]
    refine av_nil (md_join ?_ q)
    have h1 := sum_le (as := ch) (f := fun c => (tSight c).length) (n := 3846) fun c hc => len_sight (sc c hc)
    have h2 := sf.fit
    have h3 : (Str.ofString "; ").length = 2 := by decide +kernel
    rw [List.map_cons, List.sum_cons, List.map_map, List.length_cons, List.length_map, h3]
    show (iS f).length + (ch.map fun c => (tSight c).length).sum + _ ≤ _
    omega
  · intro s H C cl fp hh O3 sp c hc
    refine bd_name (i := 1) ?_ nd
    refine ev_call (f_show_sighting W) (hr.mono (by decide)) trivial xer0 ?_
    refine av_cons (ev_name (i := 1) rfl ?_)
    refine av_nil ?_
    exact ⟨c, rfl, sc c hc, rfl, rfl⟩
def S_is_deed : SpD := fun ds O Q _ => ∃ (c : Str × Int × Int), ds = [dD c] ∧ c.1 ∈ kinds ∧ 0 ≤ c.2.2 ∧ Q (.bl true) O
theorem S_is_deed_len {ds O Q QE} (h : S_is_deed ds O Q QE) : ds.length = 1 := by obtain ⟨c, e, _⟩ := h; rw [e]; rfl
theorem f_is_deed (W : Wd P w K mg base) : Fg P w K mg base .any 3 "is_deed" S_is_deed := by
  refine W.fg 39 (d := d_is_deed) sc_is_deed rfl rfl (by decide +kernel) rfl (fun _ _ _ _ _ _ us hl => match us, hl with | [_], _ => rfl) (fun ds O Q QE h => S_is_deed_len h) ?_
  rintro cdv A outer s H E F0 ds O Q QE hm hr xe ⟨c, rfl, hk, h0, q⟩
  refine ss_cons (s_if ?_)
  refine tv_w ?_
  refine tw_or ?_
  refine tv_not ?_
  refine tv_val ?_
  refine ev_blt ?_ (W.fre _ (by decide +kernel)) boot_isinstance
  refine av_cons (ev_name (i := 0) rfl ?_)
  refine av_cons (ev_ty ?_ (W.fre _ (by decide +kernel)) boot_tuple)
  refine av_nil ?_
  refine cl_isi rfl rfl ?_
  refine ⟨true, rfl, fun _ => ?_, nofun⟩
  refine tw_or1 ?_
  refine tv_cmp ?_
  refine ev_blt ?_ (W.fre _ (by decide +kernel)) boot_len
  refine av_cons (ev_name (i := 0) rfl ?_)
  refine av_nil ?_
  refine cl_len_tup ?_
  refine ev_int ?_
  refine ⟨_, od_nei, fun z => absurd z (by simp), fun _ => ss_nil ?_⟩
  refine ss_cons (s_if ?_)
  refine tv_w ?_
  refine tw_or ?_
  refine tv_not ?_
  refine tv_val ?_
  refine ev_blt ?_ (W.fre _ (by decide +kernel)) boot_isinstance
  refine av_cons (ev_ix (ev_name (i := 0) rfl (ev_int ⟨_, xd_tup (d := .str c.1) rfl, ?_⟩)))
  refine av_cons (ev_ty ?_ (W.fre _ (by decide +kernel)) boot_str)
  refine av_nil ?_
  refine cl_isi rfl rfl ?_
  refine ⟨true, rfl, fun _ => ?_, nofun⟩
  refine tw_or1 ?_
  refine tv_cmp ?_
  refine ev_ix ?_
  refine ev_name (i := 0) rfl ?_
  refine ev_int ?_
  refine ⟨_, xd_tup (d := .str c.1) rfl, ?_⟩
  refine ev_tup ?_
  refine av_cons (ev_str ?_)
  refine av_star ?_
  refine ev_glob (d := .tup [.str "label", .str "till"]) (v := .ref (He.ga K "PLACES")) (W.glo "PLACES" (by decide +kernel)) rfl W.plc ⟨_, .inl rfl, av_nil ⟨by show 3 ≤ 100000; decide, ?_⟩⟩
  refine ⟨_, od_nin_strs (ys := kinds), fun h => absurd h (by rw [decide_eq_true hk]; decide), fun _ => ss_nil ?_⟩
  refine ss_cons (s_ret ?_)
  refine ev_and ?_
  refine ev_call (f_is_integer W) (hr.mono (by decide)) trivial xer0 ?_
  refine av_cons (ev_ix (ev_name (i := 0) rfl (ev_int ⟨_, xd_tup rfl, ?_⟩)))
  refine av_nil ?_
  refine ⟨c.2.1, rfl, true, rfl, fun _ => ?_, nofun⟩
  refine ev_one ?_
  refine ev_call (f_is_price W) (hr.mono (by decide)) trivial xer0 ?_
  refine av_cons (ev_ix (ev_name (i := 0) rfl (ev_int ⟨_, xd_tup rfl, ?_⟩)))
  refine av_nil ?_
  refine ⟨c.2.2, rfl, ?_⟩
  rw [decide_eq_true h0]
  exact q
end
end K97
/-! # Walk R: Shop made, its line, its sightings -/
namespace K97
open PySem PySem.Spec PyProof.Rows L2 TL
/-- a state: the book's changes, what was seen on the label, at the till -/
structure Ss where
  ch : List (Int × Int)
  sl : List (Int × Int)
  st : List (Int × Int)
abbrev seenD (x : Ss) : D := .dict ["label", "till"] [.lst (x.sl.map pD), .lst (x.st.map pD)]
abbrev stD (f : Int) (x : Ss) : D := .tup [bkD f x.ch, seenD x]
abbrev bdsD (bl bt : Int × Int) : D := .dict ["label", "till"] [pD bl, pD bt]
abbrev shK : List Str := ["its_boards", "its_states", "its_deeds", "its_spot"]
abbrev Deed := Str × Int × Int
/-- a shop -/
structure Sh where
  f : Int
  bl : Int × Int
  bt : Int × Int
  sts : List Ss
  dds : List Deed
  spot : Nat
abbrev Sh.fs (s : Sh) : List D := [bdsD s.bl s.bt, .lst (s.sts.map (stD s.f)), .lst (s.dds.map dD), .int s.spot]
abbrev Sh.ow (s : Sh) : Ow := .ob .shop shK s.fs
section
variable {P : Program} {w : World} {K : PySem.W.Frag} {mg : Str → Option Value} {base : Heap}
abbrev sh0 (f : Int) (bl bt : Int × Int) : Sh := ⟨f, bl, bt, [⟨[], [], []⟩], [], 0⟩
def S_Shop_init : SpD := fun ds O Q _ => ∃ p f bl bt, ds = [.adr p, .int f, pD bl, pD bt] ∧ 0 ≤ f ∧ BdOk bl ∧ BdOk bt ∧ O p = some (.ob .shop [] []) ∧ Q .non (O.put p (sh0 f bl bt).ow)
theorem S_Shop_init_len {ds O Q QE} (h : S_Shop_init ds O Q QE) : ds.length = 4 := by obtain ⟨p, f, bl, bt, e, _⟩ := h; rw [e]; rfl
theorem ne_lt : (Str.ofString "label") ≠ (Str.ofString "till") := by decide +kernel
theorem b_Shop_init (W : Wd P w K mg base) : Bod P w K mg base .heat 6 d_Shop_init N_Shop_init S_Shop_init := by
  rintro cdv A outer s H E F0 ds O Q QE hm hr xe ⟨p, f, bl, bt, rfl, h0, hl, ht, hO, q⟩
  have nd : N_Shop_init.Nodup := by decide
  refine ss_cons (s_if ?_)
  refine tv_not ?_
  refine tv_val ?_
  refine ev_call (f_is_price W) (hr.mono (by decide)) trivial xer0 ?_
  refine av_cons (ev_name (i := 1) rfl ?_)
  refine av_nil ?_
  refine ⟨f, rfl, ?_⟩
  refine ⟨_, rfl, fun h => absurd h (by rw [decide_eq_true h0]; decide), fun _ => ss_nil ?_⟩
  refine ss_cons (s_if ?_)
  refine tv_not ?_
  refine tv_val ?_
  refine ev_call (f_is_board W) (hr.mono (by decide)) trivial xer0 ?_
  refine av_cons (ev_name (i := 2) rfl ?_)
  refine av_nil ?_
  refine ⟨bl.1, bl.2, rfl, ?_⟩
  refine ⟨_, rfl, fun h => absurd h (by rw [decide_eq_true (show 0 ≤ bl.1 ∧ 0 ≤ bl.2 ∧ bl.1 ≤ bl.2 from hl)]; decide), fun _ => ss_nil ?_⟩
  refine ss_cons (s_if ?_)
  refine tv_not ?_
  refine tv_val ?_
  refine ev_call (f_is_board W) (hr.mono (by decide)) trivial xer0 ?_
  refine av_cons (ev_name (i := 3) rfl ?_)
  refine av_nil ?_
  refine ⟨bt.1, bt.2, rfl, ?_⟩
  refine ⟨_, rfl, fun h => absurd h (by rw [decide_eq_true (show 0 ≤ bt.1 ∧ 0 ≤ bt.2 ∧ bt.1 ≤ bt.2 from ht)]; decide), fun _ => ss_nil ?_⟩
  refine ss_cons (s_fld (ev_dict2 ne_lt fun a ha => ?_))
  refine ev_name (i := 2) rfl ?_
  refine ev_name (i := 3) rfl ?_
  refine ⟨Om.put_same, ?_⟩
  rw [Om.put_del ha]
  refine gv_attr (ev_name (i := 0) rfl ⟨p, .shop, _, _, rfl, hO, W.cls _, W.nat (.shop, "its_boards") (by decide), by decide, ?_⟩)
  refine ss_cons (s_fld ?_)
  refine ev_lst ?_
  refine av_cons (ev_tup ?_)
  refine av_cons (ev_frz (ev_make (mk_book1 W) (hr.mono (by decide)) hm xer0 ?_))
  refine av_cons (ev_name (i := 1) rfl ?_)
  refine av_nil ?_
  intro a ha
  refine ⟨a, f, [], _, rfl, .inl rfl, ⟨h0, nofun, List.Pairwise.nil, by decide⟩, Om.put_same, rfl, a, .book, _, _, rfl, Om.put_same, ?_⟩
  rw [Om.put_put, Om.put_del ha]
  refine av_cons (ev_dict2 ne_lt fun a ha => ?_)
  refine ev_lst ?_
  refine av_nil ?_
  refine ⟨by decide, ?_⟩
  refine ev_lst ?_
  refine av_nil ?_
  refine ⟨by decide, Om.put_same, ?_⟩
  rw [Om.put_del ha]
  refine av_nil ?_
  refine ⟨by show 2 ≤ 100000; decide, ?_⟩
  refine av_nil ?_
  refine ⟨by show 1 ≤ 100000; decide, ?_⟩
  refine gv_attr (ev_name (i := 0) rfl ⟨p, .shop, _, _, rfl, Om.put_same, W.cls _, W.nat (.shop, "its_states") (by decide), by decide, ?_⟩)
  refine ss_cons (s_asg ?_)
  refine ev_tup ?_
  refine av_cons (ev_lst ?_)
  refine av_nil ?_
  refine ⟨by decide, ?_⟩
  refine av_cons (ev_int ?_)
  refine av_nil ?_
  refine ⟨by show 2 ≤ 100000; decide, ?_⟩
  refine gv_tup hm (.inl rfl) (gvs_cons (gv_attr (ev_name (i := 0) rfl ⟨p, .shop, _, _, rfl, Om.put_same, W.cls _, W.nat (.shop, "its_deeds") (by decide), by decide, ?_⟩)))
  refine gvs_cons (gv_attr (ev_name (i := 0) rfl ⟨p, .shop, _, _, rfl, Om.put_same, W.cls _, W.nat (.shop, "its_spot") (by decide), by decide, ?_⟩))
  refine gvs_nil (ss_nil ?_)
  rw [Om.put_put, Om.put_put, Om.put_put]
  exact q
theorem mk_shop (W : Wd P w K mg base) : Mkr P w K mg base .heat 7 .shop [] S_Shop_init :=
  W.mk0 40 (d := d_Shop_init) sc_Shop_init rfl rfl (by decide +kernel) rfl (fun _ _ _ _ _ _ us hl => match us, hl with | [_, _, _, _], _ => rfl) (fun ds O Q QE h => S_Shop_init_len h) (b_Shop_init W)
section
variable {X : Cx} {F0 : Hp} {r : Rho} {O : Om} {Q : D → Om → Prop} {e : Expr} {pos : Pos}
/-- the shop's fields -/
theorem fld_sh (W : Wd X.prog X.w X.K X.mg X.base) {x : Str} (hx : (Cl.shop, x) ∈ flds) (h : Ev X F0 e r O fun d O1 => ∃ (p : Addr) (s : Sh) (z : D), d = .adr p ∧ O1 p = some s.ow ∧ (shK.zip s.fs).lookup x = some z ∧ Q z O1) (hb : attributeBase e x X.env (eval e X.env) = eval e X.env := by rfl) : Ev X F0 (.Attribute e x pos) r O Q :=
  ev_fld (h.mono fun d O1 ⟨p, s, z, ed, ho, hz, q⟩ => ⟨.shop, _, _, _, .inr ⟨p, ed, ho⟩, W.cls _, W.nat (.shop, x) hx, hz, q⟩) hb
end
def S_Shop_book : SpD := fun ds O Q _ => ∃ p, ∃ (s : Sh) (x : Ss), ds = [.adr p] ∧ O p = some s.ow ∧ s.sts[s.spot]? = some x ∧ Q (bkD s.f x.ch) O
theorem S_Shop_book_len {ds O Q QE} (h : S_Shop_book ds O Q QE) : ds.length = 1 := by obtain ⟨p, s, x, e, _⟩ := h; rw [e]; rfl
theorem f_Shop_book (W : Wd P w K mg base) : Fp P w K mg base .any 1 .shop "book" S_Shop_book := by
  refine W.fp 41 (d := d_Shop_book) sc_Shop_book rfl rfl (by decide +kernel) rfl (fun _ _ _ _ _ _ us hl => match us, hl with | [_], _ => rfl) (fun ds O Q QE h => S_Shop_book_len h) ?_
  rintro cdv A outer s H E F0 ds O Q QE hm hr xe ⟨p, sh, x, rfl, hO, hx, q⟩
  refine ss_cons (s_ret ?_)
  refine ev_ix ?_
  refine ev_ix ?_
  refine fld_sh W (by decide) ?_
  refine ev_name (i := 0) rfl ?_
  refine ⟨p, sh, _, rfl, hO, rfl, ?_⟩
  refine fld_sh W (by decide) (ev_name (i := 0) rfl ⟨p, sh, _, rfl, hO, rfl, _, xd_lst (atI_nat (getmap hx)), ?_⟩)
  exact ev_int ⟨_, xd_tup rfl, q⟩
end
end K97
/-! # Walk S: Shop.line, sightings, log -/
namespace K97
open PySem PySem.Spec PyProof.Rows L2 TL
abbrev plcs : List Str := ["label", "till"]
def pick {α : Type} (pl : Str) (a b : α) : α := if pl = "label" then a else b
theorem pick_at {α : Type} {pl : Str} (h : pl ∈ plcs) (g : α → D) (a b : α) : (plcs.zip [g a, g b]).lookup pl = some (g (pick pl a b)) := by
  simp only [List.mem_cons, List.not_mem_nil, or_false] at h
  rcases h with rfl | rfl
  · unfold pick
    rw [if_pos rfl]
    simp [List.lookup]
  · unfold pick
    rw [if_neg (Ne.symm ne_lt)]
    have e : (Str.ofString "till" == Str.ofString "label") = false := by decide +kernel
    simp [List.lookup, e]
abbrev Sh.bd (s : Sh) (pl : Str) : Int × Int := pick pl s.bl s.bt
abbrev Ss.sn (x : Ss) (pl : Str) : List (Int × Int) := pick pl x.sl x.st
section
variable {P : Program} {w : World} {K : PySem.W.Frag} {mg : Str → Option Value} {base : Heap}
def S_Shop_line : SpD := fun ds O Q _ => ∃ p, ∃ (s : Sh) (x : Ss) (pl : Str), ds = [.adr p, .str pl] ∧ O p = some s.ow ∧ s.sts[s.spot]? = some x ∧ pl ∈ plcs ∧ BkOk s.f x.ch ∧ BdOk (s.bd pl) ∧ Q (lnD s.f x.ch (s.bd pl)) O
theorem S_Shop_line_len {ds O Q QE} (h : S_Shop_line ds O Q QE) : ds.length = 2 := by obtain ⟨p, s, x, pl, e, _⟩ := h; rw [e]; rfl
theorem f_Shop_line (W : Wd P w K mg base) : Fm P w K mg base .heat 7 .shop "line" S_Shop_line := by
  refine W.fm 42 (d := d_Shop_line) sc_Shop_line rfl rfl (by decide +kernel) rfl (fun _ _ _ _ _ _ us hl => match us, hl with | [_, _], _ => rfl) (fun ds O Q QE h => S_Shop_line_len h) ?_
  rintro cdv A outer s H E F0 ds O Q QE hm hr xe ⟨p, sh, x, pl, rfl, hO, hx, hp, ok, hb, q⟩
  refine ss_cons (s_if ?_)
  refine tv_w ?_
  refine tw_or ?_
  refine tv_not ?_
  refine tv_val ?_
  refine ev_blt ?_ (W.fre _ (by decide +kernel)) boot_isinstance
  refine av_cons (ev_name (i := 1) rfl ?_)
  refine av_cons (ev_ty ?_ (W.fre _ (by decide +kernel)) boot_str)
  refine av_nil ?_
  refine cl_isi rfl rfl ?_
  refine ⟨true, rfl, fun _ => ?_, nofun⟩
  refine tw_or1 ?_
  refine tv_cmp ?_
  refine ev_name (i := 1) rfl ?_
  refine ev_glob (d := .tup (plcs.map D.str)) (v := .ref (He.ga K "PLACES")) (W.glo "PLACES" (by decide +kernel)) rfl W.plc ⟨_, od_nin_strs, fun h => absurd h (by rw [decide_eq_true hp]; decide), fun _ => ss_nil ?_⟩
  refine ss_cons (s_ret (ev_frz (ev_make (mk_line W) (hr.mono (by decide)) hm xer0 ?_)))
  refine av_cons (ev_prop (f_Shop_book W) (hr.mono (by decide)) trivial (ev_name (i := 0) rfl ⟨_, _, .inr ⟨p, rfl, hO⟩, p, sh, x, rfl, hO, hx, ?_⟩))
  refine av_cons (ev_dget hr (fld_sh W (by decide) (ev_name (i := 0) rfl ⟨p, sh, _, rfl, hO, rfl, ev_name (i := 1) rfl ⟨_, _, _, _, rfl, rfl, pick_at hp pD sh.bl sh.bt, ?_⟩⟩)))
  refine av_nil fun a ha => ⟨a, sh.f, x.ch, sh.bd pl, rfl, ok, hb, Om.put_same, rfl, a, .line, _, _, rfl, Om.put_same, ?_⟩
  rw [Om.put_put, Om.put_del ha]
  exact q
def S_Shop_sightings : SpD := fun ds O Q _ => ∃ p, ∃ (s : Sh) (x : Ss) (pl : Str), ds = [.adr p, .str pl] ∧ O p = some s.ow ∧ s.sts[s.spot]? = some x ∧ pl ∈ plcs ∧ Q (.lst ((x.sn pl).map pD)) O
theorem S_Shop_sightings_len {ds O Q QE} (h : S_Shop_sightings ds O Q QE) : ds.length = 2 := by obtain ⟨p, s, x, pl, e, _⟩ := h; rw [e]; rfl
theorem f_Shop_sightings (W : Wd P w K mg base) : Fm P w K mg base .any 1 .shop "sightings" S_Shop_sightings := by
  refine W.fm 43 (d := d_Shop_sightings) sc_Shop_sightings rfl rfl (by decide +kernel) rfl (fun _ _ _ _ _ _ us hl => match us, hl with | [_, _], _ => rfl) (fun ds O Q QE h => S_Shop_sightings_len h) ?_
  rintro cdv A outer s H E F0 ds O Q QE hm hr xe ⟨p, sh, x, pl, rfl, hO, hx, hp, q⟩
  refine ss_cons (s_if ?_)
  refine tv_w ?_
  refine tw_or ?_
  refine tv_not ?_
  refine tv_val ?_
  refine ev_blt ?_ (W.fre _ (by decide +kernel)) boot_isinstance
  refine av_cons (ev_name (i := 1) rfl ?_)
  refine av_cons (ev_ty ?_ (W.fre _ (by decide +kernel)) boot_str)
  refine av_nil ?_
  refine cl_isi rfl rfl ?_
  refine ⟨true, rfl, fun _ => ?_, nofun⟩
  refine tw_or1 ?_
  refine tv_cmp ?_
  refine ev_name (i := 1) rfl ?_
  refine ev_glob (d := .tup (plcs.map D.str)) (v := .ref (He.ga K "PLACES")) (W.glo "PLACES" (by decide +kernel)) rfl W.plc ⟨_, od_nin_strs, fun h => absurd h (by rw [decide_eq_true hp]; decide), fun _ => ss_nil ?_⟩
  refine ss_cons (s_ret (ev_typ (av_cons (ev_dget hr (ev_ix (ev_ix (fld_sh W (by decide) (ev_name (i := 0) rfl ⟨p, sh, _, rfl, hO, rfl, ?_⟩)))))) (W.fre _ (by decide +kernel)) boot_list))
  refine fld_sh W (by decide) (ev_name (i := 0) rfl ⟨p, sh, _, rfl, hO, rfl, _, xd_lst (atI_nat (getmap hx)), ev_int ⟨_, xd_tup rfl, ?_⟩⟩)
  refine ev_name (i := 1) rfl ⟨_, _, _, _, rfl, rfl, pick_at hp (fun l => D.lst (l.map pD)) x.sl x.st, ?_⟩
  exact av_nil (cl_list_lst q)
def S_Shop_log : SpD := fun ds O Q _ => ∃ p, ∃ (s : Sh), ds = [.adr p] ∧ O p = some s.ow ∧ s.spot ≤ s.dds.length ∧ Q (.lst ((s.dds.take s.spot).map dD)) O
theorem S_Shop_log_len {ds O Q QE} (h : S_Shop_log ds O Q QE) : ds.length = 1 := by obtain ⟨p, s, e, _⟩ := h; rw [e]; rfl
theorem cut_take {α : Type} {xs : List α} {n : Nat} (h : n ≤ xs.length) : cutL xs none (some (n : Int)) = xs.take n := by
  unfold cutL
  have e1 : HT.sIx xs.length 0 none = 0 := rfl
  have e2 : HT.sIx xs.length xs.length (some (n : Int)) = n := by
    unfold HT.sIx
    simp only [show ¬ ((n : Int) < 0) by omega, if_false]
    simp
    omega
  rw [e1, e2]
  simp
theorem f_Shop_log (W : Wd P w K mg base) : Fm P w K mg base .any 1 .shop "log" S_Shop_log := by
  refine W.fm 48 (d := d_Shop_log) sc_Shop_log rfl rfl (by decide +kernel) rfl (fun _ _ _ _ _ _ us hl => match us, hl with | [_], _ => rfl) (fun ds O Q QE h => S_Shop_log_len h) ?_
  rintro cdv A outer s H E F0 ds O Q QE hm hr xe ⟨p, sh, rfl, hO, hs, q⟩
  refine ss_cons (s_ret (ev_slice (fld_sh W (by decide) (ev_name (i := 0) rfl ⟨p, sh, _, rfl, hO, rfl, pv_none (pv_some (fld_sh W (by decide) (ev_name (i := 0) rfl ⟨p, sh, _, rfl, hO, rfl, _, rfl, _, sd_lst, ?_⟩)))⟩))))
  rw [cut_take (by rw [List.length_map]; exact hs), ← List.map_take]
  exact q
end
end K97
/-! # Walk T: Shop.back, again -/
namespace K97
open PySem PySem.Spec PyProof.Rows L2 TL
section
variable {P : Program} {w : World} {K : PySem.W.Frag} {mg : Str → Option Value} {base : Heap}
theorem raises_nothing {X : Cx} (W : Wd X.prog X.w X.K X.mg X.base) : Raises X (.ref (He.ga X.K "Nothing")) := fun M h kin => by
  refine ⟨PySem.W.looks_subIn kin (W.xi "Nothing" (by decide)).hs, ?_⟩
  obtain ⟨bm, N, nm, qn, bs, hdct, sn, sub, ab, col, dd, k0, k1, k2, k3, k5, mN, hC, hN, hni, T⟩ := exc_obj kin W.xin
  exact fun A Q E s k q => wpAny_typeOf_ref (k _ _ hC) q
abbrev nothing : Exn := ⟨"Nothing", none⟩
def S_Shop_back : SpD := fun ds O Q QE => ∃ p, ∃ (s : Sh), ds = [.adr p] ∧ O p = some s.ow ∧ (s.spot = 0 → QE nothing O) ∧ (∀ k, s.spot = k + 1 → ∃ d, s.dds[k]? = some d ∧ Q (dD d) (O.put p ({ s with spot := k } : Sh).ow))
theorem S_Shop_back_len {ds O Q QE} (h : S_Shop_back ds O Q QE) : ds.length = 1 := by obtain ⟨p, s, e, _⟩ := h; rw [e]; rfl
theorem f_Shop_back (W : Wd P w K mg base) : Fm P w K mg base .cold 2 .shop "back" S_Shop_back := by
  refine W.fm 46 (d := d_Shop_back) sc_Shop_back rfl rfl (by decide +kernel) rfl (fun _ _ _ _ _ _ us hl => match us, hl with | [_], _ => rfl) (fun ds O Q QE h => S_Shop_back_len h) ?_
  rintro cdv A outer s H E F0 ds O Q QE hm hr xe ⟨p, sh, rfl, hO, qe, q⟩
  refine ss_cons (s_if ?_)
  refine tv_cmp ?_
  refine fld_sh W (by decide) ?_
  refine ev_name (i := 0) rfl ?_
  refine ⟨p, sh, _, rfl, hO, rfl, ev_int ⟨_, od_eqi, fun h => ?_, fun h => ss_nil ?_⟩⟩
  · have h0 : sh.spot = 0 := by have := of_decide_eq_true h; omega
    exact ss_cons (s_raise (.inl hm) xe.nm (ex_bare W.xin W.xkp (raises_nothing W) (W.glo "Nothing" (by decide +kernel)) (qe h0)))
  · have h0 : sh.spot ≠ 0 := by have := of_decide_eq_false h; omega
    obtain ⟨k, hk⟩ : ∃ k, sh.spot = k + 1 := ⟨sh.spot - 1, by omega⟩
    obtain ⟨d, hd, q⟩ := q k hk
    refine ss_cons (s_fldaug (g := fun i j => i - j) (p := p) (c := .shop) (m := (sh.spot : Nat)) in_sub (ev_name (i := 0) rfl ⟨rfl, hO, W.cls _, W.nat (.shop, "its_spot") (by decide), by decide, rfl, ev_int ⟨1, rfl, rfl, ?_⟩⟩))
    have e : ((sh.spot : Nat) : Int) - 1 = (k : Int) := by omega
    have e2 : Ow.ob Cl.shop (ksPut "its_spot" shK) (dsPut "its_spot" (.int (((sh.spot : Nat) : Int) - 1)) shK sh.fs) = ({ sh with spot := k } : Sh).ow := by rw [e]; rfl
    rw [e2]
    refine ss_cons (s_ret ?_)
    refine ev_ix ?_
    refine fld_sh W (by decide) ?_
    refine ev_name (i := 0) rfl ?_
    refine ⟨p, { sh with spot := k }, _, rfl, Om.put_same, rfl, ?_⟩
    refine fld_sh W (by decide) (ev_name (i := 0) rfl ⟨p, { sh with spot := k }, _, rfl, Om.put_same, rfl, _, xd_lst (atI_nat (getmap hd)), q⟩)
def S_Shop_again : SpD := fun ds O Q QE => ∃ p, ∃ (s : Sh), ds = [.adr p] ∧ O p = some s.ow ∧ (s.spot = s.dds.length → QE nothing O) ∧ (s.spot ≠ s.dds.length → ∃ d, s.dds[s.spot]? = some d ∧ Q (dD d) (O.put p ({ s with spot := s.spot + 1 } : Sh).ow))
theorem S_Shop_again_len {ds O Q QE} (h : S_Shop_again ds O Q QE) : ds.length = 1 := by obtain ⟨p, s, e, _⟩ := h; rw [e]; rfl
theorem f_Shop_again (W : Wd P w K mg base) : Fm P w K mg base .cold 2 .shop "again" S_Shop_again := by
  refine W.fm 47 (d := d_Shop_again) sc_Shop_again rfl rfl (by decide +kernel) rfl (fun _ _ _ _ _ _ us hl => match us, hl with | [_], _ => rfl) (fun ds O Q QE h => S_Shop_again_len h) ?_
  rintro cdv A outer s H E F0 ds O Q QE hm hr xe ⟨p, sh, rfl, hO, qe, q⟩
  refine ss_cons (s_if ?_)
  refine tv_cmp ?_
  refine fld_sh W (by decide) ?_
  refine ev_name (i := 0) rfl ?_
  refine ⟨p, sh, _, rfl, hO, rfl, ev_blt (av_cons (fld_sh W (by decide) (ev_name (i := 0) rfl ⟨p, sh, _, rfl, hO, rfl, av_nil (cl_len_lst ⟨_, od_eqi, fun h => ?_, fun h => ss_nil ?_⟩)⟩))) (W.fre _ (by decide +kernel)) boot_len⟩
  · have h0 : sh.spot = sh.dds.length := by have := of_decide_eq_true h; rw [List.length_map] at this; omega
    exact ss_cons (s_raise (.inl hm) xe.nm (ex_bare W.xin W.xkp (raises_nothing W) (W.glo "Nothing" (by decide +kernel)) (qe h0)))
  · have h0 : sh.spot ≠ sh.dds.length := by have := of_decide_eq_false h; rw [List.length_map] at this; omega
    obtain ⟨d, hd, q⟩ := q h0
    refine ss_cons (s_fldaug (g := fun i j => i + j) (p := p) (c := .shop) (m := (sh.spot : Nat)) in_add (ev_name (i := 0) rfl ⟨rfl, hO, W.cls _, W.nat (.shop, "its_spot") (by decide), by decide, rfl, ev_int ⟨1, rfl, rfl, ?_⟩⟩))
    have e : ((sh.spot : Nat) : Int) + 1 = ((sh.spot + 1 : Nat) : Int) := by omega
    have e2 : Ow.ob Cl.shop (ksPut "its_spot" shK) (dsPut "its_spot" (.int (((sh.spot : Nat) : Int) + 1)) shK sh.fs) = ({ sh with spot := sh.spot + 1 } : Sh).ow := by rw [e]; rfl
    rw [e2]
    refine ss_cons (s_ret ?_)
    refine ev_ix ?_
    refine fld_sh W (by decide) ?_
    refine ev_name (i := 0) rfl ?_
    refine ⟨p, { sh with spot := sh.spot + 1 }, _, rfl, Om.put_same, rfl, ?_⟩
    refine ev_op (fld_sh W (by decide) (ev_name (i := 0) rfl ⟨p, { sh with spot := sh.spot + 1 }, _, rfl, Om.put_same, rfl, ev_int ⟨_, od_sub, _, ?_, q⟩⟩))
    exact (show ((sh.spot : Nat) : Int) = ((sh.spot + 1 : Nat) : Int) - 1 by omega) ▸ xd_lst (atI_nat (getmap hd))
end
end K97
/-! # Walk U: Shop.numbers, prices, surely -/
namespace K97
open PySem PySem.Spec PyProof.Rows L2 TL
/-- x is the shop's state; it is sound -/
structure Cur (s : Sh) (x : Ss) : Prop where
  at_ : s.sts[s.spot]? = some x
  ok : BkOk s.f x.ch
  bd : ∀ pl ∈ plcs, BdOk (s.bd pl)
  len : x.ch.length ≤ 60
  lsn : ∀ pl ∈ plcs, (x.sn pl).length ≤ 1000
  seen : ∀ pl ∈ plcs, Seen s.f x.ch (s.bd pl) (x.sn pl)
section
variable {P : Program} {w : World} {K : PySem.W.Frag} {mg : Str → Option Value} {base : Heap}
abbrev Ask (g : Sh → Ss → Str → Int → D) : SpD := fun ds O Q _ => ∃ p, ∃ (s : Sh) (x : Ss) (pl : Str) (t : Int), ds = [.adr p, .str pl, .int t] ∧ O p = some s.ow ∧ pl ∈ plcs ∧ Cur s x ∧ Q (g s x pl t) O
theorem Ask_len {g : Sh → Ss → Str → Int → D} {ds O Q QE} (h : Ask g ds O Q QE) : ds.length = 3 := by obtain ⟨p, s, x, pl, t, e, _⟩ := h; rw [e]; rfl
def S_Shop_numbers : SpD := Ask fun s x pl t => .lst ((nAt s.f x.ch (s.bd pl) (x.sn pl) t).map .int)
theorem S_Shop_numbers_len {ds O Q QE} (h : S_Shop_numbers ds O Q QE) : ds.length = 3 := Ask_len (QE := QE) h
theorem f_Shop_numbers (W : Wd P w K mg base) : Fm P w K mg base .heat 11 .shop "numbers" S_Shop_numbers := by
  refine W.fm 49 (d := d_Shop_numbers) sc_Shop_numbers rfl rfl (by decide +kernel) rfl (fun _ _ _ _ _ _ us hl => match us, hl with | [_, _, _], _ => rfl) (fun ds O Q QE h => S_Shop_numbers_len h) ?_
  rintro cdv A outer s H E F0 ds O Q QE hm hr xe ⟨p, sh, x, pl, t, rfl, hO, hp, c, q⟩
  have hl := c.len
  refine ss_cons (s_ret ?_)
  refine ev_call (f_numbers_at W) (hr.mono (by decide)) hm xer0 ?_
  refine av_cons (ev_meth (f_Shop_line W) (hr.mono (by decide)) hm xer0 ?_)
  refine ev_name (i := 0) rfl ⟨_, _, .inr ⟨p, rfl, hO⟩, by decide +kernel, av_cons (ev_name (i := 1) rfl (av_nil ⟨p, sh, x, pl, rfl, hO, c.at_, hp, c.ok, c.bd pl hp, ?_⟩))⟩
  refine av_cons (ev_meth (f_Shop_sightings W) (hr.mono (by decide)) trivial xer0 (ev_name (i := 0) rfl ⟨_, _, .inr ⟨p, rfl, hO⟩, by decide +kernel, av_cons (ev_name (i := 1) rfl (av_nil ⟨p, sh, x, pl, rfl, hO, c.at_, hp, ?_⟩))⟩))
  refine av_cons (ev_name (i := 2) rfl ?_)
  refine av_nil ?_
  refine ⟨_, _, _, _, t, rfl, by omega, c.lsn pl hp, c.seen pl hp, q⟩
def S_Shop_prices : SpD := Ask fun s x pl t => .lst ((pAt s.f x.ch (s.bd pl) (x.sn pl) t).map .int)
theorem S_Shop_prices_len {ds O Q QE} (h : S_Shop_prices ds O Q QE) : ds.length = 3 := Ask_len (QE := QE) h
theorem f_Shop_prices (W : Wd P w K mg base) : Fm P w K mg base .heat 12 .shop "prices" S_Shop_prices := by
  refine W.fm 50 (d := d_Shop_prices) sc_Shop_prices rfl rfl (by decide +kernel) rfl (fun _ _ _ _ _ _ us hl => match us, hl with | [_, _, _], _ => rfl) (fun ds O Q QE h => S_Shop_prices_len h) ?_
  rintro cdv A outer s H E F0 ds O Q QE hm hr xe ⟨p, sh, x, pl, t, rfl, hO, hp, c, q⟩
  refine ss_cons (s_ret ?_)
  refine ev_call (f_prices_seen_at W) (hr.mono (by decide)) hm xer0 ?_
  refine av_cons (ev_meth (f_Shop_line W) (hr.mono (by decide)) hm xer0 ?_)
  refine ev_name (i := 0) rfl ⟨_, _, .inr ⟨p, rfl, hO⟩, by decide +kernel, av_cons (ev_name (i := 1) rfl (av_nil ⟨p, sh, x, pl, rfl, hO, c.at_, hp, c.ok, c.bd pl hp, ?_⟩))⟩
  refine av_cons (ev_meth (f_Shop_sightings W) (hr.mono (by decide)) trivial xer0 (ev_name (i := 0) rfl ⟨_, _, .inr ⟨p, rfl, hO⟩, by decide +kernel, av_cons (ev_name (i := 1) rfl (av_nil ⟨p, sh, x, pl, rfl, hO, c.at_, hp, ?_⟩))⟩))
  refine av_cons (ev_name (i := 2) rfl ?_)
  refine av_nil ?_
  refine ⟨_, _, _, _, t, rfl, c.len, c.lsn pl hp, c.seen pl hp, q⟩
def S_Shop_surely : SpD := Ask fun s x pl t => oD (sureO (pAt s.f x.ch (s.bd pl) (x.sn pl) t))
theorem S_Shop_surely_len {ds O Q QE} (h : S_Shop_surely ds O Q QE) : ds.length = 3 := Ask_len (QE := QE) h
theorem f_Shop_surely (W : Wd P w K mg base) : Fm P w K mg base .heat 13 .shop "surely" S_Shop_surely := by
  refine W.fm 51 (d := d_Shop_surely) sc_Shop_surely rfl rfl (by decide +kernel) rfl (fun _ _ _ _ _ _ us hl => match us, hl with | [_, _, _], _ => rfl) (fun ds O Q QE h => S_Shop_surely_len h) ?_
  rintro cdv A outer s H E F0 ds O Q QE hm hr xe ⟨p, sh, x, pl, t, rfl, hO, hp, c, q⟩
  refine ss_cons (s_ret ?_)
  refine ev_call (f_surely_at W) (hr.mono (by decide)) hm xer0 ?_
  refine av_cons (ev_meth (f_Shop_line W) (hr.mono (by decide)) hm xer0 ?_)
  refine ev_name (i := 0) rfl ⟨_, _, .inr ⟨p, rfl, hO⟩, by decide +kernel, av_cons (ev_name (i := 1) rfl (av_nil ⟨p, sh, x, pl, rfl, hO, c.at_, hp, c.ok, c.bd pl hp, ?_⟩))⟩
  refine av_cons (ev_meth (f_Shop_sightings W) (hr.mono (by decide)) trivial xer0 (ev_name (i := 0) rfl ⟨_, _, .inr ⟨p, rfl, hO⟩, by decide +kernel, av_cons (ev_name (i := 1) rfl (av_nil ⟨p, sh, x, pl, rfl, hO, c.at_, hp, ?_⟩))⟩))
  refine av_cons (ev_name (i := 2) rfl ?_)
  refine av_nil ?_
  refine ⟨_, _, _, _, t, rfl, c.len, c.lsn pl hp, c.seen pl hp, q⟩
end
end K97
/-! # Walk V: Shop.charged, overs -/
namespace K97
open PySem PySem.Spec PyProof.Rows L2 TL
abbrev mn (i j : Int) : Int := if j < i then j else i
abbrev lP (s : Sh) (x : Ss) (pl : Str) (t : Int) : List Int := pAt s.f x.ch (s.bd pl) (x.sn pl) t
/-- the least and the greatest price -/
structure Ends2 (ps : List Int) (a b : Int) : Prop where
  hd : ps[0]? = some a
  lst : ps.getLast? = some b
section
variable {P : Program} {w : World} {K : PySem.W.Frag} {mg : Str → Option Value} {base : Heap}
abbrev Ask2 (g : Int → Int → Int → Int → Int × Int) : SpD := fun ds O Q _ => ∃ p, ∃ (s : Sh) (x : Ss) (t u a0 a1 b0 b1 : Int), ds = [.adr p, .int t, .int u] ∧ O p = some s.ow ∧ Cur s x ∧ Ends2 (lP s x "label" t) a0 a1 ∧ Ends2 (lP s x "till" u) b0 b1 ∧ Q (pD (g a0 a1 b0 b1)) O
def S_Shop_charged : SpD := Ask2 fun a0 a1 b0 b1 => (mn a0 b0, mn a1 b1)
theorem S_Shop_charged_len {ds O Q QE} (h : S_Shop_charged ds O Q QE) : ds.length = 3 := by obtain ⟨p, s, x, t, u, a0, a1, b0, b1, e, _⟩ := h; rw [e]; rfl
theorem f_Shop_charged (W : Wd P w K mg base) : Fm P w K mg base .heat 13 .shop "charged" S_Shop_charged := by
  refine W.fm 52 (d := d_Shop_charged) sc_Shop_charged rfl rfl (by decide +kernel) rfl (fun _ _ _ _ _ _ us hl => match us, hl with | [_, _, _], _ => rfl) (fun ds O Q QE h => S_Shop_charged_len h) ?_
  rintro cdv A outer s H E F0 ds O Q QE hm hr xe ⟨p, sh, x, t, u, a0, a1, b0, b1, rfl, hO, c, h1, h2, q⟩
  have nd : N_Shop_charged.Nodup := by decide
  have neg : ∀ {ps : List Int} {z : Int}, ps.getLast? = some z → (ps.map D.int).getLast? = some (.int z) := fun h => by rw [List.getLast?_map, h]; rfl
  refine ss_cons (s_par (i := 3) (j := 4) hm nd ?_)
  refine av_cons (ev_meth (f_Shop_prices W) (hr.mono (by decide)) hm xer0 (ev_name (i := 0) rfl ⟨_, _, .inr ⟨p, rfl, hO⟩, by decide +kernel, av_cons (ev_str (av_cons (ev_name (i := 1) rfl (av_nil ⟨p, sh, x, "label", t, rfl, hO, by simp, c, ?_⟩))))⟩))
  refine av_cons (ev_meth (f_Shop_prices W) (hr.mono (by decide)) hm xer0 (ev_name (i := 0) rfl ⟨_, _, .inr ⟨p, rfl, hO⟩, by decide +kernel, av_cons (ev_str (av_cons (ev_name (i := 2) rfl (av_nil ⟨p, sh, x, "till", u, rfl, hO, by simp, c, ?_⟩))))⟩))
  refine av_nil ⟨_, _, rfl, ?_⟩
  refine ss_cons (s_ret ?_)
  refine ev_tup ?_
  refine av_cons (ev_blt ?_ (W.fre _ (by decide +kernel)) boot_min)
  refine av_cons (ev_ix ?_)
  refine ev_name (i := 3) rfl ?_
  refine ev_int ?_
  refine ⟨_, xd_lst (d := .int a0) (atI_nat (i := 0) (getmap h1.hd)), ?_⟩
  refine av_cons (ev_ix ?_)
  refine ev_name (i := 4) rfl ?_
  refine ev_int ?_
  refine ⟨_, xd_lst (d := .int b0) (atI_nat (i := 0) (getmap h2.hd)), ?_⟩
  refine av_nil ?_
  refine cl_min2 hm ?_
  refine av_cons (ev_blt ?_ (W.fre _ (by decide +kernel)) boot_min)
  refine av_cons (ev_ix ?_)
  refine ev_name (i := 3) rfl ?_
  refine ev_un ?_
  refine ev_int ?_
  refine ⟨_, ud_neg, ?_⟩
  refine ⟨_, xd_lst (d := .int a1) (atI_last (neg h1.lst)), ?_⟩
  refine av_cons (ev_ix ?_)
  refine ev_name (i := 4) rfl ?_
  refine ev_un ?_
  refine ev_int ?_
  refine ⟨_, ud_neg, ?_⟩
  refine ⟨_, xd_lst (d := .int b1) (atI_last (neg h2.lst)), ?_⟩
  refine av_nil ?_
  refine cl_min2 hm ?_
  exact av_nil ⟨by show 2 ≤ 100000; decide, q⟩
def S_Shop_overs : SpD := Ask2 fun a0 a1 b0 b1 => (b0 - a1, b1 - a0)
theorem S_Shop_overs_len {ds O Q QE} (h : S_Shop_overs ds O Q QE) : ds.length = 3 := by obtain ⟨p, s, x, t, u, a0, a1, b0, b1, e, _⟩ := h; rw [e]; rfl
theorem f_Shop_overs (W : Wd P w K mg base) : Fm P w K mg base .heat 13 .shop "overs" S_Shop_overs := by
  refine W.fm 53 (d := d_Shop_overs) sc_Shop_overs rfl rfl (by decide +kernel) rfl (fun _ _ _ _ _ _ us hl => match us, hl with | [_, _, _], _ => rfl) (fun ds O Q QE h => S_Shop_overs_len h) ?_
  rintro cdv A outer s H E F0 ds O Q QE hm hr xe ⟨p, sh, x, t, u, a0, a1, b0, b1, rfl, hO, c, h1, h2, q⟩
  have nd : N_Shop_overs.Nodup := by decide
  have neg : ∀ {ps : List Int} {z : Int}, ps.getLast? = some z → (ps.map D.int).getLast? = some (.int z) := fun h => by rw [List.getLast?_map, h]; rfl
  refine ss_cons (s_par (i := 3) (j := 4) hm nd ?_)
  refine av_cons (ev_meth (f_Shop_prices W) (hr.mono (by decide)) hm xer0 (ev_name (i := 0) rfl ⟨_, _, .inr ⟨p, rfl, hO⟩, by decide +kernel, av_cons (ev_str (av_cons (ev_name (i := 1) rfl (av_nil ⟨p, sh, x, "label", t, rfl, hO, by simp, c, ?_⟩))))⟩))
  refine av_cons (ev_meth (f_Shop_prices W) (hr.mono (by decide)) hm xer0 (ev_name (i := 0) rfl ⟨_, _, .inr ⟨p, rfl, hO⟩, by decide +kernel, av_cons (ev_str (av_cons (ev_name (i := 2) rfl (av_nil ⟨p, sh, x, "till", u, rfl, hO, by simp, c, ?_⟩))))⟩))
  refine av_nil ⟨_, _, rfl, ?_⟩
  refine ss_cons (s_ret ?_)
  refine ev_tup ?_
  refine av_cons (ev_op ?_)
  refine ev_ix ?_
  refine ev_name (i := 4) rfl ?_
  refine ev_int ?_
  refine ⟨_, xd_lst (d := .int b0) (atI_nat (i := 0) (getmap h2.hd)), ?_⟩
  refine ev_ix ?_
  refine ev_name (i := 3) rfl ?_
  refine ev_un ?_
  refine ev_int ?_
  refine ⟨_, ud_neg, ?_⟩
  refine ⟨_, xd_lst (d := .int a1) (atI_last (neg h1.lst)), ?_⟩
  refine ⟨_, od_sub, ?_⟩
  refine av_cons (ev_op ?_)
  refine ev_ix ?_
  refine ev_name (i := 4) rfl ?_
  refine ev_un ?_
  refine ev_int ?_
  refine ⟨_, ud_neg, ?_⟩
  refine ⟨_, xd_lst (d := .int b1) (atI_last (neg h2.lst)), ?_⟩
  refine ev_ix ?_
  refine ev_name (i := 3) rfl ?_
  refine ev_int ?_
  refine ⟨_, xd_lst (d := .int a0) (atI_nat (i := 0) (getmap h1.hd)), ?_⟩
  refine ⟨_, od_sub, ?_⟩
  exact av_nil ⟨by show 2 ≤ 100000; decide, q⟩
end
end K97
/-! # Walk W: Shop.behind -/
namespace K97
open PySem PySem.Spec PyProof.Rows L2 TL
abbrev notLater (x : Ss) : Exn := ⟨"NotLater", some ("index", .int x.ch.length)⟩
abbrev passed (m : Int) : Exn := ⟨"Passed", some ("moment", .int m)⟩
abbrev clash (d : Deed) : Exn := ⟨"Clash", some ("deed", dD d)⟩
def nextS (x : Ss) (d : Deed) : Ss := if d.1 = "change" then { x with ch := x.ch ++ [d.2] } else if d.1 = "label" then { x with sl := x.sl ++ [d.2] } else { x with st := x.st ++ [d.2] }
def late (x : Ss) (d : Deed) : Option Exn :=
  if d.1 = "change" then x.ch.getLast?.bind fun c => if d.2.1 ≤ c.1 then some (notLater x) else none
  else (x.sn d.1).getLast?.bind fun c => if d.2.1 < c.1 then some (passed d.2.1) else none
abbrev AllSeen (s : Sh) (x : Ss) : Prop := Seen s.f x.ch s.bl x.sl ∧ Seen s.f x.ch s.bt x.st
section
variable {P : Program} {w : World} {K : PySem.W.Frag} {mg : Str → Option Value} {base : Heap}
theorem behind_tail (W : Wd P w K mg base) {cdv : Value} {A : Around} {outer : List PySem.Env} {s : Shared} {H : Hp} {E : XK} {F0 : Hp} {O : Om} {Q : D → Om → Prop} {QE : Exn → Om → Prop}
    (hm : ModeX .cold (cxB P w K mg base N_Shop_behind d_Shop_behind.qual (defScope d_Shop_behind.st) (d_Shop_behind.pa.ad K) cdv A outer s H E)) (hr : RoomB 10 (cxB P w K mg base N_Shop_behind d_Shop_behind.qual (defScope d_Shop_behind.st) (d_Shop_behind.pa.ad K) cdv A outer s H E).A)
    (xe : XeD (cxB P w K mg base N_Shop_behind d_Shop_behind.qual (defScope d_Shop_behind.st) (d_Shop_behind.pa.ad K) cdv A outer s H E) F0 QE) {p : Addr} {sh : Sh} {x : Ss} {d : Deed} (hO : O p = some sh.ow) (ok : BkOk sh.f x.ch) (hl : BdOk sh.bl) (ht : BdOk sh.bt) (l1 : x.sl.length ≤ 1000) (l2 : x.st.length ≤ 1000) (lc : x.ch.length ≤ 1000)
    (q : AllSeen sh x → Q (stD sh.f x) O) (qe : ¬ AllSeen sh x → QE (clash d) O) :
    Ssv (cxB P w K mg base N_Shop_behind d_Shop_behind.qual (defScope d_Shop_behind.st) (d_Shop_behind.pa.ad K) cdv A outer s H E) F0 ((defBody d_Shop_behind.st).drop 3) [some (.adr p), some (dD d), some (.str d.1), some (.int d.2.1), some (.int d.2.2), some (bkD sh.f x.ch), some (seenD x), none] O { nx := fun _ O' => Q .non O', rt := Q } := by
  have nd : N_Shop_behind.Nodup := by decide
  have ht' : Heat (cxB P w K mg base N_Shop_behind d_Shop_behind.qual (defScope d_Shop_behind.st) (d_Shop_behind.pa.ad K) cdv A outer s H E) := .inl hm
  refine ss_cons (s_if (tv_not (tv_val (ev_blt ?_ (W.fre _ (by decide +kernel)) boot_all))))
  refine av_cons (ev_lcm D.str decS decS_e [("place", 7)] nd ht' (iv_val ?_) (show BlkOk N_Shop_behind (defScope d_Shop_behind.st) _ _ from blkOk_by (by decide +kernel)))
  refine ev_glob (d := .tup (plcs.map D.str)) (v := .ref (He.ga K "PLACES")) (W.glo "PLACES" (by decide +kernel)) rfl W.plc ⟨_, rfl, plcs, fun pl => some (.bl (decide (Seen sh.f x.ch (sh.bd pl) (x.sn pl)))), rfl, by decide, ?_, ?_⟩
  rotate_left
  · intro s H C cl fp hh O3 sp pl hp
    have hO3 := sp p _ hO
    have hbd : BdOk (sh.bd pl) := by unfold Sh.bd pick; split <;> assumption
    have hln : (x.sn pl).length ≤ 1000 := by unfold Ss.sn pick; split <;> assumption
    refine bd_name (i := 7) ?_ nd
    refine ev_call (f_is_seen W) (hr.mono (by decide)) hh xer0 ?_
    refine av_cons (ev_frz (ev_make (mk_line W) (hr.mono (by decide)) hh xer0 ?_))
    refine av_cons (ev_name (i := 5) rfl ?_)
    refine av_cons (ev_dget hr (fld_sh W (by decide) (ev_name (i := 0) rfl ⟨p, sh, _, rfl, hO3, rfl, ev_name (i := 7) rfl ⟨_, _, _, _, rfl, rfl, pick_at hp pD sh.bl sh.bt, ?_⟩⟩)))
    refine av_nil fun a ha => ⟨a, sh.f, x.ch, sh.bd pl, rfl, ok, hbd, Om.put_same, rfl, a, .line, _, _, rfl, Om.put_same, ?_⟩
    rw [Om.put_put, Om.put_del ha]
    refine av_cons (ev_dget hr (ev_name (i := 6) rfl (ev_name (i := 7) rfl ⟨_, _, _, _, rfl, rfl, pick_at hp (fun l => D.lst (l.map pD)) x.sl x.st, ?_⟩)))
    exact av_nil ⟨sh.f, x.ch, sh.bd pl, x.sn pl, rfl, lc, hln, rfl, rfl⟩
  rw [fm_some]
  refine av_nil ?_
  rw [show (plcs.map fun pl => D.bl (decide (Seen sh.f x.ch (sh.bd pl) (x.sn pl)))) = (plcs.map fun pl => decide (Seen sh.f x.ch (sh.bd pl) (x.sn pl))).map D.bl by rw [List.map_map]; rfl]
  refine cl_all ht' ⟨_, rfl, ?_⟩
  have e : (plcs.map fun pl => decide (Seen sh.f x.ch (sh.bd pl) (x.sn pl))).all id = decide (AllSeen sh x) := by
    have e1 : sh.bd "label" = sh.bl := by unfold Sh.bd pick; rw [if_pos rfl]
    have e2 : sh.bd "till" = sh.bt := by unfold Sh.bd pick; rw [if_neg (Ne.symm ne_lt)]
    have e3 : x.sn "label" = x.sl := by unfold Ss.sn pick; rw [if_pos rfl]
    have e4 : x.sn "till" = x.st := by unfold Ss.sn pick; rw [if_neg (Ne.symm ne_lt)]
    show (decide (Seen sh.f x.ch (sh.bd "label") (x.sn "label")) && (decide (Seen sh.f x.ch (sh.bd "till") (x.sn "till")) && true)) = _
    rw [e1, e2, e3, e4, Bool.and_true, ← Bool.decide_and]
  rw [e]
  obtain ⟨p0, p1, p2, p3, p4, p5, p6, p7, p8, p9, T⟩ := W.xc ("Clash", "deed") (by decide)
  refine ⟨fun h => ?_, fun h => ss_nil ?_⟩
  · have h1 : ¬ AllSeen sh x := by intro z; rw [decide_eq_true z] at h; cases h
    exact ss_cons (s_raise ht' xe.nm (ex_new T (hr.mono (by decide)) (W.glo "Clash" (by decide +kernel)) (ev_name (i := 1) rfl (qe h1))))
  · have h1 : AllSeen sh x := by
      by_cases z : AllSeen sh x
      · exact z
      · rw [decide_eq_false z] at h; cases h
    exact ss_cons (s_ret (ev_tup (av_cons (ev_name (i := 5) rfl (av_cons (ev_name (i := 6) rfl (av_nil ⟨by show 2 ≤ 100000; decide, q h1⟩)))))))
end
end K97
/-! # Walk X: Shop.behind -/
namespace K97
open PySem PySem.Spec PyProof.Rows L2 TL
theorem last_map {α β : Type} {f : α → β} {xs : List α} {c : α} (h : xs.getLast? = some c) : (xs.map f).getLast? = some (f c) := by rw [List.getLast?_map, h]; rfl
theorem book_more {f : Int} {ch : List (Int × Int)} {m p : Int} (ok : BkOk f ch) (hp : 0 ≤ p) (hl : ch.length ≤ 100) (h : ∀ c, ch.getLast? = some c → c.1 < m) : BkOk f (ch ++ [(m, p)]) := by
  refine ⟨ok.f0, fun c hc => ?_, List.pairwise_append.mpr ⟨ok.up, List.pairwise_singleton _ _, fun a ha b hb => ?_⟩, by rw [List.length_append]; simp; omega⟩
  · rcases List.mem_append.mp hc with z | z
    · exact ok.c0 c z
    · rw [List.mem_singleton.mp z]; exact hp
  · rw [List.mem_singleton.mp hb]
    cases q : ch.getLast? with
    | none => rw [List.getLast?_eq_none_iff] at q; rw [q] at ha; cases ha
    | some z =>
      have hz := h z q
      obtain ⟨i, hi, rfl⟩ := List.mem_iff_getElem.mp ha
      have hne : ch ≠ [] := by rintro rfl; cases hi
      rw [List.getLast?_eq_getElem?] at q
      rcases Nat.lt_or_ge i (ch.length - 1) with lt | ge
      · have := pw_get ok.up (List.getElem?_eq_getElem hi) q lt
        show ch[i].1 < m
        omega
      · have e : i = ch.length - 1 := by omega
        subst e
        rw [List.getElem?_eq_getElem hi] at q
        cases q
        exact hz
section
variable {P : Program} {w : World} {K : PySem.W.Frag} {mg : Str → Option Value} {base : Heap}
def S_Shop_behind : SpD := fun ds O Q QE => ∃ p, ∃ (s : Sh) (x : Ss) (d : Deed), ds = [.adr p, dD d] ∧ O p = some s.ow ∧ s.sts[s.spot]? = some x ∧ BkOk s.f x.ch ∧ BdOk s.bl ∧ BdOk s.bt ∧ x.ch.length ≤ 50 ∧ x.sl.length ≤ 900 ∧ x.st.length ≤ 900 ∧ d.1 ∈ kinds ∧ 0 ≤ d.2.2 ∧
  (∀ e, late x d = some e → QE e O) ∧ (late x d = none → AllSeen s (nextS x d) → Q (stD s.f (nextS x d)) O) ∧ (late x d = none → ¬ AllSeen s (nextS x d) → QE (clash d) O)
theorem S_Shop_behind_len {ds O Q QE} (h : S_Shop_behind ds O Q QE) : ds.length = 2 := by obtain ⟨p, s, x, d, e, _⟩ := h; rw [e]; rfl
theorem f_Shop_behind (W : Wd P w K mg base) : Fm P w K mg base .cold 11 .shop "behind" S_Shop_behind := by
  refine W.fm 44 (d := d_Shop_behind) sc_Shop_behind rfl rfl (by decide +kernel) rfl (fun _ _ _ _ _ _ us hl => match us, hl with | [_, _], _ => rfl) (fun ds O Q QE h => S_Shop_behind_len h) ?_
  rintro cdv A outer s H E F0 ds O Q QE hm hr xe ⟨p, sh, x, d, rfl, hO, hx, ok, hl, ht, lc, l1, l2, hk, h0, qe, q1, q2⟩
  have nd : N_Shop_behind.Nodup := by decide
  have ht' : Heat (cxB P w K mg base N_Shop_behind d_Shop_behind.qual (defScope d_Shop_behind.st) (d_Shop_behind.pa.ad K) cdv A outer s H E) := .inl hm
  refine ss_cons (s_asg (ev_name (i := 1) rfl (gv_tup ht' (.inl rfl) (gvs_cons (gv_name (i := 2) (gvs_cons (gv_name (i := 3) (gvs_cons (gv_name (i := 4) (gvs_nil ?_) nd)) nd)) nd)))))
  refine ss_cons (s_asg (ev_ix (fld_sh W (by decide) (ev_name (i := 0) rfl ⟨p, sh, _, rfl, hO, rfl, fld_sh W (by decide) (ev_name (i := 0) rfl ⟨p, sh, _, rfl, hO, rfl, _, xd_lst (atI_nat (getmap hx)), ?_⟩)⟩))))
  refine gv_tup ht' (.inl rfl) (gvs_cons (gv_name (i := 5) (gvs_cons (gv_name (i := 6) (gvs_nil ?_) nd)) nd))
  refine ss_cons (s_if ?_)
  refine tv_cmp ?_
  refine ev_name (i := 2) rfl ?_
  refine ev_str ?_
  refine ⟨_, od_eqs, fun h => ?_, fun h => ?_⟩
  · have hw : d.1 = Str.ofString "change" := of_decide_eq_true h
    have en : nextS x d = { x with ch := x.ch ++ [d.2] } := by unfold nextS; rw [if_pos hw]
    have el : late x d = x.ch.getLast?.bind fun c => if d.2.1 ≤ c.1 then some (notLater x) else none := by unfold late; rw [if_pos hw]
    rw [en] at q1 q2
    have more : (∀ c, x.ch.getLast? = some c → c.1 < d.2.1) → late x d = none := fun hc => by
      rw [el]
      cases q : x.ch.getLast? with
      | none => rfl
      | some c => have := hc c q; show (if _ then _ else _) = _; rw [if_neg (by omega)]
    have go : (∀ c, x.ch.getLast? = some c → c.1 < d.2.1) → Ssv (cxB P w K mg base N_Shop_behind d_Shop_behind.qual (defScope d_Shop_behind.st) (d_Shop_behind.pa.ad K) cdv A outer s H E) F0 ((defBody d_Shop_behind.st).drop 3) [some (.adr p), some (dD d), some (.str d.1), some (.int d.2.1), some (.int d.2.2), some (bkD sh.f (x.ch ++ [d.2])), some (seenD x), none] O { nx := fun _ O' => Q .non O', rt := Q } := fun hc =>
      behind_tail W (x := { x with ch := x.ch ++ [d.2] }) hm (hr.mono (by decide)) xe hO (book_more ok h0 (by omega) hc) hl ht (by show x.sl.length ≤ 1000; omega) (by show x.st.length ≤ 1000; omega) (by show (x.ch ++ [d.2]).length ≤ 1000; rw [List.length_append]; simp; omega) (q1 (more hc)) (q2 (more hc))
    refine ss_cons (s_if ?_)
    refine tv_w ?_
    refine tw_and ?_
    refine tv_cmp ?_
    refine ev_meth0 (f_Book_moments W) (hr.mono (by decide)) ht' xer0 ?_
    refine ev_name (i := 5) rfl ?_
    refine ⟨_, _, .inl rfl, by decide +kernel, sh.f, x.ch, rfl, by omega, ?_⟩
    refine ev_lst ?_
    refine av_nil ?_
    refine ⟨by decide, ?_⟩
    refine ⟨_, od_ne hr.u64 ok_ints ok_nil, ?_⟩
    rw [eqv_nil]
    cases hq : x.ch.getLast? with
    | none =>
      have e0 : x.ch = [] := List.getLast?_eq_none_iff.mp hq
      refine ⟨fun z => absurd z (by rw [e0]; simp), fun _ => ⟨nofun, fun _ => ss_nil ?_⟩⟩
      have hc : ∀ c, x.ch.getLast? = some c → c.1 < d.2.1 := fun c hc => by rw [hq] at hc; cases hc
      refine ss_cons (s_set (i := 5) (ev_meth (f_Book_with_change W) (hr.mono (by decide)) hm xer0 (ev_name (i := 5) rfl ⟨_, _, .inl rfl, by decide +kernel, ?_⟩)) nd)
      refine av_cons (ev_name (i := 3) rfl ?_)
      refine av_cons (ev_name (i := 4) rfl ?_)
      refine av_nil ?_
      refine ⟨sh.f, x.ch, d.2.1, d.2.2, rfl, book_more ok h0 (by omega) hc, ?_⟩
      exact ss_nil (go hc)
    | some c =>
      have ne0 : x.ch ≠ [] := by rintro e; rw [e] at hq; cases hq
      refine ⟨fun _ => ?_, fun z => absurd z (by simp [ne0])⟩
      refine tw_and1 ?_
      refine tv_cmp ?_
      refine ev_name (i := 3) rfl ?_
      refine ev_ix ?_
      refine ev_meth0 (f_Book_moments W) (hr.mono (by decide)) ht' xer0 ?_
      refine ev_name (i := 5) rfl ?_
      refine ⟨_, _, .inl rfl, by decide +kernel, sh.f, x.ch, rfl, by omega, ?_⟩
      refine ev_un (ev_int ⟨_, ud_neg, _, xd_lst (d := .int c.1) (atI_last (last_map (last_map hq))), _, od_le, fun z => ?_, fun z => ss_nil ?_⟩)
      · have z := of_decide_eq_true z
        obtain ⟨p0, p1, p2, p3, p4, p5, p6, p7, p8, p9, T⟩ := W.xc ("NotLater", "index") (by decide)
        have el2 : late x d = some (notLater x) := by rw [el, hq]; show (if _ then _ else _) = _; rw [if_pos z]
        refine ss_cons (s_raise ht' xe.nm (ex_new T (hr.mono (by decide)) (W.glo "NotLater" (by decide +kernel)) ?_))
        refine ev_op ?_
        refine ev_blt ?_ (W.fre _ (by decide +kernel)) boot_len
        refine av_cons (ev_name (i := 5) rfl ?_)
        refine av_nil ?_
        refine cl_len_ob (c := .book) (n := x.ch.length + 1) (f_Book_len W) (hr.mono (by decide)) trivial (.inl rfl) (by omega) ⟨sh.f, x.ch, rfl, rfl, rfl⟩ ?_
        refine ev_int ⟨_, od_sub, ?_⟩
        rw [show (((x.ch.length + 1 : Nat) : Int) - 1) = (x.ch.length : Int) by omega]
        exact qe _ el2
      · have z := of_decide_eq_false z
        have hc : ∀ c2, x.ch.getLast? = some c2 → c2.1 < d.2.1 := fun c2 hc => by rw [hq] at hc; cases hc; omega
        refine ss_cons (s_set (i := 5) (ev_meth (f_Book_with_change W) (hr.mono (by decide)) hm xer0 (ev_name (i := 5) rfl ⟨_, _, .inl rfl, by decide +kernel, ?_⟩)) nd)
        refine av_cons (ev_name (i := 3) rfl ?_)
        refine av_cons (ev_name (i := 4) rfl ?_)
        refine av_nil ?_
        refine ⟨sh.f, x.ch, d.2.1, d.2.2, rfl, book_more ok h0 (by omega) hc, ?_⟩
        exact ss_nil (go hc)
  · have hw : d.1 ≠ Str.ofString "change" := of_decide_eq_false h
    have hp : d.1 ∈ plcs := (List.mem_cons.mp hk).elim (fun z => absurd z hw) id
    have el : late x d = (x.sn d.1).getLast?.bind fun c => if d.2.1 < c.1 then some (passed d.2.1) else none := by unfold late; rw [if_neg hw]
    have put : ∀ (r6 : D), r6 = seenD (nextS x d) → late x d = none → Ssv (cxB P w K mg base N_Shop_behind d_Shop_behind.qual (defScope d_Shop_behind.st) (d_Shop_behind.pa.ad K) cdv A outer s H E) F0 ((defBody d_Shop_behind.st).drop 3) [some (.adr p), some (dD d), some (.str d.1), some (.int d.2.1), some (.int d.2.2), some (bkD sh.f x.ch), some r6, none] O { nx := fun _ O' => Q .non O', rt := Q } := by
      rintro r6 rfl hn
      have ec : (nextS x d).ch = x.ch := by unfold nextS; rw [if_neg hw]; split <;> rfl
      have es : (nextS x d).sl.length ≤ 1000 ∧ (nextS x d).st.length ≤ 1000 := by unfold nextS; rw [if_neg hw]; split <;> (simp; omega)
      have := behind_tail W (x := nextS x d) hm (hr.mono (by decide)) xe hO (by rw [ec]; exact ok) hl ht es.1 es.2 (by rw [ec]; omega) (q1 hn) (q2 hn)
      rw [ec] at this
      exact this
    refine ss_cons (s_if ?_)
    refine tv_w ?_
    refine tw_and ?_
    refine tv_cmp ?_
    refine ev_dget hr (ev_name (i := 6) rfl (ev_name (i := 2) rfl ⟨_, _, _, _, rfl, rfl, pick_at hp (fun l => D.lst (l.map pD)) x.sl x.st, ?_⟩))
    refine ev_lst ?_
    refine av_nil ?_
    refine ⟨by decide, ?_⟩
    refine ⟨_, od_ne hr.u64 ok_pairs ok_nil, ?_⟩
    rw [eqv_nil]
    cases hq : (x.sn d.1).getLast? with
    | none =>
      have e0 : pick d.1 x.sl x.st = [] := List.getLast?_eq_none_iff.mp hq
      refine ⟨fun z => absurd z (by rw [e0]; simp), fun _ => ⟨nofun, fun _ => ss_nil ?_⟩⟩
      have hn : late x d = none := by rw [el, hq]; rfl
      have hcalm : (cxB P w K mg base N_Shop_behind d_Shop_behind.qual (defScope d_Shop_behind.st) (d_Shop_behind.pa.ad K) cdv A outer s H E).calm = true := by show A.handled.isNone = true; rw [show A.handled = none from hm]; rfl
      refine ss_cons (s_set (i := 6) (ev_dc2 (i := 7) (z1 := .lst (((nextS x d).sl).map pD)) (z2 := .lst (((nextS x d).st).map pD)) hcalm nd ne_lt rfl (show BlkOk N_Shop_behind (defScope d_Shop_behind.st) _ _ from blkOk_by (by decide +kernel)) (fun _ _ _ _ _ => ⟨.inl rfl, .inr rfl⟩) ?_ hm) nd)
      refine ev_glob (d := .tup (plcs.map D.str)) (v := .ref (He.ga K "PLACES")) (W.glo "PLACES" (by decide +kernel)) rfl W.plc ⟨rfl, ss_nil (put _ rfl hn), ?_⟩
      intro s H C cl fp hh O3 sp q hq2
      have hq3 : q.1 ∈ plcs := by
        rcases List.mem_cons.mp hq2 with e | e
        · rw [e]; simp
        · rw [List.mem_singleton.mp e]; simp
      refine ⟨ev_name (i := 7) rfl ⟨rfl, rfl⟩, ?_⟩
      refine ev_op (ev_dget hr (ev_name (i := 6) rfl (ev_name (i := 7) rfl ⟨_, _, _, _, rfl, rfl, pick_at hq3 (fun l => D.lst (l.map pD)) x.sl x.st, ?_⟩)))
      refine ev_op ?_
      refine ev_lst ?_
      refine av_cons (ev_tup ?_)
      refine av_cons (ev_name (i := 3) rfl ?_)
      refine av_cons (ev_name (i := 4) rfl ?_)
      refine av_nil ?_
      refine ⟨by show 2 ≤ 100000; decide, ?_⟩
      refine av_nil ?_
      refine ⟨by show 1 ≤ 100000; decide, ?_⟩
      refine ev_typ ?_ (W.fre _ (by decide +kernel)) boot_int
      refine av_cons (ev_cmp ?_)
      refine ev_name (i := 7) rfl ?_
      refine ev_name (i := 2) rfl ?_
      refine ⟨_, od_eqs, ?_⟩
      refine av_nil ?_
      refine cl_int_bl ?_
      have hlen : (pick q.1 x.sl x.st).length ≤ 900 := by unfold pick; split <;> assumption
      refine ⟨_, od_rep1 (by show 1 ≤ 1000000; decide), _, od_cat (by rw [List.length_map]; split <;> (simp; omega)), rfl, ?_⟩
      have en : nextS x d = if d.1 = "label" then { x with sl := x.sl ++ [d.2] } else { x with st := x.st ++ [d.2] } := by unfold nextS; rw [if_neg hw]
      rw [en] at hq2
      simp only [List.mem_cons, List.not_mem_nil, or_false] at hq2 hp
      rcases hq2 with rfl | rfl <;> rcases hp with e | e <;> simp [e, pick, ne_lt, Ne.symm ne_lt, pD]
    | some c =>
      have ne0 : pick d.1 x.sl x.st ≠ [] := by intro e; have hq : (pick d.1 x.sl x.st).getLast? = some c := hq; rw [e] at hq; cases hq
      refine ⟨fun _ => ?_, fun z => absurd z (by simp [ne0])⟩
      refine tw_and1 (tv_cmp (ev_name (i := 3) rfl (ev_ix (ev_ix (ev_dget hr (ev_name (i := 6) rfl (ev_name (i := 2) rfl ⟨_, _, _, _, rfl, rfl, pick_at hp (fun l => D.lst (l.map pD)) x.sl x.st, ev_un (ev_int ⟨_, ud_neg, _, xd_lst (d := pD c) (atI_last (last_map hq)), ev_int ⟨_, xd_tup rfl, _, od_lt, fun z => ?_, fun z => ss_nil ?_⟩⟩)⟩)))))))
      · have z := of_decide_eq_true z
        obtain ⟨p0, p1, p2, p3, p4, p5, p6, p7, p8, p9, T⟩ := W.xc ("Passed", "moment") (by decide)
        have el2 : late x d = some (passed d.2.1) := by rw [el, hq]; show (if _ then _ else _) = _; rw [if_pos z]
        exact ss_cons (s_raise ht' xe.nm (ex_new T (hr.mono (by decide)) (W.glo "Passed" (by decide +kernel)) (ev_name (i := 3) rfl (qe _ el2))))
      · have hn : late x d = none := by rw [el, hq]; show (if _ then _ else _) = _; rw [if_neg (of_decide_eq_false z)]
        have hcalm : (cxB P w K mg base N_Shop_behind d_Shop_behind.qual (defScope d_Shop_behind.st) (d_Shop_behind.pa.ad K) cdv A outer s H E).calm = true := by show A.handled.isNone = true; rw [show A.handled = none from hm]; rfl
        refine ss_cons (s_set (i := 6) (ev_dc2 (i := 7) (z1 := .lst (((nextS x d).sl).map pD)) (z2 := .lst (((nextS x d).st).map pD)) hcalm nd ne_lt rfl (show BlkOk N_Shop_behind (defScope d_Shop_behind.st) _ _ from blkOk_by (by decide +kernel)) (fun _ _ _ _ _ => ⟨.inl rfl, .inr rfl⟩) ?_ hm) nd)
        refine ev_glob (d := .tup (plcs.map D.str)) (v := .ref (He.ga K "PLACES")) (W.glo "PLACES" (by decide +kernel)) rfl W.plc ⟨rfl, ss_nil (put _ rfl hn), ?_⟩
        intro s H C cl fp hh O3 sp q hq2
        have hq3 : q.1 ∈ plcs := by
          rcases List.mem_cons.mp hq2 with e | e
          · rw [e]; simp
          · rw [List.mem_singleton.mp e]; simp
        refine ⟨ev_name (i := 7) rfl ⟨rfl, rfl⟩, ?_⟩
        refine ev_op (ev_dget hr (ev_name (i := 6) rfl (ev_name (i := 7) rfl ⟨_, _, _, _, rfl, rfl, pick_at hq3 (fun l => D.lst (l.map pD)) x.sl x.st, ?_⟩)))
        refine ev_op ?_
        refine ev_lst ?_
        refine av_cons (ev_tup ?_)
        refine av_cons (ev_name (i := 3) rfl ?_)
        refine av_cons (ev_name (i := 4) rfl ?_)
        refine av_nil ?_
        refine ⟨by show 2 ≤ 100000; decide, ?_⟩
        refine av_nil ?_
        refine ⟨by show 1 ≤ 100000; decide, ?_⟩
        refine ev_typ ?_ (W.fre _ (by decide +kernel)) boot_int
        refine av_cons (ev_cmp ?_)
        refine ev_name (i := 7) rfl ?_
        refine ev_name (i := 2) rfl ?_
        refine ⟨_, od_eqs, ?_⟩
        refine av_nil ?_
        refine cl_int_bl ?_
        have hlen : (pick q.1 x.sl x.st).length ≤ 900 := by unfold pick; split <;> assumption
        refine ⟨_, od_rep1 (by show 1 ≤ 1000000; decide), _, od_cat (by rw [List.length_map]; split <;> (simp; omega)), rfl, ?_⟩
        have en : nextS x d = if d.1 = "label" then { x with sl := x.sl ++ [d.2] } else { x with st := x.st ++ [d.2] } := by unfold nextS; rw [if_neg hw]
        rw [en] at hq2
        simp only [List.mem_cons, List.not_mem_nil, or_false] at hq2 hp
        rcases hq2 with rfl | rfl <;> rcases hp with e | e <;> simp [e, pick, ne_lt, Ne.symm ne_lt, pD]
end
end K97
/-! # Walk Y: Shop.do -/
namespace K97
open PySem PySem.Spec PyProof.Rows L2 TL
abbrev Sh.after (s : Sh) (x : Ss) (d : Deed) : Sh := { s with dds := s.dds.take s.spot ++ [d], sts := s.sts.take (s.spot + 1) ++ [nextS x d], spot := s.spot + 1 }
section
variable {P : Program} {w : World} {K : PySem.W.Frag} {mg : Str → Option Value} {base : Heap}
def S_Shop_do : SpD := fun ds O Q QE => ∃ p, ∃ (s : Sh) (x : Ss) (d : Deed), ds = [.adr p, dD d] ∧ O p = some s.ow ∧ s.sts[s.spot]? = some x ∧ BkOk s.f x.ch ∧ BdOk s.bl ∧ BdOk s.bt ∧ x.ch.length ≤ 50 ∧ x.sl.length ≤ 900 ∧ x.st.length ≤ 900 ∧ d.1 ∈ kinds ∧ 0 ≤ d.2.2 ∧ s.spot ≤ s.dds.length ∧ s.dds.length ≤ 900 ∧ s.sts.length ≤ 900 ∧
  (∀ e, late x d = some e → QE e O) ∧ (late x d = none → AllSeen s (nextS x d) → Q .non (O.put p (s.after x d).ow)) ∧ (late x d = none → ¬ AllSeen s (nextS x d) → QE (clash d) O)
theorem S_Shop_do_len {ds O Q QE} (h : S_Shop_do ds O Q QE) : ds.length = 2 := by obtain ⟨p, s, x, d, e, _⟩ := h; rw [e]; rfl
theorem f_Shop_do (W : Wd P w K mg base) : Fm P w K mg base .cold 12 .shop "do" S_Shop_do := by
  refine W.fm 45 (d := d_Shop_do) sc_Shop_do rfl rfl (by decide +kernel) rfl (fun _ _ _ _ _ _ us hl => match us, hl with | [_, _], _ => rfl) (fun ds O Q QE h => S_Shop_do_len h) ?_
  rintro cdv A outer s H E F0 ds O Q QE hm hr xe ⟨p, sh, x, d, rfl, hO, hx, ok, hl, ht, lc, l1, l2, hk, h0, hs, ld, ls, qe, q1, q2⟩
  have nd : N_Shop_do.Nodup := by decide
  refine ss_cons (s_if ?_)
  refine tv_not ?_
  refine tv_val ?_
  refine ev_call (f_is_deed W) (hr.mono (by decide)) trivial xer0 ?_
  refine av_cons (ev_name (i := 1) rfl ?_)
  refine av_nil ?_
  refine ⟨d, rfl, hk, h0, true, rfl, nofun, fun _ => ss_nil ?_⟩
  refine ss_cons (s_set (i := 2) (ev_meth (f_Shop_behind W) (hr.mono (by decide)) hm xe.nm (ev_name (i := 0) rfl ⟨_, _, .inr ⟨p, rfl, hO⟩, by decide +kernel, av_cons (ev_name (i := 1) rfl (av_nil ⟨p, sh, x, d, rfl, hO, hx, ok, hl, ht, lc, l1, l2, hk, h0, qe, fun z1 z2 => ?_, q2⟩))⟩)) nd)
  refine ss_cons (s_fld (ev_op (ev_slice (fld_sh W (by decide) (ev_name (i := 0) rfl ⟨p, sh, _, rfl, hO, rfl, pv_none (pv_some (fld_sh W (by decide) (ev_name (i := 0) rfl ⟨p, sh, _, rfl, hO, rfl, _, rfl, _, sd_lst, ?_⟩)))⟩)))))
  rw [cut_take (by rw [List.length_map]; exact hs), ← List.map_take]
  refine ev_lst ?_
  refine av_cons (ev_name (i := 1) rfl ?_)
  refine av_nil ?_
  refine ⟨by show 1 ≤ 100000; decide, ?_⟩
  refine ⟨_, od_cat (by rw [List.length_map, List.length_take]; simp; omega), ?_⟩
  refine gv_attr (ev_name (i := 0) rfl ⟨p, .shop, _, _, rfl, hO, W.cls _, W.nat (.shop, "its_deeds") (by decide), by decide, ?_⟩)
  have e1 : Ow.ob Cl.shop (ksPut "its_deeds" shK) (dsPut "its_deeds" (.lst ((sh.dds.take sh.spot).map dD ++ [dD d])) shK sh.fs) = ({ sh with dds := sh.dds.take sh.spot ++ [d] } : Sh).ow := by
    rw [show (sh.dds.take sh.spot).map dD ++ [dD d] = (sh.dds.take sh.spot ++ [d]).map dD by rw [List.map_append]; rfl]
    rfl
  rw [e1]
  generalize hs1 : ({ sh with dds := sh.dds.take sh.spot ++ [d] } : Sh) = sh1
  have k1 : sh1.sts = sh.sts := by rw [← hs1]
  have k2 : sh1.spot = sh.spot := by rw [← hs1]
  have k3 : sh1.f = sh.f := by rw [← hs1]
  have hil : sh.spot < sh.sts.length := (List.getElem?_eq_some_iff.mp hx).1
  refine ss_cons (s_fld (ev_op (ev_slice (fld_sh W (by decide) (ev_name (i := 0) rfl ⟨p, sh1, _, rfl, Om.put_same, rfl, pv_none (pv_some (ev_op (fld_sh W (by decide) (ev_name (i := 0) rfl ⟨p, sh1, _, rfl, Om.put_same, rfl, ev_int ⟨_, od_add, _, rfl, _, sd_lst, ?_⟩⟩))))⟩)))))
  rw [k1, k2, k3, show ((sh.spot : Nat) : Int) + 1 = ((sh.spot + 1 : Nat) : Int) by omega, cut_take (by rw [List.length_map]; omega), ← List.map_take]
  refine ev_lst ?_
  refine av_cons (ev_name (i := 2) rfl ?_)
  refine av_nil ?_
  refine ⟨by show 1 ≤ 100000; decide, ?_⟩
  refine ⟨_, od_cat (by rw [List.length_map, List.length_take]; simp; omega), ?_⟩
  refine gv_attr (ev_name (i := 0) rfl ⟨p, .shop, _, _, rfl, Om.put_same, W.cls _, W.nat (.shop, "its_states") (by decide), by decide, ?_⟩)
  have e2 : Ow.ob Cl.shop (ksPut "its_states" shK) (dsPut "its_states" (.lst ((sh.sts.take (sh.spot + 1)).map (stD sh.f) ++ [stD sh.f (nextS x d)])) shK sh1.fs) = ({ sh1 with sts := sh.sts.take (sh.spot + 1) ++ [nextS x d] } : Sh).ow := by
    rw [show (sh.sts.take (sh.spot + 1)).map (stD sh.f) ++ [stD sh.f (nextS x d)] = (sh.sts.take (sh.spot + 1) ++ [nextS x d]).map (stD sh1.f) by rw [k3, List.map_append]; rfl]
    rfl
  rw [Om.put_put, e2]
  generalize hs2 : ({ sh1 with sts := sh.sts.take (sh.spot + 1) ++ [nextS x d] } : Sh) = sh2
  have j2 : sh2.spot = sh.spot := by rw [← hs2]; exact k2
  refine ss_cons (s_fldaug (g := fun i j => i + j) (p := p) (c := .shop) (m := (sh2.spot : Nat)) in_add (ev_name (i := 0) rfl ⟨rfl, Om.put_same, W.cls _, W.nat (.shop, "its_spot") (by decide), by decide, rfl, ev_int ⟨1, rfl, rfl, ?_⟩⟩))
  have e : ((sh2.spot : Nat) : Int) + 1 = ((sh2.spot + 1 : Nat) : Int) := by omega
  have e3 : Ow.ob Cl.shop (ksPut "its_spot" shK) (dsPut "its_spot" (.int (((sh2.spot : Nat) : Int) + 1)) shK sh2.fs) = ({ sh2 with spot := sh2.spot + 1 } : Sh).ow := by rw [e]; rfl
  rw [Om.put_put, e3]
  refine ss_nil ?_
  have e4 : ({ sh2 with spot := sh2.spot + 1 } : Sh) = sh.after x d := by rw [j2, ← hs2, ← hs1]
  rw [e4]
  exact q1 z1 z2
end
end K97
/-! # Walk Z: Desk made; told_at -/
namespace K97
open PySem PySem.Spec PyProof.Rows L2 TL
abbrev dkD (a : Addr) : D := .obj .desk ["its_shop"] [.adr a]
/-- what is sound and small, prices to be seen -/
structure Okq (s : Sh) (x : Ss) : Prop where
  cur : Cur s x
  f : Nm s.f
  ch : ∀ c ∈ x.ch, Nm c.1 ∧ Nm c.2
  bn : ∀ pl ∈ plcs, Nm (s.bd pl).1 ∧ Nm (s.bd pl).2
  ne : ∀ pl ∈ plcs, ∀ t, lP s x pl t ≠ []
abbrev lN (s : Sh) (x : Ss) (pl : Str) (t : Int) : List Int := nAt s.f x.ch (s.bd pl) (x.sn pl) t
theorem price_nm {f : Int} {ch : List (Int × Int)} (hf : Nm f) (hc : ∀ c ∈ ch, Nm c.1 ∧ Nm c.2) (n : Int) : Nm (priceAt f ch n) := by
  show Nm ((f :: ch.map (·.2)).getD n.toNat 0)
  rw [List.getD_eq_getElem?_getD]
  cases h : (f :: ch.map (·.2))[n.toNat]? with
  | none => show Nm 0; unfold Nm; decide +kernel
  | some z =>
    rcases List.mem_cons.mp (List.mem_of_getElem? h) with e | e
    · show Nm z; rw [e]; exact hf
    · obtain ⟨c, hc2, rfl⟩ := List.mem_map.mp e
      exact (hc c hc2).2
theorem Okq.pn {s : Sh} {x : Ss} (h : Okq s x) {pl : Str} {t : Int} : ∀ m ∈ lP s x pl t, Nm m := fun m hm => by
  have h1 : m ∈ (nAt s.f x.ch (s.bd pl) (x.sn pl) t).map (priceAt s.f x.ch) := mem_sU.mp hm
  obtain ⟨n, _, rfl⟩ := List.mem_map.mp h1
  exact price_nm h.f h.ch n
theorem sU_len {ns : List Int} : (sU ns).length ≤ ns.length := by
  induction ns with
  | nil => exact Nat.le_refl 0
  | cons a r ih =>
    have : ∀ (x : Int) (l : List Int), (insU x l).length ≤ l.length + 1 := by
      intro x l
      induction l with
      | nil => exact Nat.le_refl 1
      | cons b l ih2 =>
        unfold insU
        split
        · simp
        · split
          · simp
          · simpa using ih2
    have h2 := this a (sU r)
    show (insU a (sU r)).length ≤ _
    simp; omega
theorem Okq.pl {s : Sh} {x : Ss} (h : Okq s x) {pl : Str} {t : Int} : (lP s x pl t).length ≤ 61 := by
  have h1 := sU_len (ns := (nAt s.f x.ch (s.bd pl) (x.sn pl) t).map (priceAt s.f x.ch))
  have h2 := nAt_len (f := s.f) (ch := x.ch) (b := s.bd pl) (ss := x.sn pl) (t := t)
  have h3 := h.cur.len
  rw [List.length_map] at h1
  show (sU _).length ≤ _
  omega
theorem nm_nat {k : Nat} (h : k ≤ 1000) : Nm (k : Int) := by
  unfold Nm
  exact Nat.lt_of_le_of_lt (by omega : (k : Int).natAbs ≤ 1000) (by decide +kernel)
theorem Okq.nn {s : Sh} {x : Ss} (h : Okq s x) {pl : Str} {t : Int} : ∀ m ∈ lN s x pl t, Nm m := fun m hm => by
  obtain ⟨k, rfl, hk⟩ := nAt_in hm
  have := h.cur.len
  exact nm_nat (by omega)
theorem Okq.nl {s : Sh} {x : Ss} (h : Okq s x) {pl : Str} {t : Int} : (lN s x pl t).length ≤ 61 := by
  have h2 := nAt_len (f := s.f) (ch := x.ch) (b := s.bd pl) (ss := x.sn pl) (t := t)
  have h3 := h.cur.len
  show (nAt _ _ _ _ _).length ≤ _
  omega
abbrev e0 (ps : List Int) : Int := ps[0]?.getD 0
abbrev e1 (ps : List Int) : Int := ps.getLast?.getD 0
theorem Okq.ends {s : Sh} {x : Ss} (h : Okq s x) {pl : Str} (hp : pl ∈ plcs) (t : Int) : Ends2 (lP s x pl t) (e0 (lP s x pl t)) (e1 (lP s x pl t)) := by
  have h1 := h.ne pl hp t
  generalize lP s x pl t = ps at h1 ⊢
  cases ps with
  | nil => exact absurd rfl h1
  | cons a r => exact ⟨rfl, by rw [e1, List.getLast?_eq_some_getLast (by simp)]; rfl⟩
theorem Okq.nm0 {s : Sh} {x : Ss} (h : Okq s x) {pl : Str} (hp : pl ∈ plcs) (t : Int) : Nm (e0 (lP s x pl t)) ∧ Nm (e1 (lP s x pl t)) :=
  ⟨h.pn _ (List.mem_of_getElem? (h.ends hp t).hd), h.pn _ (List.mem_of_getLast? (h.ends hp t).lst)⟩
abbrev tSure : Option Int → Str
  | none => "open"
  | some i => iS i
def tAt (s : Sh) (x : Ss) (wd pl : Str) (t : Int) : Str :=
  if wd = "numbers" then tMoments (lN s x pl t) else if wd = "prices" then tMoments (lP s x pl t) else tSure (sureO (lP s x pl t))
abbrev wds3 : List Str := ["numbers", "prices", "surely"]
section
variable {P : Program} {w : World} {K : PySem.W.Frag} {mg : Str → Option Value} {base : Heap}
section
variable {X : Cx} {F0 : Hp} {r : Rho} {O : Om} {Q : D → Om → Prop} {e : Expr} {pos : Pos}
theorem fld_dk (W : Wd X.prog X.w X.K X.mg X.base) (h : Ev X F0 e r O fun d O1 => ∃ a, d = dkD a ∧ Q (.adr a) O1) (hb : attributeBase e "its_shop" X.env (eval e X.env) = eval e X.env := by rfl) : Ev X F0 (.Attribute e "its_shop" pos) r O Q :=
  ev_fld (h.mono fun d O1 ⟨a, ed, q⟩ => ⟨.desk, _, _, _, .inl ed, W.cls _, W.nat (.desk, "its_shop") (by decide), rfl, q⟩) hb
end
def S_Desk_init : SpD := fun ds O Q _ => ∃ p f bl bt, ds = [.adr p, .int f, pD bl, pD bt] ∧ 0 ≤ f ∧ BdOk bl ∧ BdOk bt ∧ O p = some (.ob .desk [] []) ∧ ∀ a, O a = none → Q .non ((O.put a (sh0 f bl bt).ow).put p (.ob .desk ["its_shop"] [.adr a]))
theorem S_Desk_init_len {ds O Q QE} (h : S_Desk_init ds O Q QE) : ds.length = 4 := by obtain ⟨p, f, bl, bt, e, _⟩ := h; rw [e]; rfl
theorem b_Desk_init (W : Wd P w K mg base) : Bod P w K mg base .heat 8 d_Desk_init N_Desk_init S_Desk_init := by
  rintro cdv A outer s H E F0 ds O Q QE hm hr xe ⟨p, f, bl, bt, rfl, h0, hl, ht, hO, q⟩
  have nd : N_Desk_init.Nodup := by decide
  refine ss_cons (s_fld (ev_make (mk_shop W) (hr.mono (by decide)) hm xer0 ?_))
  refine av_cons (ev_name (i := 1) rfl ?_)
  refine av_cons (ev_name (i := 2) rfl ?_)
  refine av_cons (ev_name (i := 3) rfl ?_)
  refine av_nil ?_
  refine fun a ha => ⟨a, f, bl, bt, rfl, h0, hl, ht, Om.put_same, rfl, ?_⟩
  rw [Om.put_put]
  have ne : p ≠ a := by rintro rfl; rw [hO] at ha; cases ha
  refine gv_attr (ev_name (i := 0) rfl ⟨p, .desk, _, _, rfl, by rw [Om.put_ne ne]; exact hO, W.cls _, W.nat (.desk, "its_shop") (by decide), by decide, ss_nil ?_⟩)
  exact q a ha
theorem mk_desk (W : Wd P w K mg base) : Mkr P w K mg base .heat 9 .desk [] S_Desk_init :=
  W.mk0 54 (d := d_Desk_init) sc_Desk_init rfl rfl (by decide +kernel) rfl (fun _ _ _ _ _ _ us hl => match us, hl with | [_, _, _, _], _ => rfl) (fun ds O Q QE h => S_Desk_init_len h) (b_Desk_init W)
def S_Desk_told_at : SpD := fun ds O Q _ => ∃ p, ∃ (s : Sh) (x : Ss) (wd pl : Str) (t : Int), ds = [dkD p, .str wd, .str pl, .int t] ∧ O p = some s.ow ∧ pl ∈ plcs ∧ wd ∈ wds3 ∧ Okq s x ∧ Q (.str (tAt s x wd pl t)) O
theorem S_Desk_told_at_len {ds O Q QE} (h : S_Desk_told_at ds O Q QE) : ds.length = 4 := by obtain ⟨p, s, x, wd, pl, t, e, _⟩ := h; rw [e]; rfl
theorem f_Desk_told_at (W : Wd P w K mg base) : Fm P w K mg base .heat 14 .desk "told_at" S_Desk_told_at := by
  refine W.fm 57 (d := d_Desk_told_at) sc_Desk_told_at rfl rfl (by decide +kernel) rfl (fun _ _ _ _ _ _ us hl => match us, hl with | [_, _, _, _], _ => rfl) (fun ds O Q QE h => S_Desk_told_at_len h) ?_
  rintro cdv A outer s H E F0 ds O Q QE hm hr xe ⟨p, sh, x, wd, pl, t, rfl, hO, hp, hw, ok, q⟩
  have nd : N_Desk_told_at.Nodup := by decide
  refine ss_cons (s_if ?_)
  refine tv_cmp ?_
  refine ev_name (i := 1) rfl ?_
  refine ev_str ?_
  refine ⟨_, od_eqs, fun h => ?_, fun h => ss_nil ?_⟩
  · have e : tAt sh x wd pl t = tMoments (lN sh x pl t) := by unfold tAt; rw [if_pos (of_decide_eq_true h)]
    have hl := ok.nl (pl := pl) (t := t)
    refine ss_cons (s_ret ?_)
    refine ev_call (f_show_moments W) (hr.mono (by decide)) hm xer0 ?_
    refine av_cons (ev_meth (f_Shop_numbers W) (hr.mono (by decide)) hm xer0 ?_)
    refine fld_dk W (ev_name (i := 0) rfl ⟨p, rfl, _, _, .inr ⟨p, rfl, hO⟩, by decide +kernel, av_cons (ev_name (i := 2) rfl (av_cons (ev_name (i := 3) rfl (av_nil ⟨p, sh, x, pl, t, rfl, hO, hp, ok.cur, ?_⟩))))⟩)
    exact av_nil ⟨lN sh x pl t, rfl, fun m hm => (ok.nn m hm).sm, by omega, sq e q⟩
  have h := of_decide_eq_false h
  refine ss_cons (s_if ?_)
  refine tv_cmp ?_
  refine ev_name (i := 1) rfl ?_
  refine ev_str ?_
  refine ⟨_, od_eqs, fun h2 => ?_, fun h2 => ss_nil ?_⟩
  · have e : tAt sh x wd pl t = tMoments (lP sh x pl t) := by unfold tAt; rw [if_neg h, if_pos (of_decide_eq_true h2)]
    have hl := ok.pl (pl := pl) (t := t)
    refine ss_cons (s_ret ?_)
    refine ev_call (f_show_moments W) (hr.mono (by decide)) hm xer0 ?_
    refine av_cons (ev_meth (f_Shop_prices W) (hr.mono (by decide)) hm xer0 ?_)
    refine fld_dk W (ev_name (i := 0) rfl ⟨p, rfl, _, _, .inr ⟨p, rfl, hO⟩, by decide +kernel, av_cons (ev_name (i := 2) rfl (av_cons (ev_name (i := 3) rfl (av_nil ⟨p, sh, x, pl, t, rfl, hO, hp, ok.cur, ?_⟩))))⟩)
    exact av_nil ⟨lP sh x pl t, rfl, fun m hm => (ok.pn m hm).sm, by omega, sq e q⟩
  have h2 := of_decide_eq_false h2
  have e : tAt sh x wd pl t = tSure (sureO (lP sh x pl t)) := by unfold tAt; rw [if_neg h, if_neg h2]
  rw [e] at q
  refine ss_cons (s_set (i := 4) (ev_meth (f_Shop_surely W) (hr.mono (by decide)) hm xer0 (fld_dk W (ev_name (i := 0) rfl ⟨p, rfl, _, _, .inr ⟨p, rfl, hO⟩, by decide +kernel, av_cons (ev_name (i := 2) rfl (av_cons (ev_name (i := 3) rfl (av_nil ⟨p, sh, x, pl, t, rfl, hO, hp, ok.cur, ?_⟩))))⟩))) nd)
  have sm : ∀ i, sureO (lP sh x pl t) = some i → Sm i := fun i hi => by
    have pn := ok.pn (pl := pl) (t := t)
    generalize lP sh x pl t = ps at hi pn
    match ps, hi with
    | [y], hi => cases hi; exact (pn _ (by simp)).sm
  show Ssv _ _ _ [some (dkD p), some (.str wd), some (.str pl), some (.int t), some (oD (sureO (lP sh x pl t)))] _ _
  generalize sureO (lP sh x pl t) = o at sm q ⊢
  refine ss_cons (s_ret (ev_if (tv_cmp (ev_name (i := 4) rfl (ev_non ⟨_, od_isN, ⟨fun h1 => ?_, fun h1 => ?_⟩⟩)))))
  · cases o with
    | none => exact ev_str q
    | some i => cases h1
  · cases o with
    | none => cases h1
    | some i => exact ev_typ (av_cons (ev_name (i := 4) rfl (av_nil (cl_str_int (sm i rfl).log q)))) (W.fre _ (by decide +kernel)) boot_str
end
end K97
/-! # Walk XA: Desk.answer -/
namespace K97
open PySem PySem.Spec PyProof.Rows L2 TL
/-- a question -/
inductive Qn where
  | two (c : Bool) (t u : Int)
  | win (pl : Str) (k : Nat)
  | at_ (wd pl : Str) (t : Int)
abbrev w2 (c : Bool) : Str := if c then "charged" else "overs"
def Qn.words : Qn → List Str
  | .two c t u => [w2 c, iS t, iS u]
  | .win pl k => ["window", pl, iS k]
  | .at_ wd pl t => [wd, pl, iS t]
def Qn.ok : Qn → Prop
  | .two _ t u => t ≤ u ∧ Nm t ∧ Nm u
  | .win pl k => pl ∈ plcs ∧ k ≤ 1000
  | .at_ wd pl t => wd ∈ wds3 ∧ pl ∈ plcs ∧ Nm t
def ans2 (c : Bool) (a b : List Int) : Int × Int := if c then (mn (e0 a) (e0 b), mn (e1 a) (e1 b)) else (e0 b - e1 a, e1 b - e0 a)
abbrev noNumber (k : Nat) : Exn := ⟨"NoNumber", some ("number", .int k)⟩
def Sh.ans (s : Sh) (x : Ss) : Qn → Except Exn Str
  | .two c t u => .ok (tBoard (ans2 c (lP s x "label" t) (lP s x "till" u)))
  | .win pl k => if k ≤ x.ch.length then .ok (tWindow (winB x.ch (s.bd pl) k, winE x.ch (s.bd pl) k)) else .error (noNumber k)
  | .at_ wd pl t => .ok (tAt s x wd pl t)
theorem sm_add {i j : Int} (h : Nm i) (k : Nm j) : Sm (i + j) := by
  unfold Nm at h k; unfold Sm
  have : (10 : Nat) ^ 45 = 100000 * 10 ^ 40 := by decide +kernel
  omega
theorem sm_sub {i j : Int} (h : Nm i) (k : Nm j) : Sm (i - j) := by
  unfold Nm at h k; unfold Sm
  have : (10 : Nat) ^ 45 = 100000 * 10 ^ 40 := by decide +kernel
  omega
theorem sm_mn {i j : Int} (h : Nm i) (k : Nm j) : Sm (mn i j) := by
  show Sm (if j < i then j else i)
  split
  · exact k.sm
  · exact h.sm
theorem Okq.sm2 {s : Sh} {x : Ss} (h : Okq s x) (c : Bool) (t u : Int) : SmP (ans2 c (lP s x "label" t) (lP s x "till" u)) := by
  obtain ⟨a0, a1⟩ := h.nm0 (pl := "label") (by simp) t
  obtain ⟨b0, b1⟩ := h.nm0 (pl := "till") (by simp) u
  cases c with
  | true => exact ⟨sm_mn a0 b0, sm_mn a1 b1⟩
  | false => exact ⟨sm_sub b0 a1, sm_sub b1 a0⟩
theorem Okq.smB {s : Sh} {x : Ss} (h : Okq s x) {pl : Str} (hp : pl ∈ plcs) (k : Nat) : SmO (winB x.ch (s.bd pl) k) := by
  intro i hi
  cases k with
  | zero => cases hi
  | succ j =>
    have hi : Option.map (fun c => c.1 + (s.bd pl).1) x.ch[j]? = some i := hi
    cases g : x.ch[j]? with
    | none => rw [g] at hi; cases hi
    | some c =>
      rw [g] at hi; cases hi
      exact sm_add (h.ch c (List.mem_of_getElem? g)).1 (h.bn pl hp).1
theorem Okq.smE {s : Sh} {x : Ss} (h : Okq s x) {pl : Str} (hp : pl ∈ plcs) (k : Nat) : SmO (winE x.ch (s.bd pl) k) := by
  intro i hi
  unfold winE at hi
  cases g : x.ch[k]? with
  | none => rw [g] at hi; cases hi
  | some c =>
    rw [g] at hi; cases hi
    exact sm_add (h.ch c (List.mem_of_getElem? g)).1 (h.bn pl hp).2
section
variable {P : Program} {w : World} {K : PySem.W.Frag} {mg : Str → Option Value} {base : Heap}
def S_Desk_answer : SpD := fun ds O Q QE => ∃ p, ∃ (s : Sh) (x : Ss) (q : Qn), ds = [dkD p, .lst (q.words.map D.str)] ∧ O p = some s.ow ∧ Okq s x ∧ q.ok ∧ (∀ t, s.ans x q = .ok t → Q (.str t) O) ∧ (∀ e, s.ans x q = .error e → QE e O)
theorem S_Desk_answer_len {ds O Q QE} (h : S_Desk_answer ds O Q QE) : ds.length = 2 := by obtain ⟨p, s, x, q, e, _⟩ := h; rw [e]; rfl
theorem w2_in (c : Bool) : decide (w2 c ∈ [Str.ofString "charged", Str.ofString "overs"]) = true := by cases c <;> decide +kernel
theorem w2_eq (c : Bool) : decide (w2 c = Str.ofString "charged") = c := by cases c <;> decide +kernel
theorem wd_out {wd : Str} (h : wd ∈ wds3) : decide (wd ∈ [Str.ofString "charged", Str.ofString "overs"]) = false ∧ decide (wd = Str.ofString "window") = false := by
  simp only [List.mem_cons, List.not_mem_nil, or_false] at h
  rcases h with rfl | rfl | rfl <;> constructor <;> decide +kernel
theorem win_out : decide (Str.ofString "window" ∈ [Str.ofString "charged", Str.ofString "overs"]) = false := by decide +kernel
theorem f_Desk_answer (W : Wd P w K mg base) : Fm P w K mg base .heat 15 .desk "answer" S_Desk_answer := by
  refine W.fm 56 (d := d_Desk_answer) sc_Desk_answer rfl rfl (by decide +kernel) rfl (fun _ _ _ _ _ _ us hl => match us, hl with | [_, _], _ => rfl) (fun ds O Q QE h => S_Desk_answer_len h) ?_
  rintro cdv A outer s H E F0 ds O Q QE hm hr xe ⟨p, sh, x, q, rfl, hO, ok, hq, q1, q2⟩
  have nd : N_Desk_answer.Nodup := by decide
  have hlen : q.words.length = 3 := by cases q <;> rfl
  refine ss_cons (s_if ?_)
  refine tv_cmp ?_
  refine ev_blt ?_ (W.fre _ (by decide +kernel)) boot_len
  refine av_cons (ev_name (i := 1) rfl ?_)
  refine av_nil ?_
  refine cl_len_lst ?_
  refine ev_int ?_
  refine ⟨_, od_nei, fun h => absurd h (by rw [List.length_map, hlen]; decide), fun _ => ss_nil ?_⟩
  cases q with
  | two c t u =>
    obtain ⟨hle, n1, n2⟩ := hq
    have l1 := len_iS n1
    have l2 := len_iS n2
    refine ss_cons (s_asg (ev_name (i := 1) rfl (gv_tup hm (.inr rfl) (gvs_cons (gv_name (i := 2) (gvs_cons (gv_name (i := 3) (gvs_cons (gv_name (i := 4) (gvs_nil ?_) nd)) nd)) nd)))))
    refine ss_cons (s_if ?_)
    refine tv_w ?_
    refine tw_and ?_
    refine tv_cmp ?_
    refine ev_name (i := 2) rfl ?_
    refine ev_tup ?_
    refine av_cons (ev_str ?_)
    refine av_cons (ev_str ?_)
    refine av_nil ?_
    refine ⟨by show 2 ≤ 100000; decide, ?_⟩
    refine ⟨_, od_in_strs (ys := ["charged", "overs"]), fun _ => ?_, fun h => absurd (h.symm.trans (w2_in c)) (by decide)⟩
    refine tw_and ?_
    refine tv_val ?_
    refine ev_call (f_is_moment_text W) (hr.mono (by decide)) hm xer0 ?_
    refine av_cons (ev_name (i := 3) rfl ?_)
    refine av_nil ?_
    refine ⟨t, rfl, n1, true, rfl, fun _ => ?_, nofun⟩
    refine tw_and1 ?_
    refine tv_val ?_
    refine ev_call (f_is_moment_text W) (hr.mono (by decide)) hm xer0 ?_
    refine av_cons (ev_name (i := 4) rfl ?_)
    refine av_nil ?_
    refine ⟨u, rfl, n2, true, rfl, fun _ => ?_, nofun⟩
    refine ss_cons (s_if ?_)
    refine tv_cmp ?_
    refine ev_typ ?_ (W.fre _ (by decide +kernel)) boot_int
    refine av_cons (ev_name (i := 3) rfl ?_)
    refine av_nil ?_
    refine cl_int_str (int_text n1) (Nat.le_trans l1 (by decide)) ?_
    refine ev_typ ?_ (W.fre _ (by decide +kernel)) boot_int
    refine av_cons (ev_name (i := 4) rfl ?_)
    refine av_nil ?_
    refine cl_int_str (int_text n2) (Nat.le_trans l2 (by decide)) ?_
    refine ⟨_, od_le, fun _ => ?_, fun h => absurd hle (of_decide_eq_false h)⟩
    have sm := ok.sm2 c t u
    have ea := ok.ends (pl := "label") (by simp) t
    have eb := ok.ends (pl := "till") (by simp) u
    refine ss_cons (s_if ?_)
    refine tv_cmp ?_
    refine ev_name (i := 2) rfl ?_
    refine ev_str ?_
    refine ⟨_, od_eqs, fun h => ?_, fun h => ss_nil ?_⟩
    · have hc : c = true := (w2_eq c).symm.trans h
      subst hc
      refine ss_cons (s_ret ?_)
      refine ev_call (f_show_board W) (hr.mono (by decide)) trivial xer0 ?_
      refine av_cons (ev_meth (f_Shop_charged W) (hr.mono (by decide)) hm xer0 ?_)
      refine fld_dk W (ev_name (i := 0) rfl ⟨p, rfl, _, _, .inr ⟨p, rfl, hO⟩, by decide +kernel, ?_⟩)
      refine av_cons (ev_typ ?_ (W.fre _ (by decide +kernel)) boot_int)
      refine av_cons (ev_name (i := 3) rfl ?_)
      refine av_nil ?_
      refine cl_int_str (int_text n1) (Nat.le_trans l1 (by decide)) ?_
      refine av_cons (ev_typ ?_ (W.fre _ (by decide +kernel)) boot_int)
      refine av_cons (ev_name (i := 4) rfl ?_)
      refine av_nil ?_
      refine cl_int_str (int_text n2) (Nat.le_trans l2 (by decide)) ?_
      refine av_nil ?_
      refine ⟨p, sh, x, t, u, _, _, _, _, rfl, hO, ok.cur, ea, eb, ?_⟩
      refine av_nil ?_
      refine ⟨_, rfl, sm, q1 _ rfl⟩
    · have hc : c = false := (w2_eq c).symm.trans h
      subst hc
      refine ss_cons (s_ret ?_)
      refine ev_call (f_show_board W) (hr.mono (by decide)) trivial xer0 ?_
      refine av_cons (ev_meth (f_Shop_overs W) (hr.mono (by decide)) hm xer0 ?_)
      refine fld_dk W (ev_name (i := 0) rfl ⟨p, rfl, _, _, .inr ⟨p, rfl, hO⟩, by decide +kernel, ?_⟩)
      refine av_cons (ev_typ ?_ (W.fre _ (by decide +kernel)) boot_int)
      refine av_cons (ev_name (i := 3) rfl ?_)
      refine av_nil ?_
      refine cl_int_str (int_text n1) (Nat.le_trans l1 (by decide)) ?_
      refine av_cons (ev_typ ?_ (W.fre _ (by decide +kernel)) boot_int)
      refine av_cons (ev_name (i := 4) rfl ?_)
      refine av_nil ?_
      refine cl_int_str (int_text n2) (Nat.le_trans l2 (by decide)) ?_
      refine av_nil ?_
      refine ⟨p, sh, x, t, u, _, _, _, _, rfl, hO, ok.cur, ea, eb, ?_⟩
      refine av_nil ?_
      refine ⟨_, rfl, sm, q1 _ rfl⟩
  | win pl k =>
    obtain ⟨hp, hk⟩ := hq
    have n1 := nm_nat hk
    have l1 := len_iS n1
    refine ss_cons (s_asg (ev_name (i := 1) rfl (gv_tup hm (.inr rfl) (gvs_cons (gv_name (i := 2) (gvs_cons (gv_name (i := 3) (gvs_cons (gv_name (i := 4) (gvs_nil ?_) nd)) nd)) nd)))))
    refine ss_cons (s_if ?_)
    refine tv_w ?_
    refine tw_and ?_
    refine tv_cmp ?_
    refine ev_name (i := 2) rfl ?_
    refine ev_tup ?_
    refine av_cons (ev_str ?_)
    refine av_cons (ev_str ?_)
    refine av_nil ?_
    refine ⟨by show 2 ≤ 100000; decide, ?_⟩
    refine ⟨_, od_in_strs (ys := ["charged", "overs"]), fun h => absurd (h.symm.trans win_out) (by decide), fun _ => ⟨nofun, fun _ => ss_nil ?_⟩⟩
    refine ss_cons (s_if ?_)
    refine tv_w ?_
    refine tw_and ?_
    refine tv_cmp ?_
    refine ev_name (i := 2) rfl ?_
    refine ev_str ?_
    refine ⟨_, od_eqs, fun _ => ?_, fun h => absurd rfl (of_decide_eq_false h)⟩
    refine tw_and ?_
    refine tv_cmp ?_
    refine ev_name (i := 3) rfl ?_
    refine ev_glob (d := .tup (plcs.map D.str)) (v := .ref (He.ga K "PLACES")) (W.glo "PLACES" (by decide +kernel)) rfl W.plc ⟨_, od_in_strs, fun _ => ?_, fun h => absurd hp (of_decide_eq_false h)⟩
    refine tw_and1 ?_
    refine tv_val ?_
    refine ev_call (f_is_number_text W) (hr.mono (by decide)) hm xer0 ?_
    refine av_cons (ev_name (i := 4) rfl ?_)
    refine av_nil ?_
    refine ⟨_, true, rfl, .inl ⟨numOk (by omega) n1, rfl⟩, true, rfl, fun _ => ?_, nofun⟩
    have hl := ok.cur.len
    refine ss_cons (s_ret ?_)
    refine ev_call (f_show_window W) (hr.mono (by decide)) hm xer0 ?_
    refine av_cons (ev_meth (f_Line_window W) (hr.mono (by decide)) hm xe.nm ?_)
    refine ev_meth (f_Shop_line W) (hr.mono (by decide)) hm xer0 (fld_dk W (ev_name (i := 0) rfl ⟨p, rfl, _, _, .inr ⟨p, rfl, hO⟩, by decide +kernel, av_cons (ev_name (i := 3) rfl (av_nil ⟨p, sh, x, pl, rfl, hO, ok.cur.at_, hp, ok.cur.ok, ok.cur.bd pl hp, ?_⟩))⟩))
    refine ⟨_, _, .inl rfl, by decide +kernel, ?_⟩
    refine av_cons (ev_typ ?_ (W.fre _ (by decide +kernel)) boot_int)
    refine av_cons (ev_name (i := 4) rfl ?_)
    refine av_nil ?_
    refine cl_int_str (int_text n1) (Nat.le_trans l1 (by decide)) ?_
    refine av_nil ?_
    refine ⟨_, _, _, k, rfl, by omega, fun h => ?_, fun h => ?_⟩
    · exact av_nil ⟨(winB x.ch (sh.bd pl) k, winE x.ch (sh.bd pl) k), rfl, ok.smB hp k, ok.smE hp k, q1 _ (by show (if _ then _ else _) = _; rw [if_pos h])⟩
    · exact q2 _ (by show (if _ then _ else _) = _; rw [if_neg (by omega)])
  | at_ wd pl t =>
    obtain ⟨hw, hp, n1⟩ := hq
    have l1 := len_iS n1
    obtain ⟨o1, o2⟩ := wd_out hw
    refine ss_cons (s_asg (ev_name (i := 1) rfl (gv_tup hm (.inr rfl) (gvs_cons (gv_name (i := 2) (gvs_cons (gv_name (i := 3) (gvs_cons (gv_name (i := 4) (gvs_nil ?_) nd)) nd)) nd)))))
    refine ss_cons (s_if ?_)
    refine tv_w ?_
    refine tw_and ?_
    refine tv_cmp ?_
    refine ev_name (i := 2) rfl ?_
    refine ev_tup ?_
    refine av_cons (ev_str ?_)
    refine av_cons (ev_str ?_)
    refine av_nil ?_
    refine ⟨by show 2 ≤ 100000; decide, ?_⟩
    refine ⟨_, od_in_strs (ys := ["charged", "overs"]), fun h => absurd (h.symm.trans o1) (by decide), fun _ => ⟨nofun, fun _ => ss_nil ?_⟩⟩
    refine ss_cons (s_if ?_)
    refine tv_w ?_
    refine tw_and ?_
    refine tv_cmp ?_
    refine ev_name (i := 2) rfl ?_
    refine ev_str ?_
    refine ⟨_, od_eqs, fun h => absurd (h.symm.trans o2) (by decide), fun _ => ⟨nofun, fun _ => ss_nil ?_⟩⟩
    refine ss_cons (s_if ?_)
    refine tv_w ?_
    refine tw_and ?_
    refine tv_cmp ?_
    refine ev_name (i := 2) rfl ?_
    refine ev_tup ?_
    refine av_cons (ev_str ?_)
    refine av_cons (ev_str ?_)
    refine av_cons (ev_str ?_)
    refine av_nil ?_
    refine ⟨by show 3 ≤ 100000; decide, ?_⟩
    refine ⟨_, od_in_strs (ys := wds3), fun _ => ?_, fun h => absurd hw (of_decide_eq_false h)⟩
    refine tw_and ?_
    refine tv_cmp ?_
    refine ev_name (i := 3) rfl ?_
    refine ev_glob (d := .tup (plcs.map D.str)) (v := .ref (He.ga K "PLACES")) (W.glo "PLACES" (by decide +kernel)) rfl W.plc ⟨_, od_in_strs, fun _ => ?_, fun h => absurd hp (of_decide_eq_false h)⟩
    refine tw_and1 ?_
    refine tv_val ?_
    refine ev_call (f_is_moment_text W) (hr.mono (by decide)) hm xer0 ?_
    refine av_cons (ev_name (i := 4) rfl ?_)
    refine av_nil ?_
    refine ⟨t, rfl, n1, true, rfl, fun _ => ?_, nofun⟩
    refine ss_cons (s_ret (ev_meth (f_Desk_told_at W) (hr.mono (by decide)) hm xer0 (ev_name (i := 0) rfl ⟨_, _, .inl rfl, by decide +kernel, ?_⟩)))
    refine av_cons (ev_name (i := 2) rfl ?_)
    refine av_cons (ev_name (i := 3) rfl ?_)
    refine av_cons (ev_typ ?_ (W.fre _ (by decide +kernel)) boot_int)
    refine av_cons (ev_name (i := 4) rfl ?_)
    refine av_nil ?_
    refine cl_int_str (int_text n1) (Nat.le_trans l1 (by decide)) ?_
    refine av_nil ?_
    refine ⟨p, sh, x, wd, pl, t, rfl, hO, hp, hw, ok, q1 _ rfl⟩
end
end K97
/-! # Walk XB: Desk.execute -/
namespace K97
open PySem PySem.Spec PyProof.Rows L2 TL
inductive Ln where
  | back | again | book | log | deed (d : Deed) | ask (q : Qn)
def Ln.txt : Ln → Str
  | .back => "back" | .again => "again" | .book => "book" | .log => "log"
  | .deed d => tDeed d
  | .ask q => jn q.words
def tLog (ds : List Deed) : Str := if ds = [] then "none" else Txt.join "; " (ds.map tDeed)
def d0 : Deed := ("", 0, 0)
def Sh.rBack (s : Sh) : Nat → Except Exn (Str × Sh)
  | 0 => .error nothing
  | k + 1 => .ok (tDeed ((s.dds[k]?).getD d0), { s with spot := k })
def Sh.rAgain (s : Sh) : Except Exn (Str × Sh) := if s.spot = s.dds.length then .error nothing else .ok (tDeed ((s.dds[s.spot]?).getD d0), { s with spot := s.spot + 1 })
def Sh.rDeed (s : Sh) (x : Ss) (d : Deed) : Option Exn → Except Exn (Str × Sh)
  | some e => .error e
  | none => if AllSeen s (nextS x d) then .ok ("done", s.after x d) else .error (clash d)
def Sh.rAsk (s : Sh) : Except Exn Str → Except Exn (Str × Sh)
  | .ok t => .ok (t, s)
  | .error e => .error e
/-- what a line does to a shop -/
def Sh.run (s : Sh) (x : Ss) : Ln → Except Exn (Str × Sh)
  | .back => s.rBack s.spot
  | .again => s.rAgain
  | .book => .ok (tBook s.f x.ch, s)
  | .log => .ok (tLog (s.dds.take s.spot), s)
  | .deed d => s.rDeed x d (late x d)
  | .ask q => s.rAsk (s.ans x q)
structure DdOk (d : Deed) : Prop where
  k : d.1 ∈ kinds
  p : 0 ≤ d.2.2
  n1 : Nm d.2.1
  n2 : Nm d.2.2
structure Gsh (s : Sh) (x : Ss) : Prop where
  ok : Okq s x
  sp : s.spot ≤ s.dds.length
  dl : s.dds.length ≤ 900
  sl : s.sts.length ≤ 900
  cl : x.ch.length ≤ 50
  l1 : x.sl.length ≤ 900
  l2 : x.st.length ≤ 900
  dd : ∀ d ∈ s.dds, DdOk d
def Ln.ok : Ln → Prop
  | .deed d => DdOk d
  | .ask q => q.ok
  | _ => True
theorem deed_jn (d : Deed) : tDeed d = jn (d.1 :: sWords d.2) := by
  show d.1 ++ " " ++ tSight d.2 = _
  rw [sight_jn]
  exact (jn_cons _ _ _).symm
theorem sp_jn (a b : Str) (r : List Str) : 32 ∈ tl (jn (a :: b :: r)) := by
  rw [jn_cons, tl_append, tl_append, tl_sp]
  simp
/-- a line of several words is none of the short ones -/
theorem not_short {x : Str} (h : 32 ∈ tl x) : x ≠ "back" ∧ x ≠ "again" ∧ x ≠ "book" ∧ x ≠ "log" := by
  refine ⟨?_, ?_, ?_, ?_⟩ <;> (rintro rfl; revert h; decide +kernel)
theorem Gsh.bl {s : Sh} {x : Ss} (g : Gsh s x) : BdOk s.bl := by
  have := g.ok.cur.bd "label" (by simp)
  unfold Sh.bd pick at this; rw [if_pos rfl] at this; exact this
theorem Gsh.bt {s : Sh} {x : Ss} (g : Gsh s x) : BdOk s.bt := by
  have := g.ok.cur.bd "till" (by simp)
  unfold Sh.bd pick at this; rw [if_neg (Ne.symm ne_lt)] at this; exact this
theorem kind_len {x : Str} (h : x ∈ kinds) : x.length ≤ 1000 := by have := (fr_kind h).2; omega
def decD : D → Option Deed
  | .tup [.str a, .int b, .int c] => some (a, b, c)
  | _ => none
theorem decD_e (c : Deed) : decD (dD c) = some c := rfl
theorem fr_w2 (c : Bool) : Fr (w2 c) ∧ (w2 c).length ≤ 41 := by
  cases c
  · exact ⟨by show 32 ∉ tl _; decide +kernel, by decide +kernel⟩
  · exact ⟨by show 32 ∉ tl _; decide +kernel, by decide +kernel⟩
theorem fr_plc {x : Str} (h : x ∈ plcs) : Fr x ∧ x.length ≤ 41 := fr_kind (List.mem_cons_of_mem _ h)
theorem fr_wd {x : Str} (h : x ∈ wds3) : Fr x ∧ x.length ≤ 41 := by
  simp only [List.mem_cons, List.not_mem_nil, or_false] at h
  rcases h with rfl | rfl | rfl
  · exact ⟨by show 32 ∉ tl _; decide +kernel, by decide +kernel⟩
  · exact ⟨by show 32 ∉ tl _; decide +kernel, by decide +kernel⟩
  · exact ⟨by show 32 ∉ tl _; decide +kernel, by decide +kernel⟩
theorem fr_nm {i : Int} (h : Nm i) : Fr (iS i) ∧ (iS i).length ≤ 41 := ⟨fr_iS, len_iS h⟩
theorem Qn.fr {q : Qn} (h : q.ok) : ∃ a b c, q.words = [a, b, c] ∧ ∀ x ∈ [a, b, c], Fr x ∧ x.length ≤ 41 := by
  cases q with
  | two c t u =>
    refine ⟨_, _, _, rfl, fun x hx => ?_⟩
    simp only [List.mem_cons, List.not_mem_nil, or_false] at hx
    rcases hx with rfl | rfl | rfl
    · exact fr_w2 c
    · exact fr_nm h.2.1
    · exact fr_nm h.2.2
  | win pl k =>
    refine ⟨_, _, _, rfl, fun x hx => ?_⟩
    simp only [List.mem_cons, List.not_mem_nil, or_false] at hx
    rcases hx with rfl | rfl | rfl
    · exact ⟨by show 32 ∉ tl _; decide +kernel, by decide +kernel⟩
    · exact fr_plc h.1
    · exact fr_nm (nm_nat h.2)
  | at_ wd pl t =>
    refine ⟨_, _, _, rfl, fun x hx => ?_⟩
    simp only [List.mem_cons, List.not_mem_nil, or_false] at hx
    rcases hx with rfl | rfl | rfl
    · exact fr_wd h.1
    · exact fr_plc h.2.1
    · exact fr_nm h.2.2
/-- only this one is raised by a question -/
theorem Sh.ans_err {s : Sh} {x : Ss} {q : Qn} {e : Exn} (h : s.ans x q = .error e) : ∃ n, e = noNumber n := by
  cases q with
  | two c t u => cases h
  | at_ wd pl t => cases h
  | win pl k =>
    change (if _ then _ else _) = _ at h
    split at h
    · cases h
    · cases h; exact ⟨k, rfl⟩
section
variable {P : Program} {w : World} {K : PySem.W.Frag} {mg : Str → Option Value} {base : Heap}
theorem RoomB.mark {k : Nat} {A : Around} (r : RoomB k A) (v : Option Value) : RoomB k (A.mark v) := ⟨r.dp, r.un, r.gd⟩
theorem XeR.imp {X : Cx} {F0 : Hp} {r : Rho} {QE QE' : Exn → Om → Prop} (h : XeR X F0 r QE) (f : ∀ x O, QE' x O → QE x O) : XeR X F0 r QE' := Takes.imp h fun _ _ _ _ ⟨x, O, F, q, z⟩ => ⟨x, O, F, f _ _ q, z⟩
def S_Desk_execute : SpD := fun ds O Q QE => ∃ p, ∃ (s : Sh) (x : Ss) (l : Ln), ds = [dkD p, .str l.txt] ∧ O p = some s.ow ∧ Gsh s x ∧ l.ok ∧ (∀ t s', s.run x l = .ok (t, s') → Q (.str t) (O.put p s'.ow)) ∧ (∀ e, s.run x l = .error e → QE e O)
theorem S_Desk_execute_len {ds O Q QE} (h : S_Desk_execute ds O Q QE) : ds.length = 2 := by obtain ⟨p, s, x, q, e, _⟩ := h; rw [e]; rfl
theorem f_Desk_execute (W : Wd P w K mg base) : Fm P w K mg base .cold 17 .desk "execute" S_Desk_execute := by
  refine W.fm 55 (d := d_Desk_execute) sc_Desk_execute rfl rfl (by decide +kernel) rfl (fun _ _ _ _ _ _ us hl => match us, hl with | [_, _], _ => rfl) (fun ds O Q QE h => S_Desk_execute_len h) ?_
  rintro cdv A outer s H E F0 ds O Q QE hm hr xe ⟨p, sh, x, l, rfl, hO, g, hl, q, qe⟩
  have nd : N_Desk_execute.Nodup := by decide
  have ht : Heat (cxB P w K mg base N_Desk_execute d_Desk_execute.qual (defScope d_Desk_execute.st) (d_Desk_execute.pa.ad K) cdv A outer s H E) := .inl hm
  have hat := g.ok.cur.at_
  refine ss_cons (s_if ?_)
  refine tv_cmp ?_
  refine ev_name (i := 1) rfl ?_
  refine ev_tup ?_
  refine av_cons (ev_str ?_)
  refine av_cons (ev_str ?_)
  refine av_nil ?_
  refine ⟨by show 2 ≤ 100000; decide, ?_⟩
  cases l with
  | back =>
    refine ⟨_, od_in_strs (ys := ["back", "again"]), fun _ => ?_, fun h => absurd h (by decide +kernel)⟩
    refine ss_cons (s_ret ?_)
    refine ev_call (f_show_deed W) (hr.mono (by decide)) trivial xer0 ?_
    refine av_cons (ev_if (tv_cmp (ev_name (i := 1) rfl (ev_str ⟨_, od_eqs, fun _ => ?_, fun h => absurd rfl (of_decide_eq_false h)⟩))))
    refine ev_meth0 (f_Shop_back W) (hr.mono (by decide)) hm xe.nm (fld_dk W (ev_name (i := 0) rfl ⟨p, rfl, _, _, .inr ⟨p, rfl, hO⟩, by decide +kernel, p, sh, rfl, hO, fun h => ?_, fun k hk => ?_⟩))
    · exact qe _ (by show sh.rBack sh.spot = _; rw [h]; rfl)
    · have hs := g.sp
      have hd := List.getElem?_eq_getElem (show k < sh.dds.length by omega)
      have ok := g.dd _ (List.getElem_mem (show k < sh.dds.length by omega))
      refine ⟨_, hd, av_nil ⟨_, rfl, ⟨ok.n1.sm, ok.n2.sm⟩, kind_len ok.k, ?_⟩⟩
      have e : sh.run x .back = .ok (tDeed sh.dds[k], { sh with spot := k }) := by
        show sh.rBack sh.spot = _
        rw [hk]
        show Except.ok (tDeed ((sh.dds[k]?).getD d0), _) = _
        rw [hd]; rfl
      exact q _ _ e
  | again =>
    refine ⟨_, od_in_strs (ys := ["back", "again"]), fun _ => ?_, fun h => absurd h (by decide +kernel)⟩
    refine ss_cons (s_ret ?_)
    refine ev_call (f_show_deed W) (hr.mono (by decide)) trivial xer0 ?_
    refine av_cons (ev_if (tv_cmp (ev_name (i := 1) rfl (ev_str ⟨_, od_eqs, fun h => absurd h (by decide +kernel), fun _ => ?_⟩))))
    refine ev_meth0 (f_Shop_again W) (hr.mono (by decide)) hm xe.nm (fld_dk W (ev_name (i := 0) rfl ⟨p, rfl, _, _, .inr ⟨p, rfl, hO⟩, by decide +kernel, p, sh, rfl, hO, fun h => ?_, fun hk => ?_⟩))
    · exact qe _ (by show sh.rAgain = _; unfold Sh.rAgain; rw [if_pos h])
    · have hs := g.sp
      have hd := List.getElem?_eq_getElem (show sh.spot < sh.dds.length by omega)
      have ok := g.dd _ (List.getElem_mem (show sh.spot < sh.dds.length by omega))
      refine ⟨_, hd, av_nil ⟨_, rfl, ⟨ok.n1.sm, ok.n2.sm⟩, kind_len ok.k, ?_⟩⟩
      have e : sh.run x .again = .ok (tDeed sh.dds[sh.spot], { sh with spot := sh.spot + 1 }) := by
        show sh.rAgain = _
        unfold Sh.rAgain; rw [if_neg hk, hd]; rfl
      exact q _ _ e
  | book =>
    refine ⟨_, od_in_strs (ys := ["back", "again"]), fun h => absurd h (by decide +kernel), fun _ => ss_nil ?_⟩
    refine ss_cons (s_if ?_)
    refine tv_cmp ?_
    refine ev_name (i := 1) rfl ?_
    refine ev_str ?_
    refine ⟨_, od_eqs, fun _ => ?_, fun h => absurd rfl (of_decide_eq_false h)⟩
    have hc := g.cl
    refine ss_cons (s_ret ?_)
    refine ev_call (f_show_book W) (hr.mono (by decide)) ht xer0 ?_
    refine av_cons (ev_prop (f_Shop_book W) (hr.mono (by decide)) trivial (fld_dk W (ev_name (i := 0) rfl ⟨p, rfl, _, _, .inr ⟨p, rfl, hO⟩, p, sh, x, rfl, hO, hat, ?_⟩)))
    refine av_nil ⟨sh.f, x.ch, rfl, g.ok.f.sm, fun c hc => ⟨(g.ok.ch c hc).1.sm, (g.ok.ch c hc).2.sm⟩, by omega, ?_⟩
    have := q _ _ (show sh.run x .book = .ok (tBook sh.f x.ch, sh) from rfl)
    rw [Om.put_eq hO] at this
    exact this
  | log =>
    refine ⟨_, od_in_strs (ys := ["back", "again"]), fun h => absurd h (by decide +kernel), fun _ => ss_nil ?_⟩
    refine ss_cons (s_if ?_)
    refine tv_cmp ?_
    refine ev_name (i := 1) rfl ?_
    refine ev_str ?_
    refine ⟨_, od_eqs, fun h => absurd h (by decide +kernel), fun _ => ss_nil ?_⟩
    refine ss_cons (s_if ?_)
    refine tv_cmp ?_
    refine ev_name (i := 1) rfl ?_
    refine ev_str ?_
    refine ⟨_, od_eqs, fun _ => ?_, fun h => absurd rfl (of_decide_eq_false h)⟩
    have q := q _ _ (show sh.run x .log = .ok (tLog (sh.dds.take sh.spot), sh) from rfl)
    rw [Om.put_eq hO] at q
    refine ss_cons (s_set (i := 2) (ev_meth0 (f_Shop_log W) (hr.mono (by decide)) trivial xer0 (fld_dk W (ev_name (i := 0) rfl ⟨p, rfl, _, _, .inr ⟨p, rfl, hO⟩, by decide +kernel, p, sh, rfl, hO, g.sp, ?_⟩))) nd)
    have hds : ∀ d ∈ sh.dds.take sh.spot, DdOk d := fun d hd => g.dd d (List.mem_of_mem_take hd)
    have hdl : (sh.dds.take sh.spot).length ≤ 900 := by have := g.dl; rw [List.length_take]; omega
    generalize sh.dds.take sh.spot = dds at q hds hdl ⊢
    have okd : (D.lst (dds.map dD)).ok = true := by
      refine gd_ok ?_ ?_
      · rw [D.gd]
        refine gds_iff.mpr fun d hd => ?_
        obtain ⟨e, he, rfl⟩ := List.mem_map.mp hd
        have hk := (hds e he).k
        rw [D.gd]
        refine gds_iff.mpr fun d hd => ?_
        simp only [List.mem_cons, List.not_mem_nil, or_false] at hd hk
        rcases hd with rfl | rfl | rfl
        · rcases hk with h | h | h <;> (rw [h]; decide +kernel)
        · rfl
        · rfl
      · rw [D.dp]
        refine Nat.le_trans (Nat.succ_le_succ (dps_le.mpr fun d hd => ?_)) (show 1 + 1 ≤ 64 by decide)
        obtain ⟨e, he, rfl⟩ := List.mem_map.mp hd
        exact Nat.le_refl 1
    refine ss_cons (s_ret (ev_if (tv_cmp (ev_name (i := 2) rfl (ev_lst (av_nil ⟨by decide, ?_⟩))))))
    refine ⟨_, od_ne hr.u64 okd ok_nil, ?_⟩
    rw [eqv_nil]
    refine ⟨fun h => ?_, fun h => ?_⟩
    · have hne : dds ≠ [] := by rintro rfl; simp at h
      have e : tLog dds = Txt.join "; " (dds.map tDeed) := by unfold tLog; rw [if_neg hne]
      rw [e] at q
      refine ev_bm PySem.F.plainAttrs_str PySem.F.slot_str_join PySem.F.type_str_join (ev_str ⟨rfl, ?_⟩)
      refine av_cons (ev_lcm dD decD decD_e [("deed", 3)] nd ht (iv_val (ev_name (i := 2) rfl ⟨_, rfl, dds, fun d => some (.str (tDeed d)), rfl, by omega, ?_, ?_⟩)) (show BlkOk N_Desk_execute (defScope d_Desk_execute.st) _ _ from blkOk_by (by decide +kernel)))
      · rw [fm_some]
        rw [show (dds.map fun d => D.str (tDeed d)) = (dds.map tDeed).map D.str by rw [List.map_map]; rfl]
        refine av_nil (md_join ?_ q)
        have h1 := sum_le (as := dds) (f := fun c => (tDeed c).length) (n := 8000) fun c hc => by
          have h2 := len_sight (c := c.2) ⟨(hds c hc).n1.sm, (hds c hc).n2.sm⟩
          have h3 := kind_len (hds c hc).k
          have h4 : (Str.ofString " ").length = 1 := by decide +kernel
          show (c.1 ++ Str.ofString " " ++ tSight c.2).length ≤ _
          rw [Str.len_app, Str.len_app]; omega
        have h3 : (Str.ofString "; ").length = 2 := by decide +kernel
        rw [List.map_map, List.length_map, h3]
        show (dds.map fun c => (tDeed c).length).sum + _ ≤ _
        omega
      · intro s H C cl fp hh O3 sp c hc
        refine bd_name (i := 3) ?_ nd
        refine ev_call (f_show_deed W) (hr.mono (by decide)) trivial xer0 ?_
        refine av_cons (ev_name (i := 3) rfl ?_)
        refine av_nil ?_
        exact ⟨c, rfl, ⟨(hds c hc).n1.sm, (hds c hc).n2.sm⟩, kind_len (hds c hc).k, rfl, rfl⟩
    · have hne : dds = [] := by simpa using h
      refine ev_str (sq ?_ q)
      unfold tLog; rw [if_pos hne]
  | deed d =>
    have hd : DdOk d := hl
    have ej := deed_jn d
    have hsp : 32 ∈ tl (tDeed d) := by rw [ej]; exact sp_jn _ _ _
    obtain ⟨m1, m2, m3, m4⟩ := not_short hsp
    refine ⟨_, od_in_strs (ys := ["back", "again"]), fun h => absurd (of_decide_eq_true h) (by simp only [List.mem_cons, List.not_mem_nil, or_false]; exact fun z => z.elim m1 m2), fun _ => ss_nil ?_⟩
    refine ss_cons (s_if ?_)
    refine tv_cmp ?_
    refine ev_name (i := 1) rfl ?_
    refine ev_str ?_
    refine ⟨_, od_eqs, fun h => absurd (of_decide_eq_true h) m3, fun _ => ss_nil ?_⟩
    refine ss_cons (s_if ?_)
    refine tv_cmp ?_
    refine ev_name (i := 1) rfl ?_
    refine ev_str ?_
    refine ⟨_, od_eqs, fun h => absurd (of_decide_eq_true h) m4, fun _ => ss_nil ?_⟩
    refine ss_cons (s_try (cv := .ref (He.ga K "NoText")) rfl rfl ⟨rfl, by decide, .inl (W.glo "NoText" (by decide +kernel))⟩ (fun hd => L2H.passesAt_of rfl hd) (fun _ _ => False) (fun _ _ => False) xer0 (fun _ _ z => z.elim) (fun _ _ z => z.elim) fun F2 pn xe' xn _ _ => ?_)
    refine ss_cons (s_set (i := 3) (ev_callN (f_read_deed W) (hr.mono (by decide)) hm xn (av_cons (ev_name (i := 1) rfl (av_nil (.inl ⟨d.1, d.2, by rw [← ej]; rfl, hd.k, hd.p, hd.n1, hd.n2, ss_nil ?_⟩))))) nd)
    refine ss_cons (s_expr (ev_meth (f_Shop_do W) (hr.mono (by decide)) hm xe.nm (fld_dk W (ev_name (i := 0) rfl ⟨p, rfl, _, _, .inr ⟨p, rfl, hO⟩, by decide +kernel, av_cons (ev_name (i := 3) rfl (av_nil ⟨p, sh, x, d, rfl, hO, hat, g.ok.cur.ok, g.bl, g.bt, g.cl, g.l1, g.l2, hd.k, hd.p, g.sp, g.dl, g.sl, fun e he => ?_, fun h1 h2 => ?_, fun h1 h2 => ?_⟩))⟩))))
    · exact qe _ (by show sh.rDeed x d (late x d) = _; rw [he]; rfl)
    · exact ss_cons (s_ret (ev_str (q _ _ (by show sh.rDeed x d (late x d) = _; rw [h1]; show (if _ then _ else _) = _; rw [if_pos h2]))))
    · exact qe _ (by show sh.rDeed x d (late x d) = _; rw [h1]; show (if _ then _ else _) = _; rw [if_neg h2])
  | ask k =>
    obtain ⟨a, b, c, ew, hf⟩ := Qn.fr (q := k) hl
    have et : (Ln.ask k).txt = jn [a, b, c] := congrArg jn ew
    have hsp : 32 ∈ tl (jn [a, b, c]) := sp_jn _ _ _
    rw [et]
    obtain ⟨m1, m2, m3, m4⟩ := not_short hsp
    have hlen : (jn [a, b, c]).length ≤ 1000 := by
      have h := jn_len (ws := [a, b, c]) (n := 41) fun x hx => (hf x hx).2
      have : [a, b, c].length * (41 + 1) = 126 := rfl
      omega
    refine ⟨_, od_in_strs (ys := ["back", "again"]), fun h => absurd (of_decide_eq_true h) (by simp only [List.mem_cons, List.not_mem_nil, or_false]; exact fun z => z.elim m1 m2), fun _ => ss_nil ?_⟩
    refine ss_cons (s_if ?_)
    refine tv_cmp ?_
    refine ev_name (i := 1) rfl ?_
    refine ev_str ?_
    refine ⟨_, od_eqs, fun h => absurd (of_decide_eq_true h) m3, fun _ => ss_nil ?_⟩
    refine ss_cons (s_if ?_)
    refine tv_cmp ?_
    refine ev_name (i := 1) rfl ?_
    refine ev_str ?_
    refine ⟨_, od_eqs, fun h => absurd (of_decide_eq_true h) m4, fun _ => ss_nil ?_⟩
    refine ss_cons (s_try (cv := .ref (He.ga K "NoText")) rfl rfl ⟨rfl, by decide, .inl (W.glo "NoText" (by decide +kernel))⟩ (fun hd => L2H.passesAt_of rfl hd) (fun e O' => e = noText ∧ O' = O) (fun e O' => QE e O' ∧ ∃ n, e = noNumber n) (xe.nm.imp fun _ _ z => z.1) ?_ ?_ ?_)
    · rintro y O2 ⟨rfl, rfl⟩
      refine ⟨_, W.xt "NoText" (by decide), fun z => absurd z (by decide +kernel), fun _ a2 oe pn hh xr => ?_⟩
      refine ss_cons (s_ret (ev_meth (f_Desk_answer W) ((hr.mono (by decide)).mark _) hh xr (ev_name (i := 0) rfl ⟨_, _, .inl rfl, by decide +kernel, ?_⟩)))
      refine av_cons (ev_bm PySem.F.plainAttrs_str PySem.F.slot_str_split PySem.F.type_str_split (ev_name (i := 1) rfl ⟨rfl, av_cons (ev_str (av_nil (md_split (by decide +kernel) (by omega) ?_)))⟩))
      rw [split_jn (by simp) fun x hx => (hf x hx).1, ← ew]
      refine av_nil ⟨p, sh, x, k, rfl, hO, g.ok, hl, fun t ht => ?_, fun e he => ⟨qe _ ?_, Sh.ans_err he⟩⟩
      · have := q t sh (by show sh.rAsk (sh.ans x k) = _; rw [ht]; rfl)
        rw [Om.put_eq hO] at this
        exact this
      · show sh.rAsk (sh.ans x k) = _
        rw [he]; rfl
    · rintro y O2 ⟨_, n, rfl⟩
      exact (W.xt "NoNumber" (by decide)).trans (by decide +kernel)
    · intro F2 pn xe' xn _ _
      refine ss_cons (s_set (i := 3) (ev_callN (f_read_deed W) (hr.mono (by decide)) hm xn (av_cons (ev_name (i := 1) rfl (av_nil (.inr ⟨a, b, c, rfl, hf, rfl, rfl⟩))))) nd)
end
end K97
/-! # Walk XC: helpers of the law's side; the bag -/
namespace K97
open PySem PySem.Spec PyProof.Rows L2 TL
section
variable {X : Cx} {F0 : Hp} {r : Rho} {O : Om} {C : Co} {st : Stmt} {sts : List Stmt}
/-- two ways through a statement meet -/
theorem ss_mid (J : Rho → Om → Prop) (h1 : Sv X F0 st r O { C with nx := J }) (h2 : ∀ r1 O1, J r1 O1 → Ssv X F0 sts r1 O1 C) : Ssv X F0 (st :: sts) r O C := by
  refine ss_cons fun σ H F hx en => tSS_mono (h1 σ H F hx en) ⟨fun σ1 H1 ⟨r1, O1, F1, q, z⟩ => ⟨r1, O1, F1, h2 r1 O1 q, z⟩, fun _ _ q => q, fun _ _ q => q, fun _ _ q => q⟩
theorem od_eq_own {p : Addr} {ds : List D} {y : D} (hp : O p = some (.lst ds)) (hu : X.A.units + 64 < cLine) (px : (D.lst ds).ok = true) (py : y.ok = true) : OpD X (compareOp .Eq) O (.adr p) y (.bl (PyData.eqv (D.lst ds).pd y.pd)) := by
  intro F0 F H vx vy hx r1 r2
  obtain ⟨p1, p2⟩ := Bool.and_eq_true_iff.mp px
  obtain ⟨q1, q2⟩ := Bool.and_eq_true_iff.mp py
  obtain ⟨_, xs, h1, h2⟩ := hx.om p _ hp
  rw [rep_adr.mp r1]
  refine rf_of (op_eqD hu) ⟨(D.lst ds).pd, y.pd, ?_, dp_of q1 (r2.mono hx.fh), p2, q2, Po.here hx (rep_bl.mpr rfl)⟩
  rw [D.plain] at p1
  rw [D.pd]
  exact .lst (.inl (.inl h1)) (dps_of p1 (h2.mono hx.fh))
end
theorem atI_in {α : Type} {xs : List α} {i : Int} (h0 : 0 ≤ i) (h : i < xs.length) : ∃ d, atI xs i = some d ∧ d ∈ xs := by
  obtain ⟨n, rfl⟩ := Int.eq_ofNat_of_zero_le h0
  have hn : n < xs.length := by omega
  exact ⟨_, atI_nat (List.getElem?_eq_getElem hn), List.getElem_mem hn⟩
theorem xd_ints {X : Cx} {O : Om} {ns : List Int} {i : Int} (h0 : 0 ≤ i) (h : i < ns.length) : ∃ k ∈ ns, IxD X O (.lst (ns.map .int)) (.int i) (.int k) := by
  obtain ⟨n, rfl⟩ := Int.eq_ofNat_of_zero_le h0
  have hn : n < ns.length := by omega
  exact ⟨_, List.getElem_mem hn, xd_lst (atI_nat (getmap (List.getElem?_eq_getElem hn)))⟩
theorem Om.dropPut {O : Om} {p b : Addr} {o u : Ow} (h : O p = none) (hb : p ≠ b) : ((O.put p o).put b u).del p = O.put b u := by
  funext a
  show (if a = p then none else (if a = b then some u else (if a = p then some o else O a))) = (if a = b then some u else O a)
  by_cases e : a = p
  · subst e; rw [if_pos rfl, if_neg hb, h]
  · rw [if_neg e, if_neg e]
/-- the bag -/
def IsBag (o : Ow) : Prop := ∃ (x y : Int) (z : Nat) (cs : List Int), o = .lst [.int x, .int y, .int z, .lst (cs.map .int)]
/-- something drawn out of the bag -/
abbrev Drw (b : Addr) (O : Om) (P : D → Prop) (Q : D → Om → Prop) : Prop := ∃ ow, O b = some ow ∧ IsBag ow ∧ ∀ d ow', P d → IsBag ow' → Q d (O.put b ow')
section
variable {P : Program} {w : World} {K : PySem.W.Frag} {mg : Str → Option Value} {base : Heap}
theorem cut_len {α : Type} {xs : List α} {m : Nat} : (cutL xs none (some (m : Int))).length ≤ m := by
  unfold cutL
  have e1 : HT.sIx xs.length 0 none = 0 := rfl
  have e2 : HT.sIx xs.length xs.length (some (m : Int)) ≤ m := by
    unfold HT.sIx
    simp only [show ¬ ((m : Int) < 0) by omega, if_false]
    simp
    omega
  rw [e1, List.length_take]
  omega
def S__law_bag : SpD := fun ds O Q _ => ∃ ns : List Int, ds = [.scr ns] ∧ ∀ b ow, O b = none → IsBag ow → Q (.adr b) (O.put b ow)
theorem S__law_bag_len {ds O Q QE} (h : S__law_bag ds O Q QE) : ds.length = 1 := by obtain ⟨b, e, _⟩ := h; rw [e]; rfl
theorem f__law_bag (W : Wd P w K mg base) : Fg P w K mg base .cold 1 "_law_bag" S__law_bag := by
  refine W.fg 58 (d := d__law_bag) sc__law_bag rfl rfl (by decide +kernel) rfl (fun _ _ _ _ _ _ us hl => match us, hl with | [_], _ => rfl) (fun ds O Q QE h => S__law_bag_len h) ?_
  rintro cdv A outer s H E F0 ds O Q QE hm hr xe ⟨ns, rfl, q⟩
  have nd : N__law_bag.Nodup := by decide
  have ht : Heat (cxB P w K mg base N__law_bag d__law_bag.qual (defScope d__law_bag.st) (d__law_bag.pa.ad K) cdv A outer s H E) := .inl hm
  have hc := cut_len (xs := ns) (m := 63)
  refine ss_cons (s_ret (ev_lstO (av_cons (ev_int (av_cons (ev_int (av_cons (ev_int (av_cons ?_)))))))))
  refine ev_lcm D.int decI decI_e [("_law_cell", 1)] nd ht (iv_val (ev_slice (ev_name (i := 0) rfl (pv_none (pv_some (ev_int ⟨_, rfl, _, sd_scr, ?_⟩)))))) (show BlkOk N__law_bag (defScope d__law_bag.st) _ _ from blkOk_by (by decide +kernel))
  refine ⟨_, rfl, cutL ns none (some ((63 : Nat) : Int)), fun m => some (.int (if m < 0 then -m else m)), rfl, by omega, ?_, ?_⟩
  · rw [fm_some]
    refine av_nil ⟨by show 4 ≤ 100000; decide, fun p hp => q p _ hp ⟨0, 1234567891, 0, (cutL ns none (some ((63 : Nat) : Int))).map fun m => if m < 0 then -m else m, ?_⟩⟩
    rw [List.map_map]; rfl
  · intro s H C cl fp hh O2 sp m hm2
    exact bd_name (i := 1) (ev_blt (av_cons (ev_name (i := 1) rfl (av_nil (cl_abs ⟨rfl, rfl⟩)))) (W.fre _ (by decide +kernel)) boot_abs) nd
def S__law_take : SpD := fun ds O Q _ => ∃ (b : Addr) (m : Int), ds = [.adr b, .int m] ∧ 0 < m ∧ m < 1073741824 ∧ Drw b O (fun d => ∃ k, d = .int k ∧ 0 ≤ k ∧ k < m) Q
theorem S__law_take_len {ds O Q QE} (h : S__law_take ds O Q QE) : ds.length = 2 := by obtain ⟨b, m, e, _⟩ := h; rw [e]; rfl
theorem mod_in (i : Int) {m : Int} (h : 0 < m) : 0 ≤ i % m ∧ i % m < m := ⟨Int.emod_nonneg _ (by omega), Int.emod_lt_of_pos _ h⟩
theorem f__law_take (W : Wd P w K mg base) : Fg P w K mg base .any 1 "_law_take" S__law_take := by
  refine W.fg 59 (d := d__law_take) sc__law_take rfl rfl (by decide +kernel) rfl (fun _ _ _ _ _ _ us hl => match us, hl with | [_, _], _ => rfl) (fun ds O Q QE h => S__law_take_len h) ?_
  rintro cdv A outer s H E F0 ds O Q QE hm hr xe ⟨b, m, rfl, m0, m1, ow, hO, hb, q⟩
  have nd : N__law_take.Nodup := by decide
  have small : ∀ {i : Int}, 0 ≤ i → i < 1073741824 → -(2 ^ 64) < i ∧ i < 2 ^ 64 := fun h1 h2 => by constructor <;> omega
  obtain ⟨x, y, z, cs, rfl⟩ := hb
  have tail : ∀ (x y : Int) (z : Nat) (v2 v3 : Option D) (O2 : Om), O2 = O.put b (.lst [.int x, .int y, .int z, .lst (cs.map .int)]) →
      Ssv (cxB P w K mg base N__law_take d__law_take.qual (defScope d__law_take.st) (d__law_take.pa.ad K) cdv A outer s H E) F0 ((defBody d__law_take.st).drop 1) [some (.adr b), some (.int m), v2, v3, none, none, none] O2 { nx := fun _ O' => Q .non O', rt := Q } := by
    rintro x y z v2 v3 O2 rfl
    refine ss_cons (s_if ?_)
    refine tv_cmp ?_
    refine ev_ix ?_
    refine ev_name (i := 0) rfl ?_
    refine ev_int ?_
    refine ⟨_, xd_own Om.put_same (i := 0) rfl, ?_⟩
    refine ev_int ?_
    refine ⟨_, od_gt, fun h => ?_, fun h => ss_nil ?_⟩
    · refine ss_cons (s_set (i := 4) (ev_op (ev_typ (av_cons (ev_ix (ev_name (i := 0) rfl (ev_int ⟨_, xd_own Om.put_same (i := 0) rfl, av_nil (cl_int_int ?_)⟩)))) (W.fre _ (by decide +kernel)) boot_int)) nd)
      refine ev_name (i := 1) rfl ⟨_, od_mod m0, ?_⟩
      refine ss_cons (s_asg (ev_op (ev_ix (ev_name (i := 0) rfl (ev_int ⟨_, xd_own Om.put_same (i := 0) rfl, ev_name (i := 1) rfl ⟨_, od_div ⟨m0, m1⟩, ?_⟩⟩)))))
      refine gv_sub (ev_name (i := 0) rfl (ev_int ⟨b, _, 0, 0, rfl, rfl, Om.put_same, rfl, ?_⟩))
      refine ss_cons (s_ret (ev_name (i := 4) rfl ?_))
      rw [Om.put_put]
      exact q _ _ ⟨_, rfl, (mod_in x m0).1, (mod_in x m0).2⟩ ⟨x / m, y, z, cs, rfl⟩
    · refine ss_cons (s_set (i := 5) (ev_op (ev_typ (av_cons (ev_op (ev_op (ev_ix (ev_name (i := 0) rfl (ev_int ⟨_, xd_own Om.put_same (i := 1) rfl, ev_int ⟨_, od_add, ev_int ⟨_, od_mul (.inr (small (by decide) (by decide))), av_nil (cl_int_int ?_)⟩⟩⟩)))))) (W.fre _ (by decide +kernel)) boot_int)) nd)
      refine ev_int ⟨_, od_mod (by decide), ?_⟩
      generalize (y + 1) * 39373 = y1
      obtain ⟨a1, a2⟩ := mod_in y1 (m := 1000000007) (by decide)
      generalize y1 % 1000000007 = y2 at a1 a2
      refine ss_cons (s_set (i := 6) (ev_op (ev_typ (av_cons (ev_op (ev_op (ev_typ (av_cons (ev_op (ev_name (i := 5) rfl (ev_name (i := 5) rfl ⟨_, od_mul (.inr (small a1 (by omega))), av_nil (cl_int_int ?_)⟩)))) (W.fre _ (by decide +kernel)) boot_int)))) (W.fre _ (by decide +kernel)) boot_int)) nd)
      refine ev_int ⟨_, od_mod (by decide), ev_int ⟨_, od_mul (.inr (small (by decide) (by decide))), av_nil (cl_int_int ?_)⟩⟩
      refine ev_int ⟨_, od_mod (by decide), ?_⟩
      refine ss_cons (s_ret (ev_op (ev_typ (av_cons (ev_op (ev_name (i := 6) rfl (ev_int ⟨_, od_div ⟨by decide, by decide⟩, av_nil (cl_int_int ?_)⟩)))) (W.fre _ (by decide +kernel)) boot_int)))
      refine ev_name (i := 1) rfl ⟨_, od_mod m0, ?_⟩
      exact q _ _ ⟨_, rfl, (mod_in _ m0).1, (mod_in _ m0).2⟩ ⟨x, y, z, cs, rfl⟩
  refine ss_cons (s_if ?_)
  refine tv_cmp ?_
  refine ev_ix ?_
  refine ev_name (i := 0) rfl ?_
  refine ev_int ?_
  refine ⟨_, xd_own hO (i := 0) rfl, ?_⟩
  refine ev_int ?_
  refine ⟨_, od_eqi, fun h => ?_, fun h => ss_nil (tail x y z none none O (Om.put_eq hO).symm)⟩
  refine ss_cons (s_set (i := 2) (ev_int ?_) nd)
  refine ss_mid (fun r1 O1 => O1 = O ∧ ∃ c : Int, r1 = [some (.adr b), some (.int m), some (.int c), none, none, none, none]) ?_ ?_
  · refine s_if (tv_cmp (ev_ix (ev_name (i := 0) rfl (ev_int ⟨_, xd_own hO (i := 2) rfl, ?_⟩))))
    refine ev_blt ?_ (W.fre _ (by decide +kernel)) boot_len
    refine av_cons (ev_ix ?_)
    refine ev_name (i := 0) rfl ?_
    refine ev_int ?_
    refine ⟨_, xd_own hO (i := 3) rfl, ?_⟩
    refine av_nil ?_
    refine cl_len_lst ?_
    refine ⟨_, od_lt, fun h2 => ?_, fun h2 => ss_nil ⟨rfl, 0, rfl⟩⟩
    have hz : z < cs.length := by have := of_decide_eq_true h2; rw [List.length_map] at this; omega
    refine ss_cons (s_set (i := 2) (ev_ix (ev_ix (ev_name (i := 0) rfl (ev_int ⟨_, xd_own hO (i := 3) rfl, ?_⟩)))) nd)
    refine ev_ix (ev_name (i := 0) rfl (ev_int ⟨_, xd_own hO (i := 2) rfl, _, xd_lst (atI_nat (getmap (List.getElem?_eq_getElem hz))), ?_⟩))
    exact ss_nil ⟨rfl, _, rfl⟩
  rintro r1 O1 ⟨e1, c, rfl⟩
  rw [e1]
  refine ss_cons (s_augO (f := fun i j => i + j) ip_add (ev_name (i := 0) rfl (ev_int ⟨b, _, 2, z, rfl, rfl, hO, rfl, ev_int ⟨1, rfl, rfl, ?_⟩⟩)))
  refine ss_mid (fun r1 O1 => ∃ x2 : Int, O1 = O.put b (.lst [.int x2, .int y, .int ((z + 1 : Nat) : Int), .lst (cs.map .int)]) ∧ r1 = [some (.adr b), some (.int m), some (.int c), none, none, none, none]) ?_ ?_
  · refine s_if (tv_cmp (ev_name (i := 2) rfl (ev_int ⟨_, od_ge, fun h2 => ?_, fun h2 => ss_nil ⟨x, rfl, rfl⟩⟩)))
    refine ss_cons (s_asg (ev_name (i := 2) rfl ?_))
    refine gv_sub (ev_name (i := 0) rfl (ev_int ⟨b, _, 0, 0, rfl, rfl, Om.put_same, rfl, ?_⟩))
    refine ss_nil ⟨c, ?_, rfl⟩
    rw [Om.put_put]
    rfl
  rintro r1 O1 ⟨x2, rfl, rfl⟩
  refine ss_cons (s_set (i := 3) (ev_op (ev_op (ev_op (ev_ix (ev_name (i := 0) rfl (ev_int ⟨_, xd_own Om.put_same (i := 1) rfl, ev_int ⟨_, od_mul (.inr (small (by decide) (by decide))), ?_⟩⟩)))))) nd)
  refine ev_op (ev_typ (av_cons (ev_name (i := 2) rfl (av_nil (cl_int_int (ev_int ⟨_, od_mod (by decide), _, od_add, ?_⟩))))) (W.fre _ (by decide +kernel)) boot_int)
  refine ev_op (ev_int (ev_ix (ev_name (i := 0) rfl (ev_int ⟨_, xd_own Om.put_same (i := 2) rfl, _, od_mul (.inl (small (by decide) (by decide))), _, od_add, ?_⟩))))
  refine ss_cons (s_asg (ev_op (ev_typ (av_cons (ev_name (i := 3) rfl (av_nil (cl_int_int (ev_int ⟨_, od_mod (by decide), ?_⟩))))) (W.fre _ (by decide +kernel)) boot_int)))
  refine gv_sub (ev_name (i := 0) rfl (ev_int ⟨b, _, 1, 1, rfl, rfl, Om.put_same, rfl, ?_⟩))
  rw [Om.put_put]
  exact ss_nil (tail x2 _ (z + 1) _ _ _ rfl)
end
end K97
/-! # Walk XD: drawn things; texts of the law -/
namespace K97
open PySem PySem.Spec PyProof.Rows L2 TL
section
variable {P : Program} {w : World} {K : PySem.W.Frag} {mg : Str → Option Value} {base : Heap}
def S__law_one : SpD := fun ds O Q _ => ∃ (b : Addr) (ts : List D), ds = [.adr b, .lst ts] ∧ ts ≠ [] ∧ ts.length ≤ 1000 ∧ Drw b O (fun d => d ∈ ts) Q
theorem S__law_one_len {ds O Q QE} (h : S__law_one ds O Q QE) : ds.length = 2 := by obtain ⟨b, m, e, _⟩ := h; rw [e]; rfl
theorem f__law_one (W : Wd P w K mg base) : Fg P w K mg base .any 2 "_law_one" S__law_one := by
  refine W.fg 61 (d := d__law_one) sc__law_one rfl rfl (by decide +kernel) rfl (fun _ _ _ _ _ _ us hl => match us, hl with | [_, _], _ => rfl) (fun ds O Q QE h => S__law_one_len h) ?_
  rintro cdv A outer s H E F0 ds O Q QE hm hr xe ⟨b, ts, rfl, hne, hl, ow, hO, hb, q⟩
  have h0 : 0 < ts.length := List.length_pos_iff.mpr hne
  refine ss_cons (s_ret ?_)
  refine ev_ix ?_
  refine ev_name (i := 1) rfl ?_
  refine ev_call (f__law_take W) (hr.mono (by decide)) trivial xer0 ?_
  refine av_cons (ev_name (i := 0) rfl ?_)
  refine av_cons (ev_blt ?_ (W.fre _ (by decide +kernel)) boot_len)
  refine av_cons (ev_name (i := 1) rfl ?_)
  refine av_nil ?_
  refine cl_len_lst ?_
  refine av_nil ?_
  refine ⟨b, _, rfl, by omega, by omega, ow, hO, hb, ?_⟩
  rintro d ow' ⟨k, rfl, h1, h2⟩ hb'
  obtain ⟨d, e, hd⟩ := atI_in h1 h2
  exact ⟨d, xd_lst e, q _ _ hd hb'⟩
def S__law_gap_of : SpD := fun ds O Q _ => ∃ (b : Addr), ds = [.adr b] ∧ Drw b O (fun d => ∃ k : Int, d = .int k ∧ 1 ≤ k ∧ k ≤ 10 ^ 28 + 5) Q
theorem S__law_gap_of_len {ds O Q QE} (h : S__law_gap_of ds O Q QE) : ds.length = 1 := by obtain ⟨b, e, _⟩ := h; rw [e]; rfl
theorem f__law_gap_of (W : Wd P w K mg base) : Fg P w K mg base .any 2 "_law_gap_of" S__law_gap_of := by
  refine W.fg 62 (d := d__law_gap_of) sc__law_gap_of rfl rfl (by decide +kernel) rfl (fun _ _ _ _ _ _ us hl => match us, hl with | [_], _ => rfl) (fun ds O Q QE h => S__law_gap_of_len h) ?_
  rintro cdv A outer s H E F0 ds O Q QE hm hr xe ⟨b, rfl, ow, hO, hb, q⟩
  have nd : N__law_gap_of.Nodup := by decide
  refine ss_cons (s_set (i := 1) (ev_call (f__law_take W) (hr.mono (by decide)) trivial xer0 (av_cons (ev_name (i := 0) rfl (av_cons (ev_int (av_nil ⟨b, 8, rfl, by decide, by decide, ow, hO, hb, ?_⟩)))))) nd)
  rintro _ ow1 ⟨k, rfl, h1, h2⟩ hb1
  refine ss_cons (s_if ?_)
  refine tv_cmp ?_
  refine ev_name (i := 1) rfl ?_
  refine ev_int ?_
  refine ⟨_, od_lt, fun h => ?_, fun h => ss_nil ?_⟩
  · have h3 := of_decide_eq_true h
    obtain ⟨m, hm2, e⟩ := xd_ints (X := (cxB P w K mg base N__law_gap_of d__law_gap_of.qual (defScope d__law_gap_of.st) (d__law_gap_of.pa.ad K) cdv A outer s H E)) (O := O.put b ow1) (ns := [1, 2, 3, 5, 9, 30]) h1 (by show k < 6; exact h3)
    have hmb : 0 < m ∧ m ≤ 30 := by
      simp only [List.mem_cons, List.not_mem_nil, or_false] at hm2
      omega
    refine ss_cons (s_ret ?_)
    refine ev_op ?_
    refine ev_int ?_
    refine ev_call (f__law_take W) (hr.mono (by decide)) trivial xer0 ?_
    refine av_cons (ev_name (i := 0) rfl ?_)
    refine av_cons (ev_ix ?_)
    refine ev_lst ?_
    refine av_cons (ev_int ?_)
    refine av_cons (ev_int ?_)
    refine av_cons (ev_int ?_)
    refine av_cons (ev_int ?_)
    refine av_cons (ev_int ?_)
    refine av_cons (ev_int ?_)
    refine av_nil ?_
    refine ⟨by show 6 ≤ 100000; decide, ?_⟩
    refine ev_name (i := 1) rfl ?_
    refine ⟨_, e, ?_⟩
    refine av_nil ?_
    refine ⟨b, m, rfl, by omega, by omega, ow1, Om.put_same, hb1, ?_⟩
    rintro _ ow2 ⟨j, rfl, h4, h5⟩ hb2
    refine ⟨_, od_add, ?_⟩
    rw [Om.put_put]
    exact q _ _ ⟨_, rfl, by omega, by omega⟩ hb2
  · refine ss_cons (s_ret ?_)
    refine ev_op ?_
    refine ev_ix ?_
    refine ev_lst ?_
    have pw : ∀ {n : Int}, n ≤ 28 → 0 ≤ n → CPow 10 n := fun h h0 => ⟨h0, by omega, by decide +kernel⟩
    refine av_cons (ev_op ?_)
    refine ev_int ?_
    refine ev_int ?_
    refine ⟨_, od_pow (pw (by decide) (by decide)), ?_⟩
    refine av_cons (ev_op ?_)
    refine ev_int ?_
    refine ev_int ?_
    refine ⟨_, od_pow (pw (by decide) (by decide)), ?_⟩
    refine av_cons (ev_op ?_)
    refine ev_int ?_
    refine ev_int ?_
    refine ⟨_, od_pow (pw (by decide) (by decide)), ?_⟩
    refine av_cons (ev_op ?_)
    refine ev_int ?_
    refine ev_int ?_
    refine ⟨_, od_pow (pw (by decide) (by decide)), ?_⟩
    refine av_nil ?_
    refine ⟨by show 4 ≤ 100000; decide, ?_⟩
    refine ev_call (f__law_take W) (hr.mono (by decide)) trivial xer0 ?_
    refine av_cons (ev_name (i := 0) rfl ?_)
    refine av_cons (ev_int ?_)
    refine av_nil ?_
    refine ⟨b, 4, rfl, by decide, by decide, ow1, Om.put_same, hb1, ?_⟩
    rintro _ ow2 ⟨j, rfl, h4, h5⟩ hb2
    obtain ⟨m, hm2, e⟩ := xd_ints (X := (cxB P w K mg base N__law_gap_of d__law_gap_of.qual (defScope d__law_gap_of.st) (d__law_gap_of.pa.ad K) cdv A outer s H E)) (O := (O.put b ow1).put b ow2) (ns := [10 ^ (4 : Int).toNat, 10 ^ (9 : Int).toNat, 10 ^ (17 : Int).toNat, 10 ^ (28 : Int).toNat]) h4 (by show j < 4; exact h5)
    have hmb : 1 ≤ m ∧ m ≤ 10 ^ 28 := by
      simp only [List.mem_cons, List.not_mem_nil, or_false] at hm2
      rcases hm2 with rfl | rfl | rfl | rfl <;> decide +kernel
    refine ⟨_, e, ?_⟩
    refine ev_call (f__law_take W) (hr.mono (by decide)) trivial xer0 ?_
    refine av_cons (ev_name (i := 0) rfl ?_)
    refine av_cons (ev_int ?_)
    refine av_nil ?_
    refine ⟨b, 5, rfl, by decide, by decide, ow2, Om.put_same, hb2, ?_⟩
    rintro _ ow3 ⟨i, rfl, h6, h7⟩ hb3
    refine ⟨_, od_add, ?_⟩
    rw [Om.put_put, Om.put_put]
    exact q _ _ ⟨_, rfl, by omega, by omega⟩ hb3
def S__law_board : SpD := fun ds O Q _ => ∃ (b : Addr), ds = [.adr b] ∧ Drw b O (fun d => ∃ c : Int × Int, d = pD c ∧ BdOk c ∧ c.2 ≤ 10 ^ 29) Q
theorem S__law_board_len {ds O Q QE} (h : S__law_board ds O Q QE) : ds.length = 1 := by obtain ⟨b, e, _⟩ := h; rw [e]; rfl
theorem f__law_board (W : Wd P w K mg base) : Fg P w K mg base .any 4 "_law_board" S__law_board := by
  refine W.fg 63 (d := d__law_board) sc__law_board rfl rfl (by decide +kernel) rfl (fun _ _ _ _ _ _ us hl => match us, hl with | [_], _ => rfl) (fun ds O Q QE h => S__law_board_len h) ?_
  rintro cdv A outer s H E F0 ds O Q QE hm hr xe ⟨b, rfl, ow, hO, hb, q⟩
  have nd : N__law_board.Nodup := by decide
  have big : (10 : Int) ^ 29 = 10 * 10 ^ 28 := by decide +kernel
  have big2 : (1000 : Int) ≤ 10 ^ 28 := by decide +kernel
  refine ss_cons (s_set (i := 1) (ev_call (f__law_take W) (hr.mono (by decide)) trivial xer0 (av_cons (ev_name (i := 0) rfl (av_cons (ev_int (av_nil ⟨b, 5, rfl, by decide, by decide, ow, hO, hb, ?_⟩)))))) nd)
  rintro _ ow1 ⟨k, rfl, h1, h2⟩ hb1
  refine ss_cons (s_if ?_)
  refine tv_cmp ?_
  refine ev_name (i := 1) rfl ?_
  refine ev_int ?_
  refine ⟨_, od_eqi, fun h => ?_, fun h => ss_nil ?_⟩
  · refine ss_cons (s_ret ?_)
    refine ev_tup ?_
    refine av_cons (ev_int ?_)
    refine av_cons (ev_int ?_)
    refine av_nil ?_
    refine ⟨by show 2 ≤ 100000; decide, ?_⟩
    exact q _ _ ⟨(0, 0), rfl, ⟨by decide, by decide, by decide⟩, by show (0 : Int) ≤ _; omega⟩ hb1
  have hk := of_decide_eq_false h
  refine ss_cons (s_set (i := 2) (ev_call (f__law_take W) (hr.mono (by decide)) trivial xer0 (av_cons (ev_name (i := 0) rfl (av_cons (ev_int (av_nil ⟨b, 4, rfl, by decide, by decide, ow1, Om.put_same, hb1, ?_⟩)))))) nd)
  rintro _ ow2 ⟨l, rfl, h3, h4⟩ hb2
  rw [Om.put_put]
  refine ss_cons (s_if ?_)
  refine tv_cmp ?_
  refine ev_name (i := 1) rfl ?_
  refine ev_int ?_
  refine ⟨_, od_lt, fun h => ?_, fun h => ss_nil ?_⟩
  · have h5 := of_decide_eq_true h
    obtain ⟨m, hm2, e⟩ := xd_ints (X := (cxB P w K mg base N__law_board d__law_board.qual (defScope d__law_board.st) (d__law_board.pa.ad K) cdv A outer s H E)) (O := O.put b ow2) (ns := [1, 3, 12]) (i := k - 1) (by omega) (by show k - 1 < 3; omega)
    have hmb : 0 < m ∧ m ≤ 12 := by
      simp only [List.mem_cons, List.not_mem_nil, or_false] at hm2
      omega
    refine ss_cons (s_ret ?_)
    refine ev_tup ?_
    refine av_cons (ev_name (i := 2) rfl ?_)
    refine av_cons (ev_op ?_)
    refine ev_name (i := 2) rfl ?_
    refine ev_call (f__law_take W) (hr.mono (by decide)) trivial xer0 ?_
    refine av_cons (ev_name (i := 0) rfl ?_)
    refine av_cons (ev_ix ?_)
    refine ev_lst ?_
    refine av_cons (ev_int ?_)
    refine av_cons (ev_int ?_)
    refine av_cons (ev_int ?_)
    refine av_nil ?_
    refine ⟨by show 3 ≤ 100000; decide, ?_⟩
    refine ev_op ?_
    refine ev_name (i := 1) rfl ?_
    refine ev_int ?_
    refine ⟨_, od_sub, ?_⟩
    refine ⟨_, e, ?_⟩
    refine av_nil ?_
    refine ⟨b, m, rfl, by omega, by omega, ow2, Om.put_same, hb2, ?_⟩
    rintro _ ow3 ⟨j, rfl, h6, h7⟩ hb3
    refine ⟨_, od_add, av_nil ⟨by show 2 ≤ 100000; decide, ?_⟩⟩
    rw [Om.put_put]
    exact q _ _ ⟨(l, l + j), rfl, ⟨h3, by show 0 ≤ l + j; omega, by show l ≤ l + j; omega⟩, by show l + j ≤ _; omega⟩ hb3
  · refine ss_cons (s_set (i := 2) ?_ nd)
    refine ev_call (f__law_one W) (hr.mono (by decide)) trivial xer0 ?_
    refine av_cons (ev_name (i := 0) rfl ?_)
    refine av_cons (ev_lst ?_)
    refine av_cons (ev_name (i := 2) rfl ?_)
    refine av_cons (ev_name (i := 2) rfl ?_)
    refine av_cons (ev_call (f__law_gap_of W) (hr.mono (by decide)) trivial xer0 ?_)
    refine av_cons (ev_name (i := 0) rfl ?_)
    refine av_nil ?_
    refine ⟨b, rfl, ow2, Om.put_same, hb2, ?_⟩
    rintro _ ow3 ⟨g, rfl, h6, h7⟩ hb3
    rw [Om.put_put]
    refine av_nil ⟨by show 3 ≤ 100000; decide, av_nil ⟨b, _, rfl, by simp, by show 3 ≤ 1000; decide, ow3, Om.put_same, hb3, ?_⟩⟩
    intro d ow4 hd hb4
    rw [Om.put_put]
    obtain ⟨l2, rfl, h8, h9⟩ : ∃ l2 : Int, d = .int l2 ∧ 0 ≤ l2 ∧ l2 ≤ 10 ^ 28 + 5 := by
      simp only [List.mem_cons, List.not_mem_nil, or_false] at hd
      rcases hd with rfl | rfl | rfl
      · exact ⟨l, rfl, h3, by omega⟩
      · exact ⟨l, rfl, h3, by omega⟩
      · exact ⟨g, rfl, by omega, h7⟩
    refine ss_cons (s_ret ?_)
    refine ev_tup ?_
    refine av_cons (ev_name (i := 2) rfl ?_)
    refine av_cons (ev_op ?_)
    refine ev_name (i := 2) rfl ?_
    refine ev_call (f__law_gap_of W) (hr.mono (by decide)) trivial xer0 ?_
    refine av_cons (ev_name (i := 0) rfl ?_)
    refine av_nil ?_
    refine ⟨b, rfl, ow4, Om.put_same, hb4, ?_⟩
    rintro _ ow5 ⟨j, rfl, h10, h11⟩ hb5
    refine ⟨_, od_add, av_nil ⟨by show 2 ≤ 100000; decide, ?_⟩⟩
    rw [Om.put_put]
    exact q _ _ ⟨(l2, l2 + j), rfl, ⟨h8, by show 0 ≤ l2 + j; omega, by show l2 ≤ l2 + j; omega⟩, by show l2 + j ≤ _; omega⟩ hb5
def S__law_shop_price : SpD := fun ds O Q _ => ∃ (b : Addr), ds = [.adr b] ∧ Drw b O (fun d => ∃ k : Int, d = .int k ∧ 0 ≤ k ∧ k ≤ 10 ^ 30) Q
theorem S__law_shop_price_len {ds O Q QE} (h : S__law_shop_price ds O Q QE) : ds.length = 1 := by obtain ⟨b, e, _⟩ := h; rw [e]; rfl
theorem f__law_shop_price (W : Wd P w K mg base) : Fg P w K mg base .any 2 "_law_shop_price" S__law_shop_price := by
  refine W.fg 71 (d := d__law_shop_price) sc__law_shop_price rfl rfl (by decide +kernel) rfl (fun _ _ _ _ _ _ us hl => match us, hl with | [_], _ => rfl) (fun ds O Q QE h => S__law_shop_price_len h) ?_
  rintro cdv A outer s H E F0 ds O Q QE hm hr xe ⟨b, rfl, ow, hO, hb, q⟩
  have big : (10 : Int) ^ 30 = 10 * 10 ^ 29 := by decide +kernel
  have big2 : (1000 : Int) ≤ 10 ^ 29 := by decide +kernel
  have e29 : (10 : Int) ^ (29 : Int).toNat = 10 ^ 29 := rfl
  refine ss_cons (s_ret ?_)
  refine ev_ix ?_
  refine ev_lst ?_
  refine av_cons (ev_call (f__law_take W) (hr.mono (by decide)) trivial xer0 ?_)
  refine av_cons (ev_name (i := 0) rfl ?_)
  refine av_cons (ev_int ?_)
  refine av_nil ?_
  refine ⟨b, 4, rfl, by decide, by decide, ow, hO, hb, ?_⟩
  rintro _ ow1 ⟨k, rfl, h1, h2⟩ hb1
  refine av_cons (ev_op ?_)
  refine ev_op ?_
  refine ev_int ?_
  refine ev_int ?_
  refine ⟨_, od_pow ⟨by decide, by decide, by decide +kernel⟩, ?_⟩
  refine ev_call (f__law_take W) (hr.mono (by decide)) trivial xer0 ?_
  refine av_cons (ev_name (i := 0) rfl ?_)
  refine av_cons (ev_int ?_)
  refine av_nil ?_
  refine ⟨b, 3, rfl, by decide, by decide, ow1, Om.put_same, hb1, ?_⟩
  rintro _ ow2 ⟨j, rfl, h3, h4⟩ hb2
  refine ⟨_, od_add, ?_⟩
  refine av_nil ?_
  refine ⟨by show 2 ≤ 100000; decide, ?_⟩
  refine ev_typ ?_ (W.fre _ (by decide +kernel)) boot_int
  refine av_cons (ev_cmp ?_)
  refine ev_call (f__law_take W) (hr.mono (by decide)) trivial xer0 ?_
  refine av_cons (ev_name (i := 0) rfl ?_)
  refine av_cons (ev_int ?_)
  refine av_nil ?_
  refine ⟨b, 5, rfl, by decide, by decide, ow2, Om.put_same, hb2, ?_⟩
  rintro _ ow3 ⟨i, rfl, h5, h6⟩ hb3
  refine ev_int ?_
  refine ⟨_, od_eqi, ?_⟩
  refine av_nil ?_
  refine cl_int_bl ?_
  rw [Om.put_put, Om.put_put]
  rw [e29]
  cases decide (i = 0) with
  | true => exact ⟨_, xd_lst (d := .int (10 ^ 29 + j)) rfl, q _ _ ⟨_, rfl, by omega, by omega⟩ hb3⟩
  | false => exact ⟨_, xd_lst (d := .int k) rfl, q _ _ ⟨_, rfl, by omega, by omega⟩ hb3⟩
end
end K97
/-! # Walk XE: the empty shop; texts -/
namespace K97
open PySem PySem.Spec PyProof.Rows L2 TL
section
variable {P : Program} {w : World} {K : PySem.W.Frag} {mg : Str → Option Value} {base : Heap}
abbrev lsD (f : Int) (bl bt : Int × Int) (x : Ss) : D := .tup [.int f, bdsD bl bt, .lst (x.ch.map pD), seenD x]
abbrev ss0 : Ss := ⟨[], [], []⟩
def S__law_empty : SpD := fun ds O Q _ => ∃ (b : Addr), ds = [.adr b] ∧ Drw b O (fun d => ∃ (f : Int) (bl bt : Int × Int), d = lsD f bl bt ss0 ∧ 0 ≤ f ∧ f ≤ 10 ^ 30 ∧ BdOk bl ∧ BdOk bt ∧ bl.2 ≤ 10 ^ 29 ∧ bt.2 ≤ 10 ^ 29) Q
theorem S__law_empty_len {ds O Q QE} (h : S__law_empty ds O Q QE) : ds.length = 1 := by obtain ⟨b, e, _⟩ := h; rw [e]; rfl
theorem f__law_empty (W : Wd P w K mg base) : Fg P w K mg base .any 5 "_law_empty" S__law_empty := by
  refine W.fg 72 (d := d__law_empty) sc__law_empty rfl rfl (by decide +kernel) rfl (fun _ _ _ _ _ _ us hl => match us, hl with | [_], _ => rfl) (fun ds O Q QE h => S__law_empty_len h) ?_
  rintro cdv A outer s H E F0 ds O Q QE hm hr xe ⟨b, rfl, ow, hO, hb, q⟩
  have nd : N__law_empty.Nodup := by decide
  refine ss_cons (s_set (i := 1) (ev_dict2 ne_lt fun a ha => ?_) nd)
  have hab : b ≠ a := by rintro rfl; rw [hO] at ha; cases ha
  refine ev_call (f__law_board W) (hr.mono (by decide)) trivial xer0 ?_
  refine av_cons (ev_name (i := 0) rfl ?_)
  refine av_nil ?_
  refine ⟨b, rfl, ow, by rw [Om.put_ne hab]; exact hO, hb, ?_⟩
  rintro _ ow1 ⟨bl, rfl, k1, k2⟩ hb1
  refine ev_call (f__law_board W) (hr.mono (by decide)) trivial xer0 ?_
  refine av_cons (ev_name (i := 0) rfl ?_)
  refine av_nil ?_
  refine ⟨b, rfl, ow1, Om.put_same, hb1, ?_⟩
  rintro _ ow2 ⟨bt, rfl, k3, k4⟩ hb2
  rw [Om.put_put]
  refine ⟨by rw [Om.put_ne (Ne.symm hab), Om.put_same], ?_⟩
  rw [Om.dropPut ha (Ne.symm hab)]
  refine ss_cons (s_ret ?_)
  refine ev_tup ?_
  refine av_cons (ev_call (f__law_shop_price W) (hr.mono (by decide)) trivial xer0 ?_)
  refine av_cons (ev_name (i := 0) rfl ?_)
  refine av_nil ?_
  refine ⟨b, rfl, ow2, Om.put_same, hb2, ?_⟩
  rintro _ ow3 ⟨f, rfl, h1, h2⟩ hb3
  rw [Om.put_put]
  refine av_cons (ev_name (i := 1) rfl ?_)
  refine av_cons ?_
  refine ev_lst ?_
  refine av_nil ?_
  refine ⟨by decide, ?_⟩
  refine av_cons ?_
  refine ev_dict2 ne_lt fun a2 ha2 => ?_
  refine ev_lst ?_
  refine av_nil ?_
  refine ⟨by decide, ?_⟩
  refine ev_lst ?_
  refine av_nil ?_
  refine ⟨by decide, Om.put_same, ?_⟩
  rw [Om.put_del ha2]
  exact av_nil ⟨by show 4 ≤ 100000; decide, q _ _ ⟨f, bl, bt, rfl, h1, h2, k1, k3, k2, k4⟩ hb3⟩
end
end K97
/-! # Walk XF: texts of the law -/
namespace K97
open PySem PySem.Spec PyProof.Rows L2 TL
theorem abs_pos {i : Int} (h : ¬ i < 0) : (if i < 0 then -i else i) = i := if_neg h
theorem abs_neg {i : Int} (h : i < 0) : (if i < 0 then -i else i) = -i := if_pos h
theorem sm_neg {i : Int} (h : Sm i) : Sm (-i) := by unfold Sm at h ⊢; rw [Int.natAbs_neg]; exact h
theorem empty_app (x : Str) : Str.ofString "" ++ x = x := by
  apply ext_tl
  rw [tl_append]
  rfl
theorem join2 (s a b : Str) : Txt.join s [a, b] = a ++ s ++ b := by
  apply ext_tl
  rw [join_eq, tl_join, tl_append, tl_append]
  simp [joinL]
section
variable {P : Program} {w : World} {K : PySem.W.Frag} {mg : Str → Option Value} {base : Heap}
def S__law_number_text : SpD := fun ds O Q _ => ∃ (i : Int), ds = [.int i] ∧ Sm i ∧ Q (.str (iS i)) O
theorem S__law_number_text_len {ds O Q QE} (h : S__law_number_text ds O Q QE) : ds.length = 1 := by obtain ⟨b, e, _⟩ := h; rw [e]; rfl
theorem f__law_number_text (W : Wd P w K mg base) : Fg P w K mg base .any 1 "_law_number_text" S__law_number_text := by
  refine W.fg 80 (d := d__law_number_text) sc__law_number_text rfl rfl (by decide +kernel) rfl (fun _ _ _ _ _ _ us hl => match us, hl with | [_], _ => rfl) (fun ds O Q QE h => S__law_number_text_len h) ?_
  rintro cdv A outer s H E F0 ds O Q QE hm hr xe ⟨i, rfl, sm, q⟩
  have f1 : (iS i).length ≤ 1921 := sm.fit
  have f2 : (iS (-i)).length ≤ 1921 := (sm_neg sm).fit
  have e1 : (Str.ofString "-").length = 1 := by decide +kernel
  have e2 : (Str.ofString "").length = 0 := by decide +kernel
  refine ss_cons (s_ret ?_)
  refine ev_op ?_
  refine ev_if ?_
  refine tv_cmp ?_
  refine ev_name (i := 0) rfl ?_
  refine ev_int ?_
  refine ⟨_, od_lt, fun h => ?_, fun h => ?_⟩
  · have h := of_decide_eq_true h
    refine ev_str ?_
    refine ev_typ ?_ (W.fre _ (by decide +kernel)) boot_str
    refine av_cons ?_
    refine ev_blt ?_ (W.fre _ (by decide +kernel)) boot_abs
    refine av_cons ?_
    refine ev_name (i := 0) rfl ?_
    refine av_nil ?_
    refine cl_abs ?_
    refine av_nil ?_
    rw [abs_neg h]
    refine cl_str_int (sm_neg sm).log ⟨_, od_adds ?_, ?_⟩
    · show (Str.ofString "-").length + (iS (-i)).length ≤ _; omega
    · exact sq (iS_neg h) q
  · have h := of_decide_eq_false h
    refine ev_str ?_
    refine ev_typ ?_ (W.fre _ (by decide +kernel)) boot_str
    refine av_cons ?_
    refine ev_blt ?_ (W.fre _ (by decide +kernel)) boot_abs
    refine av_cons ?_
    refine ev_name (i := 0) rfl ?_
    refine av_nil ?_
    refine cl_abs ?_
    refine av_nil ?_
    rw [abs_pos h]
    refine cl_str_int sm.log ⟨_, od_adds ?_, ?_⟩
    · show (Str.ofString "").length + (iS i).length ≤ _; omega
    · exact sq (empty_app (iS i)).symm q
def S__law_sighting_text : SpD := fun ds O Q _ => ∃ c, ds = [pD c] ∧ SmP c ∧ Q (.str (tSight c)) O
theorem S__law_sighting_text_len {ds O Q QE} (h : S__law_sighting_text ds O Q QE) : ds.length = 1 := by obtain ⟨b, e, _⟩ := h; rw [e]; rfl
theorem f__law_sighting_text (W : Wd P w K mg base) : Fg P w K mg base .any 2 "_law_sighting_text" S__law_sighting_text := by
  refine W.fg 81 (d := d__law_sighting_text) sc__law_sighting_text rfl rfl (by decide +kernel) rfl (fun _ _ _ _ _ _ us hl => match us, hl with | [_], _ => rfl) (fun ds O Q QE h => S__law_sighting_text_len h) ?_
  rintro cdv A outer s H E F0 ds O Q QE hm hr xe ⟨c, rfl, ⟨s1, s2⟩, q⟩
  have f1 : (iS c.1).length ≤ 1921 := s1.fit
  have f2 : (iS c.2).length ≤ 1921 := s2.fit
  have e1 : (Str.ofString " at ").length = 4 := by decide +kernel
  refine ss_cons (s_ret ?_)
  refine ev_op ?_
  refine ev_op ?_
  refine ev_call (f__law_number_text W) (hr.mono (by decide)) trivial xer0 ?_
  refine av_cons ?_
  refine ev_ix ?_
  refine ev_name (i := 0) rfl ?_
  refine ev_int ?_
  refine ⟨_, xd_tup (d := .int c.2) rfl, ?_⟩
  refine av_nil ?_
  refine ⟨c.2, rfl, s2, ?_⟩
  refine ev_str ?_
  refine ⟨_, od_adds (by omega), ?_⟩
  refine ev_call (f__law_number_text W) (hr.mono (by decide)) trivial xer0 ?_
  refine av_cons ?_
  refine ev_ix ?_
  refine ev_name (i := 0) rfl ?_
  refine ev_int ?_
  refine ⟨_, xd_tup (d := .int c.1) rfl, ?_⟩
  refine av_nil ?_
  refine ⟨c.1, rfl, s1, ?_⟩
  exact ⟨_, od_adds (by rw [Str.len_app]; omega), q⟩
def S__law_board_text : SpD := fun ds O Q _ => ∃ c, ds = [pD c] ∧ SmP c ∧ Q (.str (tBoard c)) O
theorem S__law_board_text_len {ds O Q QE} (h : S__law_board_text ds O Q QE) : ds.length = 1 := by obtain ⟨b, e, _⟩ := h; rw [e]; rfl
theorem f__law_board_text (W : Wd P w K mg base) : Fg P w K mg base .any 2 "_law_board_text" S__law_board_text := by
  refine W.fg 84 (d := d__law_board_text) sc__law_board_text rfl rfl (by decide +kernel) rfl (fun _ _ _ _ _ _ us hl => match us, hl with | [_], _ => rfl) (fun ds O Q QE h => S__law_board_text_len h) ?_
  rintro cdv A outer s H E F0 ds O Q QE hm hr xe ⟨c, rfl, ⟨s1, s2⟩, q⟩
  have f1 : (iS c.1).length ≤ 1921 := s1.fit
  have f2 : (iS c.2).length ≤ 1921 := s2.fit
  have e1 : (Str.ofString " to ").length = 4 := by decide +kernel
  refine ss_cons (s_ret ?_)
  refine ev_op ?_
  refine ev_op ?_
  refine ev_call (f__law_number_text W) (hr.mono (by decide)) trivial xer0 ?_
  refine av_cons ?_
  refine ev_ix ?_
  refine ev_name (i := 0) rfl ?_
  refine ev_int ?_
  refine ⟨_, xd_tup (d := .int c.1) rfl, ?_⟩
  refine av_nil ?_
  refine ⟨c.1, rfl, s1, ?_⟩
  refine ev_str ?_
  refine ⟨_, od_adds (by omega), ?_⟩
  refine ev_call (f__law_number_text W) (hr.mono (by decide)) trivial xer0 ?_
  refine av_cons ?_
  refine ev_ix ?_
  refine ev_name (i := 0) rfl ?_
  refine ev_int ?_
  refine ⟨_, xd_tup (d := .int c.2) rfl, ?_⟩
  refine av_nil ?_
  refine ⟨c.2, rfl, s2, ?_⟩
  exact ⟨_, od_adds (by rw [Str.len_app]; omega), q⟩
def S__law_deed_text : SpD := fun ds O Q _ => ∃ c, ds = [dD c] ∧ SmP c.2 ∧ c.1.length ≤ 1000 ∧ Q (.str (tDeed c)) O
theorem S__law_deed_text_len {ds O Q QE} (h : S__law_deed_text ds O Q QE) : ds.length = 1 := by obtain ⟨b, e, _⟩ := h; rw [e]; rfl
theorem f__law_deed_text (W : Wd P w K mg base) : Fg P w K mg base .any 3 "_law_deed_text" S__law_deed_text := by
  refine W.fg 85 (d := d__law_deed_text) sc__law_deed_text rfl rfl (by decide +kernel) rfl (fun _ _ _ _ _ _ us hl => match us, hl with | [_], _ => rfl) (fun ds O Q QE h => S__law_deed_text_len h) ?_
  rintro cdv A outer s H E F0 ds O Q QE hm hr xe ⟨c, rfl, sm, hw, q⟩
  have f1 := len_sight sm
  have f2 : (Str.ofString " ").length = 1 := by decide +kernel
  refine ss_cons (s_ret ?_)
  refine ev_op ?_
  refine ev_op ?_
  refine ev_ix ?_
  refine ev_name (i := 0) rfl ?_
  refine ev_int ?_
  refine ⟨_, xd_tup (d := .str c.1) rfl, ?_⟩
  refine ev_str ?_
  refine ⟨_, od_adds (by omega), ?_⟩
  refine ev_call (f__law_sighting_text W) (hr.mono (by decide)) trivial xer0 ?_
  refine av_cons ?_
  refine ev_tup ?_
  refine av_cons ?_
  refine ev_ix ?_
  refine ev_name (i := 0) rfl ?_
  refine ev_int ?_
  refine ⟨_, xd_tup (d := .int c.2.1) rfl, ?_⟩
  refine av_cons ?_
  refine ev_ix ?_
  refine ev_name (i := 0) rfl ?_
  refine ev_int ?_
  refine ⟨_, xd_tup (d := .int c.2.2) rfl, ?_⟩
  refine av_nil ?_
  refine ⟨by show 2 ≤ 100000; decide, ?_⟩
  refine av_nil ?_
  refine ⟨c.2, rfl, sm, ?_⟩
  exact ⟨_, od_adds (by rw [Str.len_app]; omega), q⟩
def S__law_book_text : SpD := fun ds O Q _ => ∃ f ch, ds = [.tup [.int f, .lst (ch.map pD)]] ∧ Sm f ∧ (∀ c ∈ ch, SmP c) ∧ ch.length ≤ 60 ∧ Q (.str (tBook f ch)) O
theorem S__law_book_text_len {ds O Q QE} (h : S__law_book_text ds O Q QE) : ds.length = 1 := by obtain ⟨b, c, e, _⟩ := h; rw [e]; rfl
theorem f__law_book_text (W : Wd P w K mg base) : Fg P w K mg base .cold 3 "_law_book_text" S__law_book_text := by
  refine W.fg 82 (d := d__law_book_text) sc__law_book_text rfl rfl (by decide +kernel) rfl (fun _ _ _ _ _ _ us hl => match us, hl with | [_], _ => rfl) (fun ds O Q QE h => S__law_book_text_len h) ?_
  rintro cdv A outer s H E F0 ds O Q QE hm hr xe ⟨f, ch, rfl, sf, sc, hl, q⟩
  have nd : N__law_book_text.Nodup := by decide
  have ht : Heat (cxB P w K mg base N__law_book_text d__law_book_text.qual (defScope d__law_book_text.st) (d__law_book_text.pa.ad K) cdv A outer s H E) := .inl hm
  refine ss_cons (s_ret ?_)
  refine ev_bm PySem.F.plainAttrs_str PySem.F.slot_str_join PySem.F.type_str_join (ev_str ⟨rfl, ?_⟩)
  refine av_cons ?_
  refine ev_op ?_
  refine ev_lst ?_
  refine av_cons ?_
  refine ev_call (f__law_number_text W) (hr.mono (by decide)) trivial xer0 ?_
  refine av_cons ?_
  refine ev_ix ?_
  refine ev_name (i := 0) rfl ?_
  refine ev_int ?_
  refine ⟨_, xd_tup (d := .int f) rfl, ?_⟩
  refine av_nil ?_
  refine ⟨f, rfl, sf, ?_⟩
  refine av_nil ?_
  refine ⟨by show 1 ≤ 100000; decide, ?_⟩
  refine ev_lcm pD decP decP_e [("_law_change", 1)] nd ht (iv_val ?_) (show BlkOk N__law_book_text (defScope d__law_book_text.st) _ _ from blkOk_by (by decide +kernel))
  refine ev_ix ?_
  refine ev_name (i := 0) rfl ?_
  refine ev_int ?_
  refine ⟨_, xd_tup (d := .lst (ch.map pD)) rfl, ?_⟩
  refine ⟨_, rfl, ch, fun c => some (.str (tSight c)), rfl, by omega, ?_, ?_⟩
  · rw [fm_some]
    refine ⟨_, od_cat (by rw [List.length_map]; simp; omega), ?_⟩
    rw [show ([D.str (iS f)] ++ ch.map fun c => D.str (tSight c)) = (iS f :: ch.map tSight).map D.str by rw [List.map_cons, List.map_map]; rfl]
    refine av_nil (md_join ?_ q)
    have h1 := sum_le (as := ch) (f := fun c => (tSight c).length) (n := 3846) fun c hc => len_sight (sc c hc)
    have h2 := sf.fit
    have h3 : (Str.ofString "; ").length = 2 := by decide +kernel
    rw [List.map_cons, List.sum_cons, List.map_map, List.length_cons, List.length_map, h3]
    show (iS f).length + (ch.map fun c => (tSight c).length).sum + _ ≤ _
    omega
  · intro s H C cl fp hh O3 sp c hc
    refine bd_name (i := 1) ?_ nd
    refine ev_call (f__law_sighting_text W) (hr.mono (by decide)) trivial xer0 ?_
    refine av_cons ?_
    refine ev_name (i := 1) rfl ?_
    refine av_nil ?_
    exact ⟨c, rfl, sc c hc, rfl, rfl⟩
def S__law_moments_text : SpD := fun ds O Q _ => ∃ ms : List Int, ds = [.lst (ms.map .int)] ∧ (∀ m ∈ ms, Sm m) ∧ ms.length ≤ 1000 ∧ Q (.str (tMoments ms)) O
theorem S__law_moments_text_len {ds O Q QE} (h : S__law_moments_text ds O Q QE) : ds.length = 1 := by obtain ⟨i, e, _⟩ := h; rw [e]; rfl
theorem f__law_moments_text (W : Wd P w K mg base) : Fg P w K mg base .cold 2 "_law_moments_text" S__law_moments_text := by
  refine W.fg 83 (d := d__law_moments_text) sc__law_moments_text rfl rfl (by decide +kernel) rfl (fun _ _ _ _ _ _ us hl => match us, hl with | [_], _ => rfl) (fun ds O Q QE h => S__law_moments_text_len h) ?_
  rintro cdv A outer s H E F0 ds O Q QE hm hr xe ⟨ms, rfl, hs, hl, q⟩
  have nd : N__law_moments_text.Nodup := by decide
  have ht : Heat (cxB P w K mg base N__law_moments_text d__law_moments_text.qual (defScope d__law_moments_text.st) (d__law_moments_text.pa.ad K) cdv A outer s H E) := .inl hm
  refine ss_cons (s_ret ?_)
  refine ev_if ?_
  refine tv_cmp ?_
  refine ev_name (i := 0) rfl ?_
  refine ev_lst ?_
  refine av_nil ?_
  refine ⟨by decide, ?_⟩
  refine ⟨_, od_ne hr.u64 ok_ints ok_nil, ?_⟩
  rw [eqv_nil]
  refine ⟨fun h1 => ?_, fun h1 => ?_⟩
  · have h2 : ms ≠ [] := by rintro rfl; simp at h1
    refine ev_bm PySem.F.plainAttrs_str PySem.F.slot_str_join PySem.F.type_str_join (ev_str ⟨rfl, av_cons (ev_lcm D.int decI decI_e [("_law_moment", 1)] nd ht (iv_val (ev_name (i := 0) rfl ⟨_, rfl, ms, fun m => some (.str (iS m)), rfl, by omega, ?_, ?_⟩)) (show BlkOk N__law_moments_text (defScope d__law_moments_text.st) _ _ from blkOk_by (by decide +kernel)))⟩)
    · rw [fm_some]
      refine av_nil ?_
      rw [show (ms.map fun m => D.str (iS m)) = (ms.map iS).map D.str by rw [List.map_map]; rfl]
      refine md_join ?_ (sq ?_ q)
      · have h3 := sum_le (as := ms) (f := fun m => (iS m).length) (n := 1921) fun m hm => (hs m hm).fit
        have h4 : (Str.ofString " ").length = 1 := by decide +kernel
        rw [List.map_map, List.length_map, h4]
        show (ms.map fun m => (iS m).length).sum + _ ≤ _
        omega
      · show (if ms = [] then _ else _) = _
        rw [if_neg h2]
    · intro s H C cl fp hh O2 sp m hm2
      refine bd_name (i := 1) ?_ nd
      refine ev_call (f__law_number_text W) (hr.mono (by decide)) trivial xer0 ?_
      refine av_cons ?_
      refine ev_name (i := 1) rfl ?_
      refine av_nil ?_
      exact ⟨m, rfl, hs m hm2, rfl, rfl⟩
  · have h2 : ms = [] := by simpa using h1
    refine ev_str (sq ?_ q)
    show (if ms = [] then _ else _) = _
    rw [if_pos h2]
abbrev wD (c : Option Int × Option Int) : D := .tup [oD c.1, oD c.2]
def S__law_window_text : SpD := fun ds O Q _ => ∃ c : Option Int × Option Int, ds = [wD c] ∧ SmO c.1 ∧ SmO c.2 ∧ Q (.str (tWindow c)) O
theorem S__law_window_text_len {ds O Q QE} (h : S__law_window_text ds O Q QE) : ds.length = 1 := by obtain ⟨i, e, _⟩ := h; rw [e]; rfl
theorem f__law_window_text (W : Wd P w K mg base) : Fg P w K mg base .cold 2 "_law_window_text" S__law_window_text := by
  refine W.fg 86 (d := d__law_window_text) sc__law_window_text rfl rfl (by decide +kernel) rfl (fun _ _ _ _ _ _ us hl => match us, hl with | [_], _ => rfl) (fun ds O Q QE h => S__law_window_text_len h) ?_
  rintro cdv A outer s H E F0 ds O Q QE hm hr xe ⟨c, rfl, s1, s2, q⟩
  have nd : N__law_window_text.Nodup := by decide
  have ht : Heat (cxB P w K mg base N__law_window_text d__law_window_text.qual (defScope d__law_window_text.st) (d__law_window_text.pa.ad K) cdv A outer s H E) := .inl hm
  have f1 := len_opt s1
  have f2 := len_opt s2
  have f3 : (Str.ofString " to ").length = 4 := by decide +kernel
  refine ss_cons (s_ret ?_)
  refine ev_bm PySem.F.plainAttrs_str PySem.F.slot_str_join PySem.F.type_str_join (ev_str ⟨rfl, ?_⟩)
  refine av_cons ?_
  refine ev_lcm oD decO decO_e [("_law_moment", 1)] nd ht (iv_val (ev_name (i := 0) rfl ⟨_, rfl, [c.1, c.2], fun o => some (.str (tOpt o)), rfl, by show 2 ≤ 100000; decide, ?_, ?_⟩)) (show BlkOk N__law_window_text (defScope d__law_window_text.st) _ _ from blkOk_by (by decide +kernel))
  · refine av_nil ?_
    refine md_join (ys := [tOpt c.1, tOpt c.2]) ?_ (sq ?_ q)
    · show ([(tOpt c.1).length, (tOpt c.2).length]).sum + 2 * (Str.ofString " to ").length ≤ _
      simp only [List.sum_cons, List.sum_nil]
      omega
    · exact (join2 _ _ _).symm
  · intro s H C cl fp hh O2 sp o ho
    refine bd_name (i := 1) (ev_if (tv_cmp (ev_name (i := 1) rfl (ev_non ⟨_, od_isN, ⟨fun h1 => ?_, fun h1 => ?_⟩⟩)))) nd
    · cases o with
      | none => exact ev_str ⟨rfl, rfl⟩
      | some i => cases h1
    · cases o with
      | none => cases h1
      | some i =>
        have sm : Sm i := by
          rcases List.mem_cons.mp ho with e | e
          · exact s1 i e.symm
          · exact s2 i (List.mem_singleton.mp e).symm
        refine ev_call (f__law_number_text W) (hr.mono (by decide)) trivial xer0 ?_
        refine av_cons ?_
        refine ev_name (i := 1) rfl ?_
        refine av_nil ?_
        exact ⟨i, rfl, sm, rfl, rfl⟩
end
end K97
/-! # Plain law A: windows and stretches; there is always a further look -/
namespace K97
theorem pre_len {p : Int → Bool} (hp : ∀ a b, a ≤ b → p b = true → p a = true) : ∀ {xs : List Int}, xs.Pairwise (· ≤ ·) → ∀ (i : Nat) (x : Int), xs[i]? = some x → (p x = true ↔ i < (xs.filter p).length)
  | [], _, i, x, h => by simp at h
  | a :: r, h, i, x, hx => by
    obtain ⟨h1, h2⟩ := List.pairwise_cons.mp h
    by_cases pa : p a = true
    · rw [List.filter_cons_of_pos pa, List.length_cons]
      cases i with
      | zero => simp at hx; subst hx; simp [pa]
      | succ i =>
        have := pre_len hp h2 i x (by simpa using hx)
        rw [this]; exact Nat.succ_lt_succ_iff.symm
    · have hf : (a :: r).filter p = [] := by
        rw [List.filter_eq_nil_iff]
        intro b hb
        rcases List.mem_cons.mp hb with e | e
        · rw [e]; exact pa
        · exact fun z => pa (hp a b (h1 b e) z)
      rw [hf]
      have hm : x ∈ a :: r := List.mem_of_getElem? hx
      constructor
      · intro z
        rcases List.mem_cons.mp hm with e | e
        · rw [e] at z; exact absurd z pa
        · exact absurd (hp a x (h1 x e) z) pa
      · intro z; exact absurd z (by simp)
abbrev Up (ch : List (Int × Int)) : Prop := ch.Pairwise fun a b => a.1 < b.1
theorem up_map {ch : List (Int × Int)} (h : Up ch) (d : Int) : (ch.map fun c => c.1 + d).Pairwise (· ≤ ·) := List.pairwise_map.mpr (h.imp fun {a b} q => by omega)
theorem low_iff {ch : List (Int × Int)} {b : Int × Int} {t : Int} {k : Nat} {c : Int × Int} (h : Up ch) (hk : ch[k]? = some c) : c.1 + b.2 < t ↔ k < lowN ch b t := by
  have := pre_len (p := fun x => decide (x < t)) (fun a b hab hb => decide_eq_true (Int.lt_of_le_of_lt hab (of_decide_eq_true hb))) (up_map h b.2) k (c.1 + b.2) (by rw [List.getElem?_map, hk]; rfl)
  rw [← this]; simp
theorem high_iff {ch : List (Int × Int)} {b : Int × Int} {t : Int} {k : Nat} {c : Int × Int} (h : Up ch) (hk : ch[k]? = some c) : c.1 + b.1 ≤ t ↔ k < highN ch b t := by
  have := pre_len (p := fun x => decide (x ≤ t)) (fun a b hab hb => decide_eq_true (Int.le_trans hab (of_decide_eq_true hb))) (up_map h b.1) k (c.1 + b.1) (by rw [List.getElem?_map, hk]; rfl)
  rw [← this]; simp
/-- a moment is in a window -/
def inW (w : Option Int × Option Int) (t : Int) : Bool := (match w.1 with | none => true | some b => decide (b ≤ t)) && (match w.2 with | none => true | some e => decide (t ≤ e))
theorem win_in {ch : List (Int × Int)} {b : Int × Int} {t : Int} {k : Nat} (h : Up ch) (hk : k ≤ ch.length) : inW (winB ch b k, winE ch b k) t = true ↔ lowN ch b t ≤ k ∧ k ≤ highN ch b t := by
  have h1 : (match winB ch b k with | none => true | some b => decide (b ≤ t)) = decide (k ≤ highN ch b t) := by
    cases k with
    | zero => simp [winB]
    | succ j =>
      have g := List.getElem?_eq_getElem (show j < ch.length by omega)
      have := high_iff (b := b) (t := t) h g
      have e : winB ch b (j + 1) = some (ch[j].1 + b.1) := by show ch[j]?.map _ = _; rw [g]; rfl
      rw [e]
      exact decide_eq_decide.mpr (by rw [this]; exact Iff.rfl)
  have h2 : (match winE ch b k with | none => true | some e => decide (t ≤ e)) = decide (lowN ch b t ≤ k) := by
    by_cases hj : k < ch.length
    · have g := List.getElem?_eq_getElem hj
      have := low_iff (b := b) (t := t) h g
      have e : winE ch b k = some (ch[k].1 + b.2) := by show ch[k]?.map _ = _; rw [g]; rfl
      rw [e]
      exact decide_eq_decide.mpr ⟨fun z => Nat.le_of_not_lt fun q => by have := this.mpr q; omega, fun z => Int.not_lt.mp fun q => by have := this.mp q; omega⟩
    · have e : winE ch b k = none := by show ch[k]?.map _ = _; rw [List.getElem?_eq_none (by omega)]; rfl
      have := lowN_le (ch := ch) (b := b) (t := t)
      rw [e]
      exact (decide_eq_true (by omega)).symm
  show ((match winB ch b k with | none => true | some b => decide (b ≤ t)) && (match winE ch b k with | none => true | some e => decide (t ≤ e))) = true ↔ _
  rw [h1, h2, Bool.and_eq_true, decide_eq_true_iff, decide_eq_true_iff]
  exact And.comm
theorem filt_mono {α : Type} {f g : α → Int} {p q : Int → Bool} : ∀ {xs : List α}, (∀ x ∈ xs, p (f x) = true → q (g x) = true) → ((xs.map f).filter p).length ≤ ((xs.map g).filter q).length
  | [], _ => Nat.le_refl 0
  | x :: xs, h => by
    have ih := filt_mono (xs := xs) fun y hy => h y (List.mem_cons_of_mem _ hy)
    rw [List.map_cons, List.map_cons]
    by_cases hp : p (f x) = true
    · rw [List.filter_cons_of_pos hp, List.filter_cons_of_pos (h x List.mem_cons_self hp), List.length_cons, List.length_cons]
      omega
    · rw [List.filter_cons_of_neg hp]
      by_cases hq : q (g x) = true
      · rw [List.filter_cons_of_pos hq, List.length_cons]; omega
      · rw [List.filter_cons_of_neg hq]; exact ih
theorem low_high {ch : List (Int × Int)} {b : Int × Int} {t : Int} (hb : BdOk b) : lowN ch b t ≤ highN ch b t := by
  have := hb.2.2
  exact filt_mono fun c _ h => decide_eq_true (by have := of_decide_eq_true h; omega)
theorem low_mono {ch : List (Int × Int)} {b : Int × Int} {t u : Int} (h : t ≤ u) : lowN ch b t ≤ lowN ch b u :=
  filt_mono fun c _ z => decide_eq_true (by have := of_decide_eq_true z; omega)
theorem high_mono {ch : List (Int × Int)} {b : Int × Int} {t u : Int} (h : t ≤ u) : highN ch b t ≤ highN ch b u :=
  filt_mono fun c _ z => decide_eq_true (by have := of_decide_eq_true z; omega)
theorem nums_mem {f : Int} {ch : List (Int × Int)} {b s : Int × Int} {x : Int} : x ∈ numsOf f ch b s ↔ (lowN ch b s.1 : Int) ≤ x ∧ x ≤ highN ch b s.1 ∧ priceAt f ch x = s.2 := by
  constructor
  · intro h
    obtain ⟨h1, h2⟩ := List.mem_filter.mp h
    obtain ⟨j, hj, rfl⟩ := List.mem_map.mp h1
    have hj := List.mem_range.mp hj
    exact ⟨by omega, by omega, of_decide_eq_true h2⟩
  · rintro ⟨h1, h2, h3⟩
    refine List.mem_filter.mpr ⟨List.mem_map.mpr ⟨(x - lowN ch b s.1).toNat, List.mem_range.mpr (by omega), by omega⟩, decide_eq_true h3⟩
/-! ## chains -/
theorem Chn.facts {f : Int} {ch : List (Int × Int)} {b : Int × Int} : ∀ {l : Int} {ss : List (Int × Int)} {xs : List Int}, Chn f ch b l ss xs → ss.length = xs.length ∧ (∀ (i : Nat) (s : Int × Int) (x : Int), ss[i]? = some s → xs[i]? = some x → x ∈ numsOf f ch b s) ∧ xs.Pairwise (· ≤ ·) ∧ ∀ x ∈ xs, l ≤ x
  | _, _, _, .nil l => ⟨rfl, fun i s x h => by simp at h, List.Pairwise.nil, fun x hx => by cases hx⟩
  | _, _, _, .cons h hl t => by
    obtain ⟨a1, a2, a3, a4⟩ := t.facts
    refine ⟨by rw [List.length_cons, List.length_cons, a1], fun i s x hs hx => ?_, List.pairwise_cons.mpr ⟨a4, a3⟩, fun y hy => ?_⟩
    · cases i with
      | zero => simp at hs hx; subst hs hx; exact h
      | succ i => exact a2 i s x (by simpa using hs) (by simpa using hx)
    · rcases List.mem_cons.mp hy with e | e
      · rw [e]; exact hl
      · exact Int.le_trans hl (a4 y e)
theorem gs_ge {f : Int} {ch : List (Int × Int)} {b : Int × Int} : ∀ {ss : List (Int × Int)} {xs : List Int} {g : Int}, ss.length = xs.length → (∀ (i : Nat) (s : Int × Int) (x : Int), ss[i]? = some s → xs[i]? = some x → x ∈ numsOf f ch b s) → xs.Pairwise (fun a b => b ≤ a) → (∀ x ∈ xs, x ≤ g) →
    ∀ (i : Nat) (x : Int), xs[i]? = some x → ∃ z, (gsweep f ch b g ss)[i]? = some z ∧ x ≤ z
  | [], [], _, _, _, _, _, i, x, h => by simp at h
  | [], _ :: _, _, h, _, _, _, _, _, _ => by cases h
  | _ :: _, [], _, h, _, _, _, _, _, _ => by cases h
  | s :: ss, x :: xs, g, hl, hm, hp, hg, i, y, hy => by
    obtain ⟨p1, p2⟩ := List.pairwise_cons.mp hp
    have h0 := hm 0 s x rfl rfl
    have hx : x ∈ (numsOf f ch b s).filter fun n => decide (n ≤ g) := List.mem_filter.mpr ⟨h0, decide_eq_true (hg x List.mem_cons_self)⟩
    rw [gsweep]
    cases e : ((numsOf f ch b s).filter fun n => decide (n ≤ g)).getLast? with
    | none => rw [List.getLast?_eq_none_iff] at e; rw [e] at hx; cases hx
    | some z =>
      have hxz : x ≤ z := last_ge (nums_pw.filter _) hx e
      cases i with
      | zero => simp at hy; subst hy; exact ⟨z, rfl, hxz⟩
      | succ i =>
        obtain ⟨w, e1, e2⟩ := gs_ge (ss := ss) (xs := xs) (g := z) (by simpa using hl) (fun i s x hs hx => hm (i + 1) s x (by simpa using hs) (by simpa using hx)) p2 (fun u hu => Int.le_trans (p1 u hu) hxz) i y (by simpa using hy)
        exact ⟨w, by simpa using e1, e2⟩
theorem gs_in {f : Int} {ch : List (Int × Int)} {b : Int × Int} : ∀ {ss : List (Int × Int)} {g : Int} (i : Nat) (s : Int × Int) (z : Int), ss[i]? = some s → (gsweep f ch b g ss)[i]? = some z → z ∈ numsOf f ch b s
  | [], _, i, s, z, h, _ => by simp at h
  | s0 :: ss, g, i, s, z, hs, hz => by
    rw [gsweep] at hz
    cases e : ((numsOf f ch b s0).filter fun n => decide (n ≤ g)).getLast? with
    | none => rw [e] at hz; simp at hz
    | some y =>
      rw [e] at hz
      cases i with
      | zero =>
        simp at hs hz
        subst hs hz
        exact (List.mem_filter.mp (List.mem_of_getLast? e)).1
      | succ i => exact gs_in i s z (by simpa using hs) (by simpa using hz)
theorem greats_at {f : Int} {ch : List (Int × Int)} {b : Int × Int} {ss : List (Int × Int)} (h : Seen f ch b ss) {i : Nat} {s : Int × Int} (hi : ss[i]? = some s) : ∃ x z, (sweep f ch b 0 ss)[i]? = some x ∧ (greats f ch b ss)[i]? = some z ∧ x ≤ z ∧ x ∈ numsOf f ch b s ∧ z ∈ numsOf f ch b s := by
  have hl : i < ss.length := (List.getElem?_eq_some_iff.mp hi).1
  have c := chn_of h
  obtain ⟨a1, a2, a3, a4⟩ := c.facts
  obtain ⟨x0, hx⟩ : ∃ x0, (sweep f ch b 0 ss)[i]? = some x0 := ⟨_, List.getElem?_eq_getElem (by omega)⟩
  have full := greats_full h
  generalize sweep f ch b 0 ss = xs at c a1 a2 a3 a4 hx ⊢
  have hx2 : xs.reverse[ss.length - 1 - i]? = some x0 := by
    rw [List.getElem?_reverse (by omega), show xs.length - 1 - (ss.length - 1 - i) = i by omega]; exact hx
  obtain ⟨z, hz, hle⟩ := gs_ge (f := f) (ch := ch) (b := b) (ss := ss.reverse) (xs := xs.reverse) (g := ch.length) (by simp [a1]) (fun j s x hs hx => by
      have hj : j < ss.reverse.length := (List.getElem?_eq_some_iff.mp hs).1
      rw [List.length_reverse] at hj
      rw [List.getElem?_reverse (by omega)] at hs
      rw [List.getElem?_reverse (by omega)] at hx
      rw [← a1] at hx
      exact a2 _ s x hs hx) (List.pairwise_reverse.mpr a3) (fun x hx => c.le x (List.mem_reverse.mp hx)) _ _ hx2
  have hz2 : (greats f ch b ss)[i]? = some z := by
    show (gsweep f ch b ch.length ss.reverse).reverse[i]? = some z
    rw [List.getElem?_reverse (by omega), full]; exact hz
  refine ⟨_, z, hx, hz2, hle, a2 i s _ hi hx, gs_in (g := ch.length) (ss := ss.reverse) (ss.length - 1 - i) s z ?_ hz⟩
  rw [List.getElem?_reverse (by omega), show ss.length - 1 - (ss.length - 1 - i) = i by omega]
  exact hi
/-- the sightings' moments never fall -/
abbrev Srt (ss : List (Int × Int)) : Prop := ss.Pairwise fun a b => a.1 ≤ b.1
theorem nAt_ne {f : Int} {ch : List (Int × Int)} {b : Int × Int} {ss : List (Int × Int)} (t : Int) (hu : Up ch) (hb : BdOk b) (hs : Srt ss) (h : Seen f ch b ss) : nAt f ch b ss t ≠ [] := by
  have lh := low_high (ch := ch) (t := t) hb
  have ll := lowN_le (ch := ch) (b := b) (t := t)
  have hA : aheadN ss t ≤ ss.length := List.length_filter_le _ _
  have hAU : aheadN ss t ≤ uptoN ss t := by
    have e : ∀ p : Int → Bool, (ss.filter fun s => p s.1).length = ((ss.map (·.1)).filter p).length := fun p => by rw [List.filter_map, List.length_map]; rfl
    show (ss.filter fun s => decide (s.1 < t)).length ≤ (ss.filter fun s => decide (s.1 ≤ t)).length
    rw [e fun x => decide (x < t), e fun x => decide (x ≤ t)]
    exact filt_mono fun c _ z => decide_eq_true (by have := of_decide_eq_true z; omega)
  have hP : ∀ (i : Nat) (s : Int × Int), ss[i]? = some s → (s.1 < t ↔ i < aheadN ss t) := fun i s hi => by
    have := pre_len (p := fun x => decide (x < t)) (fun a b hab hb => decide_eq_true (Int.lt_of_le_of_lt hab (of_decide_eq_true hb))) (xs := ss.map (·.1)) (List.pairwise_map.mpr hs) i s.1 (by rw [List.getElem?_map, hi]; rfl)
    rw [List.filter_map, List.length_map] at this
    rw [show aheadN ss t = (ss.filter ((fun x => decide (x < t)) ∘ fun x => x.1)).length from rfl, ← this]
    simp
  have c := chn_of h
  obtain ⟨a1, a2, a3, a4⟩ := c.facts
  have full := greats_full h
  have L : ∃ l, (leastL f ch b ss)[aheadN ss t]? = some l ∧ 0 ≤ l ∧ l ≤ highN ch b t ∧ l ≤ ch.length ∧ ∀ x, (sweep f ch b 0 ss)[aheadN ss t]? = some x → l ≤ x := by
    cases hz : aheadN ss t with
    | zero => exact ⟨0, rfl, by omega, by omega, by omega, fun x hx => a4 x (List.mem_of_getElem? hx)⟩
    | succ j =>
      have g := List.getElem?_eq_getElem (show j < ss.length by omega)
      obtain ⟨x, z, e1, e2, e3, e4, e5⟩ := greats_at h g
      have h1 := (hP j _ g).mpr (by omega)
      have h2 := (nums_mem.mp e4)
      have h3 := high_mono (ch := ch) (b := b) (Int.le_of_lt h1)
      have h4 := highN_le (ch := ch) (b := b) (t := t)
      refine ⟨x, e1, a4 x (List.mem_of_getElem? e1), by omega, by omega, fun y hy => ?_⟩
      exact pw_get a3 e1 hy (by omega)
  have G : ∃ z, (greatL f ch b ss)[aheadN ss t]? = some z ∧ (lowN ch b t : Int) ≤ z ∧ ((aheadN ss t = ss.length ∧ z = ch.length) ∨ ∃ x, (sweep f ch b 0 ss)[aheadN ss t]? = some x ∧ x ≤ z) := by
    have lg : (greats f ch b ss).length = ss.length := by rw [List.length_reverse]; exact full
    by_cases hz : aheadN ss t = ss.length
    · refine ⟨ch.length, ?_, by omega, .inl ⟨hz, rfl⟩⟩
      rw [List.getElem?_append_right (by omega), hz, lg]
      simp
    · have g := List.getElem?_eq_getElem (show aheadN ss t < ss.length by omega)
      obtain ⟨x, z, e1, e2, e3, e4, e5⟩ := greats_at h g
      have h1 : t ≤ (ss[aheadN ss t]).1 := Int.not_lt.mp fun q => by have := (hP _ _ g).mp q; omega
      have h2 := nums_mem.mp e5
      have h3 := low_mono (ch := ch) (b := b) h1
      refine ⟨z, ?_, by omega, .inr ⟨x, e1, e3⟩⟩
      rw [List.getElem?_append_left (by omega)]
      exact e2
  obtain ⟨l, l1, l2, l3, l4, l5⟩ := L
  obtain ⟨z, z1, z2, z3⟩ := G
  have lz : l ≤ z := by
    rcases z3 with ⟨_, e⟩ | ⟨x, e, hx⟩
    · omega
    · exact Int.le_trans (l5 x e) hx
  intro he
  have hm : max (lowN ch b t : Int) l ∈ nAt f ch b ss t := by
    refine List.mem_filter.mpr ⟨List.mem_map.mpr ⟨(max (lowN ch b t : Int) l - lowN ch b t).toNat, List.mem_range.mpr (by omega), by omega⟩, ?_⟩
    have hsp : (aheadN ss t : Int) ∈ spots f ch b ss t (max (lowN ch b t : Int) l) := by
      refine List.mem_filter.mpr ⟨List.mem_map.mpr ⟨0, List.mem_range.mpr (by omega), by omega⟩, ?_⟩
      unfold spotOk
      have en : ((aheadN ss t : Nat) : Int).toNat = aheadN ss t := by omega
      rw [en, List.getD_eq_getElem?_getD, List.getD_eq_getElem?_getD, l1, z1]
      rw [Bool.and_eq_true]
      exact ⟨decide_eq_true (by show l ≤ _; omega), decide_eq_true (by show _ ≤ z; omega)⟩
    have : ¬ spots f ch b ss t (max (lowN ch b t : Int) l) = [] := fun z => by rw [z] at hsp; cases hsp
    rw [decide_eq_false this]; rfl
  rw [he] at hm
  cases hm
theorem pAt_ne {f : Int} {ch : List (Int × Int)} {b : Int × Int} {ss : List (Int × Int)} (t : Int) (hu : Up ch) (hb : BdOk b) (hs : Srt ss) (h : Seen f ch b ss) : pAt f ch b ss t ≠ [] := by
  intro z
  obtain ⟨n, r, e⟩ := List.exists_cons_of_ne_nil (nAt_ne t hu hb hs h)
  have : priceAt f ch n ∈ pAt f ch b ss t := mem_sU.mpr (by rw [e]; exact List.mem_cons_self)
  rw [z] at this
  cases this
/-! ## rows in chains -/
def ahs : Option (List Int) → List (List Int) → List (List Int)
  | _, [] => []
  | p, row :: rows =>
    let a := row.filter fun n => match p with
      | none => true
      | some q => !decide (q.filter (fun o => decide (o ≤ n)) = [])
    a :: ahs (some a) rows
def bhs : Option (List Int) → List (List Int) → List (List Int)
  | _, [] => []
  | p, row :: rows =>
    let a := row.filter fun n => match p with
      | none => true
      | some q => !decide (q.filter (fun o => decide (n ≤ o)) = [])
    a :: bhs (some a) rows
end K97
/-! # Walk XG: prices, windows, stretches of the law -/
namespace K97
open PySem PySem.Spec PyProof.Rows L2 TL
abbrev Win := Option Int × Option Int
def wins (ms : List Int) (b : Int × Int) : List Win := (none :: ms.map fun m => some (m + b.1)).zip ((ms.map fun m => some (m + b.2)) ++ [none])
theorem wins_len {ms : List Int} {b : Int × Int} : (wins ms b).length = ms.length + 1 := by
  unfold wins
  rw [List.length_zip, List.length_cons, List.length_append, List.length_map, List.length_map]
  simp
theorem wins_at {ch : List (Int × Int)} {b : Int × Int} {k : Nat} (h : k ≤ ch.length) : (wins (ch.map (·.1)) b)[k]? = some (winB ch b k, winE ch b k) := by
  unfold wins
  rw [List.getElem?_zip_eq_some]
  constructor
  · cases k with
    | zero => rfl
    | succ j =>
      have g := List.getElem?_eq_getElem (show j < ch.length by omega)
      show ((ch.map (·.1)).map fun m => some (m + b.1))[j]? = some (ch[j]?.map _)
      rw [List.getElem?_map, List.getElem?_map, g]; rfl
  · by_cases hj : k < ch.length
    · have g := List.getElem?_eq_getElem hj
      rw [List.getElem?_append_left (by simp; exact hj), List.getElem?_map, List.getElem?_map]
      show _ = some (ch[k]?.map _)
      rw [g]; rfl
    · rw [List.getElem?_append_right (by simp; omega)]
      show _ = some (ch[k]?.map _)
      rw [List.getElem?_eq_none (show ch.length ≤ k by omega)]
      have : k - ((ch.map (·.1)).map fun m => some (m + b.2)).length = 0 := by simp; omega
      rw [this]; rfl
def decW : D → Option Win
  | .tup [a, b] => (decO a).bind fun x => (decO b).map fun y => (x, y)
  | _ => none
theorem decW_e (c : Win) : decW (wD c) = some c := by
  show (decO (oD c.1)).bind _ = _
  rw [decO_e]
  show (decO (oD c.2)).map _ = _
  rw [decO_e]; rfl
abbrev wAt (ws : List Win) (n : Int) : Win := ws.getD n.toNat (none, none)
theorem wAt_some {ws : List Win} {n : Nat} (h : n < ws.length) : ws[n]? = some (wAt ws n) := by
  show _ = some (ws.getD (n : Int).toNat (none, none))
  rw [show (n : Int).toNat = n from rfl, List.getD_eq_getElem?_getD, List.getElem?_eq_getElem h]; rfl
abbrev inN (ws : List Win) (t : Int) : List Int := (rngI 0 ws.length).filter fun n => inW (wAt ws n) t
abbrev byN (f : Int) (ch : List (Int × Int)) (ws : List Win) (s : Int × Int) : List Int := ((rngI 0 (ch.length + 1)).filter fun n => decide (priceAt f ch n = s.2)).filter fun n => inW (wAt ws n) s.1
abbrev bkT (f : Int) (ch : List (Int × Int)) : D := .tup [.int f, .lst (ch.map pD)]
theorem rng0 {n : Int} {k : Nat} (h : n ∈ rngI 0 k) : ∃ j : Nat, n = j ∧ j < k := by
  obtain ⟨j, hj, rfl⟩ := List.mem_map.mp h
  exact ⟨j, by omega, List.mem_range.mp hj⟩
section
variable {P : Program} {w : World} {K : PySem.W.Frag} {mg : Str → Option Value} {base : Heap}
def S__law_prices : SpD := fun ds O Q _ => ∃ f ch, ds = [bkT f ch] ∧ ch.length ≤ 200 ∧ Q (.lst ((f :: ch.map (·.2)).map .int)) O
theorem S__law_prices_len {ds O Q QE} (h : S__law_prices ds O Q QE) : ds.length = 1 := by obtain ⟨i, c, e, _⟩ := h; rw [e]; rfl
theorem f__law_prices (W : Wd P w K mg base) : Fg P w K mg base .cold 1 "_law_prices" S__law_prices := by
  refine W.fg 64 (d := d__law_prices) sc__law_prices rfl rfl (by decide +kernel) rfl (fun _ _ _ _ _ _ us hl => match us, hl with | [_], _ => rfl) (fun ds O Q QE h => S__law_prices_len h) ?_
  rintro cdv A outer s H E F0 ds O Q QE hm hr xe ⟨f, ch, rfl, hl, q⟩
  have nd : N__law_prices.Nodup := by decide
  have ht : Heat (cxB P w K mg base N__law_prices d__law_prices.qual (defScope d__law_prices.st) (d__law_prices.pa.ad K) cdv A outer s H E) := .inl hm
  refine ss_cons (s_ret ?_)
  refine ev_op ?_
  refine ev_lst ?_
  refine av_cons ?_
  refine ev_ix ?_
  refine ev_name (i := 0) rfl ?_
  refine ev_int ?_
  refine ⟨_, xd_tup (d := .int f) rfl, ?_⟩
  refine av_nil ?_
  refine ⟨by show 1 ≤ 100000; decide, ?_⟩
  refine ev_lcm pD decP decP_e [("_law_moment", 1), ("_law_price", 2)] nd ht (iv_val ?_) (show BlkOk N__law_prices (defScope d__law_prices.st) _ _ from blkOk_by (by decide +kernel))
  refine ev_ix ?_
  refine ev_name (i := 0) rfl ?_
  refine ev_int ?_
  refine ⟨_, xd_tup (d := .lst (ch.map pD)) rfl, ?_⟩
  refine ⟨_, rfl, ch, fun c => some (.int c.2), rfl, by omega, ?_, ?_⟩
  · rw [fm_some]
    refine ⟨_, od_cat (by rw [List.length_map]; simp; omega), ?_⟩
    rw [show ([D.int f] ++ ch.map fun c => D.int c.2) = (f :: ch.map (·.2)).map D.int by rw [List.map_cons, List.map_map]; rfl]
    exact q
  · intro s H C cl fp hh O2 sp c hc
    exact gv_tup hh (.inl rfl) (gvs_cons (gv_name (i := 1) (gvs_cons (gv_name (i := 2) (gvs_nil ⟨rfl, ext_set2 rfl rfl (by decide), tsv_nil ⟨rfl, rfl, ev_name (i := 2) rfl ⟨rfl, rfl⟩⟩⟩) nd)) nd))
def S__law_windows : SpD := fun ds O Q _ => ∃ (ms : List Int) (b : Int × Int), ds = [.lst (ms.map .int), pD b] ∧ ms.length ≤ 200 ∧ Q (.lst ((wins ms b).map wD)) O
theorem S__law_windows_len {ds O Q QE} (h : S__law_windows ds O Q QE) : ds.length = 2 := by obtain ⟨i, c, e, _⟩ := h; rw [e]; rfl
theorem f__law_windows (W : Wd P w K mg base) : Fg P w K mg base .cold 1 "_law_windows" S__law_windows := by
  refine W.fg 65 (d := d__law_windows) sc__law_windows rfl rfl (by decide +kernel) rfl (fun _ _ _ _ _ _ us hl => match us, hl with | [_, _], _ => rfl) (fun ds O Q QE h => S__law_windows_len h) ?_
  rintro cdv A outer s H E F0 ds O Q QE hm hr xe ⟨ms, b, rfl, hl, q⟩
  have nd : N__law_windows.Nodup := by decide
  have ht : Heat (cxB P w K mg base N__law_windows d__law_windows.qual (defScope d__law_windows.st) (d__law_windows.pa.ad K) cdv A outer s H E) := .inl hm
  refine ss_cons (s_set (i := 2) ?_ nd)
  refine ev_op ?_
  refine ev_lst ?_
  refine av_cons ?_
  refine ev_non ?_
  refine av_nil ?_
  refine ⟨by show 1 ≤ 100000; decide, ?_⟩
  refine ev_lcm D.int decI decI_e [("_law_moment", 4)] nd ht (iv_val (ev_name (i := 0) rfl ⟨_, rfl, ms, fun m => some (.int (m + b.1)), rfl, by omega, ?_, ?_⟩)) (show BlkOk N__law_windows (defScope d__law_windows.st) _ _ from blkOk_by (by decide +kernel))
  rotate_left
  · intro s H C cl fp hh O2 sp m hm2
    refine bd_name (i := 4) ?_ nd
    refine ev_op ?_
    refine ev_name (i := 4) rfl ?_
    refine ev_ix ?_
    refine ev_name (i := 1) rfl ?_
    refine ev_int ?_
    refine ⟨_, xd_tup rfl, ?_⟩
    exact ⟨_, od_add, rfl, rfl⟩
  rw [fm_some]
  refine ⟨_, od_cat (by rw [List.length_map]; simp; omega), ?_⟩
  refine ss_cons (s_set (i := 3) ?_ nd)
  refine ev_op ?_
  refine ev_lcm D.int decI decI_e [("_law_moment", 4)] nd ht (iv_val (ev_name (i := 0) rfl ⟨_, rfl, ms, fun m => some (.int (m + b.2)), rfl, by omega, ?_, ?_⟩)) (show BlkOk N__law_windows (defScope d__law_windows.st) _ _ from blkOk_by (by decide +kernel))
  rotate_left
  · intro s H C cl fp hh O2 sp m hm2
    refine bd_name (i := 4) ?_ nd
    refine ev_op ?_
    refine ev_name (i := 4) rfl ?_
    refine ev_ix ?_
    refine ev_name (i := 1) rfl ?_
    refine ev_int ?_
    refine ⟨_, xd_tup rfl, ?_⟩
    exact ⟨_, od_add, rfl, rfl⟩
  rw [fm_some]
  refine ev_lst ?_
  refine av_cons ?_
  refine ev_non ?_
  refine av_nil ?_
  refine ⟨by show 1 ≤ 100000; decide, ?_⟩
  refine ⟨_, od_cat (by rw [List.length_map]; simp; omega), ?_⟩
  refine ss_cons (s_ret ?_)
  refine ev_lzip hm ?_ (W.fre _ (by decide +kernel)) (W.fre _ (by decide +kernel))
  refine av_cons ?_
  refine ev_name (i := 2) rfl ?_
  refine av_cons ?_
  refine ev_name (i := 3) rfl ?_
  refine av_nil ?_
  refine ⟨_, _, rfl, by simp, by simp; omega, ?_⟩
  refine lq ?_ q
  have e1 : [D.non] ++ (ms.map fun m => D.int (m + b.1)) = (none :: ms.map fun m => some (m + b.1)).map oD := by rw [List.map_cons, List.map_map]; rfl
  have e2 : (ms.map fun m => D.int (m + b.2)) ++ [D.non] = ((ms.map fun m => some (m + b.2)) ++ [none]).map oD := by rw [List.map_append, List.map_map]; rfl
  rw [e1, e2]
  unfold wins
  generalize (none :: ms.map fun m => some (m + b.1)) = as
  generalize (ms.map fun m => some (m + b.2)) ++ [none] = bs
  induction as generalizing bs with
  | nil => rfl
  | cons a as ih =>
    cases bs with
    | nil => rfl
    | cons c bs =>
      show _ :: _ = _ :: _
      rw [← ih bs]; rfl
def inB : Option Int → Int → Bool
  | none, _ => true
  | some b, t => decide (b ≤ t)
def inE : Option Int → Int → Bool
  | none, _ => true
  | some e, t => decide (t ≤ e)
theorem inW_eq {b e : Option Int} {t : Int} : inW (b, e) t = (inB b t && inE e t) := by cases b <;> cases e <;> rfl
def S__law_within : SpD := fun ds O Q _ => ∃ (c : Win) (t : Int), ds = [wD c, .int t] ∧ Q (.bl (inW c t)) O
theorem S__law_within_len {ds O Q QE} (h : S__law_within ds O Q QE) : ds.length = 2 := by obtain ⟨i, c, e, _⟩ := h; rw [e]; rfl
theorem f__law_within (W : Wd P w K mg base) : Fg P w K mg base .heat 1 "_law_within" S__law_within := by
  refine W.fg 66 (d := d__law_within) sc__law_within rfl rfl (by decide +kernel) rfl (fun _ _ _ _ _ _ us hl => match us, hl with | [_, _], _ => rfl) (fun ds O Q QE h => S__law_within_len h) ?_
  rintro cdv A outer s H E F0 ds O Q QE hm hr xe ⟨c, t, rfl, q⟩
  have nd : N__law_within.Nodup := by decide
  refine ss_cons (s_asg (ev_name (i := 0) rfl (gv_tup hm (.inl rfl) (gvs_cons (gv_name (i := 2) (gvs_cons (gv_name (i := 3) (gvs_nil ?_) nd)) nd)))))
  obtain ⟨b, e⟩ := c
  rw [inW_eq] at q
  refine ss_cons (s_ret ?_)
  refine ev_and ?_
  have last : inB b t = true → Ev (cxB P w K mg base N__law_within d__law_within.qual (defScope d__law_within.st) (d__law_within.pa.ad K) cdv A outer s H E) F0 ((match (defBody d__law_within.st).getD 1 (.Pass ⟨0, 0, 0, 0⟩) with | .Return (some (.BoolOp _ es p)) _ => .BoolOp .And (es.drop 1) p | _ => .Constant .none 0 ⟨0, 0, 0, 0⟩)) [some (wD (b, e)), some (.int t), some (oD b), some (oD e)] O Q := fun hb => by
    have q2 : Q (.bl (inE e t)) O := by
      rw [hb, Bool.true_and] at q
      exact q
    refine ev_one ?_
    refine ev_or ?_
    refine ev_cmp ?_
    refine ev_name (i := 3) rfl ?_
    refine ev_non ?_
    refine ⟨_, od_isN, ?_⟩
    cases e with
    | none => exact ⟨true, rfl, nofun, fun _ => q2⟩
    | some e =>
      refine ⟨false, rfl, fun _ => ?_, nofun⟩
      refine ev_one ?_
      refine ev_cmp ?_
      refine ev_name (i := 1) rfl ?_
      refine ev_name (i := 3) rfl ?_
      exact ⟨_, od_le, q2⟩
  refine ev_or ?_
  refine ev_cmp ?_
  refine ev_name (i := 2) rfl ?_
  refine ev_non ?_
  refine ⟨_, od_isN, ?_⟩
  cases b with
  | none => exact ⟨true, rfl, nofun, fun _ => ⟨true, rfl, fun _ => last rfl, nofun⟩⟩
  | some b =>
    refine ⟨false, rfl, fun _ => ?_, nofun⟩
    refine ev_one ?_
    refine ev_cmp ?_
    refine ev_name (i := 2) rfl ?_
    refine ev_name (i := 1) rfl ?_
    refine ⟨_, od_le, _, rfl, fun h => last h, fun h => ?_⟩
    rw [show inB (some b) t = false from h, Bool.false_and] at q
    exact q
def S__law_stretch : SpD := fun ds O Q _ => ∃ (ws : List Win) (t a b : Int), ds = [.lst (ws.map wD), .int t] ∧ ws.length ≤ 200 ∧ Ends2 (inN ws t) a b ∧ Q (pD (a, b)) O
theorem S__law_stretch_len {ds O Q QE} (h : S__law_stretch ds O Q QE) : ds.length = 2 := by obtain ⟨i, c, _, _, e, _⟩ := h; rw [e]; rfl
theorem f__law_stretch (W : Wd P w K mg base) : Fg P w K mg base .cold 2 "_law_stretch" S__law_stretch := by
  refine W.fg 67 (d := d__law_stretch) sc__law_stretch rfl rfl (by decide +kernel) rfl (fun _ _ _ _ _ _ us hl => match us, hl with | [_, _], _ => rfl) (fun ds O Q QE h => S__law_stretch_len h) ?_
  rintro cdv A outer s H E F0 ds O Q QE hm hr xe ⟨ws, t, a, b, rfl, hl, he, q⟩
  have nd : N__law_stretch.Nodup := by decide
  have ht : Heat (cxB P w K mg base N__law_stretch d__law_stretch.qual (defScope d__law_stretch.st) (d__law_stretch.pa.ad K) cdv A outer s H E) := .inl hm
  refine ss_cons (s_setLcm (i := 2) D.int decI decI_e [("_law_number", 3)] nd ht (iv_range1 ?_ (W.fre _ (by decide +kernel))) (show BlkOk N__law_stretch (defScope d__law_stretch.st) _ _ from blkOk_by (by decide +kernel)))
  refine ev_blt ?_ (W.fre _ (by decide +kernel)) boot_len
  refine av_cons ?_
  refine ev_name (i := 0) rfl ?_
  refine av_nil ?_
  refine cl_len_lst ?_
  refine ⟨_, rfl, ⟨by omega, by rw [List.length_map]; omega⟩, ?_⟩
  rw [List.length_map, show ((ws.length : Nat) : Int).toNat = ws.length from rfl]
  refine ⟨rngI 0 ws.length, fun n => if inW (wAt ws n) t then some (.int n) else none, rngD_I, by simp; omega, ?_, ?_⟩
  rotate_left
  · intro s H C cl fp hh O2 sp n hn
    obtain ⟨j, rfl, hj⟩ := rng0 hn
    refine bd_if (i := 3) ?_ (fun _ => ev_name (i := 3) rfl ⟨rfl, rfl⟩) nd
    refine tv_val (ev_call (f__law_within W) (hr.mono (by decide)) hh xer0 ?_)
    refine av_cons ?_
    refine ev_ix ?_
    refine ev_name (i := 0) rfl ?_
    refine ev_name (i := 3) rfl ?_
    refine ⟨_, xd_lst (atI_nat (getmap (wAt_some hj))), ?_⟩
    refine av_cons ?_
    refine ev_name (i := 1) rfl ?_
    refine av_nil ?_
    exact ⟨wAt ws j, t, rfl, _, rfl, rfl, rfl⟩
  rw [fm_if]
  refine ss_cons (s_ret ?_)
  refine ev_tup ?_
  refine av_cons ?_
  refine ev_ix ?_
  refine ev_name (i := 2) rfl ?_
  refine ev_int ?_
  refine ⟨_, xd_lst (d := .int a) (atI_nat (i := 0) (getmap he.hd)), ?_⟩
  have hlast : ((inN ws t).map D.int).getLast? = some (.int b) := by rw [List.getLast?_map, he.lst]; rfl
  refine av_cons ?_
  refine ev_ix ?_
  refine ev_name (i := 2) rfl ?_
  refine ev_un ?_
  refine ev_int ?_
  refine ⟨_, ud_neg, ?_⟩
  refine ⟨_, xd_lst (d := .int b) (atI_last hlast), ?_⟩
  refine av_nil ?_
  exact ⟨by show 2 ≤ 100000; decide, q⟩
def S__law_numbers_by : SpD := fun ds O Q _ => ∃ f ch, ∃ (ws : List Win) (s : Int × Int), ds = [bkT f ch, .lst (ws.map wD), pD s] ∧ ch.length ≤ 200 ∧ ws.length = ch.length + 1 ∧ Q (.lst ((byN f ch ws s).map .int)) O
theorem S__law_numbers_by_len {ds O Q QE} (h : S__law_numbers_by ds O Q QE) : ds.length = 3 := by obtain ⟨i, c, _, _, e, _⟩ := h; rw [e]; rfl
theorem f__law_numbers_by (W : Wd P w K mg base) : Fg P w K mg base .cold 2 "_law_numbers_by" S__law_numbers_by := by
  refine W.fg 68 (d := d__law_numbers_by) sc__law_numbers_by rfl rfl (by decide +kernel) rfl (fun _ _ _ _ _ _ us hl => match us, hl with | [_, _, _], _ => rfl) (fun ds O Q QE h => S__law_numbers_by_len h) ?_
  rintro cdv A outer s H E F0 ds O Q QE hm hr xe ⟨f, ch, ws, s0, rfl, hl, hw, q⟩
  have nd : N__law_numbers_by.Nodup := by decide
  have ht : Heat (cxB P w K mg base N__law_numbers_by d__law_numbers_by.qual (defScope d__law_numbers_by.st) (d__law_numbers_by.pa.ad K) cdv A outer s H E) := .inl hm
  refine ss_cons (s_set (i := 3) ?_ nd)
  refine ev_call (f__law_prices W) (hr.mono (by decide)) hm xer0 ?_
  refine av_cons ?_
  refine ev_name (i := 0) rfl ?_
  refine av_nil ?_
  refine ⟨f, ch, rfl, hl, ?_⟩
  have hlp : ((f :: ch.map (·.2)).map D.int).length = ch.length + 1 := by simp
  refine ss_cons (s_setLcm (i := 4) D.int decI decI_e [("_law_number", 5)] nd ht (iv_range1 ?_ (W.fre _ (by decide +kernel))) (show BlkOk N__law_numbers_by (defScope d__law_numbers_by.st) _ _ from blkOk_by (by decide +kernel)))
  refine ev_blt ?_ (W.fre _ (by decide +kernel)) boot_len
  refine av_cons ?_
  refine ev_name (i := 3) rfl ?_
  refine av_nil ?_
  refine cl_len_lst ?_
  refine ⟨_, rfl, ⟨by omega, by rw [hlp]; omega⟩, ?_⟩
  rw [hlp, show ((ch.length + 1 : Nat) : Int).toNat = ch.length + 1 from rfl]
  refine ⟨rngI 0 (ch.length + 1), fun n => if decide (priceAt f ch n = s0.2) then some (.int n) else none, rngD_I, by simp; omega, ?_, ?_⟩
  rotate_left
  · intro s H C cl fp hh O2 sp n hn
    obtain ⟨j, rfl, hj⟩ := rng0 hn
    refine bd_if (i := 5) ?_ (fun _ => ev_name (i := 5) rfl ⟨rfl, rfl⟩) nd
    refine tv_cmp ?_
    refine ev_ix ?_
    refine ev_name (i := 3) rfl ?_
    refine ev_name (i := 5) rfl ?_
    refine ⟨_, xd_lst (atI_nat (getmap (price_some (show j ≤ ch.length by omega)))), ?_⟩
    refine ev_ix ?_
    refine ev_name (i := 2) rfl ?_
    refine ev_int ?_
    refine ⟨_, xd_tup rfl, ?_⟩
    exact ⟨_, od_eqi, rfl, rfl⟩
  rw [fm_if]
  have hfl : ((rngI 0 (ch.length + 1)).filter fun n => decide (priceAt f ch n = s0.2)).length ≤ ch.length + 1 := by
    have := List.length_filter_le (fun n => decide (priceAt f ch n = s0.2)) (rngI 0 (ch.length + 1))
    simpa using this
  refine ss_cons (s_ret (ev_lcm D.int decI decI_e [("_law_number", 5)] nd ht (iv_val (ev_name (i := 4) rfl ⟨_, rfl, (rngI 0 (ch.length + 1)).filter (fun n => decide (priceAt f ch n = s0.2)), fun n => if inW (wAt ws n) s0.1 then some (.int n) else none, rfl, by omega, ?_, ?_⟩)) (show BlkOk N__law_numbers_by (defScope d__law_numbers_by.st) _ _ from blkOk_by (by decide +kernel))))
  · rw [fm_if]
    exact q
  · intro s H C cl fp hh O2 sp n hn
    obtain ⟨j, rfl, hj⟩ := rng0 (List.mem_filter.mp hn).1
    refine bd_if (i := 5) ?_ (fun _ => ev_name (i := 5) rfl ⟨rfl, rfl⟩) nd
    refine tv_val (ev_call (f__law_within W) (hr.mono (by decide)) hh xer0 ?_)
    refine av_cons ?_
    refine ev_ix ?_
    refine ev_name (i := 1) rfl ?_
    refine ev_name (i := 5) rfl ?_
    refine ⟨_, xd_lst (atI_nat (getmap (wAt_some (by omega)))), ?_⟩
    refine av_cons ?_
    refine ev_ix ?_
    refine ev_name (i := 2) rfl ?_
    refine ev_int ?_
    refine ⟨_, xd_tup (d := .int s0.1) rfl, ?_⟩
    refine av_nil ?_
    exact ⟨wAt ws j, s0.1, rfl, _, rfl, rfl, rfl⟩
def S__law_shop_windows : SpD := fun ds O Q _ => ∃ f bl bt, ∃ (x : Ss) (pl : Str), ds = [lsD f bl bt x, .str pl] ∧ pl ∈ plcs ∧ x.ch.length ≤ 200 ∧ Q (.lst ((wins (x.ch.map (·.1)) (pick pl bl bt)).map wD)) O
theorem S__law_shop_windows_len {ds O Q QE} (h : S__law_shop_windows ds O Q QE) : ds.length = 2 := by obtain ⟨i, c, _, _, _, e, _⟩ := h; rw [e]; rfl
theorem f__law_shop_windows (W : Wd P w K mg base) : Fg P w K mg base .cold 2 "_law_shop_windows" S__law_shop_windows := by
  refine W.fg 73 (d := d__law_shop_windows) sc__law_shop_windows rfl rfl (by decide +kernel) rfl (fun _ _ _ _ _ _ us hl => match us, hl with | [_, _], _ => rfl) (fun ds O Q QE h => S__law_shop_windows_len h) ?_
  rintro cdv A outer s H E F0 ds O Q QE hm hr xe ⟨f, bl, bt, x, pl, rfl, hp, hl, q⟩
  have nd : N__law_shop_windows.Nodup := by decide
  have ht : Heat (cxB P w K mg base N__law_shop_windows d__law_shop_windows.qual (defScope d__law_shop_windows.st) (d__law_shop_windows.pa.ad K) cdv A outer s H E) := .inl hm
  refine ss_cons (s_ret ?_)
  refine ev_call (f__law_windows W) (hr.mono (by decide)) hm xer0 ?_
  refine av_cons ?_
  refine ev_lcm pD decP decP_e [("_law_moment", 2), ("_law_price", 3)] nd ht (iv_val ?_) (show BlkOk N__law_shop_windows (defScope d__law_shop_windows.st) _ _ from blkOk_by (by decide +kernel))
  refine ev_ix ?_
  refine ev_name (i := 0) rfl ?_
  refine ev_int ?_
  refine ⟨_, xd_tup (d := .lst (x.ch.map pD)) rfl, ?_⟩
  refine ⟨_, rfl, x.ch, fun c => some (.int c.1), rfl, by omega, ?_, ?_⟩
  · rw [fm_some]
    refine av_cons (ev_dget hr ?_)
    refine ev_ix ?_
    refine ev_name (i := 0) rfl ?_
    refine ev_int ?_
    refine ⟨_, xd_tup (d := bdsD bl bt) rfl, ?_⟩
    refine ev_name (i := 1) rfl ?_
    refine ⟨_, _, _, _, rfl, rfl, pick_at hp pD bl bt, ?_⟩
    refine av_nil ?_
    refine ⟨x.ch.map (·.1), pick pl bl bt, ?_, by rw [List.length_map]; exact hl, q⟩
    rw [List.map_map]; rfl
  · intro s H C cl fp hh O2 sp c hc
    exact gv_tup hh (.inl rfl) (gvs_cons (gv_name (i := 2) (gvs_cons (gv_name (i := 3) (gvs_nil ⟨rfl, ext_set2 rfl rfl (by decide), tsv_nil ⟨rfl, rfl, ev_name (i := 2) rfl ⟨rfl, rfl⟩⟩⟩) nd)) nd))
end
end K97
/-! # Walk XH: chained rows -/
namespace K97
open PySem PySem.Spec PyProof.Rows L2 TL
abbrev rD (row : List Int) : D := .lst (row.map .int)
def decR : D → Option (List Int)
  | .lst ds => some (ds.filterMap decI)
  | _ => none
theorem decR_e (row : List Int) : decR (rD row) = some row := by
  show some ((row.map D.int).filterMap decI) = some row
  rw [List.filterMap_map]
  congr 1
  induction row with
  | nil => rfl
  | cons a r ih => show a :: _ = _; rw [ih]
theorem ok_rows {rows : List (List Int)} : (D.lst (rows.map rD)).ok = true := by
  refine gd_ok ?_ ?_
  · rw [D.gd]
    exact gds_iff.mpr fun d hd => by obtain ⟨r, _, rfl⟩ := List.mem_map.mp hd; exact gd_ints
  · rw [D.dp]
    exact Nat.le_trans (Nat.succ_le_succ (dps_le.mpr fun d hd => by obtain ⟨r, _, rfl⟩ := List.mem_map.mp hd; exact dp_ints)) (show 1 + 1 ≤ 64 by decide)
theorem Sup.put' {O O2 : Om} {p : Addr} {o : Ow} (h : Sup O O2) (hp : O p = none) : Sup O (O2.put p o) := fun a u q => by
  have ne : a ≠ p := by rintro rfl; rw [hp] at q; cases q
  rw [Om.put_ne ne]; exact h a u q
/-- what may follow -/
def fA (p : Option (List Int)) (n : Int) : Bool := match p with
  | none => true
  | some q => !decide (q.filter (fun o => decide (o ≤ n)) = [])
def fB (p : Option (List Int)) (n : Int) : Bool := match p with
  | none => true
  | some q => !decide (q.filter (fun o => decide (n ≤ o)) = [])
def chs (g : Option (List Int) → Int → Bool) : Option (List Int) → List (List Int) → List (List Int)
  | _, [] => []
  | p, row :: rows => row.filter (g p) :: chs g (some (row.filter (g p))) rows
theorem chs_len {g : Option (List Int) → Int → Bool} : ∀ {rows : List (List Int)} {p : Option (List Int)}, (chs g p rows).length = rows.length
  | [], _ => rfl
  | row :: rows, p => by rw [chs, List.length_cons, List.length_cons, chs_len]
abbrev aheads (rows : List (List Int)) : List (List Int) := chs fA none rows
abbrev behinds (rows : List (List Int)) : List (List Int) := (chs fB none rows.reverse).reverse
def chained (rows : List (List Int)) : List (List Int) := (List.range rows.length).map fun k => ((aheads rows).getD k []).filter fun n => decide (n ∈ (behinds rows).getD k [])
/-- the scope of a comprehension whose own name is seen from within -/
abbrev scIn (ys : List Str) : Scope := { kind := .function, names := (".0", .local) :: ("_law_one_here", .cell) :: ys.map fun y => (y, .cell), isGenerator := false, isCoroutine := false }
abbrev scK (ys : List Str) : Scope := { kind := .function, names := (".0", .local) :: ("_law_k", .cell) :: ys.map fun y => (y, .cell), isGenerator := false, isCoroutine := false }
theorem ones_nil {q : List Int} {p : Int → Bool} : decide (((q.filter p).map fun _ => D.int 1) = []) = decide (q.filter p = []) := decide_eq_decide.mpr List.map_eq_nil_iff
section
variable {P : Program} {w : World} {K : PySem.W.Frag} {mg : Str → Option Value} {base : Heap}
def S__law_chained : SpD := fun ds O Q _ => ∃ rows : List (List Int), ds = [.lst (rows.map rD)] ∧ rows.length ≤ 1000 ∧ (∀ row ∈ rows, row.length ≤ 1000) ∧ Q (.lst ((chained rows).map rD)) O
theorem S__law_chained_len {ds O Q QE} (h : S__law_chained ds O Q QE) : ds.length = 1 := by obtain ⟨i, e, _⟩ := h; rw [e]; rfl
theorem f__law_chained (W : Wd P w K mg base) : Fg P w K mg base .cold 1 "_law_chained" S__law_chained := by
  refine W.fg 69 (d := d__law_chained) sc__law_chained rfl rfl (by decide +kernel) rfl (fun _ _ _ _ _ _ us hl => match us, hl with | [_], _ => rfl) (fun ds O Q QE h => S__law_chained_len h) ?_
  rintro cdv A outer s H E F0 ds O Q QE hm hr xe ⟨rows, rfl, hl, hr2, q⟩
  have nd : N__law_chained.Nodup := by decide
  have ht : Heat (cxB P w K mg base N__law_chained d__law_chained.qual (defScope d__law_chained.st) (d__law_chained.pa.ad K) cdv A outer s H E) := .inl hm
  refine ss_cons (s_asg ?_)
  refine ev_tup ?_
  refine av_cons ?_
  refine ev_lstO ?_
  refine av_nil ?_
  refine ⟨by decide, fun pa ha => ?_⟩
  refine av_cons ?_
  refine ev_lstO ?_
  refine av_nil ?_
  refine ⟨by decide, fun pb hb => ?_⟩
  refine av_nil ?_
  refine ⟨by show 2 ≤ 100000; decide, ?_⟩
  have hb0 : O pb = none := by
    cases z : O pb with
    | none => rfl
    | some u => have := Sup.put (o := .lst []) ha pb u z; rw [hb] at this; cases this
  have hab : pa ≠ pb := by rintro rfl; rw [Om.put_same] at hb; cases hb
  refine gv_tup ht (.inl rfl) (gvs_cons (gv_name (i := 1) (gvs_cons (gv_name (i := 2) (gvs_nil ?_) nd)) nd))
  have sup0 : Sup O ((O.put pa (.lst [])).put pb (.lst [])) := ((Sup.refl O).put' ha).put' hb0
  refine ss_cons (s_for po_b ht (iv_val (ev_name (i := 0) rfl ⟨_, rfl, ?_⟩)))
  refine ⟨fun i r2 O2 => ∃ (fd : List (List Int)) (v : Option D), r2 = [some (.lst (rows.map rD)), some (.adr pa), some (.adr pb), v, none, none, none] ∧ Sup O O2 ∧ O2 pa = some (.lst (fd.map rD)) ∧ O2 pb = some (.lst []) ∧ aheads rows = fd ++ chs fA fd.getLast? (rows.drop i) ∧ fd.length = i ∧ ∀ a ∈ fd, a.length ≤ 1000, ⟨[], none, rfl, sup0, by rw [Om.put_ne hab, Om.put_same]; rfl, Om.put_same, rfl, rfl, nofun⟩, ?_, ?_⟩
  · rintro i d r2 O2 hi ⟨fd, v, rfl, sp0, hpa, hpb, hsw, hfd, hfl⟩
    rw [List.getElem?_map] at hi
    cases hg : rows[i]? with
    | none => rw [hg] at hi; cases hi
    | some row =>
      rw [hg] at hi
      cases hi
      have hil : i < rows.length := (List.getElem?_eq_some_iff.mp hg).1
      have hrow := hr2 row (List.mem_of_getElem? hg)
      have hdr : rows.drop i = row :: rows.drop (i + 1) := by
        rw [List.drop_eq_getElem_cons hil]
        congr 1
        rw [List.getElem?_eq_getElem hil] at hg
        exact Option.some.inj hg
      rw [hdr, chs] at hsw
      refine gv_name (i := 3) ?_ nd
      refine ss_cons (s_expr (ev_bm PySem.F.plainAttrs_list PySem.F.slot_list_append PySem.F.type_list_append (ev_name (i := 1) rfl ⟨⟨rfl, _, hpa⟩, ?_⟩)))
      refine av_cons ?_
      refine ev_lcm D.int decI decI_e [("_law_one_here", 4)] nd ht (iv_val (ev_name (i := 3) rfl ⟨_, rfl, row, fun n => if fA fd.getLast? n then some (.int n) else none, rfl, by omega, ?_, ?_⟩)) (show BlkOk N__law_chained (defScope d__law_chained.st) _ _ from blkOk_by (by decide +kernel))
      · rw [fm_if]
        refine av_nil (md_append hpa (by rw [List.length_map]; omega) (ss_nil ?_))
        refine ⟨fd ++ [row.filter (fA fd.getLast?)], _, rfl, sp0.put' ha, ?_, by rw [Om.put_ne (Ne.symm hab)]; exact hpb, ?_, by rw [List.length_append, hfd]; rfl, ?_⟩
        · rw [Om.put_same, List.map_append]; rfl
        · rw [hsw, List.append_assoc, List.getLast?_append]; rfl
        · intro a ha2
          rcases List.mem_append.mp ha2 with z | z
          · exact hfl a z
          · rw [List.mem_singleton.mp z]; exact Nat.le_trans (List.length_filter_le _ _) hrow
      · intro s H C cl fp hh O3 sp n hn
        refine bd_if (i := 4) ?_ (fun _ => ev_name (i := 4) rfl ⟨rfl, rfl⟩) nd
        refine tv_w ?_
        refine tw_or ?_
        refine tv_cmp ?_
        refine ev_name (i := 1) rfl ?_
        refine ev_lst ?_
        refine av_nil ?_
        refine ⟨by decide, ?_⟩
        refine ⟨_, od_eq_own (sp _ _ hpa) hr.u64 ok_rows ok_nil, ?_⟩
        rw [eqv_nil]
        cases hq : fd.getLast? with
        | none =>
          have e0 : fd = [] := List.getLast?_eq_none_iff.mp hq
          refine ⟨fun z => absurd z (by rw [e0]; simp), fun _ => ⟨rfl, rfl⟩⟩
        | some q0 =>
          have ne0 : fd ≠ [] := by rintro e; rw [e] at hq; cases hq
          refine ⟨fun _ => ?_, fun z => absurd z (by simp [ne0])⟩
          have hq0 := hfl q0 (List.mem_of_getLast? hq)
          refine tw_or1 ?_
          refine tv_cmp ?_
          refine ev_lcm D.int decI decI_e [("_law_other", 5)] nd hh (iv_val ?_) (by exact blkOk_by (by show blkC N__law_chained (scIn ["_law_ahead"]) _ _ = true; decide +kernel))
          refine ev_ix ?_
          refine ev_name (i := 1) rfl ?_
          refine ev_un ?_
          refine ev_int ?_
          refine ⟨_, ud_neg, ?_⟩
          refine ⟨_, xd_own (sp _ _ hpa) (atI_last (x := rD q0) (by rw [List.getLast?_map, hq]; rfl)), ?_⟩
          refine ⟨_, rfl, q0, fun o => if decide (o ≤ n) then some (.int 1) else none, rfl, by omega, ?_, ?_⟩
          · rw [fm_if]
            refine ev_lst ?_
            refine av_nil ?_
            refine ⟨by decide, ?_⟩
            refine ⟨_, od_ne hr.u64 (show (D.lst ((q0.filter fun o => decide (o ≤ n)).map fun _ => D.int 1)).ok = true from ?_) ok_nil, ?_⟩
            · rw [show ((q0.filter fun o => decide (o ≤ n)).map fun _ => D.int 1) = ((q0.filter fun o => decide (o ≤ n)).map fun _ => (1 : Int)).map D.int by rw [List.map_map]; rfl]
              exact ok_ints
            rw [eqv_nil, ones_nil]
            exact ⟨rfl, rfl⟩
          · intro s2 H2 C2 cl2 fp2 hh2 O4 sp2 o ho
            refine bd_if (i := 5) ?_ (fun _ => ev_int ⟨rfl, rfl⟩) nd
            refine tv_cmp ?_
            refine ev_name (i := 5) rfl ?_
            refine ev_name (i := 4) rfl ?_
            exact ⟨_, od_le, rfl, rfl⟩
  rintro r2 O2 ⟨fd, v, rfl, sp0, hpa, hpb, hsw, hfd, hfl⟩
  rw [List.length_map, List.drop_length, chs, List.append_nil] at hsw
  subst hsw
  have hr3 : ∀ row ∈ rows.reverse, row.length ≤ 1000 := fun row h => hr2 row (List.mem_reverse.mp h)
  refine ss_cons (s_for po_b ht (iv_val (ev_rev (ev_name (i := 0) rfl ⟨_, .inl rfl, _, rfl, ?_⟩))))
  rw [← List.map_reverse]
  refine ⟨fun i r2 O3 => ∃ (fd : List (List Int)) (v v0 : Option D), r2 = [some (.lst (rows.map rD)), some (.adr pa), some (.adr pb), v, none, none, none] ∧ Sup O O3 ∧ O3 pa = some (.lst ((aheads rows).map rD)) ∧ O3 pb = some (.lst (fd.map rD)) ∧ chs fB none rows.reverse = fd ++ chs fB fd.getLast? (rows.reverse.drop i) ∧ fd.length = i ∧ ∀ a ∈ fd, a.length ≤ 1000, ⟨[], v, none, rfl, sp0, hpa, hpb, rfl, rfl, nofun⟩, ?_, ?_⟩
  · rintro i d r2 O2 hi ⟨fd, v, v0, rfl, sp0, hpa, hpb, hsw, hfd2, hfl2⟩
    rw [List.getElem?_map] at hi
    cases hg : rows.reverse[i]? with
    | none => rw [hg] at hi; cases hi
    | some row =>
      rw [hg] at hi
      cases hi
      have hil : i < rows.reverse.length := (List.getElem?_eq_some_iff.mp hg).1
      have hil2 : i < rows.length := by rw [List.length_reverse] at hil; exact hil
      have hrow := hr3 row (List.mem_of_getElem? hg)
      have hdr : rows.reverse.drop i = row :: rows.reverse.drop (i + 1) := by
        rw [List.drop_eq_getElem_cons hil]
        congr 1
        rw [List.getElem?_eq_getElem hil] at hg
        exact Option.some.inj hg
      rw [hdr, chs] at hsw
      refine gv_name (i := 3) ?_ nd
      refine ss_cons (s_expr (ev_bm PySem.F.plainAttrs_list PySem.F.slot_list_append PySem.F.type_list_append (ev_name (i := 2) rfl ⟨⟨rfl, _, hpb⟩, ?_⟩)))
      refine av_cons ?_
      refine ev_lcm D.int decI decI_e [("_law_one_here", 4)] nd ht (iv_val (ev_name (i := 3) rfl ⟨_, rfl, row, fun n => if fB fd.getLast? n then some (.int n) else none, rfl, by omega, ?_, ?_⟩)) (show BlkOk N__law_chained (defScope d__law_chained.st) _ _ from blkOk_by (by decide +kernel))
      · rw [fm_if]
        refine av_nil (md_append hpb (by rw [List.length_map]; omega) (ss_nil ?_))
        refine ⟨fd ++ [row.filter (fB fd.getLast?)], _, none, rfl, sp0.put' hb0, by rw [Om.put_ne hab]; exact hpa, ?_, ?_, by rw [List.length_append, hfd2]; rfl, ?_⟩
        · rw [Om.put_same, List.map_append]; rfl
        · rw [hsw, List.append_assoc, List.getLast?_append]; rfl
        · intro a ha2
          rcases List.mem_append.mp ha2 with z | z
          · exact hfl2 a z
          · rw [List.mem_singleton.mp z]; exact Nat.le_trans (List.length_filter_le _ _) hrow
      · intro s H C cl fp hh O3 sp n hn
        refine bd_if (i := 4) ?_ (fun _ => ev_name (i := 4) rfl ⟨rfl, rfl⟩) nd
        refine tv_w ?_
        refine tw_or ?_
        refine tv_cmp ?_
        refine ev_name (i := 2) rfl ?_
        refine ev_lst ?_
        refine av_nil ?_
        refine ⟨by decide, ?_⟩
        refine ⟨_, od_eq_own (sp _ _ hpb) hr.u64 ok_rows ok_nil, ?_⟩
        rw [eqv_nil]
        cases hq : fd.getLast? with
        | none =>
          have e0 : fd = [] := List.getLast?_eq_none_iff.mp hq
          refine ⟨fun z => absurd z (by rw [e0]; simp), fun _ => ⟨rfl, rfl⟩⟩
        | some q0 =>
          have ne0 : fd ≠ [] := by rintro e; rw [e] at hq; cases hq
          refine ⟨fun _ => ?_, fun z => absurd z (by simp [ne0])⟩
          have hq0 := hfl2 q0 (List.mem_of_getLast? hq)
          refine tw_or1 ?_
          refine tv_cmp ?_
          refine ev_lcm D.int decI decI_e [("_law_other", 5)] nd hh (iv_val ?_) (by exact blkOk_by (by show blkC N__law_chained (scIn ["_law_behind_here"]) _ _ = true; decide +kernel))
          refine ev_ix ?_
          refine ev_name (i := 2) rfl ?_
          refine ev_un ?_
          refine ev_int ?_
          refine ⟨_, ud_neg, ?_⟩
          refine ⟨_, xd_own (sp _ _ hpb) (atI_last (x := rD q0) (by rw [List.getLast?_map, hq]; rfl)), ?_⟩
          refine ⟨_, rfl, q0, fun o => if decide (n ≤ o) then some (.int 1) else none, rfl, by omega, ?_, ?_⟩
          · rw [fm_if]
            refine ev_lst ?_
            refine av_nil ?_
            refine ⟨by decide, ?_⟩
            refine ⟨_, od_ne hr.u64 (show (D.lst ((q0.filter fun o => decide (n ≤ o)).map fun _ => D.int 1)).ok = true from ?_) ok_nil, ?_⟩
            · rw [show ((q0.filter fun o => decide (n ≤ o)).map fun _ => D.int 1) = ((q0.filter fun o => decide (n ≤ o)).map fun _ => (1 : Int)).map D.int by rw [List.map_map]; rfl]
              exact ok_ints
            rw [eqv_nil, ones_nil]
            exact ⟨rfl, rfl⟩
          · intro s2 H2 C2 cl2 fp2 hh2 O4 sp2 o ho
            refine bd_if (i := 5) ?_ (fun _ => ev_int ⟨rfl, rfl⟩) nd
            refine tv_cmp ?_
            refine ev_name (i := 4) rfl ?_
            refine ev_name (i := 5) rfl ?_
            exact ⟨_, od_le, rfl, rfl⟩
  rintro r2 O2 ⟨fd, v, v0, rfl, sp0, hpa, hpb, hsw, hfd2, hfl2⟩
  rw [List.length_map, List.drop_length, chs, List.append_nil] at hsw
  refine ss_cons (s_set (i := 2) (ev_rev (ev_name (i := 2) rfl ⟨_, .inr ⟨pb, rfl, hpb⟩, ?_⟩)) nd)
  rw [← List.map_reverse, ← hsw]
  have la : (aheads rows).length = rows.length := chs_len
  have lb : (behinds rows).length = rows.length := by rw [List.length_reverse, chs_len, List.length_reverse]
  refine ss_cons (s_ret (ev_drop (ev_lcm D.int decI decI_e [("_law_k", 6)] nd ht (iv_range1 ?_ (W.fre _ (by decide +kernel))) (show BlkOk N__law_chained (defScope d__law_chained.st) _ _ from blkOk_by (by decide +kernel)))))
  refine ev_blt ?_ (W.fre _ (by decide +kernel)) boot_len
  refine av_cons ?_
  refine ev_name (i := 0) rfl ?_
  refine av_nil ?_
  refine cl_len_lst ?_
  refine ⟨_, rfl, ⟨by omega, by rw [List.length_map]; omega⟩, ?_⟩
  rw [List.length_map, show ((rows.length : Nat) : Int).toNat = rows.length from rfl]
  refine ⟨rngI 0 rows.length, fun k => some (rD (((aheads rows).getD k.toNat []).filter fun n => decide (n ∈ (behinds rows).getD k.toNat []))), rngD_I, by simp; omega, ?_, ?_⟩
  · rw [fm_some]
    refine ⟨O, sp0, lq ?_ q⟩
    unfold chained
    rw [List.map_map, List.map_map]
    refine List.map_congr_left fun k _ => ?_
    have e : (((0 : Nat) : Int) + (k : Int)).toNat = k := by omega
    show rD (List.filter (fun n => decide (n ∈ (behinds rows).getD k [])) ((aheads rows).getD k [])) = rD (List.filter (fun n => decide (n ∈ (behinds rows).getD (((0 : Nat) : Int) + (k : Int)).toNat [])) ((aheads rows).getD (((0 : Nat) : Int) + (k : Int)).toNat []))
    rw [e]
  · intro s H C cl fp hh O3 sp k hk
    obtain ⟨j, rfl, hj⟩ := rng0 hk
    have gA : (aheads rows)[j]? = some ((aheads rows).getD j []) := by rw [List.getD_eq_getElem?_getD, List.getElem?_eq_getElem (show j < (aheads rows).length by omega)]; rfl
    have gB : (behinds rows)[j]? = some ((behinds rows).getD j []) := by rw [List.getD_eq_getElem?_getD, List.getElem?_eq_getElem (show j < (behinds rows).length by omega)]; rfl
    have hA : ((aheads rows).getD j []).length ≤ 1000 := hfl _ (List.mem_of_getElem? gA)
    refine bd_name (i := 6) ?_ nd
    refine ev_lcm D.int decI decI_e [("_law_one_here", 4)] nd hh (iv_val ?_) (by exact blkOk_by (by show blkC N__law_chained (scK ["_law_ahead", "_law_behind_here"]) _ _ = true; decide +kernel))
    refine ev_ix (ev_name (i := 1) rfl (ev_name (i := 6) rfl ⟨_, xd_own (sp _ _ hpa) (atI_nat (getmap gA)), ?_⟩))
    refine ⟨_, rfl, (aheads rows).getD j [], fun n => if decide (n ∈ (behinds rows).getD j []) then some (.int n) else none, rfl, by omega, ?_, ?_⟩
    · rw [fm_if]
      exact ⟨rfl, rfl⟩
    · intro s2 H2 C2 cl2 fp2 hh2 O4 sp2 o ho
      refine bd_if (i := 4) ?_ (fun _ => ev_name (i := 4) rfl ⟨rfl, rfl⟩) nd
      refine tv_cmp ?_
      refine ev_name (i := 4) rfl ?_
      refine ev_ix ?_
      refine ev_name (i := 2) rfl ?_
      refine ev_name (i := 6) rfl ?_
      refine ⟨_, xd_lst (atI_nat (getmap gB)), ?_⟩
      exact ⟨_, od_in_ints, rfl, rfl⟩
end
end K97
/-! # Walk XI: what is seen has a chain; the law's behind -/
namespace K97
open PySem PySem.Spec PyProof.Rows L2 TL
theorem chs_in {g : Option (List Int) → Int → Bool} {R : Int → Int → Prop} (hg : ∀ (q : List Int) (o n : Int), o ∈ q → R o n → g (some q) n = true) : ∀ {rows : List (List Int)} {xs : List Int} {p : Option (List Int)}, rows.length = xs.length → (∀ (i : Nat) (row : List Int) (x : Int), rows[i]? = some row → xs[i]? = some x → x ∈ row) → xs.Pairwise R → (∀ x, xs.head? = some x → g p x = true) →
    ∀ (i : Nat) (x : Int), xs[i]? = some x → ∃ a, (chs g p rows)[i]? = some a ∧ x ∈ a
  | [], [], _, _, _, _, _, i, x, h => by simp at h
  | [], _ :: _, _, h, _, _, _, _, _, _ => by cases h
  | _ :: _, [], _, h, _, _, _, _, _, _ => by cases h
  | row :: rows, x :: xs, p, hl, hm, hp, h0, i, y, hy => by
    obtain ⟨p1, p2⟩ := List.pairwise_cons.mp hp
    have hx : x ∈ row.filter (g p) := List.mem_filter.mpr ⟨hm 0 row x rfl rfl, h0 x rfl⟩
    rw [chs]
    cases i with
    | zero => simp at hy; subst hy; exact ⟨_, rfl, hx⟩
    | succ i =>
      obtain ⟨a, e1, e2⟩ := chs_in hg (rows := rows) (xs := xs) (p := some (row.filter (g p))) (by simpa using hl) (fun i row x hs hx => hm (i + 1) row x (by simpa using hs) (by simpa using hx)) p2 (fun z hz => hg _ x z hx (p1 z (List.mem_of_head? hz))) i y (by simpa using hy)
      exact ⟨a, by simpa using e1, e2⟩
theorem fA_some {q : List Int} {o n : Int} (h : o ∈ q) (hr : o ≤ n) : fA (some q) n = true := by
  have : o ∈ q.filter fun o => decide (o ≤ n) := List.mem_filter.mpr ⟨h, decide_eq_true hr⟩
  show (!decide (q.filter (fun o => decide (o ≤ n)) = [])) = true
  rw [decide_eq_false (fun z => by rw [z] at this; cases this)]; rfl
theorem fB_some {q : List Int} {o n : Int} (h : o ∈ q) (hr : n ≤ o) : fB (some q) n = true := by
  have : o ∈ q.filter fun o => decide (n ≤ o) := List.mem_filter.mpr ⟨h, decide_eq_true hr⟩
  show (!decide (q.filter (fun o => decide (n ≤ o)) = [])) = true
  rw [decide_eq_false (fun z => by rw [z] at this; cases this)]; rfl
/-- rows with a chain: none is left empty -/
theorem chained_ne {rows : List (List Int)} {xs : List Int} (hl : rows.length = xs.length) (hm : ∀ (i : Nat) (row : List Int) (x : Int), rows[i]? = some row → xs[i]? = some x → x ∈ row) (hp : xs.Pairwise (· ≤ ·)) : ∀ r ∈ chained rows, r ≠ [] := by
  intro r hr
  obtain ⟨k, hk, rfl⟩ := List.mem_map.mp hr
  have hk := List.mem_range.mp hk
  have hx := List.getElem?_eq_getElem (show k < xs.length by omega)
  obtain ⟨a, a1, a2⟩ := chs_in (g := fA) (R := fun a b => a ≤ b) (fun q o n h hr => fA_some h hr) (p := none) hl hm hp (fun _ _ => rfl) k _ hx
  have hx2 : xs.reverse[rows.length - 1 - k]? = some xs[k] := by
    rw [List.getElem?_reverse (by omega), show xs.length - 1 - (rows.length - 1 - k) = k by omega]; exact hx
  obtain ⟨b, b1, b2⟩ := chs_in (g := fB) (R := fun a b => b ≤ a) (fun q o n h hr => fB_some h hr) (rows := rows.reverse) (xs := xs.reverse) (p := none) (by simp [hl]) (fun j row x hs hx => by
      have hj : j < rows.reverse.length := (List.getElem?_eq_some_iff.mp hs).1
      rw [List.length_reverse] at hj
      rw [List.getElem?_reverse (by omega)] at hs
      rw [List.getElem?_reverse (by omega)] at hx
      rw [← hl] at hx
      exact hm _ row x hs hx) (List.pairwise_reverse.mpr hp) (fun _ _ => rfl) _ _ hx2
  have hb : (behinds rows)[k]? = some b := by
    show (chs fB none rows.reverse).reverse[k]? = some b
    rw [List.getElem?_reverse (by rw [chs_len, List.length_reverse]; exact hk), chs_len, List.length_reverse]
    exact b1
  intro z
  have hmem : xs[k] ∈ ((aheads rows).getD k []).filter fun n => decide (n ∈ (behinds rows).getD k []) := by
    rw [List.getD_eq_getElem?_getD, List.getD_eq_getElem?_getD, show (aheads rows)[k]? = some a from a1, hb]
    exact List.mem_filter.mpr ⟨a2, decide_eq_true b2⟩
  rw [z] at hmem
  cases hmem
theorem by_of_nums {f : Int} {ch : List (Int × Int)} {b s : Int × Int} {n : Int} (hu : Up ch) (h : n ∈ numsOf f ch b s) : n ∈ byN f ch (wins (ch.map (·.1)) b) s := by
  obtain ⟨h1, h2, h3⟩ := nums_mem.mp h
  have hh := highN_le (ch := ch) (b := b) (t := s.1)
  obtain ⟨k, rfl⟩ := Int.eq_ofNat_of_zero_le (show 0 ≤ n by omega)
  have hk : k ≤ ch.length := by omega
  refine List.mem_filter.mpr ⟨List.mem_filter.mpr ⟨List.mem_map.mpr ⟨k, List.mem_range.mpr (by omega), by show ((0 : Nat) : Int) + (k : Int) = (k : Int); omega⟩, decide_eq_true h3⟩, ?_⟩
  have e : wAt (wins (ch.map (·.1)) b) (k : Int) = (winB ch b k, winE ch b k) := by
    have h1 := wAt_some (ws := wins (ch.map (·.1)) b) (n := k) (by rw [wins_len, List.length_map]; omega)
    rw [wins_at hk] at h1
    exact (Option.some.inj h1).symm
  show inW (wAt _ (k : Int)) s.1 = true
  rw [e]
  exact (win_in hu hk).mpr ⟨by omega, by omega⟩
abbrev rowsOf (f : Int) (ch : List (Int × Int)) (b : Int × Int) (ss : List (Int × Int)) : List (List Int) := ss.map (byN f ch (wins (ch.map (·.1)) b))
theorem seen_ne {f : Int} {ch : List (Int × Int)} {b : Int × Int} {ss : List (Int × Int)} (hu : Up ch) (h : Seen f ch b ss) : ∀ r ∈ chained (rowsOf f ch b ss), r ≠ [] := by
  obtain ⟨a1, a2, a3, a4⟩ := (chn_of h).facts
  refine chained_ne (xs := sweep f ch b 0 ss) (by rw [List.length_map]; exact a1) (fun i row x hs hx => ?_) a3
  rw [List.getElem?_map] at hs
  cases g : ss[i]? with
  | none => rw [g] at hs; cases hs
  | some s =>
    rw [g] at hs
    cases hs
    exact by_of_nums hu (a2 i s x g hx)
theorem byN_len {f : Int} {ch : List (Int × Int)} {ws : List Win} {s : Int × Int} : (byN f ch ws s).length ≤ ch.length + 1 := by
  refine Nat.le_trans (List.length_filter_le _ _) (Nat.le_trans (List.length_filter_le _ _) ?_)
  simp
section
variable {P : Program} {w : World} {K : PySem.W.Frag} {mg : Str → Option Value} {base : Heap}
def S__law_seen : SpD := fun ds O Q _ => ∃ f ch b, ∃ ss : List (Int × Int), ds = [bkT f ch, .lst ((wins (ch.map (·.1)) b).map wD), .lst (ss.map pD)] ∧ ch.length ≤ 200 ∧ ss.length ≤ 1000 ∧ Up ch ∧ Seen f ch b ss ∧ Q (.lst ((chained (rowsOf f ch b ss)).map rD)) O
theorem S__law_seen_len {ds O Q QE} (h : S__law_seen ds O Q QE) : ds.length = 3 := by obtain ⟨i, _, _, _, e, _⟩ := h; rw [e]; rfl
theorem f__law_seen (W : Wd P w K mg base) : Fg P w K mg base .cold 3 "_law_seen" S__law_seen := by
  refine W.fg 70 (d := d__law_seen) sc__law_seen rfl rfl (by decide +kernel) rfl (fun _ _ _ _ _ _ us hl => match us, hl with | [_, _, _], _ => rfl) (fun ds O Q QE h => S__law_seen_len h) ?_
  rintro cdv A outer s H E F0 ds O Q QE hm hr xe ⟨f, ch, b, ss, rfl, hl, hs, hu, hsn, q⟩
  have nd : N__law_seen.Nodup := by decide
  have ht : Heat (cxB P w K mg base N__law_seen d__law_seen.qual (defScope d__law_seen.st) (d__law_seen.pa.ad K) cdv A outer s H E) := .inl hm
  refine ss_cons (s_set (i := 3) ?_ nd)
  refine ev_call (f__law_chained W) (hr.mono (by decide)) hm xer0 ?_
  refine av_cons ?_
  refine ev_lcm pD decP decP_e [("_law_sighting", 4)] nd ht (iv_val (ev_name (i := 2) rfl ⟨_, rfl, ss, fun s => some (rD (byN f ch (wins (ch.map (·.1)) b) s)), rfl, by omega, ?_, ?_⟩)) (show BlkOk N__law_seen (defScope d__law_seen.st) _ _ from blkOk_by (by decide +kernel))
  rotate_left
  · intro s H C cl fp hh O2 sp c hc
    refine bd_name (i := 4) ?_ nd
    refine ev_call (f__law_numbers_by W) (hr.mono (by decide)) hm xer0 ?_
    refine av_cons ?_
    refine ev_name (i := 0) rfl ?_
    refine av_cons ?_
    refine ev_name (i := 1) rfl ?_
    refine av_cons ?_
    refine ev_name (i := 4) rfl ?_
    refine av_nil ?_
    exact ⟨f, ch, _, c, rfl, hl, by rw [wins_len, List.length_map], rfl, rfl⟩
  rw [fm_some]
  refine av_nil ⟨rowsOf f ch b ss, by rw [List.map_map]; rfl, by rw [List.length_map]; exact hs, fun row hr => ?_, ?_⟩
  · obtain ⟨s, _, rfl⟩ := List.mem_map.mp hr
    exact Nat.le_trans byN_len (by omega)
  have hne := seen_ne hu hsn
  generalize chained (rowsOf f ch b ss) = rows at hne q ⊢
  refine ss_cons (s_ret ?_)
  refine ev_if ?_
  refine tv_cmp ?_
  refine ev_lst ?_
  refine av_nil ?_
  refine ⟨by decide, ?_⟩
  refine ev_name (i := 3) rfl ?_
  refine ⟨_, od_in_rows (by have := hr.un; omega) ok_nil ok_rows, ?_⟩
  have e : ((rows.map rD).any fun z => PyData.eqv z.pd (D.lst []).pd) = false := by
    rw [List.any_eq_false]
    intro z hz
    obtain ⟨r, hr, rfl⟩ := List.mem_map.mp hz
    have := hne r hr
    rw [eqv_nil]
    simpa using this
  rw [e]
  exact ⟨nofun, fun _ => ev_name (i := 3) rfl q⟩
abbrev Seen2 (f : Int) (bl bt : Int × Int) (x : Ss) : Prop := Seen f x.ch bl x.sl ∧ Seen f x.ch bt x.st
structure SsOk (x : Ss) : Prop where
  up : Up x.ch
  lc : x.ch.length ≤ 100
  l1 : x.sl.length ≤ 900
  l2 : x.st.length ≤ 900
def S__law_shop_can : SpD := fun ds O Q _ => ∃ f bl bt, ∃ (x : Ss), ds = [lsD f bl bt x] ∧ SsOk x ∧ Seen2 f bl bt x ∧ Q (.bl true) O
theorem S__law_shop_can_len {ds O Q QE} (h : S__law_shop_can ds O Q QE) : ds.length = 1 := by obtain ⟨i, _, _, _, e, _⟩ := h; rw [e]; rfl
theorem f__law_shop_can (W : Wd P w K mg base) : Fg P w K mg base .cold 4 "_law_shop_can" S__law_shop_can := by
  refine W.fg 74 (d := d__law_shop_can) sc__law_shop_can rfl rfl (by decide +kernel) rfl (fun _ _ _ _ _ _ us hl => match us, hl with | [_], _ => rfl) (fun ds O Q QE h => S__law_shop_can_len h) ?_
  rintro cdv A outer s H E F0 ds O Q QE hm hr xe ⟨f, bl, bt, x, rfl, ok, hsn, q⟩
  have nd : N__law_shop_can.Nodup := by decide
  have ht : Heat (cxB P w K mg base N__law_shop_can d__law_shop_can.qual (defScope d__law_shop_can.st) (d__law_shop_can.pa.ad K) cdv A outer s H E) := .inl hm
  have lc := ok.lc
  refine ss_cons (s_for po_b ht (iv_val ?_))
  refine ev_tup ?_
  refine av_cons ?_
  refine ev_str ?_
  refine av_cons ?_
  refine ev_str ?_
  refine av_nil ?_
  refine ⟨by show 2 ≤ 100000; decide, _, rfl, ?_⟩
  refine ⟨fun i r2 O2 => O2 = O ∧ ∃ v, r2 = [some (lsD f bl bt x), v], ⟨rfl, none, rfl⟩, ?_, ?_⟩
  · rintro i d r2 O2 hi ⟨rfl, v, rfl⟩
    obtain ⟨pl, hp, rfl⟩ : ∃ pl ∈ plcs, d = .str pl := by
      have := List.mem_of_getElem? hi
      simp only [List.mem_cons, List.not_mem_nil, or_false] at this
      rcases this with rfl | rfl
      · exact ⟨"label", by simp, rfl⟩
      · exact ⟨"till", by simp, rfl⟩
    have hseen : Seen f x.ch (pick pl bl bt) (pick pl x.sl x.st) := by
      unfold pick
      split
      · exact hsn.1
      · exact hsn.2
    have hlen : (pick pl x.sl x.st).length ≤ 1000 := by
      have h1 := ok.l1
      have h2 := ok.l2
      unfold pick; split <;> omega
    refine gv_name (i := 1) ?_ nd
    refine ss_cons (s_if ?_)
    refine tv_cmp ?_
    refine ev_call (f__law_seen W) (hr.mono (by decide)) hm xer0 ?_
    refine av_cons ?_
    refine ev_tup ?_
    refine av_cons ?_
    refine ev_ix ?_
    refine ev_name (i := 0) rfl ?_
    refine ev_int ?_
    refine ⟨_, xd_tup (d := .int f) rfl, ?_⟩
    refine av_cons ?_
    refine ev_ix ?_
    refine ev_name (i := 0) rfl ?_
    refine ev_int ?_
    refine ⟨_, xd_tup (d := .lst (x.ch.map pD)) rfl, ?_⟩
    refine av_nil ?_
    refine ⟨by show 2 ≤ 100000; decide, ?_⟩
    refine av_cons ?_
    refine ev_call (f__law_shop_windows W) (hr.mono (by decide)) hm xer0 ?_
    refine av_cons ?_
    refine ev_name (i := 0) rfl ?_
    refine av_cons ?_
    refine ev_name (i := 1) rfl ?_
    refine av_nil ?_
    refine ⟨f, bl, bt, x, pl, rfl, hp, by omega, ?_⟩
    refine av_cons (ev_dget hr ?_)
    refine ev_ix ?_
    refine ev_name (i := 0) rfl ?_
    refine ev_int ?_
    refine ⟨_, xd_tup (d := seenD x) rfl, ?_⟩
    refine ev_name (i := 1) rfl ?_
    refine ⟨_, _, _, _, rfl, rfl, pick_at hp (fun l => D.lst (l.map pD)) x.sl x.st, ?_⟩
    refine av_nil ?_
    refine ⟨f, x.ch, pick pl bl bt, pick pl x.sl x.st, rfl, by omega, hlen, ok.up, hseen, ?_⟩
    refine ev_non ?_
    exact ⟨_, od_isN, nofun, fun _ => ss_nil (ss_nil ⟨rfl, _, rfl⟩)⟩
  · rintro r2 O2 ⟨rfl, v, rfl⟩
    exact ss_cons (s_ret (ev_bl q))
def S__law_behind : SpD := fun ds O Q _ => ∃ f bl bt, ∃ (x : Ss) (d : Deed), ds = [lsD f bl bt x, dD d] ∧ d.1 ∈ kinds ∧ x.ch.length ≤ 50 ∧ x.sl.length ≤ 800 ∧ x.st.length ≤ 800 ∧ late x d = none ∧ Up (nextS x d).ch ∧ Seen2 f bl bt (nextS x d) ∧ Q (.tup [lsD f bl bt (nextS x d), .non]) O
theorem S__law_behind_len {ds O Q QE} (h : S__law_behind ds O Q QE) : ds.length = 2 := by obtain ⟨i, _, _, _, _, e, _⟩ := h; rw [e]; rfl
theorem f__law_behind (W : Wd P w K mg base) : Fg P w K mg base .cold 5 "_law_behind" S__law_behind := by
  refine W.fg 75 (d := d__law_behind) sc__law_behind rfl rfl (by decide +kernel) rfl (fun _ _ _ _ _ _ us hl => match us, hl with | [_, _], _ => rfl) (fun ds O Q QE h => S__law_behind_len h) ?_
  rintro cdv A outer s H E F0 ds O Q QE hm hr xe ⟨f, bl, bt, x, d, rfl, hk, lc, l1, l2, hn, hu, hsn, q⟩
  have nd : N__law_behind.Nodup := by decide
  have ht : Heat (cxB P w K mg base N__law_behind d__law_behind.qual (defScope d__law_behind.st) (d__law_behind.pa.ad K) cdv A outer s H E) := .inl hm
  have hcalm : (cxB P w K mg base N__law_behind d__law_behind.qual (defScope d__law_behind.st) (d__law_behind.pa.ad K) cdv A outer s H E).calm = true := by show A.handled.isNone = true; rw [show A.handled = none from hm]; rfl
  have ok2 : SsOk (nextS x d) := by
    refine ⟨hu, ?_, ?_, ?_⟩ <;> (unfold nextS; split <;> (try split) <;> simp <;> omega)
  have last : ∀ v, Ssv (cxB P w K mg base N__law_behind d__law_behind.qual (defScope d__law_behind.st) (d__law_behind.pa.ad K) cdv A outer s H E) F0 ((defBody d__law_behind.st).drop 3) [some (lsD f bl bt x), some (dD d), some (.str d.1), some (.int d.2.1), some (.int d.2.2), some (.int f), some (bdsD bl bt), some (.lst (x.ch.map pD)), some (seenD x), some (lsD f bl bt (nextS x d)), v] O { nx := fun _ O' => Q .non O', rt := Q } := fun v => by
    refine ss_cons (s_ret ?_)
    refine ev_if ?_
    refine tv_val ?_
    refine ev_call (f__law_shop_can W) (hr.mono (by decide)) hm xer0 ?_
    refine av_cons ?_
    refine ev_name (i := 9) rfl ?_
    refine av_nil ?_
    refine ⟨f, bl, bt, _, rfl, ok2, hsn, true, rfl, fun _ => ?_, nofun⟩
    refine ev_tup ?_
    refine av_cons ?_
    refine ev_name (i := 9) rfl ?_
    refine av_cons ?_
    refine ev_non ?_
    refine av_nil ?_
    exact ⟨by show 2 ≤ 100000; decide, q⟩
  refine ss_cons (s_asg (ev_name (i := 1) rfl (gv_tup ht (.inl rfl) (gvs_cons (gv_name (i := 2) (gvs_cons (gv_name (i := 3) (gvs_cons (gv_name (i := 4) (gvs_nil ?_) nd)) nd)) nd)))))
  refine ss_cons (s_asg (ev_name (i := 0) rfl (gv_tup ht (.inl rfl) (gvs_cons (gv_name (i := 5) (gvs_cons (gv_name (i := 6) (gvs_cons (gv_name (i := 7) (gvs_cons (gv_name (i := 8) (gvs_nil ?_) nd)) nd)) nd)) nd)))))
  refine ss_cons (s_if ?_)
  refine tv_cmp ?_
  refine ev_name (i := 2) rfl ?_
  refine ev_str ?_
  refine ⟨_, od_eqs, fun h => ?_, fun h => ?_⟩
  · have hw : d.1 = Str.ofString "change" := of_decide_eq_true h
    have en : nextS x d = { x with ch := x.ch ++ [d.2] } := by unfold nextS; rw [if_pos hw]
    have el : late x d = x.ch.getLast?.bind fun c => if d.2.1 ≤ c.1 then some (notLater x) else none := by unfold late; rw [if_pos hw]
    rw [el] at hn
    refine ss_mid (fun r1 O1 => O1 = O ∧ r1 = [some (lsD f bl bt x), some (dD d), some (.str d.1), some (.int d.2.1), some (.int d.2.2), some (.int f), some (bdsD bl bt), some (.lst (x.ch.map pD)), some (seenD x), none, none]) ?_ ?_
    · refine s_if ?_
      refine tv_w ?_
      refine tw_and ?_
      refine tv_cmp ?_
      refine ev_name (i := 7) rfl ?_
      refine ev_lst ?_
      refine av_nil ?_
      refine ⟨by decide, ?_⟩
      refine ⟨_, od_ne hr.u64 ok_pairs ok_nil, ?_⟩
      rw [eqv_nil]
      cases hq : x.ch.getLast? with
      | none =>
        have e0 : x.ch = [] := List.getLast?_eq_none_iff.mp hq
        exact ⟨fun z => absurd z (by rw [e0]; simp), fun _ => ⟨nofun, fun _ => ss_nil ⟨rfl, rfl⟩⟩⟩
      | some c =>
        rw [hq] at hn
        have hlt : ¬ d.2.1 ≤ c.1 := fun z => by
          have hn : (if d.2.1 ≤ c.1 then some (notLater x) else none) = none := hn
          rw [if_pos z] at hn; cases hn
        have ne0 : x.ch ≠ [] := by rintro e; rw [e] at hq; cases hq
        refine ⟨fun _ => ?_, fun z => absurd z (by simp [ne0])⟩
        refine tw_and1 ?_
        refine tv_cmp ?_
        refine ev_name (i := 3) rfl ?_
        refine ev_ix ?_
        refine ev_ix ?_
        refine ev_name (i := 7) rfl ?_
        refine ev_un ?_
        refine ev_int ?_
        refine ⟨_, ud_neg, ?_⟩
        refine ⟨_, xd_lst (d := pD c) (atI_last (last_map hq)), ?_⟩
        refine ev_int ?_
        refine ⟨_, xd_tup rfl, ?_⟩
        exact ⟨_, od_le, fun z => absurd (of_decide_eq_true z) hlt, fun _ => ss_nil ⟨rfl, rfl⟩⟩
    rintro r1 O1 ⟨e1, rfl⟩
    rw [e1]
    refine ss_cons (s_set (i := 9) ?_ nd)
    refine ev_tup ?_
    refine av_cons ?_
    refine ev_name (i := 5) rfl ?_
    refine av_cons ?_
    refine ev_name (i := 6) rfl ?_
    refine av_cons ?_
    refine ev_op ?_
    refine ev_name (i := 7) rfl ?_
    refine ev_lst ?_
    refine av_cons ?_
    refine ev_tup ?_
    refine av_cons ?_
    refine ev_name (i := 3) rfl ?_
    refine av_cons ?_
    refine ev_name (i := 4) rfl ?_
    refine av_nil ?_
    refine ⟨by show 2 ≤ 100000; decide, ?_⟩
    refine av_nil ?_
    refine ⟨by show 1 ≤ 100000; decide, ?_⟩
    refine ⟨_, od_cat (by rw [List.length_map]; simp; omega), ?_⟩
    refine av_cons ?_
    refine ev_name (i := 8) rfl ?_
    refine av_nil ?_
    refine ⟨by show 4 ≤ 100000; decide, ss_nil ?_⟩
    have := last none
    rw [show lsD f bl bt (nextS x d) = .tup [.int f, bdsD bl bt, .lst (x.ch.map pD ++ [pD d.2]), seenD x] by rw [en]; show D.tup [_, _, .lst ((x.ch ++ [d.2]).map pD), _] = _; rw [List.map_append]; rfl] at this
    exact this
  · have hw : d.1 ≠ Str.ofString "change" := of_decide_eq_false h
    have hp : d.1 ∈ plcs := (List.mem_cons.mp hk).elim (fun z => absurd z hw) id
    have el : late x d = (x.sn d.1).getLast?.bind fun c => if d.2.1 < c.1 then some (passed d.2.1) else none := by unfold late; rw [if_neg hw]
    rw [el] at hn
    refine ss_mid (fun r1 O1 => O1 = O ∧ r1 = [some (lsD f bl bt x), some (dD d), some (.str d.1), some (.int d.2.1), some (.int d.2.2), some (.int f), some (bdsD bl bt), some (.lst (x.ch.map pD)), some (seenD x), none, none]) ?_ ?_
    · refine s_if ?_
      refine tv_w ?_
      refine tw_and ?_
      refine tv_cmp ?_
      refine ev_dget hr ?_
      refine ev_name (i := 8) rfl ?_
      refine ev_name (i := 2) rfl ?_
      refine ⟨_, _, _, _, rfl, rfl, pick_at hp (fun l => D.lst (l.map pD)) x.sl x.st, ?_⟩
      refine ev_lst ?_
      refine av_nil ?_
      refine ⟨by decide, ?_⟩
      refine ⟨_, od_ne hr.u64 ok_pairs ok_nil, ?_⟩
      rw [eqv_nil]
      cases hq : (x.sn d.1).getLast? with
      | none =>
        have e0 : pick d.1 x.sl x.st = [] := List.getLast?_eq_none_iff.mp hq
        exact ⟨fun z => absurd z (by rw [e0]; simp), fun _ => ⟨nofun, fun _ => ss_nil ⟨rfl, rfl⟩⟩⟩
      | some c =>
        rw [hq] at hn
        have hlt : ¬ d.2.1 < c.1 := fun z => by
          have hn : (if d.2.1 < c.1 then some (passed d.2.1) else none) = none := hn
          rw [if_pos z] at hn; cases hn
        have ne0 : pick d.1 x.sl x.st ≠ [] := by intro e; have hq : (pick d.1 x.sl x.st).getLast? = some c := hq; rw [e] at hq; cases hq
        refine ⟨fun _ => ?_, fun z => absurd z (by simp [ne0])⟩
        refine tw_and1 ?_
        refine tv_cmp ?_
        refine ev_name (i := 3) rfl ?_
        refine ev_ix ?_
        refine ev_ix ?_
        refine ev_dget hr ?_
        refine ev_name (i := 8) rfl ?_
        refine ev_name (i := 2) rfl ?_
        refine ⟨_, _, _, _, rfl, rfl, pick_at hp (fun l => D.lst (l.map pD)) x.sl x.st, ?_⟩
        refine ev_un ?_
        refine ev_int ?_
        refine ⟨_, ud_neg, ?_⟩
        refine ⟨_, xd_lst (d := pD c) (atI_last (last_map hq)), ?_⟩
        refine ev_int ?_
        refine ⟨_, xd_tup rfl, ?_⟩
        exact ⟨_, od_lt, fun z => absurd (of_decide_eq_true z) hlt, fun _ => ss_nil ⟨rfl, rfl⟩⟩
    rintro r1 O1 ⟨e1, rfl⟩
    rw [e1]
    refine ss_cons (s_set (i := 10) ?_ nd)
    refine ev_typ ?_ (W.fre _ (by decide +kernel)) boot_dict
    refine av_cons ?_
    refine ev_op ?_
    refine ev_items hcalm ?_ (W.fre _ (by decide +kernel))
    refine ev_name (i := 8) rfl ?_
    refine ⟨_, _, rfl, ?_⟩
    refine ev_lst ?_
    refine av_cons ?_
    refine ev_tup ?_
    refine av_cons ?_
    refine ev_name (i := 2) rfl ?_
    refine av_cons ?_
    refine ev_op ?_
    refine ev_dget hr ?_
    refine ev_name (i := 8) rfl ?_
    refine ev_name (i := 2) rfl ?_
    refine ⟨_, _, _, _, rfl, rfl, pick_at hp (fun l => D.lst (l.map pD)) x.sl x.st, ?_⟩
    refine ev_lst ?_
    refine av_cons ?_
    refine ev_tup ?_
    refine av_cons ?_
    refine ev_name (i := 3) rfl ?_
    refine av_cons ?_
    refine ev_name (i := 4) rfl ?_
    refine av_nil ?_
    refine ⟨by show 2 ≤ 100000; decide, ?_⟩
    refine av_nil ?_
    refine ⟨by show 1 ≤ 100000; decide, ?_⟩
    have hlen : (pick d.1 x.sl x.st).length ≤ 800 := by unfold pick; split <;> assumption
    refine ⟨_, od_cat (by rw [List.length_map]; simp; omega), ?_⟩
    refine av_nil ?_
    refine ⟨by show 2 ≤ 100000; decide, ?_⟩
    refine av_nil ?_
    refine ⟨by show 1 ≤ 100000; decide, ?_⟩
    refine ⟨_, od_cat (by show 2 + 1 ≤ 1000000; decide), ?_⟩
    refine av_nil (cl_dict (ks := ["label", "till", d.1]) (ds := [.lst (x.sl.map pD), .lst (x.st.map pD), .lst ((pick d.1 x.sl x.st).map pD ++ [pD d.2])]) (ks2 := ["label", "till"]) (ds2 := if d.1 = "label" then [.lst ((pick d.1 x.sl x.st).map pD ++ [pD d.2]), .lst (x.st.map pD)] else [.lst (x.sl.map pD), .lst ((pick d.1 x.sl x.st).map pD ++ [pD d.2])]) hcalm rfl (fun F xs h => merge3 ne_lt d.1 (by simpa using hp) h) ?_)
    have es : D.dict ["label", "till"] (if d.1 = "label" then [.lst ((pick d.1 x.sl x.st).map pD ++ [pD d.2]), .lst (x.st.map pD)] else [.lst (x.sl.map pD), .lst ((pick d.1 x.sl x.st).map pD ++ [pD d.2])]) = seenD (nextS x d) := by
      unfold nextS pick
      rw [if_neg hw]
      by_cases hz : d.1 = Str.ofString "label"
      · rw [if_pos hz, if_pos hz, if_pos hz]
        show D.dict _ [_, _] = D.dict _ [.lst ((x.sl ++ [d.2]).map pD), _]
        rw [List.map_append]; rfl
      · rw [if_neg hz, if_neg hz, if_neg hz]
        show D.dict _ [_, _] = D.dict _ [_, .lst ((x.st ++ [d.2]).map pD)]
        rw [List.map_append]; rfl
    rw [es]
    refine ss_cons (s_set (i := 9) ?_ nd)
    refine ev_tup ?_
    refine av_cons ?_
    refine ev_name (i := 5) rfl ?_
    refine av_cons ?_
    refine ev_name (i := 6) rfl ?_
    refine av_cons ?_
    refine ev_name (i := 7) rfl ?_
    refine av_cons (ev_name (i := 10) rfl ?_)
    refine av_nil ?_
    refine ⟨by show 4 ≤ 100000; decide, ss_nil ?_⟩
    have := last (some (seenD (nextS x d)))
    rw [show lsD f bl bt (nextS x d) = .tup [.int f, bdsD bl bt, .lst (x.ch.map pD), seenD (nextS x d)] by show D.tup [_, _, .lst ((nextS x d).ch.map pD), _] = _; rw [show (nextS x d).ch = x.ch by unfold nextS; rw [if_neg hw]; split <;> rfl]] at this
    exact this
end
end K97
/-! # Walk XJ: a drawn moment, a drawn question -/
namespace K97
open PySem PySem.Spec PyProof.Rows L2 TL
def Bn (B i : Int) : Prop := -B ≤ i ∧ i ≤ B
theorem Bn.up {B C i : Int} (h : Bn B i) (hc : B ≤ C) : Bn C i := ⟨by have := h.1; omega, by have := h.2; omega⟩
/-- what a drawn thing leans on -/
structure Bd2 (B : Int) (f : Int) (bl bt : Int × Int) (x : Ss) : Prop where
  b0 : 0 ≤ B
  f0 : 0 ≤ f
  f1 : f ≤ 10 ^ 30
  ol : BdOk bl
  ot : BdOk bt
  sl : bl.2 ≤ 10 ^ 29
  st : bt.2 ≤ 10 ^ 29
  up : Up x.ch
  ch : ∀ c ∈ x.ch, Bn B c.1 ∧ 0 ≤ c.2 ∧ c.2 ≤ 10 ^ 30
  s1 : ∀ c ∈ x.sl, Bn B c.1
  s2 : ∀ c ∈ x.st, Bn B c.1
  lc : x.ch.length ≤ 50
  l1 : x.sl.length ≤ 800
  l2 : x.st.length ≤ 800
theorem mem_cut {α : Type} {xs : List α} {lo hi : Option Int} {a : α} (h : a ∈ cutL xs lo hi) : a ∈ xs := List.mem_of_mem_drop (List.mem_of_mem_take h)
theorem len_cut {α : Type} {xs : List α} {lo hi : Option Int} : (cutL xs lo hi).length ≤ xs.length := by
  unfold cutL
  rw [List.length_take, List.length_drop]
  omega
section
variable {P : Program} {w : World} {K : PySem.W.Frag} {mg : Str → Option Value} {base : Heap}
def S__law_shop_moment : SpD := fun ds O Q _ => ∃ (b : Addr) (B f : Int) (bl bt : Int × Int) (x : Ss), ds = [.adr b, lsD f bl bt x] ∧ Bd2 B f bl bt x ∧ Drw b O (fun d => ∃ t : Int, d = .int t ∧ Bn (B + 2 * 10 ^ 29) t) Q
theorem S__law_shop_moment_len {ds O Q QE} (h : S__law_shop_moment ds O Q QE) : ds.length = 2 := by obtain ⟨i, _, _, _, _, _, e, _⟩ := h; rw [e]; rfl
theorem f__law_shop_moment (W : Wd P w K mg base) : Fg P w K mg base .cold 3 "_law_shop_moment" S__law_shop_moment := by
  refine W.fg 76 (d := d__law_shop_moment) sc__law_shop_moment rfl rfl (by decide +kernel) rfl (fun _ _ _ _ _ _ us hl => match us, hl with | [_, _], _ => rfl) (fun ds O Q QE h => S__law_shop_moment_len h) ?_
  rintro cdv A outer s H E F0 ds O Q QE hm hr xe ⟨b, B, f, bl, bt, x, rfl, bd, ow, hO, hb, q⟩
  have nd : N__law_shop_moment.Nodup := by decide
  have ht : Heat (cxB P w K mg base N__law_shop_moment d__law_shop_moment.qual (defScope d__law_shop_moment.st) (d__law_shop_moment.pa.ad K) cdv A outer s H E) := .inl hm
  have big2 : (1000 : Int) ≤ 10 ^ 29 := by decide +kernel
  have hB := bd.b0
  refine ss_cons (s_set (i := 2) ?_ nd)
  refine ev_lst ?_
  refine av_cons ?_
  refine ev_int ?_
  refine av_nil ?_
  refine ⟨by show 1 ≤ 100000; decide, ?_⟩
  refine ss_cons (s_for po_b ht (iv_val ?_))
  refine ev_slice ?_
  refine ev_ix ?_
  refine ev_name (i := 1) rfl ?_
  refine ev_int ?_
  refine ⟨_, xd_tup (d := .lst (x.ch.map pD)) rfl, ?_⟩
  refine pv_some ?_
  refine ev_ix ?_
  refine ev_lst ?_
  refine av_cons ?_
  refine ev_int ?_
  refine av_cons ?_
  refine ev_un ?_
  refine ev_int ?_
  refine ⟨_, ud_neg, ?_⟩
  refine av_nil ?_
  refine ⟨by show 2 ≤ 100000; decide, ?_⟩
  refine ev_typ ?_ (W.fre _ (by decide +kernel)) boot_int
  refine av_cons ?_
  refine ev_cmp ?_
  refine ev_call (f__law_take W) (hr.mono (by decide)) trivial xer0 ?_
  refine av_cons ?_
  refine ev_name (i := 0) rfl ?_
  refine av_cons ?_
  refine ev_int ?_
  refine av_nil ?_
  refine ⟨b, 3, rfl, by decide, by decide, ow, hO, hb, ?_⟩
  rintro _ ow1 ⟨k, rfl, h1, h2⟩ hb1
  refine ev_int ?_
  refine ⟨_, od_gt, ?_⟩
  refine av_nil ?_
  refine cl_int_bl ?_
  have two : ∀ c : Bool, ∃ lo : Int, IxD (cxB P w K mg base N__law_shop_moment d__law_shop_moment.qual (defScope d__law_shop_moment.st) (d__law_shop_moment.pa.ad K) cdv A outer s H E) (O.put b ow1) (.lst [.int 0, .int (-3)]) (.int (if c then 1 else 0)) (.int lo) := fun c => by
    cases c with
    | true => exact ⟨-3, xd_lst rfl⟩
    | false => exact ⟨0, xd_lst rfl⟩
  obtain ⟨lo, hlo⟩ := two (decide (0 < k))
  refine ⟨_, hlo, lo, rfl, pv_none ⟨_, sd_lst, ?_⟩⟩
  rw [cut_map]
  have hcs : ∀ c ∈ cutL x.ch (some lo) none, c ∈ x.ch := fun c hc => mem_cut hc
  have hcl : (cutL x.ch (some lo) none).length ≤ 50 := Nat.le_trans len_cut bd.lc
  generalize cutL x.ch (some lo) none = cs at hcs hcl ⊢
  refine ⟨_, rfl, ?_⟩
  refine ⟨fun i r2 O2 => O2 = O.put b ow1 ∧ ∃ (ms : List Int) (v3 v4 v5 : Option D), r2 = [some (.adr b), some (lsD f bl bt x), some (.lst (ms.map .int)), v3, v4, v5] ∧ ms ≠ [] ∧ ms.length ≤ 1 + 6 * i ∧ ∀ m ∈ ms, Bn (B + 10 ^ 29) m, ⟨rfl, [0], none, none, none, rfl, by simp, by simp, fun m hm => by rw [List.mem_singleton.mp hm]; exact ⟨by omega, by omega⟩⟩, ?_, ?_⟩
  · rintro i d r2 O2 hi ⟨e1, ms, v3, v4, v5, rfl, hne, hml, hms⟩
    rw [e1]
    rw [List.getElem?_map] at hi
    cases hg : cs[i]? with
    | none => rw [hg] at hi; cases hi
    | some c =>
      rw [hg] at hi
      cases hi
      have hi2 : i < cs.length := (List.getElem?_eq_some_iff.mp hg).1
      have hc := (bd.ch c (hcs c (List.mem_of_getElem? hg))).1
      refine gv_tup ht (.inl rfl) (gvs_cons (gv_name (i := 3) (gvs_cons (gv_name (i := 4) (gvs_nil ?_) nd)) nd))
      refine ss_cons (s_for po_b ht (iv_val ?_))
      have pl1 := pick_at (pl := "label") (by simp) pD bl bt
      have pl2 := pick_at (pl := "till") (by simp) pD bl bt
      refine ev_tup ?_
      refine av_cons ?_
      refine ev_dget hr ?_
      refine ev_ix ?_
      refine ev_name (i := 1) rfl ?_
      refine ev_int ?_
      refine ⟨_, xd_tup (d := bdsD bl bt) rfl, ?_⟩
      refine ev_str ?_
      refine ⟨_, _, _, _, rfl, rfl, pl1, ?_⟩
      refine av_cons ?_
      refine ev_dget hr ?_
      refine ev_ix ?_
      refine ev_name (i := 1) rfl ?_
      refine ev_int ?_
      refine ⟨_, xd_tup (d := bdsD bl bt) rfl, ?_⟩
      refine ev_str ?_
      refine ⟨_, _, _, _, rfl, rfl, pl2, ?_⟩
      refine av_nil ?_
      refine ⟨by show 2 ≤ 100000; decide, _, rfl, ?_⟩
      refine ⟨fun j r2 O2 => O2 = O.put b ow1 ∧ ∃ (ms2 : List Int) (v5 : Option D), r2 = [some (.adr b), some (lsD f bl bt x), some (.lst (ms2.map .int)), some (.int c.1), some (.int c.2), v5] ∧ ms2 ≠ [] ∧ ms2.length ≤ 1 + 6 * i + 3 * j ∧ ∀ m ∈ ms2, Bn (B + 10 ^ 29) m, ⟨rfl, ms, v5, rfl, hne, by omega, hms⟩, ?_, ?_⟩
      · rintro j d2 r2 O2 hj ⟨e2, ms2, v5, rfl, hne2, hml2, hms2⟩
        rw [e2]
        have hj2 : j < 2 := by have := (List.getElem?_eq_some_iff.mp hj).1; simpa using this
        obtain ⟨c2, rfl, k1, k2⟩ : ∃ c2 : Int × Int, d2 = pD c2 ∧ BdOk c2 ∧ c2.2 ≤ 10 ^ 29 := by
          have e1 : pick (Str.ofString "label") bl bt = bl := if_pos rfl
          have e2 : pick (Str.ofString "till") bl bt = bt := if_neg (Ne.symm ne_lt)
          have hm3 := List.mem_of_getElem? hj
          rw [e1, e2] at hm3
          simp only [List.mem_cons, List.not_mem_nil, or_false] at hm3
          rcases hm3 with rfl | rfl
          · exact ⟨bl, rfl, bd.ol, bd.sl⟩
          · exact ⟨bt, rfl, bd.ot, bd.st⟩
        refine gv_name (i := 5) ?_ nd
        refine ss_cons (s_set (i := 2) ?_ nd)
        refine ev_op ?_
        refine ev_name (i := 2) rfl ?_
        refine ev_lst ?_
        refine av_cons ?_
        refine ev_op ?_
        refine ev_name (i := 3) rfl ?_
        refine ev_ix ?_
        refine ev_name (i := 5) rfl ?_
        refine ev_int ?_
        refine ⟨_, xd_tup (d := .int c2.1) rfl, ?_⟩
        refine ⟨_, od_add, ?_⟩
        refine av_cons ?_
        refine ev_op ?_
        refine ev_name (i := 3) rfl ?_
        refine ev_ix ?_
        refine ev_name (i := 5) rfl ?_
        refine ev_int ?_
        refine ⟨_, xd_tup (d := .int c2.2) rfl, ?_⟩
        refine ⟨_, od_add, ?_⟩
        refine av_cons ?_
        refine ev_name (i := 3) rfl ?_
        refine av_nil ?_
        refine ⟨by show 3 ≤ 100000; decide, ?_⟩
        refine ⟨_, od_cat (by rw [List.length_map]; show ms2.length + 3 ≤ _; omega), ss_nil ⟨rfl, ms2 ++ [c.1 + c2.1, c.1 + c2.2, c.1], some (pD c2), ?_, by simp, by rw [List.length_append]; show ms2.length + 3 ≤ _; omega, fun m hm => ?_⟩⟩
        · rw [List.map_append]; rfl
        · rcases List.mem_append.mp hm with z | z
          · exact hms2 m z
          · obtain ⟨z1, z2, z3⟩ := k1
            obtain ⟨z4, z5⟩ := hc
            simp only [List.mem_cons, List.not_mem_nil, or_false] at z
            rcases z with rfl | rfl | rfl
            · exact ⟨by omega, by omega⟩
            · exact ⟨by omega, by omega⟩
            · exact ⟨by omega, by omega⟩
      · rintro r2 O2 ⟨e2, ms2, v5, rfl, hne2, hml2, hms2⟩
        have hml3 : ms2.length ≤ 1 + 6 * i + 3 * 2 := hml2
        exact ss_nil ⟨e2, ms2, _, _, _, rfl, hne2, by omega, hms2⟩
  · rintro r2 O2 ⟨e1, ms, v3, v4, v5, rfl, hne, hml, hms⟩
    rw [e1]
    rw [List.length_map] at hml
    refine ss_cons (s_ret ?_)
    refine ev_op ?_
    refine ev_call (f__law_one W) (hr.mono (by decide)) trivial xer0 ?_
    refine av_cons ?_
    refine ev_name (i := 0) rfl ?_
    refine av_cons ?_
    refine ev_name (i := 2) rfl ?_
    refine av_nil ?_
    refine ⟨b, _, rfl, by simpa using hne, by rw [List.length_map]; omega, ow1, Om.put_same, hb1, ?_⟩
    intro d ow2 hd hb2
    obtain ⟨m, hm2, rfl⟩ := List.mem_map.mp hd
    obtain ⟨g1, g2⟩ := hms m hm2
    refine ev_call (f__law_one W) (hr.mono (by decide)) trivial xer0 ?_
    refine av_cons ?_
    refine ev_name (i := 0) rfl ?_
    refine av_cons ?_
    refine ev_lst ?_
    refine av_cons ?_
    refine ev_int ?_
    refine av_cons ?_
    refine ev_int ?_
    refine av_cons ?_
    refine ev_int ?_
    refine av_cons ?_
    refine ev_int ?_
    refine av_cons ?_
    refine ev_un ?_
    refine ev_int ?_
    refine ⟨_, ud_neg, ?_⟩
    refine av_cons ?_
    refine ev_int ?_
    refine av_nil ?_
    refine ⟨by show 6 ≤ 100000; decide, ?_⟩
    refine av_nil ?_
    refine ⟨b, _, rfl, by simp, by show 6 ≤ 1000; decide, ow2, Om.put_same, hb2, ?_⟩
    intro d2 ow3 hd2 hb3
    obtain ⟨m2, rfl, g3, g4⟩ : ∃ m2 : Int, d2 = .int m2 ∧ -1 ≤ m2 ∧ m2 ≤ 2 := by
      simp only [List.mem_cons, List.not_mem_nil, or_false] at hd2
      rcases hd2 with rfl | rfl | rfl | rfl | rfl | rfl
      · exact ⟨_, rfl, by decide, by decide⟩
      · exact ⟨_, rfl, by decide, by decide⟩
      · exact ⟨_, rfl, by decide, by decide⟩
      · exact ⟨_, rfl, by decide, by decide⟩
      · exact ⟨_, rfl, by decide, by decide⟩
      · exact ⟨_, rfl, by decide, by decide⟩
    refine ⟨_, od_add, ?_⟩
    rw [Om.put_put, Om.put_put]
    exact q _ _ ⟨_, rfl, by omega, by omega⟩ hb3
end
end K97
/-! # Walk XK: a drawn deed, a drawn question -/
namespace K97
open PySem PySem.Spec PyProof.Rows L2 TL
theorem inN_ends {ch : List (Int × Int)} {b : Int × Int} (t : Int) (hu : Up ch) (hb : BdOk b) : ∃ a z, Ends2 (inN (wins (ch.map (·.1)) b) t) a z ∧ 0 ≤ a ∧ a ≤ z ∧ z ≤ ch.length := by
  have lh := low_high (ch := ch) (t := t) hb
  have ll := lowN_le (ch := ch) (b := b) (t := t)
  have hm : (lowN ch b t : Int) ∈ inN (wins (ch.map (·.1)) b) t := by
    refine List.mem_filter.mpr ⟨List.mem_map.mpr ⟨lowN ch b t, List.mem_range.mpr (by rw [wins_len, List.length_map]; omega), by show ((0 : Nat) : Int) + (lowN ch b t : Int) = _; omega⟩, ?_⟩
    have e : wAt (wins (ch.map (·.1)) b) (lowN ch b t : Int) = (winB ch b (lowN ch b t), winE ch b (lowN ch b t)) := by
      have h1 := wAt_some (ws := wins (ch.map (·.1)) b) (n := lowN ch b t) (by rw [wins_len, List.length_map]; omega)
      rw [wins_at ll] at h1
      exact (Option.some.inj h1).symm
    show inW (wAt _ (lowN ch b t : Int)) t = true
    rw [e]
    exact (win_in hu ll).mpr ⟨Nat.le_refl _, lh⟩
  have hin : ∀ n ∈ inN (wins (ch.map (·.1)) b) t, 0 ≤ n ∧ n ≤ ch.length := fun n hn => by
    obtain ⟨j, rfl, hj⟩ := rng0 (List.mem_filter.mp hn).1
    rw [wins_len, List.length_map] at hj
    exact ⟨by omega, by omega⟩
  have hpw : (inN (wins (ch.map (·.1)) b) t).Pairwise (· < ·) := by
    refine List.Pairwise.filter _ (List.pairwise_map.mpr ?_)
    exact List.pairwise_lt_range.imp fun h => by omega
  generalize inN (wins (ch.map (·.1)) b) t = ns at hm hin hpw
  cases ns with
  | nil => cases hm
  | cons a r =>
    have hl : (a :: r).getLast? = some ((a :: r).getLast (by simp)) := List.getLast?_eq_some_getLast (by simp)
    exact ⟨a, _, ⟨rfl, hl⟩, (hin a List.mem_cons_self).1, last_ge hpw List.mem_cons_self hl, (hin _ (List.mem_of_getLast? hl)).2⟩
structure DdB (C : Int) (e : Deed) : Prop where
  k : e.1 ∈ kinds
  m : Bn C e.2.1
  p : 0 ≤ e.2.2
  q : e.2.2 ≤ 10 ^ 30
section
variable {P : Program} {w : World} {K : PySem.W.Frag} {mg : Str → Option Value} {base : Heap}
def S__law_deed : SpD := fun ds O Q _ => ∃ (b : Addr) (B f : Int) (bl bt : Int × Int) (x : Ss), ds = [.adr b, lsD f bl bt x] ∧ Bd2 B f bl bt x ∧ Drw b O (fun d => ∃ e : Deed, d = dD e ∧ DdB (B + 10 ^ 30) e) Q
theorem S__law_deed_len {ds O Q QE} (h : S__law_deed ds O Q QE) : ds.length = 2 := by obtain ⟨i, _, _, _, _, _, e, _⟩ := h; rw [e]; rfl
theorem f__law_deed (W : Wd P w K mg base) : Fg P w K mg base .cold 4 "_law_deed" S__law_deed := by
  refine W.fg 77 (d := d__law_deed) sc__law_deed rfl rfl (by decide +kernel) rfl (fun _ _ _ _ _ _ us hl => match us, hl with | [_, _], _ => rfl) (fun ds O Q QE h => S__law_deed_len h) ?_
  rintro cdv A outer s H E F0 ds O Q QE hm hr xe ⟨b, B, f, bl, bt, x, rfl, bd, ow, hO, hb, q⟩
  have nd : N__law_deed.Nodup := by decide
  have ht : Heat (cxB P w K mg base N__law_deed d__law_deed.qual (defScope d__law_deed.st) (d__law_deed.pa.ad K) cdv A outer s H E) := .inl hm
  have hcalm : (cxB P w K mg base N__law_deed d__law_deed.qual (defScope d__law_deed.st) (d__law_deed.pa.ad K) cdv A outer s H E).calm = true := by show A.handled.isNone = true; rw [show A.handled = none from hm]; rfl
  have big1 : (1000 : Int) ≤ 10 ^ 28 := by decide +kernel
  have big2 : (10 : Int) ^ 29 = 10 * 10 ^ 28 := by decide +kernel
  have big3 : (10 : Int) ^ 30 = 100 * 10 ^ 28 := by decide +kernel
  have e29 : (10 : Int) ^ (29 : Int).toNat = 10 ^ 29 := rfl
  have hB := bd.b0
  have lc := bd.lc
  have l1 := bd.l1
  have l2 := bd.l2
  refine ss_cons (s_par (i := 2) (j := 3) ht nd ?_)
  refine av_cons ?_
  refine ev_ix ?_
  refine ev_name (i := 1) rfl ?_
  refine ev_int ?_
  refine ⟨_, xd_tup (d := .lst (x.ch.map pD)) rfl, ?_⟩
  refine av_cons ?_
  refine ev_ix ?_
  refine ev_name (i := 1) rfl ?_
  refine ev_int ?_
  refine ⟨_, xd_tup (d := seenD x) rfl, ?_⟩
  refine av_nil ?_
  refine ⟨_, _, rfl, ?_⟩
  refine ss_mid (fun r1 O1 => r1 = [some (.adr b), some (lsD f bl bt x), some (.lst (x.ch.map pD)), some (seenD x), none, none, none, none, none, none, none] ∧ ∃ ow1, IsBag ow1 ∧ O1 = O.put b ow1) ?_ ?_
  · refine s_if ?_
    refine tv_w ?_
    refine tw_and ?_
    refine tv_cmp ?_
    refine ev_call (f__law_take W) (hr.mono (by decide)) trivial xer0 ?_
    refine av_cons ?_
    refine ev_name (i := 0) rfl ?_
    refine av_cons ?_
    refine ev_int ?_
    refine av_nil ?_
    refine ⟨b, 3, rfl, by decide, by decide, ow, hO, hb, ?_⟩
    rintro _ ow1 ⟨k, rfl, h1, h2⟩ hb1
    refine ev_int ?_
    refine ⟨_, od_eqi, fun _ => ?_, fun _ => ⟨nofun, fun _ => ss_nil ⟨rfl, ow1, hb1, rfl⟩⟩⟩
    refine tw_and1 ?_
    refine tv_cmp ?_
    refine ev_blt ?_ (W.fre _ (by decide +kernel)) boot_len
    refine av_cons ?_
    refine ev_name (i := 2) rfl ?_
    refine av_nil ?_
    refine cl_len_lst ?_
    refine ev_int ?_
    refine ⟨_, od_lt, fun _ => ?_, fun _ => ss_nil ⟨rfl, ow1, hb1, rfl⟩⟩
    refine ss_cons (s_set (i := 4) ?_ nd)
    refine ev_call (f__law_one W) (hr.mono (by decide)) trivial xer0 ?_
    refine av_cons ?_
    refine ev_name (i := 0) rfl ?_
    refine av_cons ?_
    refine ev_lst ?_
    refine av_cons ?_
    refine ev_int ?_
    refine av_cons ?_
    refine ev_int ?_
    refine av_cons ?_
    refine ev_int ?_
    refine av_cons ?_
    refine ev_int ?_
    refine av_cons ?_
    refine ev_int ?_
    refine av_cons ?_
    refine ev_call (f__law_gap_of W) (hr.mono (by decide)) trivial xer0 ?_
    refine av_cons ?_
    refine ev_name (i := 0) rfl ?_
    refine av_nil ?_
    refine ⟨b, rfl, ow1, Om.put_same, hb1, ?_⟩
    rintro _ ow2 ⟨g, rfl, g1, g2⟩ hb2
    rw [Om.put_put]
    refine av_nil ⟨by show 6 ≤ 100000; decide, av_nil ⟨b, _, rfl, by simp, by show 6 ≤ 1000; decide, ow2, Om.put_same, hb2, ?_⟩⟩
    intro d ow3 hd hb3
    rw [Om.put_put]
    obtain ⟨m, rfl, m1, m2⟩ : ∃ m : Int, d = .int m ∧ 0 ≤ m ∧ m ≤ 10 ^ 28 + 5 := by
      simp only [List.mem_cons, List.not_mem_nil, or_false] at hd
      rcases hd with rfl | rfl | rfl | rfl | rfl | rfl
      · exact ⟨_, rfl, by omega, by omega⟩
      · exact ⟨_, rfl, by omega, by omega⟩
      · exact ⟨_, rfl, by omega, by omega⟩
      · exact ⟨_, rfl, by omega, by omega⟩
      · exact ⟨_, rfl, by omega, by omega⟩
      · exact ⟨_, rfl, by omega, by omega⟩
    refine ss_cons (s_set (i := 5) ?_ nd)
    refine ev_un ?_
    refine ev_call (f__law_one W) (hr.mono (by decide)) trivial xer0 ?_
    refine av_cons ?_
    refine ev_name (i := 0) rfl ?_
    refine av_cons ?_
    refine ev_lst ?_
    refine av_cons ?_
    refine ev_int ?_
    refine av_cons ?_
    refine ev_int ?_
    refine av_cons ?_
    refine ev_int ?_
    refine av_cons ?_
    refine ev_op ?_
    refine ev_int ?_
    refine ev_int ?_
    refine ⟨_, od_pow ⟨by decide, by decide, by decide +kernel⟩, ?_⟩
    refine av_nil ?_
    refine ⟨by show 4 ≤ 100000; decide, ?_⟩
    refine av_nil ?_
    refine ⟨b, _, rfl, by simp, by show 4 ≤ 1000; decide, ow3, Om.put_same, hb3, ?_⟩
    intro d ow4 hd hb4
    rw [Om.put_put]
    rw [e29] at hd
    obtain ⟨v, rfl, v1, v2⟩ : ∃ v : Int, d = .int v ∧ 0 ≤ v ∧ v ≤ 10 ^ 29 := by
      simp only [List.mem_cons, List.not_mem_nil, or_false] at hd
      rcases hd with rfl | rfl | rfl | rfl
      · exact ⟨_, rfl, by omega, by omega⟩
      · exact ⟨_, rfl, by omega, by omega⟩
      · exact ⟨_, rfl, by omega, by omega⟩
      · exact ⟨_, rfl, by omega, by omega⟩
    refine ⟨_, ud_neg, ?_⟩
    refine ss_cons (s_ret ?_)
    refine ev_tup ?_
    refine av_cons ?_
    refine ev_str ?_
    refine av_cons ?_
    refine ev_op ?_
    refine ev_name (i := 4) rfl ?_
    refine ev_if ?_
    refine tv_cmp ?_
    refine ev_name (i := 2) rfl ?_
    refine ev_lst ?_
    refine av_nil ?_
    refine ⟨by decide, ?_⟩
    refine ⟨_, od_ne hr.u64 ok_pairs ok_nil, ?_⟩
    rw [eqv_nil]
    have fin : ∀ t : Int, Bn (B + 10 ^ 29) t → Av (cxB P w K mg base N__law_deed d__law_deed.qual (defScope d__law_deed.st) (d__law_deed.pa.ad K) cdv A outer s H E) F0 ((match (match (defBody d__law_deed.st).getD 1 (.Pass ⟨0, 0, 0, 0⟩) with | .If _ ss _ _ => ss.getD 2 (.Pass ⟨0, 0, 0, 0⟩) | _ => .Pass ⟨0, 0, 0, 0⟩) with | .Return (some (.Tuple es _ _)) _ => es.drop 2 | _ => [])) [some (.adr b), some (lsD f bl bt x), some (.lst (x.ch.map pD)), some (seenD x), some (.int m), some (.int (-v)), none, none, none, none, none] (O.put b ow4) fun ds O2 => (D.str "change" :: D.int (m + t) :: ds).length ≤ 100000 ∧ Q (.tup (D.str "change" :: D.int (m + t) :: ds)) O2 := fun t ⟨t1, t2⟩ => by
      refine av_cons ?_
      refine ev_call (f__law_shop_price W) (hr.mono (by decide)) trivial xer0 ?_
      refine av_cons ?_
      refine ev_name (i := 0) rfl ?_
      refine av_nil ?_
      refine ⟨b, rfl, ow4, Om.put_same, hb4, ?_⟩
      rintro _ ow5 ⟨p, rfl, p1, p2⟩ hb5
      rw [Om.put_put]
      refine av_nil ⟨by show 3 ≤ 100000; decide, q _ _ ⟨("change", m + t, p), rfl, ⟨by simp, ⟨?_, ?_⟩, p1, p2⟩⟩ hb5⟩
      · show -(B + 10 ^ 30) ≤ m + t; omega
      · show m + t ≤ B + 10 ^ 30; omega
    cases hq : x.ch.getLast? with
    | none =>
      have e0 : x.ch = [] := List.getLast?_eq_none_iff.mp hq
      refine ⟨fun z => absurd z (by rw [e0]; simp), fun _ => ?_⟩
      refine ev_name (i := 5) rfl ?_
      refine ⟨_, od_add, ?_⟩
      exact fin (-v) ⟨by omega, by omega⟩
    | some c =>
      have ne0 : x.ch ≠ [] := by rintro e; rw [e] at hq; cases hq
      refine ⟨fun _ => ?_, fun z => absurd z (by simp [ne0])⟩
      obtain ⟨c1, c2⟩ := (bd.ch c (List.mem_of_getLast? hq)).1
      refine ev_ix ?_
      refine ev_ix ?_
      refine ev_name (i := 2) rfl ?_
      refine ev_un ?_
      refine ev_int ?_
      refine ⟨_, ud_neg, ?_⟩
      refine ⟨_, xd_lst (d := pD c) (atI_last (last_map hq)), ?_⟩
      refine ev_int ?_
      refine ⟨_, xd_tup (d := .int c.1) rfl, ?_⟩
      refine ⟨_, od_add, ?_⟩
      exact fin c.1 ⟨by omega, by omega⟩
  rintro r1 O1 ⟨rfl, ow1, hb1, rfl⟩
  refine ss_cons (s_set (i := 6) ?_ nd)
  refine ev_call (f__law_one W) (hr.mono (by decide)) trivial xer0 ?_
  refine av_cons ?_
  refine ev_name (i := 0) rfl ?_
  refine av_cons ?_
  refine ev_lst ?_
  refine av_cons ?_
  refine ev_str ?_
  refine av_cons ?_
  refine ev_str ?_
  refine av_nil ?_
  refine ⟨by show 2 ≤ 100000; decide, ?_⟩
  refine av_nil ?_
  refine ⟨b, _, rfl, by simp, by show 2 ≤ 1000; decide, ow1, Om.put_same, hb1, ?_⟩
  intro d ow2 hd hb2
  rw [Om.put_put]
  obtain ⟨pl, hp, rfl⟩ : ∃ pl ∈ plcs, d = .str pl := by
    simp only [List.mem_cons, List.not_mem_nil, or_false] at hd
    rcases hd with rfl | rfl
    · exact ⟨"label", by simp, rfl⟩
    · exact ⟨"till", by simp, rfl⟩
  have hplk : pl ∈ kinds := List.mem_cons_of_mem _ hp
  have hbd : BdOk (pick pl bl bt) := by unfold pick; split; exact bd.ol; exact bd.ot
  have hsn : ∀ c ∈ pick pl x.sl x.st, Bn B c.1 := by unfold pick; split; exact bd.s1; exact bd.s2
  have hlen : (pick pl x.sl x.st).length ≤ 800 := by unfold pick; split <;> assumption
  refine ss_cons (s_set (i := 7) ?_ nd)
  refine ev_call (f__law_shop_moment W) (hr.mono (by decide)) hm xer0 ?_
  refine av_cons ?_
  refine ev_name (i := 0) rfl ?_
  refine av_cons ?_
  refine ev_name (i := 1) rfl ?_
  refine av_nil ?_
  refine ⟨b, B, f, bl, bt, x, rfl, bd, ow2, Om.put_same, hb2, ?_⟩
  rintro _ ow3 ⟨t0, rfl, t1, t2⟩ hb3
  rw [Om.put_put]
  refine ss_mid (fun r1 O1 => ∃ t : Int, Bn (B + 2 * 10 ^ 29) t ∧ r1 = [some (.adr b), some (lsD f bl bt x), some (.lst (x.ch.map pD)), some (seenD x), none, none, some (.str pl), some (.int t), none, none, none] ∧ ∃ ow1, IsBag ow1 ∧ O1 = O.put b ow1) ?_ ?_
  · refine s_if ?_
    refine tv_w ?_
    refine tw_and ?_
    refine tv_cmp ?_
    refine ev_dget hr ?_
    refine ev_name (i := 3) rfl ?_
    refine ev_name (i := 6) rfl ?_
    refine ⟨_, _, _, _, rfl, rfl, pick_at hp (fun l => D.lst (l.map pD)) x.sl x.st, ?_⟩
    refine ev_lst ?_
    refine av_nil ?_
    refine ⟨by decide, ?_⟩
    refine ⟨_, od_ne hr.u64 ok_pairs ok_nil, ?_⟩
    rw [eqv_nil]
    cases hq : (pick pl x.sl x.st).getLast? with
    | none =>
      have e0 : pick pl x.sl x.st = [] := List.getLast?_eq_none_iff.mp hq
      exact ⟨fun z => absurd z (by rw [e0]; simp), fun _ => ⟨nofun, fun _ => ss_nil ⟨t0, ⟨t1, t2⟩, rfl, ow3, hb3, rfl⟩⟩⟩
    | some c =>
      have ne0 : pick pl x.sl x.st ≠ [] := by intro e; rw [e] at hq; cases hq
      obtain ⟨c1, c2⟩ := hsn c (List.mem_of_getLast? hq)
      refine ⟨fun _ => ?_, fun z => absurd z (by simp [ne0])⟩
      refine tw_and1 ?_
      refine tv_cmp ?_
      refine ev_call (f__law_take W) (hr.mono (by decide)) trivial xer0 ?_
      refine av_cons ?_
      refine ev_name (i := 0) rfl ?_
      refine av_cons ?_
      refine ev_int ?_
      refine av_nil ?_
      refine ⟨b, 6, rfl, by decide, by decide, ow3, Om.put_same, hb3, ?_⟩
      rintro _ ow4 ⟨k, rfl, h1, h2⟩ hb4
      rw [Om.put_put]
      refine ev_int ?_
      refine ⟨_, od_gt, fun _ => ?_, fun _ => ss_nil ⟨t0, ⟨t1, t2⟩, rfl, ow4, hb4, rfl⟩⟩
      refine ss_cons (s_set (i := 7) ?_ nd)
      refine ev_blt ?_ (W.fre _ (by decide +kernel)) boot_max
      refine av_cons ?_
      refine ev_name (i := 7) rfl ?_
      refine av_cons ?_
      refine ev_ix ?_
      refine ev_ix ?_
      refine ev_dget hr ?_
      refine ev_name (i := 3) rfl ?_
      refine ev_name (i := 6) rfl ?_
      refine ⟨_, _, _, _, rfl, rfl, pick_at hp (fun l => D.lst (l.map pD)) x.sl x.st, ?_⟩
      refine ev_un ?_
      refine ev_int ?_
      refine ⟨_, ud_neg, ?_⟩
      refine ⟨_, xd_lst (d := pD c) (atI_last (last_map hq)), ?_⟩
      refine ev_int ?_
      refine ⟨_, xd_tup (d := .int c.1) rfl, ?_⟩
      refine av_nil ?_
      refine cl_max2 hcalm ?_
      refine ss_nil ⟨if c.1 > t0 then c.1 else t0, ?_, rfl, ow4, hb4, rfl⟩
      split
      · exact ⟨by omega, by omega⟩
      · exact ⟨t1, t2⟩
  rintro r1 O1 ⟨t, ⟨t1, t2⟩, rfl, ow4, hb4, rfl⟩
  obtain ⟨a, z, he, z0, z1, z2⟩ := inN_ends (ch := x.ch) (b := pick pl bl bt) t bd.up hbd
  refine ss_cons (s_asg ?_)
  refine ev_call (f__law_stretch W) (hr.mono (by decide)) hm xer0 ?_
  refine av_cons ?_
  refine ev_call (f__law_shop_windows W) (hr.mono (by decide)) hm xer0 ?_
  refine av_cons ?_
  refine ev_name (i := 1) rfl ?_
  refine av_cons ?_
  refine ev_name (i := 6) rfl ?_
  refine av_nil ?_
  refine ⟨f, bl, bt, x, pl, rfl, hp, by omega, ?_⟩
  refine av_cons ?_
  refine ev_name (i := 7) rfl ?_
  refine av_nil ?_
  refine ⟨_, t, a, z, rfl, by rw [wins_len, List.length_map]; omega, he, ?_⟩
  refine gv_tup ht (.inl rfl) (gvs_cons (gv_name (i := 8) (gvs_cons (gv_name (i := 9) (gvs_nil ?_) nd)) nd))
  refine ss_cons (s_set (i := 10) ?_ nd)
  refine ev_ix ?_
  refine ev_call (f__law_prices W) (hr.mono (by decide)) hm xer0 ?_
  refine av_cons ?_
  refine ev_tup ?_
  refine av_cons ?_
  refine ev_ix ?_
  refine ev_name (i := 1) rfl ?_
  refine ev_int ?_
  refine ⟨_, xd_tup (d := .int f) rfl, ?_⟩
  refine av_cons ?_
  refine ev_name (i := 2) rfl ?_
  refine av_nil ?_
  refine ⟨by show 2 ≤ 100000; decide, ?_⟩
  refine av_nil ?_
  refine ⟨f, x.ch, rfl, by omega, ?_⟩
  refine ev_op ?_
  refine ev_name (i := 8) rfl ?_
  refine ev_call (f__law_take W) (hr.mono (by decide)) trivial xer0 ?_
  refine av_cons ?_
  refine ev_name (i := 0) rfl ?_
  refine av_cons ?_
  refine ev_op ?_
  refine ev_op ?_
  refine ev_name (i := 9) rfl ?_
  refine ev_name (i := 8) rfl ?_
  refine ⟨_, od_sub, ?_⟩
  refine ev_int ?_
  refine ⟨_, od_add, ?_⟩
  refine av_nil ?_
  refine ⟨b, _, rfl, by omega, by omega, ow4, Om.put_same, hb4, ?_⟩
  rintro _ ow5 ⟨k, rfl, h1, h2⟩ hb5
  rw [Om.put_put]
  refine ⟨_, od_add, ?_⟩
  obtain ⟨n, hn⟩ := Int.eq_ofNat_of_zero_le (show 0 ≤ a + k by omega)
  have hn2 : n ≤ x.ch.length := by omega
  refine ⟨_, hn ▸ xd_lst (atI_nat (getmap (price_some hn2))), ?_⟩
  have hpr : 0 ≤ priceAt f x.ch (a + k) ∧ priceAt f x.ch (a + k) ≤ 10 ^ 30 := by
    rw [hn]
    show 0 ≤ priceAt f x.ch n ∧ priceAt f x.ch n ≤ 10 ^ 30
    have h3 := List.mem_of_getElem? (price_some (f := f) hn2)
    rcases List.mem_cons.mp h3 with e | e
    · rw [e]; exact ⟨bd.f0, bd.f1⟩
    · obtain ⟨c, hc, e⟩ := List.mem_map.mp e
      rw [← e]
      exact (bd.ch c hc).2
  generalize priceAt f x.ch (a + k) = pr at hpr ⊢
  have tail : ∀ (pr : Int) (ow6 : Ow), 0 ≤ pr → pr ≤ 10 ^ 30 → IsBag ow6 → Ssv (cxB P w K mg base N__law_deed d__law_deed.qual (defScope d__law_deed.st) (d__law_deed.pa.ad K) cdv A outer s H E) F0 ((defBody d__law_deed.st).drop 8) [some (.adr b), some (lsD f bl bt x), some (.lst (x.ch.map pD)), some (seenD x), none, none, some (.str pl), some (.int t), some (.int a), some (.int z), some (.int pr)] (O.put b ow6) { nx := fun _ O' => Q .non O', rt := Q } := fun pr ow6 p1 p2 hb6 => by
    refine ss_cons (s_ret ?_)
    refine ev_if ?_
    refine tv_cmp ?_
    refine ev_blt ?_ (W.fre _ (by decide +kernel)) boot_len
    refine av_cons ?_
    refine ev_dget hr ?_
    refine ev_name (i := 3) rfl ?_
    refine ev_name (i := 6) rfl ?_
    refine ⟨_, _, _, _, rfl, rfl, pick_at hp (fun l => D.lst (l.map pD)) x.sl x.st, ?_⟩
    refine av_nil ?_
    refine cl_len_lst ?_
    refine ev_int ?_
    refine ⟨_, od_gt, fun _ => ?_, fun _ => ?_⟩
    · refine ev_tup ?_
      refine av_cons ?_
      refine ev_str ?_
      refine av_cons ?_
      refine ev_if ?_
      refine tv_cmp ?_
      refine ev_name (i := 2) rfl ?_
      refine ev_lst ?_
      refine av_nil ?_
      refine ⟨by decide, ?_⟩
      refine ⟨_, od_ne hr.u64 ok_pairs ok_nil, ?_⟩
      rw [eqv_nil]
      cases hq : x.ch.getLast? with
      | none =>
        have e0 : x.ch = [] := List.getLast?_eq_none_iff.mp hq
        refine ⟨fun z => absurd z (by rw [e0]; simp), fun _ => ?_⟩
        refine ev_int ?_
        refine av_cons ?_
        refine ev_int ?_
        refine av_nil ?_
        exact ⟨by show 3 ≤ 100000; decide, q _ _ ⟨("change", 5, 2), rfl, ⟨by simp, ⟨by show -(B + 10 ^ 30) ≤ (5 : Int); omega, by show (5 : Int) ≤ B + 10 ^ 30; omega⟩, by show (0 : Int) ≤ 2; decide, by show (2 : Int) ≤ 10 ^ 30; omega⟩⟩ hb6⟩
      | some c =>
        have ne0 : x.ch ≠ [] := by rintro e; rw [e] at hq; cases hq
        refine ⟨fun _ => ?_, fun z => absurd z (by simp [ne0])⟩
        obtain ⟨c1, c2⟩ := (bd.ch c (List.mem_of_getLast? hq)).1
        refine ev_ix ?_
        refine ev_ix ?_
        refine ev_name (i := 2) rfl ?_
        refine ev_un ?_
        refine ev_int ?_
        refine ⟨_, ud_neg, ?_⟩
        refine ⟨_, xd_lst (d := pD c) (atI_last (last_map hq)), ?_⟩
        refine ev_int ?_
        refine ⟨_, xd_tup (d := .int c.1) rfl, ?_⟩
        refine av_cons ?_
        refine ev_int ?_
        refine av_nil ?_
        exact ⟨by show 3 ≤ 100000; decide, q _ _ ⟨("change", c.1, 2), rfl, ⟨by simp, ⟨by show -(B + 10 ^ 30) ≤ c.1; omega, by show c.1 ≤ B + 10 ^ 30; omega⟩, by show (0 : Int) ≤ 2; decide, by show (2 : Int) ≤ 10 ^ 30; omega⟩⟩ hb6⟩
    · refine ev_tup ?_
      refine av_cons ?_
      refine ev_name (i := 6) rfl ?_
      refine av_cons ?_
      refine ev_name (i := 7) rfl ?_
      refine av_cons ?_
      refine ev_name (i := 10) rfl ?_
      refine av_nil ?_
      exact ⟨by show 3 ≤ 100000; decide, q _ _ ⟨(pl, t, pr), rfl, ⟨hplk, ⟨by show -(B + 10 ^ 30) ≤ t; omega, by show t ≤ B + 10 ^ 30; omega⟩, p1, p2⟩⟩ hb6⟩
  refine ss_cons (s_if ?_)
  refine tv_w ?_
  refine tw_or ?_
  refine tv_cmp ?_
  refine ev_call (f__law_take W) (hr.mono (by decide)) trivial xer0 ?_
  refine av_cons ?_
  refine ev_name (i := 0) rfl ?_
  refine av_cons ?_
  refine ev_int ?_
  refine av_nil ?_
  refine ⟨b, 5, rfl, by decide, by decide, ow5, Om.put_same, hb5, ?_⟩
  rintro _ ow6 ⟨k6, rfl, _, _⟩ hb6
  rw [Om.put_put]
  have yes : Ssv (cxB P w K mg base N__law_deed d__law_deed.qual (defScope d__law_deed.st) (d__law_deed.pa.ad K) cdv A outer s H E) F0 ((match (defBody d__law_deed.st).getD 7 (.Pass ⟨0, 0, 0, 0⟩) with | .If _ ss _ _ => ss | _ => [])) [some (.adr b), some (lsD f bl bt x), some (.lst (x.ch.map pD)), some (seenD x), none, none, some (.str pl), some (.int t), some (.int a), some (.int z), some (.int pr)] (O.put b ow6) { nx := fun r1 O1 => Ssv (cxB P w K mg base N__law_deed d__law_deed.qual (defScope d__law_deed.st) (d__law_deed.pa.ad K) cdv A outer s H E) F0 ((defBody d__law_deed.st).drop 8) r1 O1 { nx := fun _ O' => Q .non O', rt := Q }, rt := Q } := by
    refine ss_cons (s_set (i := 10) ?_ nd)
    refine ev_call (f__law_take W) (hr.mono (by decide)) trivial xer0 ?_
    refine av_cons ?_
    refine ev_name (i := 0) rfl ?_
    refine av_cons ?_
    refine ev_int ?_
    refine av_nil ?_
    refine ⟨b, 5, rfl, by decide, by decide, ow6, Om.put_same, hb6, ?_⟩
    rintro _ ow7 ⟨k7, rfl, h7, h8⟩ hb7
    rw [Om.put_put]
    exact ss_nil (tail k7 ow7 h7 (by omega) hb7)
  refine ev_int ?_
  refine ⟨_, od_eqi, fun _ => ?_, fun _ => ⟨fun _ => yes, nofun⟩⟩
  refine tw_or1 ?_
  refine tv_cmp ?_
  refine ev_blt ?_ (W.fre _ (by decide +kernel)) boot_len
  refine av_cons ?_
  refine ev_dget hr ?_
  refine ev_name (i := 3) rfl ?_
  refine ev_name (i := 6) rfl ?_
  refine ⟨_, _, _, _, rfl, rfl, pick_at hp (fun l => D.lst (l.map pD)) x.sl x.st, ?_⟩
  refine av_nil ?_
  refine cl_len_lst ?_
  refine ev_int ?_
  exact ⟨_, od_gt, fun _ => yes, fun _ => ss_nil (tail pr ow6 hpr.1 hpr.2 hb6)⟩
end
end K97
/-! # Walk XL: a drawn question; what is alike -/
namespace K97
open PySem PySem.Spec PyProof.Rows L2 TL
def qD : Qn → D
  | .two c t u => .tup [.str (w2 c), .int t, .int u]
  | .win pl k => .tup [.str "window", .str pl, .int k]
  | .at_ wd pl t => .tup [.str wd, .str pl, .int t]
/-- what the law compares: deep, showable, small -/
structure Fit (d : D) (n k : Nat) : Prop where
  gd : d.gd = true
  dp : d.dp ≤ k
  lv : d.pd.leavesShort 50 = true
  sh : d.pd.showable = true
  wt : d.pd.weight ≤ n
theorem Fit.up {d : D} {n k m j : Nat} (h : Fit d n k) (hn : n ≤ m) (hk : k ≤ j) : Fit d m j := ⟨h.gd, Nat.le_trans h.dp hk, h.lv, h.sh, Nat.le_trans h.wt hn⟩
theorem Fit.non : Fit .non 0 0 := ⟨rfl, Nat.le_refl 0, by rw [D.pd, PyData.leavesShort], by rw [D.pd, PyData.showable], by rw [D.pd, PyData.weight]; exact Nat.le_refl 0⟩
theorem Fit.int {i : Int} (h : Nm i) : Fit (.int i) 1921 0 := by
  refine ⟨rfl, Nat.le_refl 0, ?_, ?_, ?_⟩
  · rw [D.pd, PyData.leavesShort, PyData.shown]
    exact decide_eq_true (Nat.le_trans (len_iS h) (by decide))
  · rw [D.pd, PyData.showable]
    exact decide_eq_true h.sm.log
  · rw [D.pd, PyData.weight]
    have := h.sm.log
    split <;> omega
/-- texts of plain signs -/
def Asc (x : Str) : Prop := ∀ c ∈ tl x, c < 128
theorem Fit.str {x : Str} {n : Nat} (h : Asc x) (hl : x.length ≤ n) : Fit (.str x) n 0 := by
  refine ⟨?_, Nat.le_refl 0, ?_, by rw [D.pd, PyData.showable], by rw [D.pd, PyData.weight]; exact hl⟩
  · rw [D.gd, PyData.canLay0]
    unfold PyData.strOk
    rw [Array.all_eq_true']
    intro c hc
    have := h c (Array.mem_toList_iff.mpr hc)
    simp; omega
  · rw [D.pd, PyData.leavesShort, List.all_eq_true]
    intro c hc
    have := h c hc
    exact decide_eq_true (by omega)
theorem fits_all {n k : Nat} : ∀ {ds : List D}, (∀ d ∈ ds, Fit d n k) → D.gds ds = true ∧ D.dps ds ≤ k ∧ PyData.leavesShortAll 50 (D.pds ds) = true ∧ PyData.showableAll (D.pds ds) = true ∧ PyData.weightAll (D.pds ds) ≤ ds.length * (n + 1)
  | [], _ => ⟨by rw [D.gds], by rw [D.dps]; exact Nat.zero_le k, by rw [D.pds, PyData.leavesShortAll], by rw [D.pds, PyData.showableAll], by rw [D.pds, PyData.weightAll]; exact Nat.zero_le _⟩
  | d :: ds, h => by
    obtain ⟨a1, a2, a3, a4, a5⟩ := fits_all (ds := ds) fun e he => h e (List.mem_cons_of_mem _ he)
    have f := h d List.mem_cons_self
    refine ⟨by rw [D.gds, f.gd, a1]; rfl, by rw [D.dps]; exact Nat.max_le.mpr ⟨f.dp, a2⟩, by rw [D.pds, PyData.leavesShortAll, f.lv, a3]; rfl, by rw [D.pds, PyData.showableAll, f.sh, a4]; rfl, ?_⟩
    rw [D.pds, PyData.weightAll, List.length_cons, Nat.succ_mul]
    have := f.wt
    omega
theorem Fit.lst {ds : List D} {n k : Nat} (h : ∀ d ∈ ds, Fit d n k) : Fit (.lst ds) (ds.length * (n + 1)) (k + 1) := by
  obtain ⟨a1, a2, a3, a4, a5⟩ := fits_all h
  exact ⟨by rw [D.gd]; exact a1, by rw [D.dp]; omega, by rw [D.pd, PyData.leavesShort]; exact a3, by rw [D.pd, PyData.showable]; exact a4, by rw [D.pd, PyData.weight]; exact a5⟩
theorem Fit.tup {ds : List D} {n k : Nat} (h : ∀ d ∈ ds, Fit d n k) : Fit (.tup ds) (ds.length * (n + 1)) (k + 1) := by
  obtain ⟨a1, a2, a3, a4, a5⟩ := fits_all h
  exact ⟨by rw [D.gd]; exact a1, by rw [D.dp]; omega, by rw [D.pd, PyData.leavesShort]; exact a3, by rw [D.pd, PyData.showable]; exact a4, by rw [D.pd, PyData.weight]; exact a5⟩
theorem asc_app {x y : Str} (h : Asc x) (k : Asc y) : Asc (x ++ y) := fun c hc => by
  rw [tl_append] at hc
  exact (List.mem_append.mp hc).elim (h c) (k c)
theorem asc_pos {i : Int} (h : 0 ≤ i) : Asc (iS i) := fun c hc => by
  rw [tl_pos h] at hc
  have := numL_digits _ c hc
  omega
theorem asc_minus : Asc (Str.ofString "-") := by unfold Asc; decide +kernel
theorem asc_iS {i : Int} : Asc (iS i) := by
  by_cases h : 0 ≤ i
  · exact asc_pos h
  · rw [iS_neg (by omega)]
    exact asc_app asc_minus (asc_pos (by omega))
theorem asc_join {y : Str} (hy : Asc y) : ∀ {ws : List Str}, (∀ x ∈ ws, Asc x) → Asc (Txt.join y ws) := fun {ws} h c hc => by
  rw [join_eq, tl_join] at hc
  induction ws with
  | nil => simp [joinL] at hc
  | cons a r ih =>
    cases r with
    | nil => exact h a List.mem_cons_self c (by simpa [joinL] using hc)
    | cons b r =>
      rw [List.map_cons, List.map_cons, joinL] at hc
      rcases List.mem_append.mp hc with z | z
      · exact h a List.mem_cons_self c z
      · rcases List.mem_append.mp z with z | z
        · exact hy c z
        · exact ih (fun x hx => h x (List.mem_cons_of_mem _ hx)) (by rw [List.map_cons]; exact z)
theorem join_len {y : Str} {n : Nat} : ∀ {ws : List Str}, (∀ x ∈ ws, x.length ≤ n) → (Txt.join y ws).length ≤ ws.length * (n + y.length) := fun {ws} h => by
  rw [len_tl, join_eq, tl_join]
  induction ws with
  | nil => simp [joinL]
  | cons a r ih =>
    have h1 : (tl a).length ≤ n := by rw [← len_tl]; exact h a List.mem_cons_self
    have h2 := ih fun x hx => h x (List.mem_cons_of_mem _ hx)
    have hy : (tl y).length = y.length := (len_tl y).symm
    cases r with
    | nil =>
      show (tl a).length ≤ 1 * (n + y.length)
      omega
    | cons b r =>
      rw [List.map_cons, List.map_cons, joinL]
      rw [List.map_cons] at h2
      have e : (a :: b :: r).length * (n + y.length) = (b :: r).length * (n + y.length) + (n + y.length) := by rw [List.length_cons, Nat.succ_mul]
      rw [List.length_append, List.length_append, e]
      omega
structure TxtOk (t : Str) : Prop where
  a : Asc t
  l : t.length ≤ 60000
theorem asc_at : Asc (Str.ofString " at ") := by unfold Asc; decide +kernel
theorem asc_to : Asc (Str.ofString " to ") := by unfold Asc; decide +kernel
theorem asc_sp : Asc (Str.ofString " ") := by unfold Asc; decide +kernel
theorem asc_semi : Asc (Str.ofString "; ") := by unfold Asc; decide +kernel
theorem asc_sight {c : Int × Int} : Asc (tSight c) := asc_app (asc_app asc_iS asc_at) asc_iS
theorem sight_len {c : Int × Int} (h1 : Nm c.1) (h2 : Nm c.2) : (tSight c).length ≤ 86 := by
  have f1 := len_iS h1
  have f2 := len_iS h2
  have f3 : (Str.ofString " at ").length = 4 := by decide +kernel
  show (iS c.2 ++ Str.ofString " at " ++ iS c.1).length ≤ _
  rw [Str.len_app, Str.len_app]
  omega
theorem asc_kind {x : Str} (h : x ∈ kinds) : Asc x := by
  simp only [List.mem_cons, List.not_mem_nil, or_false] at h
  rcases h with rfl | rfl | rfl <;> (unfold Asc; decide +kernel)
theorem deed_txt {d : Deed} (h : DdOk d) : Asc (tDeed d) ∧ (tDeed d).length ≤ 128 := by
  have f1 := sight_len h.n1 h.n2
  have f2 := (fr_kind h.k).2
  have f3 : (Str.ofString " ").length = 1 := by decide +kernel
  refine ⟨asc_app (asc_app (asc_kind h.k) asc_sp) asc_sight, ?_⟩
  show (d.1 ++ Str.ofString " " ++ tSight d.2).length ≤ _
  rw [Str.len_app, Str.len_app]
  omega
theorem sm_txt {i : Int} (h : Sm i) : (iS i).length ≤ 1921 := h.fit
section
variable {P : Program} {w : World} {K : PySem.W.Frag} {mg : Str → Option Value} {base : Heap}
def S__law_question : SpD := fun ds O Q _ => ∃ (b : Addr) (B f : Int) (bl bt : Int × Int) (x : Ss), ds = [.adr b, lsD f bl bt x] ∧ Bd2 B f bl bt x ∧ B ≤ 10 ^ 39 ∧ Drw b O (fun d => ∃ k : Qn, d = qD k ∧ k.ok) Q
theorem S__law_question_len {ds O Q QE} (h : S__law_question ds O Q QE) : ds.length = 2 := by obtain ⟨i, _, _, _, _, _, e, _⟩ := h; rw [e]; rfl
theorem bn_nm {B t : Int} (hB : B ≤ 10 ^ 39) (h : Bn (B + 2 * 10 ^ 29) t) : Nm t ∧ ∀ k : Int, 0 ≤ k → k ≤ 5 → Nm (t + k) := by
  have e : (10 : Int) ^ 40 = 10 * 10 ^ 39 := by decide +kernel
  have e2 : 100 * (10 : Int) ^ 29 ≤ 10 ^ 39 := by decide +kernel
  have e3 : (100 : Int) ≤ 10 ^ 29 := by decide +kernel
  have e4 : ((10 ^ 40 : Nat) : Int) = 10 ^ 40 := by decide +kernel
  obtain ⟨h1, h2⟩ := h
  exact ⟨by unfold Nm; omega, fun k k0 k1 => by unfold Nm; omega⟩
theorem f__law_question (W : Wd P w K mg base) : Fg P w K mg base .cold 4 "_law_question" S__law_question := by
  refine W.fg 91 (d := d__law_question) sc__law_question rfl rfl (by decide +kernel) rfl (fun _ _ _ _ _ _ us hl => match us, hl with | [_, _], _ => rfl) (fun ds O Q QE h => S__law_question_len h) ?_
  rintro cdv A outer s H E F0 ds O Q QE hm hr xe ⟨b, B, f, bl, bt, x, rfl, bd, hB, ow, hO, hb, q⟩
  have nd : N__law_question.Nodup := by decide
  have ht : Heat (cxB P w K mg base N__law_question d__law_question.qual (defScope d__law_question.st) (d__law_question.pa.ad K) cdv A outer s H E) := .inl hm
  have lc := bd.lc
  refine ss_cons (s_set (i := 2) ?_ nd)
  refine ev_call (f__law_one W) (hr.mono (by decide)) trivial xer0 ?_
  refine av_cons ?_
  refine ev_name (i := 0) rfl ?_
  refine av_cons ?_
  refine ev_lst ?_
  refine av_cons ?_
  refine ev_str ?_
  refine av_cons ?_
  refine ev_str ?_
  refine av_cons ?_
  refine ev_str ?_
  refine av_cons ?_
  refine ev_str ?_
  refine av_cons ?_
  refine ev_str ?_
  refine av_cons ?_
  refine ev_str ?_
  refine av_nil ?_
  refine ⟨by show 6 ≤ 100000; decide, ?_⟩
  refine av_nil ?_
  refine ⟨b, _, rfl, by simp, by show 6 ≤ 1000; decide, ow, hO, hb, ?_⟩
  intro d ow1 hd hb1
  obtain ⟨wd, rfl, hw⟩ : ∃ wd : Str, d = .str wd ∧ ((∃ c, wd = w2 c) ∨ wd = "window" ∨ wd ∈ wds3) := by
    simp only [List.mem_cons, List.not_mem_nil, or_false] at hd
    rcases hd with rfl | rfl | rfl | rfl | rfl | rfl
    · exact ⟨_, rfl, .inl ⟨true, rfl⟩⟩
    · exact ⟨_, rfl, .inl ⟨false, rfl⟩⟩
    · exact ⟨_, rfl, .inr (.inl rfl)⟩
    · exact ⟨_, rfl, .inr (.inr (by simp))⟩
    · exact ⟨_, rfl, .inr (.inr (by simp))⟩
    · exact ⟨_, rfl, .inr (.inr (by simp))⟩
  refine ss_cons (s_set (i := 3) ?_ nd)
  refine ev_call (f__law_shop_moment W) (hr.mono (by decide)) hm xer0 ?_
  refine av_cons ?_
  refine ev_name (i := 0) rfl ?_
  refine av_cons ?_
  refine ev_name (i := 1) rfl ?_
  refine av_nil ?_
  refine ⟨b, B, f, bl, bt, x, rfl, bd, ow1, Om.put_same, hb1, ?_⟩
  rintro _ ow2 ⟨t, rfl, ht2⟩ hb2
  rw [Om.put_put]
  obtain ⟨n1, n2⟩ := bn_nm hB ht2
  refine ss_cons (s_if ?_)
  refine tv_cmp ?_
  refine ev_name (i := 2) rfl ?_
  refine ev_tup ?_
  refine av_cons ?_
  refine ev_str ?_
  refine av_cons ?_
  refine ev_str ?_
  refine av_nil ?_
  refine ⟨by show 2 ≤ 100000; decide, ?_⟩
  refine ⟨_, od_in_strs (ys := ["charged", "overs"]), fun h => ?_, fun h => ss_nil ?_⟩
  · obtain ⟨c, rfl⟩ : ∃ c, wd = w2 c := by
      rcases hw with z | rfl | z
      · exact z
      · exact absurd (h.symm.trans win_out) (by decide)
      · exact absurd (h.symm.trans (wd_out z).1) (by decide)
    refine ss_cons (s_ret ?_)
    refine ev_tup ?_
    refine av_cons ?_
    refine ev_name (i := 2) rfl ?_
    refine av_cons ?_
    refine ev_name (i := 3) rfl ?_
    refine av_cons ?_
    refine ev_op ?_
    refine ev_name (i := 3) rfl ?_
    refine ev_call (f__law_take W) (hr.mono (by decide)) trivial xer0 ?_
    refine av_cons ?_
    refine ev_name (i := 0) rfl ?_
    refine av_cons ?_
    refine ev_int ?_
    refine av_nil ?_
    refine ⟨b, 5, rfl, by decide, by decide, ow2, Om.put_same, hb2, ?_⟩
    rintro _ ow3 ⟨k, rfl, k1, k2⟩ hb3
    rw [Om.put_put]
    refine ⟨_, od_add, av_nil ⟨by show 3 ≤ 100000; decide, q _ _ ⟨.two c t (t + k), rfl, ⟨by omega, n1, n2 k k1 (by omega)⟩⟩ hb3⟩⟩
  have hw2 : wd = "window" ∨ wd ∈ wds3 := by
    rcases hw with ⟨c, rfl⟩ | z
    · exact absurd (h.symm.trans (w2_in c)) (by decide)
    · exact z
  refine ss_cons (s_set (i := 4) ?_ nd)
  refine ev_call (f__law_one W) (hr.mono (by decide)) trivial xer0 ?_
  refine av_cons ?_
  refine ev_name (i := 0) rfl ?_
  refine av_cons ?_
  refine ev_lst ?_
  refine av_cons ?_
  refine ev_str ?_
  refine av_cons ?_
  refine ev_str ?_
  refine av_nil ?_
  refine ⟨by show 2 ≤ 100000; decide, ?_⟩
  refine av_nil ?_
  refine ⟨b, _, rfl, by simp, by show 2 ≤ 1000; decide, ow2, Om.put_same, hb2, ?_⟩
  intro d ow3 hd hb3
  rw [Om.put_put]
  obtain ⟨pl, hp, rfl⟩ : ∃ pl ∈ plcs, d = .str pl := by
    simp only [List.mem_cons, List.not_mem_nil, or_false] at hd
    rcases hd with rfl | rfl
    · exact ⟨"label", by simp, rfl⟩
    · exact ⟨"till", by simp, rfl⟩
  refine ss_cons (s_set (i := 5) ?_ nd)
  refine ev_ix ?_
  refine ev_lst ?_
  refine av_cons ?_
  refine ev_call (f__law_take W) (hr.mono (by decide)) trivial xer0 ?_
  refine av_cons ?_
  refine ev_name (i := 0) rfl ?_
  refine av_cons ?_
  refine ev_op ?_
  refine ev_blt ?_ (W.fre _ (by decide +kernel)) boot_len
  refine av_cons ?_
  refine ev_ix ?_
  refine ev_name (i := 1) rfl ?_
  refine ev_int ?_
  refine ⟨_, xd_tup (d := .lst (x.ch.map pD)) rfl, ?_⟩
  refine av_nil ?_
  refine cl_len_lst ?_
  refine ev_int ?_
  refine ⟨_, od_add, ?_⟩
  refine av_nil ?_
  rw [List.length_map]
  refine ⟨b, _, rfl, by omega, by omega, ow3, Om.put_same, hb3, ?_⟩
  rintro _ ow4 ⟨j, rfl, j1, j2⟩ hb4
  rw [Om.put_put]
  refine av_cons ?_
  refine ev_op ?_
  refine ev_int ?_
  refine ev_call (f__law_take W) (hr.mono (by decide)) trivial xer0 ?_
  refine av_cons ?_
  refine ev_name (i := 0) rfl ?_
  refine av_cons ?_
  refine ev_int ?_
  refine av_nil ?_
  refine ⟨b, 90, rfl, by decide, by decide, ow4, Om.put_same, hb4, ?_⟩
  rintro _ ow5 ⟨i, rfl, i1, i2⟩ hb5
  rw [Om.put_put]
  refine ⟨_, od_add, ?_⟩
  refine av_nil ?_
  refine ⟨by show 2 ≤ 100000; decide, ?_⟩
  refine ev_typ ?_ (W.fre _ (by decide +kernel)) boot_int
  refine av_cons ?_
  refine ev_cmp ?_
  refine ev_call (f__law_take W) (hr.mono (by decide)) trivial xer0 ?_
  refine av_cons ?_
  refine ev_name (i := 0) rfl ?_
  refine av_cons ?_
  refine ev_int ?_
  refine av_nil ?_
  refine ⟨b, 6, rfl, by decide, by decide, ow5, Om.put_same, hb5, ?_⟩
  rintro _ ow6 ⟨g, rfl, g1, g2⟩ hb6
  rw [Om.put_put]
  refine ev_int ?_
  refine ⟨_, od_eqi, ?_⟩
  refine av_nil ?_
  refine cl_int_bl ?_
  have two : ∀ c : Bool, ∃ n : Nat, n ≤ 1000 ∧ IxD (cxB P w K mg base N__law_question d__law_question.qual (defScope d__law_question.st) (d__law_question.pa.ad K) cdv A outer s H E) (O.put b ow6) (.lst [.int j, .int (10 + i)]) (.int (if c then 1 else 0)) (.int n) := fun c => by
    cases c with
    | true =>
      obtain ⟨n, hn⟩ := Int.eq_ofNat_of_zero_le (show 0 ≤ 10 + i by omega)
      exact ⟨n, by omega, by rw [hn]; exact xd_lst rfl⟩
    | false =>
      obtain ⟨n, rfl⟩ := Int.eq_ofNat_of_zero_le j1
      exact ⟨n, by omega, xd_lst rfl⟩
  obtain ⟨n, hn, hx⟩ := two (decide (g = 0))
  refine ⟨_, hx, ?_⟩
  refine ss_cons (s_ret ?_)
  refine ev_tup ?_
  refine av_cons ?_
  refine ev_name (i := 2) rfl ?_
  refine av_cons ?_
  refine ev_name (i := 4) rfl ?_
  refine av_cons ?_
  refine ev_if ?_
  refine tv_cmp ?_
  refine ev_name (i := 2) rfl ?_
  refine ev_str ?_
  refine ⟨_, od_eqs, fun h => ?_, fun h => ?_⟩
  · obtain rfl : wd = Str.ofString "window" := of_decide_eq_true h
    refine ev_name (i := 5) rfl ?_
    refine av_nil ?_
    exact ⟨by show 3 ≤ 100000; decide, q _ _ ⟨.win pl n, rfl, hp, hn⟩ hb6⟩
  · have hw3 : wd ∈ wds3 := hw2.elim (fun z => absurd z (of_decide_eq_false h)) id
    refine ev_name (i := 3) rfl ?_
    refine av_nil ?_
    exact ⟨by show 3 ≤ 100000; decide, q _ _ ⟨.at_ wd pl t, rfl, hw3, hp, n1⟩ hb6⟩
def S__law_alike : SpD := fun ds O Q _ => ∃ d : D, ds = [d, d] ∧ ((∃ ds, d = .lst ds) ∨ ∃ ds, d = .tup ds) ∧ Fit d 300000 60 ∧ Q (.bl true) O
theorem S__law_alike_len {ds O Q QE} (h : S__law_alike ds O Q QE) : ds.length = 2 := by obtain ⟨i, e, _⟩ := h; rw [e]; rfl
theorem f__law_alike (W : Wd P w K mg base) : Fg P w K mg base .any 1 "_law_alike" S__law_alike := by
  refine W.fg 60 (d := d__law_alike) sc__law_alike rfl rfl (by decide +kernel) rfl (fun _ _ _ _ _ _ us hl => match us, hl with | [_, _], _ => rfl) (fun ds O Q QE h => S__law_alike_len h) ?_
  rintro cdv A outer s H E F0 ds O Q QE hm hr xe ⟨d, rfl, hd, ft, q⟩
  have ok := gd_ok ft.gd (Nat.le_trans ft.dp (by decide))
  obtain ⟨g1, g2, g3, g4⟩ := gd_plain ft.gd
  have hs : d.pd.shown.length ≤ sizeLine := by
    have h1 := PyData.shown_le 50 (by decide) d.pd ft.lv
    have h2 := ft.wt
    rw [sizeLine_eq]
    omega
  have hde : d.pd.depth ≤ 100 := by rw [g3]; exact Nat.le_trans ft.dp (by decide)
  refine ss_cons (s_ret ?_)
  refine ev_and ?_
  refine ev_cmp ?_
  refine ev_name (i := 0) rfl ?_
  refine ev_name (i := 1) rfl ?_
  refine ⟨_, od_eq hr.u64 ok ok, _, rfl, fun _ => ?_, fun h => absurd h (by rw [eqv_self ft.gd]; decide)⟩
  refine ev_one ?_
  refine ev_cmp ?_
  refine ev_blt ?_ (W.fre _ (by decide +kernel)) boot_repr
  refine av_cons ?_
  refine ev_name (i := 0) rfl ?_
  refine av_nil ?_
  refine cl_repr hd hr g1 ft.sh g4 hde hs ?_
  refine ev_blt ?_ (W.fre _ (by decide +kernel)) boot_repr
  refine av_cons ?_
  refine ev_name (i := 1) rfl ?_
  refine av_nil ?_
  refine cl_repr hd hr g1 ft.sh g4 hde hs ?_
  exact ⟨_, od_eqs, bq (by simp) q⟩
end
end K97
/-! # Walk XM: errors told -/
namespace K97
open PySem PySem.Spec PyProof.Rows L2 TL
section
variable {P : Program} {w : World} {K : PySem.W.Frag} {mg : Str → Option Value} {base : Heap}
theorem Wd.fgE (W : Wd P w K mg base) (i : Nat) {d : DefX} {x y : Str} {k : Nat} {N : List Str} {ok : Exn → Prop} {S : Exn → D} (sc : FnScope N [y] (defScope d.st)) (h : fn[i]? = some d) (hp : d.pa = .glo x) (hx : x ∈ gls) (hd : d.dfl = [])
    (hb : ∀ (kV doc pm : Value) (an : Option Addr) (cdv ct : Value) (us : List Value), us.length = [y].length → bindArgs (PySem.W.fnOf d.name d.qual (defArgs d.st) (defBody d.st) (defScope d.st) .none kV doc pm an cdv ct) ⟨us, []⟩ = pure ([y].zip us))
    (B : ∀ (cdv : Value) (A : Around) (outer : List PySem.Env) (s : Shared) (H : Hp) (a : Addr) (oe : Obj) (x : Exn) (F0 : Hp) (O : Om), RoomB k (cxE P w K mg base N d.qual (defScope d.st) (d.pa.ad K) cdv A outer s H (a, oe)).A → XAt (cxE P w K mg base N d.qual (defScope d.st) (d.pa.ad K) cdv A outer s H (a, oe)) F0 a x → ok x →
      Ssv (cxE P w K mg base N d.qual (defScope d.st) (d.pa.ad K) cdv A outer s H (a, oe)) F0 (defBody d.st) (rho0 N [.adr a]) O { nx := fun _ _ => False, rt := fun d O' => d = S x ∧ O' = O }) : FgE P w K mg base (k + 1) x ok S := by
  obtain ⟨fd, F⟩ := W.def_ i h
  have e : d.dvs K = [] := by unfold DefX.dvs; rw [hd]; rfl
  refine ⟨d.pa.ad K, fd, y, fn_e F sc B, ?_, F.kp, ?_⟩
  · rw [hp]; exact W.glo x hx
  · rw [e] at F; exact F.bindsN hb
/-- the errors of a shop -/
inductive IsX : Exn → Prop where
  | nothing : IsX nothing
  | number (k : Nat) : IsX (noNumber k)
  | later (x : Ss) : IsX (notLater x)
  | passed (m : Int) : IsX (passed m)
  | clash (d : Deed) : IsX (clash d)
def wordD (e : Exn) : D :=
  if e.c = "Nothing" then .tup [.str "nothing", .non] else if e.c = "NoNumber" then .tup [.str "number", (e.a.map (·.2)).getD .non]
  else if e.c = "NotLater" then .tup [.str "later", (e.a.map (·.2)).getD .non] else if e.c = "Passed" then .tup [.str "passed", (e.a.map (·.2)).getD .non]
  else .tup [.str "clash", (e.a.map (·.2)).getD .non]
inductive Is3 : Exn → Prop where
  | later (x : Ss) : Is3 (notLater x)
  | passed (m : Int) : Is3 (passed m)
  | clash (d : Deed) : Is3 (clash d)
theorem in1 : Str.ofString "Nothing" ∈ xns := by decide
theorem in2 : Str.ofString "NoNumber" ∈ xns := by decide
theorem in3 : Str.ofString "NotLater" ∈ xns := by decide
theorem in4 : Str.ofString "Passed" ∈ xns := by decide
theorem in5 : Str.ofString "Clash" ∈ xns := by decide
theorem Is3.mem {x : Exn} : Is3 x → x.c ∈ xns
  | .later _ => in3
  | .passed _ => in4
  | .clash _ => in5
theorem IsX.mem {x : Exn} : IsX x → x.c ∈ xns
  | .nothing => in1
  | .number _ => in2
  | .later _ => in3
  | .passed _ => in4
  | .clash _ => in5
section
variable {X : Cx} {F0 : Hp} {r : Rho} {O : Om} {Q : D → Om → Prop} {a : Addr} {x : Exn} {e : Expr} {pos : Pos}
/-- isinstance(e, C) by its name -/
theorem ev_isX (W : Wd X.prog X.w X.K X.mg X.base) {c2 : Str} {p p2 p3 : Pos} {v : Str} {i : Nat} (hx : XAt X F0 a x) (hc : x.c ∈ xns) (hc2 : c2 ∈ xns) (hg2 : c2 ∈ gls) (hr : r[i]? = some (some (.adr a))) (q : Q (.bl (x.c == c2)) O)
    (hN : X.N[i]? = some v := by rfl) (hv : Vis X.env.scope v := by first | exact Or.inl rfl | exact Or.inr (Or.inl rfl) | exact Or.inr (Or.inr rfl)) (hd : (v == ("__debug__" : Str)) = false := by decide) (hcd : (v == ("__classdict__" : Str)) = false := by decide)
    (hgc : Gl X c2 := by rfl) (hdc : (c2 == ("__debug__" : Str)) = false := by decide) (hgi : Gl X "isinstance" := by rfl) (h1 : starEach [.Name v p2, .Name c2 p3] X.env = (false, eval (.Name v p2) X.env) :: starEach [.Name c2 p3] X.env := by rfl) (h2 : starEach [.Name c2 p3] X.env = (false, eval (.Name c2 p3) X.env) :: starEach [] X.env := by rfl)
    (hpl : (backTo pos (starEach [.Name c2 p3] X.env)).any (·.1) = false := by rfl) : Ev X F0 (.Call (.Name "isinstance" p) [.Name v p2, .Name c2 p3] [] pos) r O Q := by
  refine ev_isE (x := x) (C := He.ga X.K c2) hx (W.xi x.c hc) (W.xk x.c hc c2 hc2) ?_ (W.fre _ (by decide +kernel)) boot_isinstance hgi (by decide) (by decide) h1 hpl
  refine av_cons (ev_name (i := i) hr ?_ hN hv hd hcd) h1
  refine av_cons (ev_glob (d := .adr (He.ga X.K c2)) (v := .ref (He.ga X.K c2)) (W.glo c2 hg2) rfl (fun F => rep_adr.mpr rfl) ?_ hgc hdc) h2
  exact av_nil ⟨rfl, q⟩
end
theorem f__law_error (W : Wd P w K mg base) : FgE P w K mg base 2 "_law_error" Is3 wordD := by
  refine W.fgE 78 (d := d__law_error) sc__law_error rfl rfl (by decide +kernel) rfl (fun _ _ _ _ _ _ us hl => match us, hl with | [_], _ => rfl) ?_
  intro cdv A outer s H a oe x F0 O hr hx ok
  refine ss_cons (s_if ?_)
  refine tv_val ?_
  refine ev_isX W hx ok.mem (by decide) (by decide +kernel) (i := 0) rfl ?_
  cases ok with
  | later x =>
    refine ⟨true, rfl, fun _ => ?_, nofun⟩
    obtain ⟨t1, t2⟩ := W.xf ("NotLater", "index") (by decide)
    refine ss_cons (s_ret ?_)
    refine ev_tup ?_
    refine av_cons ?_
    refine ev_str ?_
    refine av_cons ?_
    refine ev_xf hx rfl t1 t2 (ev_name (i := 0) rfl ⟨rfl, ?_⟩)
    refine av_nil ?_
    exact ⟨by show 2 ≤ 100000; decide, rfl, rfl⟩
  | passed m =>
    refine ⟨false, rfl, nofun, fun _ => ss_nil ?_⟩
    refine ss_cons (s_if ?_)
    refine tv_val ?_
    refine ev_isX W hx in4 (by decide) (by decide +kernel) (i := 0) rfl ?_
    refine ⟨true, rfl, fun _ => ?_, nofun⟩
    obtain ⟨t1, t2⟩ := W.xf ("Passed", "moment") (by decide)
    refine ss_cons (s_ret ?_)
    refine ev_tup ?_
    refine av_cons ?_
    refine ev_str ?_
    refine av_cons ?_
    refine ev_xf hx rfl t1 t2 (ev_name (i := 0) rfl ⟨rfl, ?_⟩)
    refine av_nil ?_
    exact ⟨by show 2 ≤ 100000; decide, rfl, rfl⟩
  | clash d =>
    refine ⟨false, rfl, nofun, fun _ => ss_nil ?_⟩
    refine ss_cons (s_if ?_)
    refine tv_val ?_
    refine ev_isX W hx in5 (by decide) (by decide +kernel) (i := 0) rfl ?_
    refine ⟨false, rfl, nofun, fun _ => ss_nil ?_⟩
    refine ss_cons (s_ret ?_)
    refine ev_if ?_
    refine tv_val ?_
    refine ev_isX W hx in5 (by decide) (by decide +kernel) (i := 0) rfl ?_
    refine ⟨true, rfl, fun _ => ?_, nofun⟩
    obtain ⟨t1, t2⟩ := W.xf ("Clash", "deed") (by decide)
    refine ev_tup ?_
    refine av_cons ?_
    refine ev_str ?_
    refine av_cons ?_
    refine ev_xf hx rfl t1 t2 (ev_name (i := 0) rfl ⟨rfl, ?_⟩)
    refine av_nil ?_
    exact ⟨by show 2 ≤ 100000; decide, rfl, rfl⟩
theorem f__law_word (W : Wd P w K mg base) : FgE P w K mg base 3 "_law_word" IsX wordD := by
  refine W.fgE 87 (d := d__law_word) sc__law_word rfl rfl (by decide +kernel) rfl (fun _ _ _ _ _ _ us hl => match us, hl with | [_], _ => rfl) ?_
  intro cdv A outer s H a oe x F0 O hr hx ok
  refine ss_cons (s_if ?_)
  refine tv_val ?_
  refine ev_isX W hx ok.mem (by decide) (by decide +kernel) (i := 0) rfl ?_
  have rest : ∀ (h1 : (x.c == Str.ofString "Nothing") = false) (h2 : (x.c == Str.ofString "NoNumber") = false) (h3 : Is3 x), Ssv (cxE P w K mg base N__law_word d__law_word.qual (defScope d__law_word.st) (d__law_word.pa.ad K) cdv A outer s H (a, oe)) F0 ((defBody d__law_word.st).drop 1) (rho0 N__law_word [.adr a]) O { nx := fun _ _ => False, rt := fun d O' => d = wordD x ∧ O' = O } := fun h1 h2 h3 => by
    refine ss_cons (s_ret ?_)
    refine ev_if ?_
    refine tv_val ?_
    refine ev_isX W hx h3.mem (by decide) (by decide +kernel) (i := 0) rfl ?_
    refine ⟨_, rfl, fun z => absurd (z.symm.trans h2) (by decide), fun _ => ?_⟩
    exact ev_callE (f__law_error W) (hr.mono (by decide)) hx h3 (ev_name (i := 0) rfl ⟨rfl, rfl, rfl⟩)
  cases ok with
  | nothing =>
    refine ⟨true, rfl, fun _ => ?_, nofun⟩
    refine ss_cons (s_ret ?_)
    refine ev_tup ?_
    refine av_cons ?_
    refine ev_str ?_
    refine av_cons ?_
    refine ev_non ?_
    refine av_nil ?_
    exact ⟨by show 2 ≤ 100000; decide, rfl, rfl⟩
  | number k =>
    refine ⟨false, rfl, nofun, fun _ => ss_nil ?_⟩
    refine ss_cons (s_ret ?_)
    refine ev_if ?_
    refine tv_val ?_
    refine ev_isX W hx in2 (by decide) (by decide +kernel) (i := 0) rfl ?_
    refine ⟨true, rfl, fun _ => ?_, nofun⟩
    obtain ⟨t1, t2⟩ := W.xf ("NoNumber", "number") (by decide)
    refine ev_tup ?_
    refine av_cons ?_
    refine ev_str ?_
    refine av_cons ?_
    refine ev_xf hx rfl t1 t2 (ev_name (i := 0) rfl ⟨rfl, ?_⟩)
    refine av_nil ?_
    exact ⟨by show 2 ≤ 100000; decide, rfl, rfl⟩
  | later x => exact ⟨false, rfl, nofun, fun _ => ss_nil (rest rfl rfl (.later x))⟩
  | passed m => exact ⟨false, rfl, nofun, fun _ => ss_nil (rest rfl rfl (.passed m))⟩
  | clash d => exact ⟨false, rfl, nofun, fun _ => ss_nil (rest rfl rfl (.clash d))⟩
end
end K97
/-! # Walk XN: said, led by -/
namespace K97
open PySem PySem.Spec PyProof.Rows L2 TL
def ansD : Except Exn Str → D
  | .ok t => .tup [.str "told", .str t]
  | .error e => wordD e
def outD : Except Exn (Str × Sh) → D
  | .ok (t, _) => .tup [.str "told", .str t]
  | .error e => wordD e
def outS (s : Sh) : Except Exn (Str × Sh) → Sh
  | .ok (_, s') => s'
  | .error _ => s
theorem ans_isX {s : Sh} {x : Ss} {q : Qn} {e : Exn} (h : s.ans x q = .error e) : IsX e := by
  obtain ⟨n, rfl⟩ := Sh.ans_err h
  exact .number n
theorem late_isX {x : Ss} {d : Deed} {e : Exn} (h : late x d = some e) : e = notLater x ∨ e = passed d.2.1 := by
  unfold late at h
  split at h
  · cases q : x.ch.getLast? with
    | none => rw [q] at h; cases h
    | some c =>
      rw [q] at h
      have h : (if d.2.1 ≤ c.1 then some (notLater x) else none) = some e := h
      split at h
      · cases h; exact .inl rfl
      · cases h
  · cases q : (x.sn d.1).getLast? with
    | none => rw [q] at h; cases h
    | some c =>
      rw [q] at h
      have h : (if d.2.1 < c.1 then some (passed d.2.1) else none) = some e := h
      split at h
      · cases h; exact .inr rfl
      · cases h
theorem deed_err {s : Sh} {x : Ss} {d : Deed} {e : Exn} (h : s.rDeed x d (late x d) = .error e) : late x d = some e ∨ e = clash d := by
  cases q : late x d with
  | some y => rw [q] at h; cases h; exact .inl rfl
  | none =>
    rw [q] at h
    have h : (if AllSeen s (nextS x d) then Except.ok (Str.ofString "done", s.after x d) else .error (clash d)) = .error e := h
    split at h
    · cases h
    · cases h; exact .inr rfl
theorem run_isX {s : Sh} {x : Ss} {l : Ln} {e : Exn} (h : s.run x l = .error e) : IsX e := by
  cases l with
  | back =>
    have h : s.rBack s.spot = .error e := h
    cases hs : s.spot with
    | zero => rw [hs] at h; cases h; exact .nothing
    | succ k => rw [hs] at h; cases h
  | again =>
    have h : (if s.spot = s.dds.length then Except.error nothing else .ok (tDeed ((s.dds[s.spot]?).getD d0), ({ s with spot := s.spot + 1 } : Sh))) = .error e := h
    split at h
    · cases h; exact .nothing
    · cases h
  | book => cases h
  | log => cases h
  | deed d =>
    rcases deed_err h with z | rfl
    · rcases late_isX z with rfl | rfl
      · exact .later x
      · exact .passed _
    · exact .clash d
  | ask q =>
    have h : s.rAsk (s.ans x q) = .error e := h
    cases ha : s.ans x q with
    | ok t => rw [ha] at h; cases h
    | error y => rw [ha] at h; cases h; exact ans_isX ha
section
variable {P : Program} {w : World} {K : PySem.W.Frag} {mg : Str → Option Value} {base : Heap}
def S__law_said : SpD := fun ds O Q _ => ∃ p, ∃ (s : Sh) (x : Ss) (l : Ln), ds = [dkD p, .str l.txt] ∧ O p = some s.ow ∧ Gsh s x ∧ l.ok ∧ Q (outD (s.run x l)) (O.put p (outS s (s.run x l)).ow)
theorem S__law_said_len {ds O Q QE} (h : S__law_said ds O Q QE) : ds.length = 2 := by obtain ⟨p, s, x, q, e, _⟩ := h; rw [e]; rfl
theorem f__law_said (W : Wd P w K mg base) : Fg P w K mg base .cold 18 "_law_said" S__law_said := by
  refine W.fg 88 (d := d__law_said) sc__law_said rfl rfl (by decide +kernel) rfl (fun _ _ _ _ _ _ us hl => match us, hl with | [_, _], _ => rfl) (fun ds O Q QE h => S__law_said_len h) ?_
  rintro cdv A outer s H E F0 ds O Q QE hm hr xe ⟨p, sh, x, l, rfl, hO, g, hl, q⟩
  have nd : N__law_said.Nodup := by decide
  refine ss_cons (s_tryAs (i := 2) (cv := .ref (He.ga K "LabelError")) rfl rfl nd rfl rfl ⟨rfl, by decide, .inl (W.glo "LabelError" (by decide +kernel))⟩ (fun e O' => sh.run x l = .error e ∧ O' = O) (fun _ _ => False) xer0 ?_ ?_)
  · rintro y O1 ⟨hy, rfl⟩
    refine ⟨true, W.xl y.c (run_isX hy).mem, nofun, fun _ F2 a oe pn hx => ?_⟩
    refine ss_cons (s_ret (ev_callE (f__law_word W) ((hr.mono (by decide)).mark _) hx (run_isX hy) (ev_name (i := 2) rfl ⟨rfl, ?_⟩)))
    rw [hy] at q
    have q : Q (wordD y) (O1.put p sh.ow) := q
    rw [Om.put_eq hO] at q
    exact q
  · intro F2 pn xe' xr po
    refine ss_cons (s_ret ?_)
    refine ev_tup ?_
    refine av_cons ?_
    refine ev_str ?_
    refine av_cons ?_
    refine ev_meth (f_Desk_execute W) (hr.mono (by decide)) hm xr ?_
    refine ev_name (i := 0) rfl ?_
    refine ⟨_, _, .inl rfl, by decide +kernel, ?_⟩
    refine av_cons ?_
    refine ev_name (i := 1) rfl ?_
    refine av_nil ?_
    refine ⟨p, sh, x, l, rfl, hO, g, hl, fun t s' h => ?_, fun e h => ⟨h, rfl⟩⟩
    rw [h] at q
    exact av_nil ⟨by show 2 ≤ 100000; decide, q⟩
/-- a line that leads: what a shop is told of it -/
def Ln.arg : Ln → D
  | .deed d => dD d
  | _ => .non
def Ln.lead : Ln → Prop
  | .back => True
  | .again => True
  | .deed _ => True
  | _ => False
def S__law_led_by : SpD := fun ds O Q _ => ∃ p, ∃ (s : Sh) (x : Ss) (l : Ln), ds = [.adr p, .str l.txt, l.arg] ∧ l.lead ∧ O p = some s.ow ∧ Gsh s x ∧ l.ok ∧ Q (outD (s.run x l)) (O.put p (outS s (s.run x l)).ow)
theorem S__law_led_by_len {ds O Q QE} (h : S__law_led_by ds O Q QE) : ds.length = 3 := by obtain ⟨p, s, x, q, e, _⟩ := h; rw [e]; rfl
theorem f__law_led_by (W : Wd P w K mg base) : Fg P w K mg base .cold 14 "_law_led_by" S__law_led_by := by
  refine W.fg 89 (d := d__law_led_by) sc__law_led_by rfl rfl (by decide +kernel) rfl (fun _ _ _ _ _ _ us hl => match us, hl with | [_, _, _], _ => rfl) (fun ds O Q QE h => S__law_led_by_len h) ?_
  rintro cdv A outer s H E F0 ds O Q QE hm hr xe ⟨p, sh, x, l, rfl, hld, hO, g, hl, q⟩
  have nd : N__law_led_by.Nodup := by decide
  have hat := g.ok.cur.at_
  refine ss_cons (s_tryAs (i := 3) (cv := .ref (He.ga K "LabelError")) rfl rfl nd rfl rfl ⟨rfl, by decide, .inl (W.glo "LabelError" (by decide +kernel))⟩ (fun e O' => sh.run x l = .error e ∧ O' = O) (fun _ _ => False) xer0 ?_ ?_)
  · rintro y O1 ⟨hy, rfl⟩
    refine ⟨true, W.xl y.c (run_isX hy).mem, nofun, fun _ F2 a oe pn hx => ?_⟩
    refine ss_cons (s_ret (ev_callE (f__law_word W) ((hr.mono (by decide)).mark _) hx (run_isX hy) (ev_name (i := 3) rfl ⟨rfl, ?_⟩)))
    rw [hy] at q
    have q : Q (wordD y) (O1.put p sh.ow) := q
    rw [Om.put_eq hO] at q
    exact q
  · intro F2 pn xe' xr po
    cases l with
    | book => exact hld.elim
    | log => exact hld.elim
    | ask k => exact hld.elim
    | deed d =>
      have hd : DdOk d := hl
      have q : ∀ r, sh.rDeed x d (late x d) = r → Q (outD r) (O.put p (outS sh r).ow) := fun r hr => hr ▸ q
      refine ss_cons (s_if ?_)
      refine tv_cmp ?_
      refine ev_name (i := 2) rfl ?_
      refine ev_non ?_
      refine ⟨_, od_isNot, fun _ => ?_, nofun⟩
      refine ss_cons (s_ret ?_)
      refine ev_tup ?_
      refine av_cons ?_
      refine ev_str ?_
      refine av_cons ?_
      refine ev_if ?_
      refine tv_cmp ?_
      refine ev_meth (f_Shop_do W) (hr.mono (by decide)) hm xr ?_
      refine ev_name (i := 0) rfl ?_
      refine ⟨_, _, .inr ⟨p, rfl, hO⟩, by decide +kernel, ?_⟩
      refine av_cons ?_
      refine ev_name (i := 2) rfl ?_
      refine av_nil ?_
      refine ⟨p, sh, x, d, rfl, hO, hat, g.ok.cur.ok, g.bl, g.bt, g.cl, g.l1, g.l2, hd.k, hd.p, g.sp, g.dl, g.sl, fun e he => ⟨?_, rfl⟩, fun h1 h2 => ?_, fun h1 h2 => ⟨?_, rfl⟩⟩
      · show sh.rDeed x d (late x d) = _
        rw [he]; rfl
      · have q := q (.ok ("done", sh.after x d)) (by rw [h1]; show (if _ then _ else _) = _; rw [if_pos h2])
        refine ev_non ?_
        refine ⟨_, od_isN, fun _ => ?_, nofun⟩
        refine ev_str ?_
        refine av_nil ?_
        exact ⟨by show 2 ≤ 100000; decide, q⟩
      · show sh.rDeed x d (late x d) = _
        rw [h1]; show (if _ then _ else _) = _; rw [if_neg h2]
    | back =>
      have q : ∀ r, sh.rBack sh.spot = r → Q (outD r) (O.put p (outS sh r).ow) := fun r hr => hr ▸ q
      refine ss_cons (s_if ?_)
      refine tv_cmp ?_
      refine ev_name (i := 2) rfl ?_
      refine ev_non ?_
      refine ⟨_, od_isNot, nofun, fun _ => ss_nil ?_⟩
      refine ss_cons (s_ret ?_)
      refine ev_tup ?_
      refine av_cons ?_
      refine ev_str ?_
      refine av_cons ?_
      refine ev_call (f__law_deed_text W) (hr.mono (by decide)) trivial xer0 ?_
      refine av_cons ?_
      refine ev_if ?_
      refine tv_cmp ?_
      refine ev_name (i := 1) rfl ?_
      refine ev_str ?_
      refine ⟨_, od_eqs, fun _ => ?_, fun h => absurd rfl (of_decide_eq_false h)⟩
      refine ev_meth0 (f_Shop_back W) (hr.mono (by decide)) hm xr (ev_name (i := 0) rfl ⟨_, _, .inr ⟨p, rfl, hO⟩, by decide +kernel, p, sh, rfl, hO, fun h => ⟨?_, rfl⟩, fun k hk => ?_⟩)
      · show sh.rBack sh.spot = _
        rw [h]; rfl
      · have hs := g.sp
        have hd := List.getElem?_eq_getElem (show k < sh.dds.length by omega)
        have ok := g.dd _ (List.getElem_mem (show k < sh.dds.length by omega))
        have q := q (.ok (tDeed sh.dds[k], { sh with spot := k })) (by rw [hk]; show Except.ok (tDeed ((sh.dds[k]?).getD d0), _) = _; rw [hd]; rfl)
        refine ⟨_, hd, ?_⟩
        refine av_nil ?_
        refine ⟨_, rfl, ⟨ok.n1.sm, ok.n2.sm⟩, kind_len ok.k, ?_⟩
        refine av_nil ?_
        exact ⟨by show 2 ≤ 100000; decide, q⟩
    | again =>
      have q : ∀ r, sh.rAgain = r → Q (outD r) (O.put p (outS sh r).ow) := fun r hr => hr ▸ q
      refine ss_cons (s_if ?_)
      refine tv_cmp ?_
      refine ev_name (i := 2) rfl ?_
      refine ev_non ?_
      refine ⟨_, od_isNot, nofun, fun _ => ss_nil ?_⟩
      refine ss_cons (s_ret ?_)
      refine ev_tup ?_
      refine av_cons ?_
      refine ev_str ?_
      refine av_cons ?_
      refine ev_call (f__law_deed_text W) (hr.mono (by decide)) trivial xer0 ?_
      refine av_cons ?_
      refine ev_if ?_
      refine tv_cmp ?_
      refine ev_name (i := 1) rfl ?_
      refine ev_str ?_
      refine ⟨_, od_eqs, fun h => absurd h (by decide +kernel), fun _ => ?_⟩
      refine ev_meth0 (f_Shop_again W) (hr.mono (by decide)) hm xr (ev_name (i := 0) rfl ⟨_, _, .inr ⟨p, rfl, hO⟩, by decide +kernel, p, sh, rfl, hO, fun h => ⟨?_, rfl⟩, fun hk => ?_⟩)
      · show sh.rAgain = _
        unfold Sh.rAgain; rw [if_pos h]
      · have hs := g.sp
        have hd := List.getElem?_eq_getElem (show sh.spot < sh.dds.length by omega)
        have ok := g.dd _ (List.getElem_mem (show sh.spot < sh.dds.length by omega))
        have q := q (.ok (tDeed sh.dds[sh.spot], { sh with spot := sh.spot + 1 })) (by unfold Sh.rAgain; rw [if_neg hk, hd]; rfl)
        refine ⟨_, hd, ?_⟩
        refine av_nil ?_
        refine ⟨_, rfl, ⟨ok.n1.sm, ok.n2.sm⟩, kind_len ok.k, ?_⟩
        refine av_nil ?_
        exact ⟨by show 2 ≤ 100000; decide, q⟩
end
end K97
/-! # Walk XO: due, asked_right, shop_right -/
namespace K97
open PySem PySem.Spec PyProof.Rows L2 TL
theorem told_fit {t : Str} (h : TxtOk t) : Fit (.tup [.str "told", .str t]) 120002 1 := by
  have f := Fit.tup (ds := [.str "told", .str t]) (n := 60000) (k := 0) fun d hd => by
    simp only [List.mem_cons, List.not_mem_nil, or_false] at hd
    rcases hd with rfl | rfl
    · exact Fit.str (by unfold Asc; decide +kernel) (by decide +kernel)
    · exact Fit.str h.a h.l
  exact f.up (by show 2 * (60000 + 1) ≤ 120002; omega) (by omega)
theorem word_fit {w : Str} {d : D} (hw : Asc w ∧ w.length ≤ 60000) {k : Nat} (h : Fit d 60000 k) : Fit (.tup [.str w, d]) 120002 (k + 1) := by
  have f := Fit.tup (ds := [.str w, d]) (n := 60000) (k := k) fun e he => by
    simp only [List.mem_cons, List.not_mem_nil, or_false] at he
    rcases he with rfl | rfl
    · exact (Fit.str hw.1 hw.2).up (Nat.le_refl _) (Nat.zero_le _)
    · exact h
  exact f.up (by show 2 * (60000 + 1) ≤ 120002; omega) (by omega)
theorem deed_fit {d : Deed} (h : DdOk d) : Fit (dD d) 60000 1 := by
  have f := Fit.tup (ds := [.str d.1, .int d.2.1, .int d.2.2]) (n := 1921) (k := 0) fun e he => by
    simp only [List.mem_cons, List.not_mem_nil, or_false] at he
    rcases he with rfl | rfl | rfl
    · exact Fit.str (asc_kind h.k) (Nat.le_trans (fr_kind h.k).2 (by decide))
    · exact Fit.int h.n1
    · exact Fit.int h.n2
  exact f.up (by show 3 * (1921 + 1) ≤ 60000; omega) (by omega)
theorem asc_opt {o : Option Int} : Asc (tOpt o) := by
  cases o with
  | none => show Asc (Str.ofString "ever"); unfold Asc; decide +kernel
  | some i => exact asc_iS
theorem num_fit {k : Nat} (h : k ≤ 1000) : Fit (wordD (noNumber k)) 120002 2 :=
  (word_fit (w := "number") (d := .int k) (k := 0) ⟨by unfold Asc; decide +kernel, by decide +kernel⟩ ((Fit.int (nm_nat h)).up (by decide) (Nat.le_refl _))).up (Nat.le_refl _) (by decide)
theorem moments_txt {ms : List Int} (h : ∀ m ∈ ms, Nm m) (hl : ms.length ≤ 61) : TxtOk (tMoments ms) := by
  show TxtOk (if ms = [] then _ else _)
  split
  · exact ⟨by show Asc (Str.ofString "none"); unfold Asc; decide +kernel, by show (Str.ofString "none").length ≤ _; decide +kernel⟩
  · have h1 : (Str.ofString " ").length = 1 := by decide +kernel
    have h2 := join_len (y := Str.ofString " ") (n := 41) (ws := ms.map iS) fun x hx => by
      obtain ⟨m, hm, rfl⟩ := List.mem_map.mp hx
      exact len_iS (h m hm)
    rw [h1, List.length_map] at h2
    refine ⟨asc_join asc_sp fun x hx => by obtain ⟨m, _, rfl⟩ := List.mem_map.mp hx; exact asc_iS, ?_⟩
    show (Txt.join (Str.ofString " ") (ms.map iS)).length ≤ _
    omega
theorem sure_txt {o : Option Int} (h : ∀ i, o = some i → Nm i) : TxtOk (tSure o) := by
  cases o with
  | none => exact ⟨by show Asc (Str.ofString "open"); unfold Asc; decide +kernel, by show (Str.ofString "open").length ≤ _; decide +kernel⟩
  | some i => exact ⟨asc_iS, by have := len_iS (h i rfl); show (iS i).length ≤ _; omega⟩
theorem Okq.sure {s : Sh} {x : Ss} (h : Okq s x) {pl : Str} {t : Int} : ∀ i, sureO (lP s x pl t) = some i → Nm i := fun i hi => by
  have pn := h.pn (pl := pl) (t := t)
  generalize lP s x pl t = ps at hi pn
  match ps, hi with
  | [y], hi => cases hi; exact pn _ (by simp)
theorem ans_fit {s : Sh} {x : Ss} {q : Qn} (h : Okq s x) (hq : q.ok) : Fit (ansD (s.ans x q)) 120002 2 := by
  cases q with
  | two c t u =>
    obtain ⟨s1, s2⟩ := h.sm2 c t u
    refine (told_fit ⟨asc_app (asc_app asc_iS asc_to) asc_iS, ?_⟩).up (Nat.le_refl _) (by decide)
    have f1 := sm_txt s1
    have f2 := sm_txt s2
    have f3 : (Str.ofString " to ").length = 4 := by decide +kernel
    show (iS (ans2 c (lP s x "label" t) (lP s x "till" u)).1 ++ Str.ofString " to " ++ iS (ans2 c (lP s x "label" t) (lP s x "till" u)).2).length ≤ _
    rw [Str.len_app, Str.len_app]
    omega
  | win pl k =>
    obtain ⟨hp, hk⟩ := hq
    show Fit (ansD (if k ≤ x.ch.length then _ else _)) _ _
    split
    · refine (told_fit ⟨asc_app (asc_app asc_opt asc_to) asc_opt, ?_⟩).up (Nat.le_refl _) (by decide)
      have f1 := len_opt (h.smB hp k)
      have f2 := len_opt (h.smE hp k)
      have f3 : (Str.ofString " to ").length = 4 := by decide +kernel
      show (tOpt (winB x.ch (s.bd pl) k) ++ Str.ofString " to " ++ tOpt (winE x.ch (s.bd pl) k)).length ≤ _
      rw [Str.len_app, Str.len_app]
      omega
    · exact num_fit hk
  | at_ wd pl t =>
    refine (told_fit (t := tAt s x wd pl t) ?_).up (Nat.le_refl _) (by decide)
    unfold tAt
    split
    · exact moments_txt h.nn h.nl
    · split
      · exact moments_txt h.pn h.pl
      · exact sure_txt h.sure
theorem run_fit {s : Sh} {x : Ss} {l : Ln} (g : Gsh s x) (hl : l.ok) (hld : l.lead) : Fit (outD (s.run x l)) 120002 2 := by
  have td : ∀ d : Deed, DdOk d → TxtOk (tDeed d) := fun d hd => ⟨(deed_txt hd).1, by have := (deed_txt hd).2; omega⟩
  have nt : Fit (wordD nothing) 120002 2 := (word_fit (w := "nothing") (d := .non) (k := 0) ⟨by unfold Asc; decide +kernel, by decide +kernel⟩ (Fit.non.up (by decide) (Nat.le_refl _))).up (Nat.le_refl _) (by decide)
  cases l with
  | book => exact hld.elim
  | log => exact hld.elim
  | ask k => exact hld.elim
  | back =>
    show Fit (outD (s.rBack s.spot)) _ _
    cases hs : s.spot with
    | zero => exact nt
    | succ k =>
      have h1 := g.sp
      have hd := List.getElem?_eq_getElem (show k < s.dds.length by omega)
      show Fit (.tup [.str "told", .str (tDeed ((s.dds[k]?).getD d0))]) _ _
      rw [hd]
      exact (told_fit (td _ (g.dd _ (List.getElem_mem _)))).up (Nat.le_refl _) (by decide)
  | again =>
    show Fit (outD (if s.spot = s.dds.length then .error nothing else .ok (tDeed ((s.dds[s.spot]?).getD d0), ({ s with spot := s.spot + 1 } : Sh)))) _ _
    split
    · exact nt
    · rename_i hne
      have h1 := g.sp
      have hd := List.getElem?_eq_getElem (show s.spot < s.dds.length by omega)
      show Fit (.tup [.str "told", .str (tDeed ((s.dds[s.spot]?).getD d0))]) _ _
      rw [hd]
      exact (told_fit (td _ (g.dd _ (List.getElem_mem _)))).up (Nat.le_refl _) (by decide)
  | deed d =>
    have hd : DdOk d := hl
    have hx := g.cl
    show Fit (outD (s.rDeed x d (late x d))) _ _
    cases hq : late x d with
    | some e =>
      show Fit (wordD e) _ _
      rcases late_isX hq with rfl | rfl
      · exact (word_fit (w := "later") (d := .int x.ch.length) (k := 0) ⟨by unfold Asc; decide +kernel, by decide +kernel⟩ ((Fit.int (nm_nat (by omega))).up (by decide) (Nat.le_refl _))).up (Nat.le_refl _) (by decide)
      · exact (word_fit (w := "passed") (d := .int d.2.1) (k := 0) ⟨by unfold Asc; decide +kernel, by decide +kernel⟩ ((Fit.int hd.n1).up (by decide) (Nat.le_refl _))).up (Nat.le_refl _) (by decide)
    | none =>
      show Fit (outD (if AllSeen s (nextS x d) then .ok ("done", s.after x d) else .error (clash d))) _ _
      split
      · exact (told_fit ⟨by show Asc (Str.ofString "done"); unfold Asc; decide +kernel, by show (Str.ofString "done").length ≤ _; decide +kernel⟩).up (Nat.le_refl _) (by decide)
      · exact word_fit (w := "clash") (d := dD d) (k := 1) ⟨by unfold Asc; decide +kernel, by decide +kernel⟩ (deed_fit hd)
theorem out_ask {s : Sh} {x : Ss} {q : Qn} : outD (s.run x (.ask q)) = ansD (s.ans x q) ∧ outS s (s.run x (.ask q)) = s := by
  show outD (s.rAsk (s.ans x q)) = _ ∧ outS s (s.rAsk (s.ans x q)) = _
  cases s.ans x q <;> exact ⟨rfl, rfl⟩
theorem wordD_tup (e : Exn) : ∃ ds, wordD e = .tup ds := by
  unfold wordD
  split
  · exact ⟨_, rfl⟩
  · split
    · exact ⟨_, rfl⟩
    · split
      · exact ⟨_, rfl⟩
      · split <;> exact ⟨_, rfl⟩
theorem outD_tup (r : Except Exn (Str × Sh)) : ∃ ds, outD r = .tup ds := by
  cases r with
  | ok z => exact ⟨_, rfl⟩
  | error e => exact wordD_tup e
section
variable {P : Program} {w : World} {K : PySem.W.Frag} {mg : Str → Option Value} {base : Heap}
def S__law_due : SpD := fun ds O Q _ => ∃ p, ∃ (s : Sh) (x : Ss) (k : Qn), ds = [.adr p, lsD s.f s.bl s.bt x, qD k] ∧ O p = some s.ow ∧ Okq s x ∧ k.ok ∧ Q (ansD (s.ans x k)) O
theorem S__law_due_len {ds O Q QE} (h : S__law_due ds O Q QE) : ds.length = 3 := by obtain ⟨p, s, x, q, e, _⟩ := h; rw [e]; rfl
theorem wd_sure {wd : Str} (h : wd ∈ wds3) : (wd = Str.ofString "surely" ∧ wd ≠ Str.ofString "numbers" ∧ wd ≠ Str.ofString "prices") ∨ (wd ≠ Str.ofString "surely" ∧ (wd = Str.ofString "numbers" ∨ (wd ≠ Str.ofString "numbers" ∧ wd = Str.ofString "prices"))) := by
  simp only [List.mem_cons, List.not_mem_nil, or_false] at h
  rcases h with rfl | rfl | rfl
  · exact .inr ⟨by decide +kernel, .inl rfl⟩
  · exact .inr ⟨by decide +kernel, .inr ⟨by decide +kernel, rfl⟩⟩
  · exact .inl ⟨rfl, by decide +kernel, by decide +kernel⟩
theorem f__law_due (W : Wd P w K mg base) : Fg P w K mg base .cold 15 "_law_due" S__law_due := by
  refine W.fg 90 (d := d__law_due) sc__law_due rfl rfl (by decide +kernel) rfl (fun _ _ _ _ _ _ us hl => match us, hl with | [_, _, _], _ => rfl) (fun ds O Q QE h => S__law_due_len h) ?_
  rintro cdv A outer s H E F0 ds O Q QE hm hr xe ⟨p, sh, x, k, rfl, hO, ok, hk, q⟩
  have nd : N__law_due.Nodup := by decide
  have ht : Heat (cxB P w K mg base N__law_due d__law_due.qual (defScope d__law_due.st) (d__law_due.pa.ad K) cdv A outer s H E) := .inl hm
  have hl := ok.cur.len
  cases k with
  | two c t u =>
    have sm := ok.sm2 c t u
    have ea := ok.ends (pl := "label") (by simp) t
    have eb := ok.ends (pl := "till") (by simp) u
    refine ss_cons (s_asg (ev_name (i := 2) rfl (gv_tup ht (.inl rfl) (gvs_cons (gv_name (i := 3) (gvs_cons (gv_name (i := 4) (gvs_cons (gv_name (i := 5) (gvs_nil ?_) nd)) nd)) nd)))))
    refine ss_cons (s_if ?_)
    refine tv_cmp ?_
    refine ev_name (i := 3) rfl ?_
    refine ev_tup ?_
    refine av_cons ?_
    refine ev_str ?_
    refine av_cons ?_
    refine ev_str ?_
    refine av_nil ?_
    refine ⟨by show 2 ≤ 100000; decide, ?_⟩
    refine ⟨_, od_in_strs (ys := ["charged", "overs"]), fun _ => ?_, fun h => absurd (h.symm.trans (w2_in c)) (by decide)⟩
    refine ss_cons (s_set (i := 6) ?_ nd)
    refine ev_if ?_
    refine tv_cmp ?_
    refine ev_name (i := 3) rfl ?_
    refine ev_str ?_
    refine ⟨_, od_eqs, fun h => ?_, fun h => ?_⟩
    · have hc : c = true := (w2_eq c).symm.trans h
      subst hc
      refine ev_meth (f_Shop_charged W) (hr.mono (by decide)) ht xer0 ?_
      refine ev_name (i := 0) rfl ?_
      refine ⟨_, _, .inr ⟨p, rfl, hO⟩, by decide +kernel, ?_⟩
      refine av_cons ?_
      refine ev_name (i := 4) rfl ?_
      refine av_cons ?_
      refine ev_name (i := 5) rfl ?_
      refine av_nil ?_
      refine ⟨p, sh, x, t, u, _, _, _, _, rfl, hO, ok.cur, ea, eb, ?_⟩
      refine ss_cons (s_ret ?_)
      refine ev_tup ?_
      refine av_cons ?_
      refine ev_str ?_
      refine av_cons ?_
      refine ev_call (f__law_board_text W) (hr.mono (by decide)) trivial xer0 ?_
      refine av_cons ?_
      refine ev_name (i := 6) rfl ?_
      refine av_nil ?_
      refine ⟨_, rfl, sm, ?_⟩
      refine av_nil ?_
      exact ⟨by show 2 ≤ 100000; decide, q⟩
    · have hc : c = false := (w2_eq c).symm.trans h
      subst hc
      refine ev_meth (f_Shop_overs W) (hr.mono (by decide)) ht xer0 ?_
      refine ev_name (i := 0) rfl ?_
      refine ⟨_, _, .inr ⟨p, rfl, hO⟩, by decide +kernel, ?_⟩
      refine av_cons ?_
      refine ev_name (i := 4) rfl ?_
      refine av_cons ?_
      refine ev_name (i := 5) rfl ?_
      refine av_nil ?_
      refine ⟨p, sh, x, t, u, _, _, _, _, rfl, hO, ok.cur, ea, eb, ?_⟩
      refine ss_cons (s_ret ?_)
      refine ev_tup ?_
      refine av_cons ?_
      refine ev_str ?_
      refine av_cons ?_
      refine ev_call (f__law_board_text W) (hr.mono (by decide)) trivial xer0 ?_
      refine av_cons ?_
      refine ev_name (i := 6) rfl ?_
      refine av_nil ?_
      refine ⟨_, rfl, sm, ?_⟩
      refine av_nil ?_
      exact ⟨by show 2 ≤ 100000; decide, q⟩
  | win pl n =>
    obtain ⟨hp, hn⟩ := hk
    refine ss_cons (s_asg (ev_name (i := 2) rfl (gv_tup ht (.inl rfl) (gvs_cons (gv_name (i := 3) (gvs_cons (gv_name (i := 4) (gvs_cons (gv_name (i := 5) (gvs_nil ?_) nd)) nd)) nd)))))
    refine ss_cons (s_if ?_)
    refine tv_cmp ?_
    refine ev_name (i := 3) rfl ?_
    refine ev_tup ?_
    refine av_cons ?_
    refine ev_str ?_
    refine av_cons ?_
    refine ev_str ?_
    refine av_nil ?_
    refine ⟨by show 2 ≤ 100000; decide, ?_⟩
    refine ⟨_, od_in_strs (ys := ["charged", "overs"]), fun h => absurd (h.symm.trans win_out) (by decide), fun _ => ss_nil ?_⟩
    refine ss_cons (s_if ?_)
    refine tv_cmp ?_
    refine ev_name (i := 3) rfl ?_
    refine ev_str ?_
    refine ⟨_, od_eqs, fun _ => ?_, fun h => absurd rfl (of_decide_eq_false h)⟩
    refine ss_cons (s_set (i := 7) ?_ nd)
    refine ev_call (f__law_shop_windows W) (hr.mono (by decide)) hm xer0 ?_
    refine av_cons ?_
    refine ev_name (i := 1) rfl ?_
    refine av_cons ?_
    refine ev_name (i := 4) rfl ?_
    refine av_nil ?_
    refine ⟨sh.f, sh.bl, sh.bt, x, pl, rfl, hp, by omega, ?_⟩
    have hw : (wins (x.ch.map (·.1)) (sh.bd pl)).length = x.ch.length + 1 := by rw [wins_len, List.length_map]
    refine ss_cons (s_ret ?_)
    refine ev_if ?_
    refine tv_cmp ?_
    refine ev_name (i := 5) rfl ?_
    refine ev_blt ?_ (W.fre _ (by decide +kernel)) boot_len
    refine av_cons ?_
    refine ev_name (i := 7) rfl ?_
    refine av_nil ?_
    refine cl_len_lst ?_
    rw [List.length_map, show (wins (x.ch.map (·.1)) (pick pl sh.bl sh.bt)).length = x.ch.length + 1 from hw]
    refine ⟨_, od_lt, fun h => ?_, fun h => ?_⟩
    · have h1 : n ≤ x.ch.length := by have := of_decide_eq_true h; omega
      have q : Q (.tup [.str "told", .str (tWindow (winB x.ch (sh.bd pl) n, winE x.ch (sh.bd pl) n))]) O := by
        have e : sh.ans x (.win pl n) = .ok (tWindow (winB x.ch (sh.bd pl) n, winE x.ch (sh.bd pl) n)) := by show (if _ then _ else _) = _; rw [if_pos h1]
        rw [e] at q; exact q
      refine ev_tup ?_
      refine av_cons ?_
      refine ev_str ?_
      refine av_cons ?_
      refine ev_call (f__law_window_text W) (hr.mono (by decide)) hm xer0 ?_
      refine av_cons ?_
      refine ev_ix ?_
      refine ev_name (i := 7) rfl ?_
      refine ev_name (i := 5) rfl ?_
      refine ⟨_, xd_lst (atI_nat (getmap (wins_at h1))), ?_⟩
      refine av_nil ?_
      refine ⟨_, rfl, ok.smB hp n, ok.smE hp n, ?_⟩
      refine av_nil ?_
      exact ⟨by show 2 ≤ 100000; decide, q⟩
    · have h1 : ¬ n ≤ x.ch.length := by have := of_decide_eq_false h; omega
      have q : Q (.tup [.str "number", .int n]) O := by
        have e : sh.ans x (.win pl n) = .error (noNumber n) := by show (if _ then _ else _) = _; rw [if_neg h1]
        rw [e] at q; exact q
      refine ev_tup ?_
      refine av_cons ?_
      refine ev_str ?_
      refine av_cons ?_
      refine ev_name (i := 5) rfl ?_
      refine av_nil ?_
      exact ⟨by show 2 ≤ 100000; decide, q⟩
  | at_ wd pl t =>
    obtain ⟨hw, hp, n1⟩ := hk
    obtain ⟨o1, o2⟩ := wd_out hw
    have q : Q (.tup [.str "told", .str (tAt sh x wd pl t)]) O := q
    refine ss_cons (s_asg (ev_name (i := 2) rfl (gv_tup ht (.inl rfl) (gvs_cons (gv_name (i := 3) (gvs_cons (gv_name (i := 4) (gvs_cons (gv_name (i := 5) (gvs_nil ?_) nd)) nd)) nd)))))
    refine ss_cons (s_if ?_)
    refine tv_cmp ?_
    refine ev_name (i := 3) rfl ?_
    refine ev_tup ?_
    refine av_cons ?_
    refine ev_str ?_
    refine av_cons ?_
    refine ev_str ?_
    refine av_nil ?_
    refine ⟨by show 2 ≤ 100000; decide, ?_⟩
    refine ⟨_, od_in_strs (ys := ["charged", "overs"]), fun h => absurd (h.symm.trans o1) (by decide), fun _ => ss_nil ?_⟩
    refine ss_cons (s_if ?_)
    refine tv_cmp ?_
    refine ev_name (i := 3) rfl ?_
    refine ev_str ?_
    refine ⟨_, od_eqs, fun h => absurd (h.symm.trans o2) (by decide), fun _ => ss_nil ?_⟩
    refine ss_cons (s_if ?_)
    refine tv_cmp ?_
    refine ev_name (i := 3) rfl ?_
    refine ev_str ?_
    rcases wd_sure hw with ⟨rfl, m1, m2⟩ | ⟨m1, m2⟩
    · have e : tAt sh x (Str.ofString "surely") pl t = tSure (sureO (lP sh x pl t)) := by unfold tAt; rw [if_neg m1, if_neg m2]
      rw [e] at q
      refine ⟨_, od_eqs, fun _ => ?_, fun h => absurd rfl (of_decide_eq_false h)⟩
      refine ss_cons (s_set (i := 8) ?_ nd)
      refine ev_meth (f_Shop_surely W) (hr.mono (by decide)) ht xer0 ?_
      refine ev_name (i := 0) rfl ?_
      refine ⟨_, _, .inr ⟨p, rfl, hO⟩, by decide +kernel, ?_⟩
      refine av_cons ?_
      refine ev_name (i := 4) rfl ?_
      refine av_cons ?_
      refine ev_name (i := 5) rfl ?_
      refine av_nil ?_
      refine ⟨p, sh, x, pl, t, rfl, hO, hp, ok.cur, ?_⟩
      have sm := ok.sure (pl := pl) (t := t)
      show Ssv _ _ _ [some (.adr p), some (lsD sh.f sh.bl sh.bt x), some (qD (.at_ (Str.ofString "surely") pl t)), some (.str "surely"), some (.str pl), some (.int t), none, none, some (oD (sureO (lP sh x pl t)))] _ _
      generalize sureO (lP sh x pl t) = o at sm q ⊢
      refine ss_cons (s_ret ?_)
      refine ev_tup ?_
      refine av_cons ?_
      refine ev_str ?_
      refine av_cons ?_
      refine ev_if ?_
      refine tv_cmp ?_
      refine ev_name (i := 8) rfl ?_
      refine ev_non ?_
      refine ⟨_, od_isN, fun h1 => ?_, fun h1 => ?_⟩
      · cases o with
        | none =>
          refine ev_str ?_
          refine av_nil ?_
          exact ⟨by show 2 ≤ 100000; decide, q⟩
        | some i => cases h1
      · cases o with
        | none => cases h1
        | some i =>
          refine ev_call (f__law_number_text W) (hr.mono (by decide)) trivial xer0 ?_
          refine av_cons (ev_name (i := 8) rfl ?_)
          refine av_nil ?_
          refine ⟨i, rfl, (sm i rfl).sm, ?_⟩
          refine av_nil ?_
          exact ⟨by show 2 ≤ 100000; decide, q⟩
    · refine ⟨_, od_eqs, fun h => absurd (of_decide_eq_true h) m1, fun _ => ss_nil ?_⟩
      refine ss_cons (s_ret ?_)
      refine ev_tup ?_
      refine av_cons ?_
      refine ev_str ?_
      refine av_cons ?_
      refine ev_call (f__law_moments_text W) (hr.mono (by decide)) hm xer0 ?_
      refine av_cons ?_
      refine ev_if ?_
      refine tv_cmp ?_
      refine ev_name (i := 3) rfl ?_
      refine ev_str ?_
      refine ⟨_, od_eqs, fun h => ?_, fun h => ?_⟩
      · have e : tAt sh x wd pl t = tMoments (lN sh x pl t) := by unfold tAt; rw [if_pos (of_decide_eq_true h)]
        have hl := ok.nl (pl := pl) (t := t)
        refine ev_meth (f_Shop_numbers W) (hr.mono (by decide)) ht xer0 ?_
        refine ev_name (i := 0) rfl ?_
        refine ⟨_, _, .inr ⟨p, rfl, hO⟩, by decide +kernel, ?_⟩
        refine av_cons ?_
        refine ev_name (i := 4) rfl ?_
        refine av_cons ?_
        refine ev_name (i := 5) rfl ?_
        refine av_nil ?_
        refine ⟨p, sh, x, pl, t, rfl, hO, hp, ok.cur, ?_⟩
        refine av_nil ?_
        refine ⟨lN sh x pl t, rfl, fun m hm => (ok.nn m hm).sm, by omega, ?_⟩
        refine av_nil ?_
        rw [e] at q
        exact ⟨by show 2 ≤ 100000; decide, q⟩
      · have hne := of_decide_eq_false h
        have hpr : wd = Str.ofString "prices" := m2.elim (fun z => absurd z hne) (·.2)
        have e : tAt sh x wd pl t = tMoments (lP sh x pl t) := by unfold tAt; rw [if_neg hne, if_pos hpr]
        have hl := ok.pl (pl := pl) (t := t)
        refine ev_meth (f_Shop_prices W) (hr.mono (by decide)) ht xer0 ?_
        refine ev_name (i := 0) rfl ?_
        refine ⟨_, _, .inr ⟨p, rfl, hO⟩, by decide +kernel, ?_⟩
        refine av_cons ?_
        refine ev_name (i := 4) rfl ?_
        refine av_cons ?_
        refine ev_name (i := 5) rfl ?_
        refine av_nil ?_
        refine ⟨p, sh, x, pl, t, rfl, hO, hp, ok.cur, ?_⟩
        refine av_nil ?_
        refine ⟨lP sh x pl t, rfl, fun m hm => (ok.pn m hm).sm, by omega, ?_⟩
        refine av_nil ?_
        rw [e] at q
        exact ⟨by show 2 ≤ 100000; decide, q⟩
def S__law_shop_right : SpD := fun ds O Q _ => ∃ p, ∃ (s : Sh) (x : Ss), ds = [.adr p, lsD s.f s.bl s.bt x] ∧ O p = some s.ow ∧ s.sts[s.spot]? = some x ∧ BkOk s.f x.ch ∧ x.sl.length ≤ 30 ∧ x.st.length ≤ 30 ∧ (∀ c ∈ x.sl, Nm c.1 ∧ Nm c.2) ∧ (∀ c ∈ x.st, Nm c.1 ∧ Nm c.2) ∧ Q (.bl true) O
theorem S__law_shop_right_len {ds O Q QE} (h : S__law_shop_right ds O Q QE) : ds.length = 2 := by obtain ⟨p, s, x, e, _⟩ := h; rw [e]; rfl
theorem pairs_fit {cs : List (Int × Int)} (hl : cs.length ≤ 30) (h : ∀ c ∈ cs, Nm c.1 ∧ Nm c.2) : Fit (.lst (cs.map pD)) 120000 2 := by
  have f := Fit.lst (ds := cs.map pD) (n := 3844) (k := 1) fun d hd => by
    obtain ⟨c, hc, rfl⟩ := List.mem_map.mp hd
    have f := Fit.tup (ds := [.int c.1, .int c.2]) (n := 1921) (k := 0) fun e he => by
      simp only [List.mem_cons, List.not_mem_nil, or_false] at he
      rcases he with rfl | rfl
      · exact Fit.int (h c hc).1
      · exact Fit.int (h c hc).2
    exact f
  rw [List.length_map] at f
  exact f.up (by omega) (Nat.le_refl _)
theorem f__law_shop_right (W : Wd P w K mg base) : Fg P w K mg base .cold 6 "_law_shop_right" S__law_shop_right := by
  refine W.fg 79 (d := d__law_shop_right) sc__law_shop_right rfl rfl (by decide +kernel) rfl (fun _ _ _ _ _ _ us hl => match us, hl with | [_, _], _ => rfl) (fun ds O Q QE h => S__law_shop_right_len h) ?_
  rintro cdv A outer s H E F0 ds O Q QE hm hr xe ⟨p, sh, x, rfl, hO, hx, ok, l1, l2, n1, n2, q⟩
  have ht : Heat (cxB P w K mg base N__law_shop_right d__law_shop_right.qual (defScope d__law_shop_right.st) (d__law_shop_right.pa.ad K) cdv A outer s H E) := .inl hm
  refine ss_cons (s_if ?_)
  refine tv_cmp ?_
  refine ev_prop (f_Shop_book W) (hr.mono (by decide)) trivial ?_
  refine ev_name (i := 0) rfl ?_
  refine ⟨_, _, .inr ⟨p, rfl, hO⟩, p, sh, x, rfl, hO, hx, ?_⟩
  refine ev_frz ?_
  refine ev_make (mk_book2 W) (hr.mono (by decide)) ht xer0 ?_
  refine av_cons ?_
  refine ev_ix ?_
  refine ev_name (i := 1) rfl ?_
  refine ev_int ?_
  refine ⟨_, xd_tup (d := .int sh.f) rfl, ?_⟩
  refine av_cons ?_
  refine ev_ix ?_
  refine ev_name (i := 1) rfl ?_
  refine ev_int ?_
  refine ⟨_, xd_tup (d := .lst (x.ch.map pD)) rfl, ?_⟩
  refine av_nil ?_
  refine fun a ha => ⟨a, sh.f, x.ch, _, rfl, .inr rfl, ok, Om.put_same, rfl, a, .book, _, _, rfl, Om.put_same, ?_⟩
  rw [Om.put_put, Om.put_del ha]
  refine ⟨_, od_ne_ob (c := .book) (t := true) (f_Book_eq W) W.neb (hr.mono (by decide)) trivial (.inl rfl) (.inl rfl) ⟨sh.f, x.ch, rfl, rfl, rfl⟩, nofun, fun _ => ss_nil ?_⟩
  refine ss_cons (s_ret ?_)
  refine ev_call (f__law_alike W) (hr.mono (by decide)) trivial xer0 ?_
  refine av_cons ?_
  refine ev_lst ?_
  refine av_cons ?_
  refine ev_meth (f_Shop_sightings W) (hr.mono (by decide)) trivial xer0 ?_
  refine ev_name (i := 0) rfl ?_
  refine ⟨_, _, .inr ⟨p, rfl, hO⟩, by decide +kernel, ?_⟩
  refine av_cons ?_
  refine ev_str ?_
  refine av_nil ?_
  refine ⟨p, sh, x, "label", rfl, hO, hx, by simp, ?_⟩
  refine av_cons ?_
  refine ev_meth (f_Shop_sightings W) (hr.mono (by decide)) trivial xer0 ?_
  refine ev_name (i := 0) rfl ?_
  refine ⟨_, _, .inr ⟨p, rfl, hO⟩, by decide +kernel, ?_⟩
  refine av_cons ?_
  refine ev_str ?_
  refine av_nil ?_
  refine ⟨p, sh, x, "till", rfl, hO, hx, by simp, ?_⟩
  refine av_nil ?_
  refine ⟨by show 2 ≤ 100000; decide, ?_⟩
  have p1 := pick_at (pl := "label") (by simp) (fun l => D.lst (l.map pD)) x.sl x.st
  have p2 := pick_at (pl := "till") (by simp) (fun l => D.lst (l.map pD)) x.sl x.st
  refine av_cons ?_
  refine ev_lst ?_
  refine av_cons ?_
  refine ev_dget hr ?_
  refine ev_ix ?_
  refine ev_name (i := 1) rfl ?_
  refine ev_int ?_
  refine ⟨_, xd_tup (d := seenD x) rfl, ?_⟩
  refine ev_str ?_
  refine ⟨_, _, _, _, rfl, rfl, p1, ?_⟩
  refine av_cons ?_
  refine ev_dget hr ?_
  refine ev_ix ?_
  refine ev_name (i := 1) rfl ?_
  refine ev_int ?_
  refine ⟨_, xd_tup (d := seenD x) rfl, ?_⟩
  refine ev_str ?_
  refine ⟨_, _, _, _, rfl, rfl, p2, ?_⟩
  refine av_nil ?_
  refine ⟨by show 2 ≤ 100000; decide, ?_⟩
  refine av_nil ?_
  refine ⟨_, rfl, .inl ⟨_, rfl⟩, ?_, q⟩
  have f := Fit.lst (ds := [.lst ((x.sn "label").map pD), .lst ((x.sn "till").map pD)]) (n := 120000) (k := 2) fun d hd => by
    have e3 : x.sn "label" = x.sl := by unfold Ss.sn pick; rw [if_pos rfl]
    have e4 : x.sn "till" = x.st := by unfold Ss.sn pick; rw [if_neg (Ne.symm ne_lt)]
    rw [e3, e4] at hd
    simp only [List.mem_cons, List.not_mem_nil, or_false] at hd
    rcases hd with rfl | rfl
    · exact pairs_fit l1 n1
    · exact pairs_fit l2 n2
  exact f.up (by show 2 * (120000 + 1) ≤ 300000; omega) (by omega)
end
end K97
/-! # Walk XP: asked_right; what stays true of the shop -/
namespace K97
open PySem PySem.Spec PyProof.Rows L2 TL
abbrev SI := Str ⊕ Int
def encS : SI → D
  | .inl x => .str x
  | .inr i => .int i
def decSI : D → Option SI
  | .str x => some (.inl x)
  | .int i => some (.inr i)
  | _ => none
theorem decSI_e (a : SI) : decSI (encS a) = some a := by cases a <;> rfl
def txtS : SI → Str
  | .inl x => x
  | .inr i => iS i
def qL : Qn → List SI
  | .two c t u => [.inl (w2 c), .inr t, .inr u]
  | .win pl k => [.inl "window", .inl pl, .inr k]
  | .at_ wd pl t => [.inl wd, .inl pl, .inr t]
theorem qD_eq (k : Qn) : qD k = .tup ((qL k).map encS) := by cases k <;> rfl
theorem qL_txt (k : Qn) : (qL k).map txtS = k.words := by cases k <;> rfl
theorem qL_nm {k : Qn} (h : k.ok) : ∀ i, (Sum.inr i : SI) ∈ qL k → Nm i := fun i hi => by
  cases k with
  | two c t u =>
    simp only [qL, List.mem_cons, List.not_mem_nil, or_false, Sum.inr.injEq, reduceCtorEq, false_or] at hi
    rcases hi with rfl | rfl
    · exact h.2.1
    · exact h.2.2
  | win pl n =>
    simp only [qL, List.mem_cons, List.not_mem_nil, or_false, Sum.inr.injEq, reduceCtorEq, false_or] at hi
    subst hi
    exact nm_nat h.2
  | at_ wd pl t =>
    simp only [qL, List.mem_cons, List.not_mem_nil, or_false, Sum.inr.injEq, reduceCtorEq, false_or] at hi
    subst hi
    exact h.2.2
theorem words_len {k : Qn} (h : k.ok) : (k.words.map (·.length)).sum + k.words.length * (Str.ofString " ").length ≤ 16777216 := by
  obtain ⟨a, b, c, e, hf⟩ := Qn.fr h
  have h1 : (Str.ofString " ").length = 1 := by decide +kernel
  have ha := (hf a (by simp)).2
  have hb := (hf b (by simp)).2
  have hc := (hf c (by simp)).2
  rw [e, h1]
  show ([a.length, b.length, c.length]).sum + 3 * 1 ≤ _
  simp only [List.sum_cons, List.sum_nil]
  omega
section
variable {P : Program} {w : World} {K : PySem.W.Frag} {mg : Str → Option Value} {base : Heap}
def S__law_asked_right : SpD := fun ds O Q _ => ∃ p p2, ∃ (s : Sh) (x : Ss) (k : Qn), ds = [dkD p, .adr p2, lsD s.f s.bl s.bt x, qD k] ∧ O p = some s.ow ∧ O p2 = some s.ow ∧ Gsh s x ∧ k.ok ∧ Q (.bl true) O
theorem S__law_asked_right_len {ds O Q QE} (h : S__law_asked_right ds O Q QE) : ds.length = 4 := by obtain ⟨p, p2, s, x, q, e, _⟩ := h; rw [e]; rfl
theorem f__law_asked_right (W : Wd P w K mg base) : Fg P w K mg base .cold 19 "_law_asked_right" S__law_asked_right := by
  refine W.fg 92 (d := d__law_asked_right) sc__law_asked_right rfl rfl (by decide +kernel) rfl (fun _ _ _ _ _ _ us hl => match us, hl with | [_, _, _, _], _ => rfl) (fun ds O Q QE h => S__law_asked_right_len h) ?_
  rintro cdv A outer s H E F0 ds O Q QE hm hr xe ⟨p, p2, sh, x, k, rfl, hO, hO2, g, hk, q⟩
  have nd : N__law_asked_right.Nodup := by decide
  have ht : Heat (cxB P w K mg base N__law_asked_right d__law_asked_right.qual (defScope d__law_asked_right.st) (d__law_asked_right.pa.ad K) cdv A outer s H E) := .inl hm
  refine ss_cons (s_setLcm (i := 4) encS decSI decSI_e [("_law_one_here", 6)] nd ht (iv_val (ev_name (i := 3) rfl ⟨(qL k).map encS, by rw [qD_eq]; rfl, qL k, fun a => some (.str (txtS a)), rfl, by cases k <;> (show 3 ≤ 100000; decide), ?_, ?_⟩)) (show BlkOk N__law_asked_right (defScope d__law_asked_right.st) _ _ from blkOk_by (by decide +kernel)))
  rotate_left
  · intro s H C cl fp hh O2 sp a ha
    refine bd_name (i := 6) ?_ nd
    refine ev_if ?_
    refine tv_val ?_
    refine ev_blt ?_ (W.fre _ (by decide +kernel)) boot_isinstance
    refine av_cons ?_
    refine ev_name (i := 6) rfl ?_
    refine av_cons ?_
    refine ev_ty ?_ (W.fre _ (by decide +kernel)) boot_str
    refine av_nil ?_
    cases a with
    | inl y =>
      refine cl_isi (d := encS (.inl y)) (T := "str") rfl rfl ⟨true, rfl, fun _ => ?_, nofun⟩
      exact ev_name (i := 6) rfl ⟨rfl, rfl⟩
    | inr i =>
      refine cl_isi (d := encS (.inr i)) (T := "int") rfl rfl ⟨false, rfl, nofun, fun _ => ?_⟩
      refine ev_call (f__law_number_text W) (hr.mono (by decide)) trivial xer0 ?_
      refine av_cons ?_
      refine ev_name (i := 6) rfl ?_
      refine av_nil ?_
      exact ⟨i, rfl, (qL_nm hk i ha).sm, rfl, rfl⟩
  rw [fm_some, show ((qL k).map fun a => D.str (txtS a)) = k.words.map D.str by rw [← qL_txt, List.map_map]; rfl]
  refine ss_cons (s_set (i := 5) ?_ nd)
  refine ev_call (f__law_due W) (hr.mono (by decide)) hm xer0 ?_
  refine av_cons ?_
  refine ev_name (i := 1) rfl ?_
  refine av_cons ?_
  refine ev_name (i := 2) rfl ?_
  refine av_cons ?_
  refine ev_name (i := 3) rfl ?_
  refine av_nil ?_
  refine ⟨p2, sh, x, k, rfl, hO2, g.ok, hk, ?_⟩
  obtain ⟨o1, o2⟩ := out_ask (s := sh) (x := x) (q := k)
  have back : O.put p (outS sh (sh.run x (.ask k))).ow = O := by rw [o2]; exact Om.put_eq hO
  have jn : ∀ {Q : D → Om → Prop}, Q (.str (jn k.words)) O → MtD (cxB P w K mg base N__law_asked_right d__law_asked_right.qual (defScope d__law_asked_right.st) (d__law_asked_right.pa.ad K) cdv A outer s H E) "str.join" O (.str " ") [.lst (k.words.map D.str)] Q := fun q => md_join (words_len hk) q
  refine ss_cons (s_ret ?_)
  refine ev_call (f__law_alike W) (hr.mono (by decide)) trivial xer0 ?_
  refine av_cons ?_
  refine ev_lst ?_
  refine av_cons ?_
  refine ev_call (f__law_said W) (hr.mono (by decide)) hm xer0 ?_
  refine av_cons ?_
  refine ev_name (i := 0) rfl ?_
  refine av_cons ?_
  refine ev_bm PySem.F.plainAttrs_str PySem.F.slot_str_join PySem.F.type_str_join ?_
  refine ev_str ?_
  refine ⟨rfl, ?_⟩
  refine av_cons ?_
  refine ev_name (i := 4) rfl ?_
  refine av_nil (jn ?_)
  refine av_nil ?_
  refine ⟨p, sh, x, .ask k, rfl, hO, g, hk, ?_⟩
  rw [back, o1]
  refine av_cons ?_
  refine ev_call (f__law_said W) (hr.mono (by decide)) hm xer0 ?_
  refine av_cons ?_
  refine ev_name (i := 0) rfl ?_
  refine av_cons ?_
  refine ev_bm PySem.F.plainAttrs_str PySem.F.slot_str_join PySem.F.type_str_join ?_
  refine ev_str ?_
  refine ⟨rfl, ?_⟩
  refine av_cons ?_
  refine ev_name (i := 4) rfl ?_
  refine av_nil (jn ?_)
  refine av_nil ?_
  refine ⟨p, sh, x, .ask k, rfl, hO, g, hk, ?_⟩
  rw [back, o1]
  refine av_nil ?_
  refine ⟨by show 2 ≤ 100000; decide, ?_⟩
  refine av_cons ?_
  refine ev_lst ?_
  refine av_cons ?_
  refine ev_name (i := 5) rfl ?_
  refine av_cons ?_
  refine ev_name (i := 5) rfl ?_
  refine av_nil ?_
  refine ⟨by show 2 ≤ 100000; decide, ?_⟩
  refine av_nil ?_
  refine ⟨_, rfl, .inl ⟨_, rfl⟩, ?_, q⟩
  have f := Fit.lst (ds := [ansD (sh.ans x k), ansD (sh.ans x k)]) (n := 120002) (k := 2) fun d hd => by
    simp only [List.mem_cons, List.not_mem_nil, or_false, or_self] at hd
    rw [hd]; exact ans_fit g.ok hk
  exact f.up (by show 2 * (120002 + 1) ≤ 300000; omega) (by omega)
end
/-! ## what stays true -/
abbrev Bi (i : Nat) : Int := ((i : Int) + 1) * 10 ^ 30
theorem Bi_succ {i : Nat} : Bi (i + 1) = Bi i + 10 ^ 30 := by
  show (((i + 1 : Nat) : Int) + 1) * 10 ^ 30 = ((i : Int) + 1) * 10 ^ 30 + 10 ^ 30
  rw [show (((i + 1 : Nat) : Int) + 1) = ((i : Int) + 1) + 1 by omega, Int.add_mul ((i : Int) + 1) 1, Int.one_mul]
theorem ten30 : (0 : Int) < 10 ^ 30 := by decide +kernel
theorem Bi_pos {i : Nat} : 0 ≤ Bi i := Int.mul_nonneg (by omega) (Int.le_of_lt ten30)
theorem Bi_up {i : Nat} : Bi i ≤ Bi (i + 1) := by rw [Bi_succ]; have := ten30; omega
theorem Bi_le {i : Nat} (h : i ≤ 20) : Bi i + 10 ^ 30 ≤ 10 ^ 39 := by
  have h1 : Bi i ≤ 21 * 10 ^ 30 := Int.mul_le_mul_of_nonneg_right (by omega) (Int.le_of_lt ten30)
  have h2 : 22 * (10 : Int) ^ 30 ≤ 10 ^ 39 := by decide +kernel
  omega
theorem ten29 : (0 : Int) ≤ 10 ^ 29 := by decide +kernel
theorem bn_nm' {B t : Int} (hB : B ≤ 10 ^ 39) (h : Bn B t) : Nm t := (bn_nm hB (h.up (by have := ten29; omega))).1
def Ok3 (B : Int) (c : Int × Int) : Prop := Bn B c.1 ∧ 0 ≤ c.2 ∧ c.2 ≤ 10 ^ 30
theorem Ok3.up {B C : Int} {c : Int × Int} (h : Ok3 B c) (hc : B ≤ C) : Ok3 C c := ⟨h.1.up hc, h.2⟩
theorem p30_nm {p : Int} (h0 : 0 ≤ p) (h : p ≤ 10 ^ 30) : Nm p := bn_nm' (B := 10 ^ 30) (by decide +kernel) ⟨by have := ten30; omega, h⟩
theorem Ok3.nm {B : Int} {c : Int × Int} (h : Ok3 B c) (hB : B ≤ 10 ^ 39) : Nm c.1 ∧ Nm c.2 := ⟨bn_nm' hB h.1, p30_nm h.2.1 h.2.2⟩
structure Gs (i : Nat) (s : Sh) (x : Ss) : Prop where
  up : Up x.ch
  ch : ∀ c ∈ x.ch, Ok3 (Bi i) c
  s1 : ∀ c ∈ x.sl, Ok3 (Bi i) c
  s2 : ∀ c ∈ x.st, Ok3 (Bi i) c
  lc : x.ch.length ≤ i
  l1 : x.sl.length ≤ i
  l2 : x.st.length ≤ i
  seen : AllSeen s x
  r1 : Srt x.sl
  r2 : Srt x.st
structure Gd (i : Nat) (s : Sh) : Prop where
  f0 : 0 ≤ s.f
  f1 : s.f ≤ 10 ^ 30
  ol : BdOk s.bl
  ot : BdOk s.bt
  bl : s.bl.2 ≤ 10 ^ 29
  bt : s.bt.2 ≤ 10 ^ 29
  sp : s.spot ≤ s.dds.length
  ln : s.sts.length = s.dds.length + 1
  dl : s.dds.length ≤ i
  sts : ∀ x ∈ s.sts, Gs i s x
  dds : ∀ d ∈ s.dds, DdB (Bi i) d
theorem Gs.next {i : Nat} {s : Sh} {x : Ss} (h : Gs i s x) {s' : Sh} (e1 : s'.f = s.f) (e2 : s'.bl = s.bl) (e3 : s'.bt = s.bt) : Gs (i + 1) s' x := by
  refine ⟨h.up, fun c hc => (h.ch c hc).up Bi_up, fun c hc => (h.s1 c hc).up Bi_up, fun c hc => (h.s2 c hc).up Bi_up, Nat.le_succ_of_le h.lc, Nat.le_succ_of_le h.l1, Nat.le_succ_of_le h.l2, ?_, h.r1, h.r2⟩
  show Seen s'.f _ _ _ ∧ Seen s'.f _ _ _
  rw [e1, e2, e3]; exact h.seen
theorem DdB.up {B C : Int} {d : Deed} (h : DdB B d) (hc : B ≤ C) : DdB C d := ⟨h.k, h.m.up hc, h.p, h.q⟩
theorem DdB.ok {B : Int} {d : Deed} (h : DdB B d) (hB : B ≤ 10 ^ 39) : DdOk d := ⟨h.k, h.p, bn_nm' hB h.m, p30_nm h.p h.q⟩
theorem Gd.spot {i : Nat} {s : Sh} (h : Gd i s) {k : Nat} (hk : k ≤ s.dds.length) : Gd (i + 1) { s with spot := k } :=
  ⟨h.f0, h.f1, h.ol, h.ot, h.bl, h.bt, hk, h.ln, Nat.le_succ_of_le h.dl, fun x hx => (h.sts x hx).next rfl rfl rfl, fun d hd => (h.dds d hd).up Bi_up⟩
theorem Gd.same {i : Nat} {s : Sh} (h : Gd i s) : Gd (i + 1) s := h.spot h.sp
theorem Gd.cur {i : Nat} {s : Sh} (h : Gd i s) : ∃ x, s.sts[s.spot]? = some x ∧ Gs i s x := by
  have h1 := h.sp
  have h2 := h.ln
  have hl : s.spot < s.sts.length := by omega
  exact ⟨_, List.getElem?_eq_getElem hl, h.sts _ (List.getElem_mem hl)⟩
theorem Gd.bk {i : Nat} {s : Sh} (h : Gd i s) {x : Ss} (g : Gs i s x) (hi : i ≤ 20) : BkOk s.f x.ch := ⟨h.f0, fun c hc => (g.ch c hc).2.1, g.up, by have := g.lc; omega⟩
theorem Gd.bd2 {i : Nat} {s : Sh} (h : Gd i s) {x : Ss} (g : Gs i s x) (hi : i ≤ 20) : Bd2 (Bi i) s.f s.bl s.bt x :=
  ⟨Bi_pos, h.f0, h.f1, h.ol, h.ot, h.bl, h.bt, g.up, fun c hc => g.ch c hc, fun c hc => (g.s1 c hc).1, fun c hc => (g.s2 c hc).1, by have := g.lc; omega, by have := g.l1; omega, by have := g.l2; omega⟩
theorem Gd.gsh {i : Nat} {s : Sh} (h : Gd i s) {x : Ss} (hx : s.sts[s.spot]? = some x) (g : Gs i s x) (hi : i ≤ 20) : Gsh s x := by
  have hB : Bi i ≤ 10 ^ 39 := by have := Bi_le hi; have := ten30; omega
  have lc := g.lc
  have l1 := g.l1
  have l2 := g.l2
  have dl := h.dl
  have ln := h.ln
  have bd : ∀ pl ∈ plcs, BdOk (s.bd pl) ∧ (s.bd pl).2 ≤ 10 ^ 29 := fun pl _ => by
    show BdOk (pick pl s.bl s.bt) ∧ (pick pl s.bl s.bt).2 ≤ _
    unfold pick; split
    · exact ⟨h.ol, h.bl⟩
    · exact ⟨h.ot, h.bt⟩
  have sn : ∀ pl ∈ plcs, Seen s.f x.ch (s.bd pl) (x.sn pl) ∧ Srt (x.sn pl) ∧ (x.sn pl).length ≤ i := fun pl _ => by
    show Seen s.f x.ch (pick pl s.bl s.bt) (pick pl x.sl x.st) ∧ Srt (pick pl x.sl x.st) ∧ (pick pl x.sl x.st).length ≤ i
    unfold pick; split
    · exact ⟨g.seen.1, g.r1, l1⟩
    · exact ⟨g.seen.2, g.r2, l2⟩
  have b29 : ∀ {k : Int}, 0 ≤ k → k ≤ 10 ^ 29 → Nm k := fun h0 h1 => p30_nm h0 (Int.le_trans h1 (by decide +kernel))
  refine ⟨⟨⟨hx, h.bk g hi, fun pl hp => (bd pl hp).1, by omega, fun pl hp => by have := (sn pl hp).2.2; omega, fun pl hp => (sn pl hp).1⟩, p30_nm h.f0 h.f1, fun c hc => (g.ch c hc).nm hB, fun pl hp => ?_, fun pl hp t => pAt_ne t g.up (bd pl hp).1 (sn pl hp).2.1 (sn pl hp).1⟩, h.sp, by omega, by omega, by omega, by omega, by omega, fun d hd => (h.dds d hd).ok hB⟩
  obtain ⟨⟨z1, z2, z3⟩, z4⟩ := bd pl hp
  exact ⟨b29 z1 (by omega), b29 z2 z4⟩
theorem late_up {x : Ss} {d : Deed} (hn : late x d = none) (hu : Up x.ch) : Up (nextS x d).ch := by
  unfold nextS
  split
  · rename_i hw
    have el : late x d = x.ch.getLast?.bind fun c => if d.2.1 ≤ c.1 then some (notLater x) else none := by unfold late; rw [if_pos hw]
    refine List.pairwise_append.mpr ⟨hu, List.pairwise_singleton _ _, fun a ha b hb => ?_⟩
    rw [List.mem_singleton.mp hb]
    cases q : x.ch.getLast? with
    | none => rw [List.getLast?_eq_none_iff] at q; rw [q] at ha; cases ha
    | some c =>
      rw [el, q] at hn
      have hn : (if d.2.1 ≤ c.1 then some (notLater x) else none) = none := hn
      have h1 : ¬ d.2.1 ≤ c.1 := fun z => by rw [if_pos z] at hn; cases hn
      have h2 : a.1 ≤ c.1 := by
        have hs : (x.ch.map (·.1)).Pairwise (· < ·) := List.pairwise_map.mpr hu
        exact last_ge hs (List.mem_map_of_mem ha) (last_map q)
      omega
  · split
    · exact hu
    · exact hu
theorem srt_more {ss : List (Int × Int)} {c : Int × Int} (hs : Srt ss) (h : ∀ z, ss.getLast? = some z → z.1 ≤ c.1) : Srt (ss ++ [c]) := by
  refine List.pairwise_append.mpr ⟨hs, List.pairwise_singleton _ _, fun a ha b hb => ?_⟩
  rw [List.mem_singleton.mp hb]
  cases q : ss.getLast? with
  | none => rw [List.getLast?_eq_none_iff] at q; rw [q] at ha; cases ha
  | some z =>
    have h1 := h z q
    have h2 : a.1 ≤ z.1 := by
      obtain ⟨i, hi, rfl⟩ := List.mem_iff_getElem.mp ha
      have hne : ss ≠ [] := by rintro rfl; cases hi
      have hz : ss[ss.length - 1]? = some z := by rw [← List.getLast?_eq_getElem?]; exact q
      by_cases e : i = ss.length - 1
      · rw [← e, List.getElem?_eq_getElem hi] at hz
        cases hz; exact Int.le_refl _
      · exact pw_get hs (List.getElem?_eq_getElem hi) hz (by omega)
    omega
theorem late_srt {x : Ss} {d : Deed} (hk : d.1 ∈ kinds) (hn : late x d = none) (h1 : Srt x.sl) (h2 : Srt x.st) : Srt (nextS x d).sl ∧ Srt (nextS x d).st := by
  unfold nextS
  by_cases hw : d.1 = "change"
  · rw [if_pos hw]; exact ⟨h1, h2⟩
  · have el : late x d = (x.sn d.1).getLast?.bind fun c => if d.2.1 < c.1 then some (passed d.2.1) else none := by unfold late; rw [if_neg hw]
    rw [el] at hn
    have key : ∀ z, (x.sn d.1).getLast? = some z → z.1 ≤ d.2.1 := fun z q => by
      rw [q] at hn
      have hn : (if d.2.1 < z.1 then some (passed d.2.1) else none) = none := hn
      exact Int.not_lt.mp fun h => by rw [if_pos h] at hn; cases hn
    rw [if_neg hw]
    by_cases hl : d.1 = "label"
    · rw [if_pos hl]
      have e : x.sn d.1 = x.sl := by show pick d.1 _ _ = _; unfold pick; rw [if_pos hl]
      rw [e] at key
      exact ⟨srt_more h1 key, h2⟩
    · rw [if_neg hl]
      have e : x.sn d.1 = x.st := by show pick d.1 _ _ = _; unfold pick; rw [if_neg hl]
      rw [e] at key
      exact ⟨h1, srt_more h2 key⟩
theorem Gd.after {i : Nat} {s : Sh} (h : Gd i s) {x : Ss} (hx : s.sts[s.spot]? = some x) (g : Gs i s x) {d : Deed} (hd : DdB (Bi i + 10 ^ 30) d) (hn : late x d = none) (hs : AllSeen s (nextS x d)) : Gd (i + 1) (s.after x d) := by
  have hd : DdB (Bi (i + 1)) d := by rw [Bi_succ]; exact hd
  have h1 := h.sp
  have h2 := h.ln
  have h3 := h.dl
  have o3 : Ok3 (Bi (i + 1)) d.2 := ⟨hd.m, hd.p, hd.q⟩
  obtain ⟨t1, t2⟩ := late_srt hd.k hn g.r1 g.r2
  have gx : Gs (i + 1) (s.after x d) (nextS x d) := by
    refine ⟨late_up hn g.up, ?_, ?_, ?_, ?_, ?_, ?_, hs, t1, t2⟩
    · unfold nextS; split
      · intro c hc
        rcases List.mem_append.mp hc with z | z
        · exact (g.ch c z).up Bi_up
        · rw [List.mem_singleton.mp z]; exact o3
      · split <;> exact fun c hc => (g.ch c hc).up Bi_up
    · unfold nextS; split
      · exact fun c hc => (g.s1 c hc).up Bi_up
      · split
        · intro c hc
          rcases List.mem_append.mp hc with z | z
          · exact (g.s1 c z).up Bi_up
          · rw [List.mem_singleton.mp z]; exact o3
        · exact fun c hc => (g.s1 c hc).up Bi_up
    · unfold nextS; split
      · exact fun c hc => (g.s2 c hc).up Bi_up
      · split
        · exact fun c hc => (g.s2 c hc).up Bi_up
        · intro c hc
          rcases List.mem_append.mp hc with z | z
          · exact (g.s2 c z).up Bi_up
          · rw [List.mem_singleton.mp z]; exact o3
    · have := g.lc; unfold nextS; split <;> (try split) <;> simp <;> omega
    · have := g.l1; unfold nextS; split <;> (try split) <;> simp <;> omega
    · have := g.l2; unfold nextS; split <;> (try split) <;> simp <;> omega
  refine ⟨h.f0, h.f1, h.ol, h.ot, h.bl, h.bt, ?_, ?_, ?_, fun y hy => ?_, fun e he => ?_⟩
  · show s.spot + 1 ≤ (s.dds.take s.spot ++ [d]).length
    rw [List.length_append, List.length_take]; simp; omega
  · show (s.sts.take (s.spot + 1) ++ [nextS x d]).length = (s.dds.take s.spot ++ [d]).length + 1
    rw [List.length_append, List.length_append, List.length_take, List.length_take]; simp; omega
  · show (s.dds.take s.spot ++ [d]).length ≤ i + 1
    rw [List.length_append, List.length_take]; simp; omega
  · rcases List.mem_append.mp (show y ∈ s.sts.take (s.spot + 1) ++ [nextS x d] from hy) with z | z
    · exact (h.sts y (List.mem_of_mem_take z)).next rfl rfl rfl
    · rw [List.mem_singleton.mp z]; exact gx
  · rcases List.mem_append.mp (show e ∈ s.dds.take s.spot ++ [d] from he) with z | z
    · exact (h.dds e (List.mem_of_mem_take z)).up Bi_up
    · rw [List.mem_singleton.mp z]; exact hd
theorem gd0 {f : Int} {bl bt : Int × Int} (h0 : 0 ≤ f) (h1 : f ≤ 10 ^ 30) (o1 : BdOk bl) (o2 : BdOk bt) (b1 : bl.2 ≤ 10 ^ 29) (b2 : bt.2 ≤ 10 ^ 29) : Gd 0 (sh0 f bl bt) := by
  refine ⟨h0, h1, o1, o2, b1, b2, Nat.le_refl 0, rfl, Nat.le_refl 0, fun x hx => ?_, nofun⟩
  rw [List.mem_singleton.mp hx]
  exact ⟨List.Pairwise.nil, nofun, nofun, nofun, Nat.le_refl 0, Nat.le_refl 0, Nat.le_refl 0, ⟨rfl, rfl⟩, List.Pairwise.nil, List.Pairwise.nil⟩
end K97
/-! # Walk XQ: the law -/
namespace K97
open PySem PySem.Spec PyProof.Rows L2 TL
/-- the four objects of the law -/
structure Four (b p1 p2 p3 : Addr) : Prop where
  a : b ≠ p1
  c : b ≠ p2
  d : b ≠ p3
  e : p1 ≠ p2
  f : p1 ≠ p3
  g : p2 ≠ p3
structure Wld (O : Om) (b p1 p2 p3 : Addr) (s : Sh) : Prop where
  bag : ∃ ow, O b = some ow ∧ IsBag ow
  o1 : O p1 = some s.ow
  o2 : O p2 = some s.ow
  o3 : O p3 = some (.lst (s.sts.map (lsD s.f s.bl s.bt)))
section
variable {O : Om} {b p1 p2 p3 : Addr} {s s' : Sh} {ow : Ow}
theorem Wld.draw (w : Wld O b p1 p2 p3 s) (f : Four b p1 p2 p3) (h : IsBag ow) : Wld (O.put b ow) b p1 p2 p3 s :=
  ⟨⟨ow, Om.put_same, h⟩, by rw [Om.put_ne (Ne.symm f.a)]; exact w.o1, by rw [Om.put_ne (Ne.symm f.c)]; exact w.o2, by rw [Om.put_ne (Ne.symm f.d)]; exact w.o3⟩
end
/-- how a line is led -/
inductive Way (i : Nat) : Int → Ln → Prop where
  | back : Way i 0 .back
  | again : Way i 1 .again
  | deed (w : Int) (d : Deed) (hw : 1 < w) (h : DdB (Bi i + 10 ^ 30) d) : Way i w (.deed d)
theorem Way.lead {i : Nat} {w : Int} {l : Ln} (h : Way i w l) : l.lead := by cases h <;> trivial
theorem Way.ok {i : Nat} {w : Int} {l : Ln} (h : Way i w l) (hi : i ≤ 20) : l.ok := by
  cases h with
  | back => trivial
  | again => trivial
  | deed w d hw h => exact h.ok (Bi_le hi)
/-- the word of what is told -/
theorem wordD_two (e : Exn) : ∃ (w : Str) (z : D), wordD e = .tup [.str w, z] ∧ w ≠ Str.ofString "told" := by
  unfold wordD
  split
  · exact ⟨_, _, rfl, by decide +kernel⟩
  · split
    · exact ⟨_, _, rfl, by decide +kernel⟩
    · split
      · exact ⟨_, _, rfl, by decide +kernel⟩
      · split
        · exact ⟨_, _, rfl, by decide +kernel⟩
        · exact ⟨_, _, rfl, by decide +kernel⟩
theorem ok_strs {xs : List Str} (h : ∀ x ∈ xs, Asc x) : (D.lst (xs.map .str)).ok = true := by
  refine gd_ok ?_ ?_
  · rw [D.gd]
    exact gds_iff.mpr fun d hd => by obtain ⟨x, hx, rfl⟩ := List.mem_map.mp hd; exact (Fit.str (h x hx) (Nat.le_refl _)).gd
  · rw [D.dp]
    exact Nat.le_trans (Nat.succ_le_succ (dps_le.mpr fun d hd => by obtain ⟨x, hx, rfl⟩ := List.mem_map.mp hd; exact Nat.le_refl 0)) (show 0 + 1 ≤ 64 by decide)
theorem book_txt {f : Int} {ch : List (Int × Int)} (hf : Nm f) (hc : ∀ c ∈ ch, Nm c.1 ∧ Nm c.2) (hl : ch.length ≤ 50) : Asc (tBook f ch) ∧ (tBook f ch).length ≤ 120000 := by
  have e : (Str.ofString "; ").length = 2 := by decide +kernel
  refine ⟨asc_join asc_semi fun x hx => ?_, ?_⟩
  · rcases List.mem_cons.mp hx with rfl | z
    · exact asc_iS
    · obtain ⟨c, _, rfl⟩ := List.mem_map.mp z; exact asc_sight
  · have h2 := join_len (y := Str.ofString "; ") (n := 86) (ws := iS f :: ch.map tSight) fun x hx => by
      rcases List.mem_cons.mp hx with rfl | z
      · exact Nat.le_trans (len_iS hf) (by decide)
      · obtain ⟨c, hc2, rfl⟩ := List.mem_map.mp z; exact sight_len (hc c hc2).1 (hc c hc2).2
    rw [e, List.length_cons, List.length_map] at h2
    show (Txt.join (Str.ofString "; ") _).length ≤ _
    omega
theorem log_txt {ds : List Deed} (h : ∀ d ∈ ds, DdOk d) (hl : ds.length ≤ 50) : Asc (tLog ds) ∧ (tLog ds).length ≤ 120000 := by
  unfold tLog
  split
  · exact ⟨by show Asc (Str.ofString "none"); unfold Asc; decide +kernel, by show (Str.ofString "none").length ≤ _; decide +kernel⟩
  · have e : (Str.ofString "; ").length = 2 := by decide +kernel
    refine ⟨asc_join asc_semi fun x hx => ?_, ?_⟩
    · obtain ⟨c, hc, rfl⟩ := List.mem_map.mp hx; exact (deed_txt (h c hc)).1
    · have h2 := join_len (y := Str.ofString "; ") (n := 128) (ws := ds.map tDeed) fun x hx => by
        obtain ⟨c, hc, rfl⟩ := List.mem_map.mp hx; exact (deed_txt (h c hc)).2
      rw [e, List.length_map] at h2
      show (Txt.join (Str.ofString "; ") _).length ≤ _
      omega
theorem back_ok {s s' : Sh} {n : Nat} {t : Str} (h : s.rBack n = .ok (t, s')) : ∃ k, n = k + 1 ∧ s' = { s with spot := k } := by
  cases n with
  | zero => cases h
  | succ k => cases h; exact ⟨k, rfl, rfl⟩
theorem again_ok {s s' : Sh} {t : Str} (h : s.rAgain = .ok (t, s')) : s.spot ≠ s.dds.length ∧ s' = { s with spot := s.spot + 1 } := by
  unfold Sh.rAgain at h
  split at h
  · cases h
  · rename_i hne; cases h; exact ⟨hne, rfl⟩
theorem deed_ok {s s' : Sh} {x : Ss} {d : Deed} {t : Str} (h : s.rDeed x d (late x d) = .ok (t, s')) : late x d = none ∧ AllSeen s (nextS x d) ∧ s' = s.after x d := by
  cases q : late x d with
  | some e => rw [q] at h; cases h
  | none =>
    rw [q] at h
    have h : (if AllSeen s (nextS x d) then Except.ok (Str.ofString "done", s.after x d) else .error (clash d)) = .ok (t, s') := h
    split at h
    · rename_i hs; cases h; exact ⟨rfl, hs, rfl⟩
    · cases h
section
variable {P : Program} {w : World} {K : PySem.W.Frag} {mg : Str → Option Value} {base : Heap}
def S_law : SpD := fun ds O Q _ => ∃ ns : List Int, ds = [.scr ns] ∧ ∀ O', Q (.bl true) O'
theorem S_law_len {ds O Q QE} (h : S_law ds O Q QE) : ds.length = 1 := by obtain ⟨p, e, _⟩ := h; rw [e]; rfl
abbrev rL (ns : List Int) (f : Int) (bl bt : Int × Int) (b p1 p2 p3 : Addr) (sp : Nat) (v7 v8 v9 v10 v11 v12 v13 v14 v15 : Option D) : Rho :=
  [some (.scr ns), some (.adr b), some (lsD f bl bt ss0), some (dkD p1), some (.adr p2), some (.adr p3), some (.int (sp : Nat)), v7, v8, v9, v10, v11, v12, v13, v14, v15, none]
theorem b_law (W : Wd P w K mg base) : Bod P w K mg base .cold 20 d_law N_law S_law := by
  rintro cdv A outer s H E F0 ds O Q QE hm hr xe ⟨ns, rfl, q⟩
  have nd : N_law.Nodup := by decide
  have ht : Heat (cxB P w K mg base N_law d_law.qual (defScope d_law.st) (d_law.pa.ad K) cdv A outer s H E) := .inl hm
  refine ss_cons (s_set (i := 1) ?_ nd)
  refine ev_call (f__law_bag W) (hr.mono (by decide)) hm xer0 ?_
  refine av_cons ?_
  refine ev_name (i := 0) rfl ?_
  refine av_nil ?_
  refine ⟨ns, rfl, fun b ow hb0 hb => ?_⟩
  refine ss_cons (s_set (i := 2) ?_ nd)
  refine ev_call (f__law_empty W) (hr.mono (by decide)) trivial xer0 ?_
  refine av_cons ?_
  refine ev_name (i := 1) rfl ?_
  refine av_nil ?_
  refine ⟨b, rfl, ow, Om.put_same, hb, ?_⟩
  rintro _ ow1 ⟨f, bl, bt, rfl, h0, h1, o1, o2, b1, b2⟩ hb1
  rw [Om.put_put]
  have pl1 := pick_at (pl := "label") (by simp) pD bl bt
  have pl2 := pick_at (pl := "till") (by simp) pD bl bt
  have e1 : pick (Str.ofString "label") bl bt = bl := if_pos rfl
  have e2 : pick (Str.ofString "till") bl bt = bt := if_neg (Ne.symm ne_lt)
  refine ss_cons (s_set (i := 3) ?_ nd)
  refine ev_frz ?_
  refine ev_make (mk_desk W) (hr.mono (by decide)) ht xer0 ?_
  refine av_cons ?_
  refine ev_ix ?_
  refine ev_name (i := 2) rfl ?_
  refine ev_int ?_
  refine ⟨_, xd_tup (d := .int f) rfl, ?_⟩
  refine av_cons ?_
  refine ev_dget hr ?_
  refine ev_ix ?_
  refine ev_name (i := 2) rfl ?_
  refine ev_int ?_
  refine ⟨_, xd_tup (d := bdsD bl bt) rfl, ?_⟩
  refine ev_str ?_
  refine ⟨_, _, _, _, rfl, rfl, pl1, ?_⟩
  refine av_cons ?_
  refine ev_dget hr ?_
  refine ev_ix ?_
  refine ev_name (i := 2) rfl ?_
  refine ev_int ?_
  refine ⟨_, xd_tup (d := bdsD bl bt) rfl, ?_⟩
  refine ev_str ?_
  refine ⟨_, _, _, _, rfl, rfl, pl2, ?_⟩
  refine av_nil ?_
  rw [e1, e2]
  refine fun a ha => ⟨a, f, bl, bt, rfl, h0, o1, o2, Om.put_same, fun p1 hp1 => ⟨rfl, a, .desk, _, _, rfl, Om.put_same, ?_⟩⟩
  have n1 : p1 ≠ a := by rintro rfl; rw [Om.put_same] at hp1; cases hp1
  have n2 : b ≠ a := by rintro rfl; rw [Om.put_same] at ha; cases ha
  have n3 : b ≠ p1 := by rintro rfl; rw [Om.put_ne n2, Om.put_same] at hp1; cases hp1
  refine (?_ : ∀ O1 : Om, O1 b = some ow1 → O1 p1 = some (sh0 f bl bt).ow → Ssv (cxB P w K mg base N_law d_law.qual (defScope d_law.st) (d_law.pa.ad K) cdv A outer s H E) F0 ((defBody d_law.st).drop 3) [some (.scr ns), some (.adr b), some (lsD f bl bt ss0), some (dkD p1), none, none, none, none, none, none, none, none, none, none, none, none, none] O1 { nx := fun _ O' => Q .non O', rt := Q }) _ ?_ ?_
  rotate_left
  · unfold Om.del
    rw [if_neg n2, Om.put_ne n2, Om.put_ne n3, Om.put_ne n2, Om.put_same]
  · unfold Om.del
    rw [if_neg n1, Om.put_ne n1, Om.put_same]
  intro O1 hb2 hp2
  refine ss_cons (s_set (i := 4) ?_ nd)
  refine ev_make (mk_shop W) (hr.mono (by decide)) ht xer0 ?_
  refine av_cons ?_
  refine ev_ix ?_
  refine ev_name (i := 2) rfl ?_
  refine ev_int ?_
  refine ⟨_, xd_tup (d := .int f) rfl, ?_⟩
  refine av_cons ?_
  refine ev_dget hr ?_
  refine ev_ix ?_
  refine ev_name (i := 2) rfl ?_
  refine ev_int ?_
  refine ⟨_, xd_tup (d := bdsD bl bt) rfl, ?_⟩
  refine ev_str ?_
  refine ⟨_, _, _, _, rfl, rfl, pl1, ?_⟩
  refine av_cons ?_
  refine ev_dget hr ?_
  refine ev_ix ?_
  refine ev_name (i := 2) rfl ?_
  refine ev_int ?_
  refine ⟨_, xd_tup (d := bdsD bl bt) rfl, ?_⟩
  refine ev_str ?_
  refine ⟨_, _, _, _, rfl, rfl, pl2, ?_⟩
  refine av_nil ?_
  rw [e1, e2]
  refine fun p2 hp3 => ⟨p2, f, bl, bt, rfl, h0, o1, o2, Om.put_same, rfl, ?_⟩
  rw [Om.put_put]
  have n4 : b ≠ p2 := by rintro rfl; rw [hb2] at hp3; cases hp3
  have n5 : p1 ≠ p2 := by rintro rfl; rw [hp2] at hp3; cases hp3
  refine ss_cons (s_par (i := 5) (j := 6) ht nd ?_)
  refine av_cons ?_
  refine ev_lstO ?_
  refine av_cons ?_
  refine ev_name (i := 2) rfl ?_
  refine av_nil ?_
  refine ⟨by show 1 ≤ 100000; decide, fun p3 hp4 => ?_⟩
  refine av_cons ?_
  refine ev_int ?_
  refine av_nil ?_
  refine ⟨_, _, rfl, ?_⟩
  have n6 : b ≠ p3 := by rintro rfl; rw [Om.put_ne n4, hb2] at hp4; cases hp4
  have n7 : p1 ≠ p3 := by rintro rfl; rw [Om.put_ne n5, hp2] at hp4; cases hp4
  have n8 : p2 ≠ p3 := by rintro rfl; rw [Om.put_same] at hp4; cases hp4
  have F4 : Four b p1 p2 p3 := ⟨n3, n4, n6, n5, n7, n8⟩
  have w0 : Wld ((O1.put p2 (sh0 f bl bt).ow).put p3 (.lst [lsD f bl bt ss0])) b p1 p2 p3 (sh0 f bl bt) :=
    ⟨⟨ow1, by rw [Om.put_ne n6, Om.put_ne n4]; exact hb2, hb1⟩, by rw [Om.put_ne n7, Om.put_ne n5]; exact hp2, by rw [Om.put_ne n8, Om.put_same], Om.put_same⟩
  generalize (O1.put p2 (sh0 f bl bt).ow).put p3 (.lst [lsD f bl bt ss0]) = O2 at w0 ⊢
  obtain ⟨ow2, hb3, hb4⟩ := w0.bag
  refine ss_cons (s_for po_b ht (iv_range1 ?_ (W.fre _ (by decide +kernel))))
  refine ev_op ?_
  refine ev_int ?_
  refine ev_call (f__law_take W) (hr.mono (by decide)) trivial xer0 ?_
  refine av_cons ?_
  refine ev_name (i := 1) rfl ?_
  refine av_cons ?_
  refine ev_int ?_
  refine av_nil ?_
  refine ⟨b, 9, rfl, by decide, by decide, ow2, hb3, hb4, ?_⟩
  rintro _ ow3 ⟨k, rfl, k0, k1⟩ hb5
  refine ⟨_, od_add, _, rfl, ⟨by omega, by omega⟩, ?_⟩
  refine ⟨fun i r2 O3 => ∃ (s : Sh) (v7 v8 v9 v10 v11 v12 v13 v14 v15 : Option D), f = s.f ∧ bl = s.bl ∧ bt = s.bt ∧ Gd i s ∧ Wld O3 b p1 p2 p3 s ∧ r2 = rL ns f bl bt b p1 p2 p3 s.spot v7 v8 v9 v10 v11 v12 v13 v14 v15,
    ⟨sh0 f bl bt, none, none, none, none, none, none, none, none, none, rfl, rfl, rfl, gd0 h0 h1 o1 o2 b1 b2, w0.draw F4 hb5, rfl⟩, ?_, fun r2 O3 _ => ss_cons (s_ret (ev_bl (q O3)))⟩
  clear w0 hb3 hb4
  rintro i d r2 O3 hi ⟨s, v7, v8, v9, v10, v11, v12, v13, v14, v15, rfl, rfl, rfl, gd, wl, rfl⟩
  obtain ⟨hi1, rfl⟩ := rngD_get.mp hi
  have hi2 : i ≤ 16 := by omega
  obtain ⟨x, hx, gs⟩ := gd.cur
  have bd := gd.bd2 gs (by omega)
  have g := gd.gsh hx gs (by omega)
  obtain ⟨ow4, hb6, hb7⟩ := wl.bag
  refine gv_name (i := 7) ?_ nd
  refine ss_cons (s_par (i := 8) (j := 9) ht nd ?_)
  refine av_cons ?_
  refine ev_call (f__law_take W) (hr.mono (by decide)) trivial xer0 ?_
  refine av_cons ?_
  refine ev_name (i := 1) rfl ?_
  refine av_cons ?_
  refine ev_int ?_
  refine av_nil ?_
  refine ⟨b, 6, rfl, by decide, by decide, ow4, hb6, hb7, ?_⟩
  rintro _ ow5 ⟨wv, rfl, w1, w2⟩ hb8
  have wl2 := wl.draw F4 hb8
  refine av_cons ?_
  refine ev_non ?_
  refine av_nil ?_
  refine ⟨_, _, rfl, ?_⟩
  generalize O3.put b ow5 = O4 at wl2 ⊢
  refine ss_mid (fun r1 O5 => O5 = O4 ∧ ∃ t : Str, ((wv = 0 ∧ t = "back") ∨ (wv = 1 ∧ t = "again") ∨ 1 < wv) ∧ r1 = rL ns s.f s.bl s.bt b p1 p2 p3 s.spot (some (.int (0 + (i : Int)))) (some (.int wv)) (some .non) (some (.str t)) v11 v12 v13 v14 v15) ?_ ?_
  · refine s_set (i := 10) ?_ nd
    refine ev_if ?_
    refine tv_cmp ?_
    refine ev_name (i := 8) rfl ?_
    refine ev_int ?_
    refine ⟨_, od_lt, fun h => ?_, fun h => ?_⟩
    · have h := of_decide_eq_true h
      refine ev_ix ?_
      refine ev_lst ?_
      refine av_cons ?_
      refine ev_str ?_
      refine av_cons ?_
      refine ev_str ?_
      refine av_nil ?_
      refine ⟨by show 2 ≤ 100000; decide, ?_⟩
      refine ev_name (i := 8) rfl ?_
      rcases (show wv = 0 ∨ wv = 1 by omega) with rfl | rfl
      · exact ⟨_, xd_lst (d := .str "back") rfl, rfl, _, .inl ⟨rfl, rfl⟩, rfl⟩
      · exact ⟨_, xd_lst (d := .str "again") rfl, rfl, _, .inr (.inl ⟨rfl, rfl⟩), rfl⟩
    · have h := of_decide_eq_false h
      exact ev_str ⟨rfl, _, .inr (.inr (by omega)), rfl⟩
  rintro r1 O5 ⟨eO, t, ht2, rfl⟩
  rw [eO]
  refine ss_mid (fun r1 O5 => ∃ l : Ln, Way i wv l ∧ Wld O5 b p1 p2 p3 s ∧ r1 = rL ns s.f s.bl s.bt b p1 p2 p3 s.spot (some (.int (0 + (i : Int)))) (some (.int wv)) (some l.arg) (some (.str l.txt)) v11 v12 v13 v14 v15) ?_ ?_
  · refine s_if ?_
    refine tv_cmp ?_
    refine ev_name (i := 8) rfl ?_
    refine ev_int ?_
    refine ⟨_, od_gt, fun h => ?_, fun h => ss_nil ?_⟩
    · have h := of_decide_eq_true h
      obtain ⟨ow6, hb9, hb10⟩ := wl2.bag
      refine ss_cons (s_set (i := 9) ?_ nd)
      refine ev_call (f__law_deed W) (hr.mono (by decide)) hm xer0 ?_
      refine av_cons ?_
      refine ev_name (i := 1) rfl ?_
      refine av_cons ?_
      refine ev_ix ?_
      refine ev_name (i := 5) rfl ?_
      refine ev_name (i := 6) rfl ?_
      refine ⟨_, xd_own wl2.o3 (atI_nat (getmap hx)), ?_⟩
      refine av_nil ?_
      refine ⟨b, Bi i, s.f, s.bl, s.bt, x, rfl, bd, ow6, hb9, hb10, ?_⟩
      rintro _ ow7 ⟨d, rfl, hd⟩ hb11
      have dok := hd.ok (Bi_le (show i ≤ 20 by omega))
      refine ss_cons (s_set (i := 10) ?_ nd)
      refine ev_call (f__law_deed_text W) (hr.mono (by decide)) trivial xer0 ?_
      refine av_cons ?_
      refine ev_name (i := 9) rfl ?_
      refine av_nil ?_
      refine ⟨d, rfl, ⟨dok.n1.sm, dok.n2.sm⟩, kind_len dok.k, ?_⟩
      exact ss_nil ⟨.deed d, .deed wv d h hd, wl2.draw F4 hb11, rfl⟩
    · have h := of_decide_eq_false h
      rcases ht2 with ⟨rfl, rfl⟩ | ⟨rfl, rfl⟩ | z
      · exact ⟨.back, .back, wl2, rfl⟩
      · exact ⟨.again, .again, wl2, rfl⟩
      · exact absurd z h
  clear ht2 wl2 wl hb6 hb7
  rintro r1 O5 ⟨l, way, wl, rfl⟩
  have lok := way.ok (show i ≤ 20 by omega)
  refine ss_cons (s_par (i := 11) (j := 12) ht nd ?_)
  refine av_cons ?_
  refine ev_call (f__law_said W) (hr.mono (by decide)) hm xer0 ?_
  refine av_cons ?_
  refine ev_name (i := 3) rfl ?_
  refine av_cons ?_
  refine ev_name (i := 10) rfl ?_
  refine av_nil ?_
  refine ⟨p1, s, x, l, rfl, wl.o1, g, lok, ?_⟩
  refine av_cons ?_
  refine ev_call (f__law_led_by W) (hr.mono (by decide)) hm xer0 ?_
  refine av_cons ?_
  refine ev_name (i := 4) rfl ?_
  refine av_cons ?_
  refine ev_name (i := 10) rfl ?_
  refine av_cons ?_
  refine ev_name (i := 9) rfl ?_
  refine av_nil ?_
  refine ⟨p2, s, x, l, rfl, way.lead, by rw [Om.put_ne (Ne.symm F4.e)]; exact wl.o2, g, lok, ?_⟩
  refine av_nil ?_
  refine ⟨_, _, rfl, ?_⟩
  refine ss_cons (s_if ?_)
  refine tv_not ?_
  refine tv_val ?_
  refine ev_call (f__law_alike W) (hr.mono (by decide)) trivial xer0 ?_
  refine av_cons ?_
  refine ev_name (i := 11) rfl ?_
  refine av_cons ?_
  refine ev_name (i := 12) rfl ?_
  refine av_nil ?_
  refine ⟨_, rfl, .inr (outD_tup _), (run_fit g lok way.lead).up (by decide) (by decide), ?_⟩
  refine ⟨true, rfl, nofun, fun _ => ss_nil ?_⟩
  refine ss_mid (fun r1 O6 => ∃ (s' : Sh) (v11 v12 : Option D), s.f = s'.f ∧ s.bl = s'.bl ∧ s.bt = s'.bt ∧ Gd (i + 1) s' ∧ Wld O6 b p1 p2 p3 s' ∧ r1 = rL ns s.f s.bl s.bt b p1 p2 p3 s'.spot (some (.int (0 + (i : Int)))) (some (.int wv)) (some l.arg) (some (.str l.txt)) v11 v12 v13 v14 v15) ?_ ?_
  · generalize hr0 : s.run x l = r
    cases r with
    | error e =>
      obtain ⟨w, z, ew, hne⟩ := wordD_two e
      rw [show outD (.error e) = .tup [.str w, z] from ew, show outS s (.error e) = s from rfl, Om.put_eq wl.o1, Om.put_eq wl.o2]
      refine s_if ?_
      refine tv_cmp ?_
      refine ev_ix ?_
      refine ev_name (i := 12) rfl ?_
      refine ev_int ?_
      refine ⟨_, xd_tup (d := .str w) rfl, ?_⟩
      refine ev_str ?_
      exact ⟨_, od_eqs, fun h => absurd (of_decide_eq_true h) hne, fun _ => ss_nil ⟨s, _, _, rfl, rfl, rfl, gd.same, wl, rfl⟩⟩
    | ok z =>
      obtain ⟨t3, s'⟩ := z
      rw [show outD (.ok (t3, s')) = .tup [.str "told", .str t3] from rfl, show outS s (.ok (t3, s')) = s' from rfl]
      have both : ∀ ss : List Ss, s'.sts = ss → ss = s.sts → s'.f = s.f → s'.bl = s.bl → s'.bt = s.bt → Wld ((O5.put p1 s'.ow).put p2 s'.ow) b p1 p2 p3 s' := fun ss e1 e2 e3 e4 e5 => by
        obtain ⟨ow6, q1, q2⟩ := wl.bag
        refine ⟨⟨ow6, by rw [Om.put_ne F4.c, Om.put_ne F4.a]; exact q1, q2⟩, by rw [Om.put_ne F4.e, Om.put_same], Om.put_same, ?_⟩
        rw [Om.put_ne (Ne.symm F4.g), Om.put_ne (Ne.symm F4.f), wl.o3, e1, e2, e3, e4, e5]
      refine s_if ?_
      refine tv_cmp ?_
      refine ev_ix ?_
      refine ev_name (i := 12) rfl ?_
      refine ev_int ?_
      refine ⟨_, xd_tup (d := .str "told") rfl, ?_⟩
      refine ev_str ?_
      refine ⟨_, od_eqs, fun _ => ?_, fun h => absurd rfl (of_decide_eq_false h)⟩
      cases way with
      | back =>
        obtain ⟨k2, hk, rfl⟩ := back_ok (show s.rBack s.spot = _ from hr0)
        have hsp := gd.sp
        have e : ((s.spot : Nat) : Int) + -1 = (k2 : Int) := by omega
        refine ss_cons (s_if ?_)
        refine tv_cmp ?_
        refine ev_name (i := 9) rfl ?_
        refine ev_non ?_
        refine ⟨_, od_isNot, nofun, fun _ => ss_nil ?_⟩
        refine ss_cons (s_set (i := 6) ?_ nd)
        refine ev_op ?_
        refine ev_name (i := 6) rfl ?_
        refine ev_if ?_
        refine tv_cmp ?_
        refine ev_name (i := 8) rfl ?_
        refine ev_int ?_
        refine ⟨_, od_eqi, fun _ => ?_, fun h => absurd rfl (of_decide_eq_false h)⟩
        refine ev_un ?_
        refine ev_int ?_
        refine ⟨_, ud_neg, ?_⟩
        refine ⟨_, od_add, ?_⟩
        rw [e]
        exact ss_nil ⟨{ s with spot := k2 }, _, _, rfl, rfl, rfl, gd.spot (show k2 ≤ s.dds.length by omega), both s.sts rfl rfl rfl rfl rfl, rfl⟩
      | again =>
        obtain ⟨hk, rfl⟩ := again_ok (show s.rAgain = _ from hr0)
        have hsp := gd.sp
        have e : ((s.spot : Nat) : Int) + 1 = ((s.spot + 1 : Nat) : Int) := by omega
        refine ss_cons (s_if ?_)
        refine tv_cmp ?_
        refine ev_name (i := 9) rfl ?_
        refine ev_non ?_
        refine ⟨_, od_isNot, nofun, fun _ => ss_nil ?_⟩
        refine ss_cons (s_set (i := 6) ?_ nd)
        refine ev_op ?_
        refine ev_name (i := 6) rfl ?_
        refine ev_if ?_
        refine tv_cmp ?_
        refine ev_name (i := 8) rfl ?_
        refine ev_int ?_
        refine ⟨_, od_eqi, fun h => absurd (of_decide_eq_true h) (by decide), fun _ => ?_⟩
        refine ev_int ?_
        refine ⟨_, od_add, ?_⟩
        rw [e]
        exact ss_nil ⟨{ s with spot := s.spot + 1 }, _, _, rfl, rfl, rfl, gd.spot (show s.spot + 1 ≤ s.dds.length by omega), both s.sts rfl rfl rfl rfl rfl, rfl⟩
      | deed _ d hw hd =>
        obtain ⟨hn, hs, rfl⟩ := deed_ok (show s.rDeed x d (late x d) = _ from hr0)
        have e : ((s.spot : Nat) : Int) + 1 = ((s.spot + 1 : Nat) : Int) := by omega
        have lc := gs.lc
        have l1 := gs.l1
        have l2 := gs.l2
        have hsl : s.spot + 1 ≤ s.sts.length := by have := gd.sp; have := gd.ln; omega
        have dl := gd.dl
        have ln := gd.ln
        have o3 : ((O5.put p1 (s.after x d).ow).put p2 (s.after x d).ow) p3 = some (.lst (s.sts.map (lsD s.f s.bl s.bt))) := by
          rw [Om.put_ne (Ne.symm F4.g), Om.put_ne (Ne.symm F4.f), wl.o3]
        refine ss_cons (s_if ?_)
        refine tv_cmp ?_
        refine ev_name (i := 9) rfl ?_
        refine ev_non ?_
        refine ⟨_, od_isNot, fun _ => ?_, nofun⟩
        refine ss_cons (s_asg ?_)
        refine ev_lst ?_
        refine av_cons ?_
        refine ev_ix ?_
        refine ev_call (f__law_behind W) (hr.mono (by decide)) hm xer0 ?_
        refine av_cons ?_
        refine ev_ix ?_
        refine ev_name (i := 5) rfl ?_
        refine ev_name (i := 6) rfl ?_
        refine ⟨_, xd_own o3 (atI_nat (getmap hx)), ?_⟩
        refine av_cons ?_
        refine ev_name (i := 9) rfl ?_
        refine av_nil ?_
        refine ⟨s.f, s.bl, s.bt, x, d, rfl, hd.k, by omega, by omega, by omega, hn, late_up hn gs.up, hs, ?_⟩
        refine ev_int ?_
        refine ⟨_, xd_tup (d := lsD s.f s.bl s.bt (nextS x d)) rfl, ?_⟩
        refine av_nil ?_
        refine ⟨by show 1 ≤ 100000; decide, ?_⟩
        refine gv_cut (ev_name (i := 5) rfl (ev_op (ev_name (i := 6) rfl (ev_int ⟨_, od_add, ?_⟩))))
        rw [e]
        refine ⟨p3, _, s.spot + 1, rfl, rfl, o3, by rw [List.length_map]; exact hsl, by rw [List.length_map]; show s.sts.length + 1 ≤ _; omega, ss_nil ?_⟩
        refine ss_cons (s_set (i := 6) ?_ nd)
        refine ev_op ?_
        refine ev_name (i := 6) rfl ?_
        refine ev_if ?_
        refine tv_cmp ?_
        refine ev_name (i := 8) rfl ?_
        refine ev_int ?_
        refine ⟨_, od_eqi, fun h => absurd (of_decide_eq_true h) (by omega), fun _ => ?_⟩
        refine ev_int ?_
        refine ⟨_, od_add, ?_⟩
        rw [e]
        refine ss_nil ⟨s.after x d, _, _, rfl, rfl, rfl, gd.after hx gs hd hn hs, ?_, rfl⟩
        obtain ⟨ow6, q1, q2⟩ := wl.bag
        refine ⟨⟨ow6, by rw [Om.put_ne F4.d, Om.put_ne F4.c, Om.put_ne F4.a]; exact q1, q2⟩, by rw [Om.put_ne F4.f, Om.put_ne F4.e, Om.put_same], by rw [Om.put_ne F4.g, Om.put_same], ?_⟩
        rw [Om.put_same, ← List.map_take]
        show some (Ow.lst _) = some (Ow.lst ((s.sts.take (s.spot + 1) ++ [nextS x d]).map (lsD s.f s.bl s.bt)))
        rw [List.map_append]; rfl
  clear gd bd g gs hx wl way
  rintro r1 O6 ⟨s', v11, v12, ef, el, et, gd, wl, rfl⟩
  rw [ef, el, et]
  obtain ⟨x', hx, gs⟩ := gd.cur
  have g := gd.gsh hx gs (by omega)
  have bd := gd.bd2 gs (by omega)
  have hB : Bi (i + 1) ≤ 10 ^ 39 := by have := Bi_le (show i + 1 ≤ 20 by omega); have := ten30; omega
  have lc := gs.lc
  have l1 := gs.l1
  have l2 := gs.l2
  refine ss_cons (s_if ?_)
  refine tv_not ?_
  refine tv_val ?_
  refine ev_call (f__law_shop_right W) (hr.mono (by decide)) hm xer0 ?_
  refine av_cons ?_
  refine ev_name (i := 4) rfl ?_
  refine av_cons ?_
  refine ev_ix ?_
  refine ev_name (i := 5) rfl ?_
  refine ev_name (i := 6) rfl ?_
  refine ⟨_, xd_own wl.o3 (atI_nat (getmap hx)), ?_⟩
  refine av_nil ?_
  refine ⟨p2, s', x', rfl, wl.o2, hx, gd.bk gs (by omega), by omega, by omega, fun c hc => (gs.s1 c hc).nm hB, fun c hc => (gs.s2 c hc).nm hB, ?_⟩
  refine ⟨true, rfl, nofun, fun _ => ss_nil ?_⟩
  have hds : ∀ d ∈ s'.dds.take s'.spot, DdOk d := fun d hd => g.dd d (List.mem_of_mem_take hd)
  have hdl : (s'.dds.take s'.spot).length ≤ 50 := by have := gd.dl; rw [List.length_take]; omega
  refine ss_cons (s_setLcm (i := 13) dD decD decD_e [("_law_one_here", 16)] nd ht (iv_val (ev_meth0 (f_Shop_log W) (hr.mono (by decide)) trivial xer0 (ev_name (i := 4) rfl ⟨_, _, .inr ⟨p2, rfl, wl.o2⟩, by decide +kernel, p2, s', rfl, wl.o2, gd.sp, _, rfl, s'.dds.take s'.spot, fun d => some (.str (tDeed d)), rfl, by omega, ?_, ?_⟩))) (show BlkOk N_law (defScope d_law.st) _ _ from blkOk_by (by decide +kernel)))
  rotate_left
  · intro s9 H9 C cl fp hh O9 sp d hd
    refine bd_name (i := 16) ?_ nd
    refine ev_call (f__law_deed_text W) (hr.mono (by decide)) trivial xer0 ?_
    refine av_cons ?_
    refine ev_name (i := 16) rfl ?_
    refine av_nil ?_
    exact ⟨d, rfl, ⟨(hds d hd).n1.sm, (hds d hd).n2.sm⟩, kind_len (hds d hd).k, rfl, rfl⟩
  rw [fm_some]
  have btx := book_txt g.ok.f g.ok.ch (show x'.ch.length ≤ 50 by omega)
  have ltx := log_txt hds hdl
  refine ss_mid (fun r1 O7 => O7 = O6 ∧ r1 = rL ns s'.f s'.bl s'.bt b p1 p2 p3 s'.spot (some (.int (0 + (i : Int)))) (some (.int wv)) (some l.arg) (some (.str l.txt)) v11 v12 (some (.lst ((s'.dds.take s'.spot).map fun d => D.str (tDeed d)))) (some (.lst [.str (tBook s'.f x'.ch), .str (tLog (s'.dds.take s'.spot))])) v15) ?_ ?_
  · refine s_set (i := 14) ?_ nd
    refine ev_lst ?_
    refine av_cons ?_
    refine ev_call (f__law_book_text W) (hr.mono (by decide)) hm xer0 ?_
    refine av_cons ?_
    refine ev_tup ?_
    refine av_cons ?_
    refine ev_ix ?_
    refine ev_name (i := 2) rfl ?_
    refine ev_int ?_
    refine ⟨_, xd_tup (d := .int s'.f) rfl, ?_⟩
    refine av_cons ?_
    refine ev_ix ?_
    refine ev_ix ?_
    refine ev_name (i := 5) rfl ?_
    refine ev_name (i := 6) rfl ?_
    refine ⟨_, xd_own wl.o3 (atI_nat (getmap hx)), ?_⟩
    refine ev_int ?_
    refine ⟨_, xd_tup (d := .lst (x'.ch.map pD)) rfl, ?_⟩
    refine av_nil ?_
    refine ⟨by show 2 ≤ 100000; decide, ?_⟩
    refine av_nil ?_
    refine ⟨s'.f, x'.ch, rfl, g.ok.f.sm, fun c hc => ⟨(g.ok.ch c hc).1.sm, (g.ok.ch c hc).2.sm⟩, by omega, ?_⟩
    generalize s'.dds.take s'.spot = dds at hds hdl
    have es : (dds.map fun d => D.str (tDeed d)) = (dds.map tDeed).map D.str := by rw [List.map_map]; rfl
    refine av_cons ?_
    refine ev_if ?_
    refine tv_cmp ?_
    refine ev_name (i := 13) rfl ?_
    refine ev_lst ?_
    refine av_nil ?_
    refine ⟨by decide, ?_⟩
    rw [es]
    refine ⟨_, od_ne hr.u64 (ok_strs fun t h => by obtain ⟨d, hd, rfl⟩ := List.mem_map.mp h; exact (deed_txt (hds d hd)).1) ok_nil, ?_⟩
    rw [eqv_nil]
    refine ⟨fun h => ?_, fun h => ?_⟩
    · have hne : dds ≠ [] := by rintro rfl; simp at h
      have e : tLog dds = Txt.join "; " (dds.map tDeed) := by unfold tLog; rw [if_neg hne]
      rw [e]
      refine ev_bm PySem.F.plainAttrs_str PySem.F.slot_str_join PySem.F.type_str_join (ev_str ⟨rfl, av_cons (ev_name (i := 13) rfl (av_nil (md_join ?_ ?_)))⟩)
      · have h1 := sum_le (as := dds) (f := fun c => (tDeed c).length) (n := 128) fun c hc => (deed_txt (hds c hc)).2
        have h3 : (Str.ofString "; ").length = 2 := by decide +kernel
        rw [List.map_map, List.length_map, h3]
        show (dds.map fun c => (tDeed c).length).sum + _ ≤ _
        omega
      · exact av_nil ⟨by show 2 ≤ 100000; decide, rfl, rfl⟩
    · have hne : dds = [] := by simpa using h
      have e : tLog dds = "none" := by unfold tLog; rw [if_pos hne]
      rw [e]
      refine ev_str ?_
      refine av_nil ?_
      exact ⟨by show 2 ≤ 100000; decide, rfl, rfl⟩
  rintro r1 O7 ⟨eO, rfl⟩
  rw [eO]
  clear eO
  refine ss_cons (s_if ?_)
  refine tv_not ?_
  refine tv_val ?_
  refine ev_call (f__law_alike W) (hr.mono (by decide)) trivial xer0 ?_
  refine av_cons ?_
  refine ev_lst ?_
  refine av_cons ?_
  refine ev_meth (f_Desk_execute W) (hr.mono (by decide)) hm xer0 ?_
  refine ev_name (i := 3) rfl ?_
  refine ⟨_, _, .inl rfl, by decide +kernel, ?_⟩
  refine av_cons ?_
  refine ev_str ?_
  refine av_nil ?_
  refine ⟨p1, s', x', .book, rfl, wl.o1, g, trivial, fun t5 s5 h5 => ?_, fun e h5 => by cases h5⟩
  obtain ⟨rfl, rfl⟩ : tBook s'.f x'.ch = t5 ∧ s' = s5 := by
    have h5 : Except.ok (tBook s'.f x'.ch, s') = Except.ok (ε := Exn) (t5, s5) := h5
    cases h5; exact ⟨rfl, rfl⟩
  rw [Om.put_eq wl.o1]
  refine av_cons ?_
  refine ev_meth (f_Desk_execute W) (hr.mono (by decide)) hm xer0 ?_
  refine ev_name (i := 3) rfl ?_
  refine ⟨_, _, .inl rfl, by decide +kernel, ?_⟩
  refine av_cons ?_
  refine ev_str ?_
  refine av_nil ?_
  refine ⟨p1, s', x', .log, rfl, wl.o1, g, trivial, fun t5 s5 h5 => ?_, fun e h5 => by cases h5⟩
  obtain ⟨rfl, rfl⟩ : tLog (s'.dds.take s'.spot) = t5 ∧ s' = s5 := by
    have h5 : Except.ok (tLog (s'.dds.take s'.spot), s') = Except.ok (ε := Exn) (t5, s5) := h5
    cases h5; exact ⟨rfl, rfl⟩
  rw [Om.put_eq wl.o1]
  refine av_nil ?_
  refine ⟨by show 2 ≤ 100000; decide, ?_⟩
  refine av_cons ?_
  refine ev_name (i := 14) rfl ?_
  refine av_nil ?_
  refine ⟨_, rfl, .inl ⟨_, rfl⟩, ?_, true, rfl, nofun, fun _ => ss_nil ?_⟩
  · have f9 := Fit.lst (ds := [.str (tBook s'.f x'.ch), .str (tLog (s'.dds.take s'.spot))]) (n := 120000) (k := 0) fun d hd => by
      simp only [List.mem_cons, List.not_mem_nil, or_false] at hd
      rcases hd with rfl | rfl
      · exact Fit.str btx.1 btx.2
      · exact Fit.str ltx.1 ltx.2
    exact f9.up (by show 2 * (120000 + 1) ≤ 300000; omega) (by omega)
  refine ss_cons (s_for po_b ht (iv_range1 (ev_int ⟨2, rfl, ⟨by decide, by decide⟩, ?_⟩) (W.fre _ (by decide +kernel))))
  refine ⟨fun j r2 O7 => ∃ v15 : Option D, Wld O7 b p1 p2 p3 s' ∧ r2 = rL ns s'.f s'.bl s'.bt b p1 p2 p3 s'.spot (some (.int (0 + (i : Int)))) (some (.int wv)) (some l.arg) (some (.str l.txt)) v11 v12 (some (.lst ((s'.dds.take s'.spot).map fun d => D.str (tDeed d)))) (some (.lst [.str (tBook s'.f x'.ch), .str (tLog (s'.dds.take s'.spot))])) v15, ⟨v15, wl, rfl⟩, ?_, ?_⟩
  · clear wl
    rintro j d2 r2 O7 hj ⟨v15, wl, rfl⟩
    obtain ⟨ow6, hb9, hb10⟩ := wl.bag
    refine gv_name (i := 15) ?_ nd
    refine ss_cons (s_if ?_)
    refine tv_not ?_
    refine tv_val ?_
    refine ev_call (f__law_asked_right W) (hr.mono (by decide)) hm xer0 ?_
    refine av_cons ?_
    refine ev_name (i := 3) rfl ?_
    refine av_cons ?_
    refine ev_name (i := 4) rfl ?_
    refine av_cons ?_
    refine ev_ix ?_
    refine ev_name (i := 5) rfl ?_
    refine ev_name (i := 6) rfl ?_
    refine ⟨_, xd_own wl.o3 (atI_nat (getmap hx)), ?_⟩
    refine av_cons ?_
    refine ev_call (f__law_question W) (hr.mono (by decide)) hm xer0 ?_
    refine av_cons ?_
    refine ev_name (i := 1) rfl ?_
    refine av_cons ?_
    refine ev_ix ?_
    refine ev_name (i := 5) rfl ?_
    refine ev_name (i := 6) rfl ?_
    refine ⟨_, xd_own wl.o3 (atI_nat (getmap hx)), ?_⟩
    refine av_nil ?_
    refine ⟨b, Bi (i + 1), s'.f, s'.bl, s'.bt, x', rfl, bd, hB, ow6, hb9, hb10, ?_⟩
    rintro _ ow7 ⟨k9, rfl, hk9⟩ hb11
    have wl2 := wl.draw F4 hb11
    refine av_nil ?_
    refine ⟨p1, p2, s', x', k9, rfl, wl2.o1, wl2.o2, g, hk9, ?_⟩
    exact ⟨true, rfl, nofun, fun _ => ss_nil (ss_nil ⟨_, wl2, rfl⟩)⟩
  · rintro r2 O7 ⟨v15, wl, rfl⟩
    exact ss_nil ⟨s', _, _, _, _, _, _, _, _, _, rfl, rfl, rfl, gd, wl, rfl⟩
end
end K97
/-! # the head: what the test tells -/
namespace K97
open PySem PySem.Spec PyProof.Rows L2
open K97Hd
/-! ## what they tell -/
section
variable {K : PySem.W.Frag}
theorem and2 {a b : Bool} (h : (a && b) = true) : a = true ∧ b = true := Bool.and_eq_true_iff.mp h
theorem oexB_ok {C : Addr} (h : oexB K C = true) : OexC K C := by
  obtain ⟨h1, h⟩ := and2 h
  obtain ⟨h2, h⟩ := and2 h
  obtain ⟨h3, h⟩ := and2 h
  obtain ⟨h4, h5⟩ := and2 h
  refine ⟨?_, He.eqO_ok h2, of_decide_eq_true h3, of_decide_eq_true h4, h5⟩
  split at h1
  · rename_i dd cd sl ho
    split at h1
    · rename_i C' bm k0 k1 k2 k3 n k5 hm hs
      simp only [Bool.and_eq_true, beq_iff_eq, Bool.not_eq_true'] at h1
      obtain ⟨⟨⟨⟨rfl, rfl⟩, hdel⟩, hd⟩, hv⟩ := h1
      obtain ⟨nm, bs, mro, ns, qn, hd', sn, sub, ab, col, del⟩ := cd
      dsimp only at hm hdel hd hs
      subst hm hdel hd
      have hsl : sl = #[k0, k1, k2, k3, some (.builtin "ValueError.__new__"), k5] := by
        obtain ⟨l⟩ := sl
        simp only at hs
        rw [hs]
      subst hsl
      exact ⟨nm, qn, ns, bs, bm, sn, sub, ab, col, dd, k0, k1, k2, k3, k5, ho, hv⟩
    · cases h1
  · cases h1
theorem xc_gen {e : ExX} {params : Arguments} {scope : Scope} {p0 p1 p2 p3 p4 p5 p6 p7 p8 p9 : Pos} {ar : Arg}
    (h : fnT K (e.at_ K) = some (("__init__" : Str), e.q, params, FuncBody.stmts [.Expr (.Call (.Attribute (.Call (.Name "super" p0) [] [] p1) "__init__" p2) [.Name e.f p3] [] p4) p5, .Assign [.Attribute (.Name "self" p6) e.f p7] (.Name e.f p8) p9], scope, mainGlobals, builtinsNs))
    (hB : xcB K e = true) (sta : PySem.W.nsIn K cStatics "thirdparty.any" = some none) (gsup : PySem.W.nsIn K mainGlobals "super" = some none)
    (a1 : (params.posonlyargs ++ params.args).head? = some ar) (a2 : ar.arg = "self")
    (s1 : scope.names.lookup ("super" : Str) = some .globalImplicit) (s2 : scope.names.lookup ("__class__" : Str) = some .free) (s3 : scope.names.lookup ("self" : Str) = some .local) (s4 : scope.names.lookup e.f = some .local) (s5 : scope.kind = .function) (s6 : scope.isCoroutine = false) (s7 : scope.isGenerator = false)
    (s8 : ∀ x ∈ scope.names, x.2 ≠ .cell)
    (hb : ∀ (cc cda : Addr) (kV doc pm : Value) (an : Option Addr) (ct a b : Value), bindArgs (PySem.W.fnX "__init__" e.q params
      [.Expr (.Call (.Attribute (.Call (.Name "super" p0) [] [] p1) "__init__" p2) [.Name e.f p3] [] p4) p5, .Assign [.Attribute (.Name "self" p6) e.f p7] (.Name e.f p8) p9] scope [("__class__", cc)] .none kV doc pm an (.ref cda) ct) ⟨[a, b], []⟩ = pure (([("self", a), (e.f, b)] : List (Str × Value))))
    (hev : ∀ env : PySem.Env, ∃ pl, eval (.Call (.Attribute (.Call (.Name "super" p0) [] [] p1) "__init__" p2) [.Name e.f p3] [] p4) env = (do
      let ov ← attributeBase (.Call (.Name "super" p0) [] [] p1) "__init__" env (eval (.Call (.Name "super" p0) [] [] p1) env)
      standAt p2.atName
      let (f, first) ← holding [ov] (getMethod ov "__init__" pl)
      callWith p4 f first (backTo p4 (starEach [.Name e.f p3] env)) []))
    (top : (PWm.main.scope.names.lookup ("super" : Str)).isSome = false) (nv : e.f ≠ "self") (nd : (e.f == ("__debug__" : Str)) = false) : XC PWm K (He.ga K e.c) e.f e.f p0 p1 p2 p3 p4 p5 p6 p7 p8 p9 := by
  obtain ⟨h1, hB⟩ := and2 hB
  obtain ⟨h2, hB⟩ := and2 hB
  obtain ⟨h3, hB⟩ := and2 hB
  obtain ⟨h4, hB⟩ := and2 hB
  obtain ⟨h5, hB⟩ := and2 hB
  obtain ⟨h6, hB⟩ := and2 hB
  obtain ⟨h7, h8⟩ := and2 hB
  have oex := oexB_ok h4
  refine ⟨oex, ?_, hev, of_decide_eq_true h5, He.eqO_ok h6, sta, of_decide_eq_true h7, He.eqO_ok h8, gsup, top, nv, nd⟩
  unfold fnT at h
  cases lk : K.lookup (e.at_ K) with
  | none => rw [lk] at h; cases h
  | some o =>
    obtain ⟨oc, od, dt, osl⟩ := o
    rw [lk] at h h3
    cases dt with
    | func fd =>
      obtain ⟨n1, n2, n3, n4, n5, n6, n7, n8, n9, n10, n11, n12, n13, n14, n15⟩ := fd
      dsimp only at h h3
      simp only [Option.some.injEq, Prod.mk.injEq] at h
      obtain ⟨e1, e2, e3, e4, e5, e6, e7⟩ := h
      subst e1 e2 e3 e4 e5 e6 e7
      split at h3
      · rename_i y cc cda
        obtain ⟨k1, h3⟩ := and2 h3
        obtain ⟨k2, h3⟩ := and2 h3
        obtain ⟨k3, k4⟩ := and2 h3
        have k1 := of_decide_eq_true k1
        subst k1
        obtain ⟨nm, q, N, bs, bm, sn, sub, ab, col, dd, w0, w1, w2, w3, w5, hC, _⟩ := oex.cls
        obtain ⟨cdD, hcls⟩ : ∃ cdD, PySem.W.clsIn K (He.ga K e.c) = some cdD := ⟨_, by unfold PySem.W.clsIn; rw [hC] <;> rfl⟩
        unfold cellB at k3
        split at k3
        · rename_i cl cld D csl hcc
          obtain rfl := beq_iff_eq.mp k3
          unfold fileB at k4
          split at k4
          · rename_i ccl cdd vs ccs hcd2
            split at k4
            · rename_i file tf hvs
              refine ⟨e.at_ K, cc, cda, _, _, _, .none, n9, n10, n11, n12, n14, oc, od, osl, cdD, ccl, cl, cdd, cld, vs, ccs, csl, file, tf, ar, He.eqO_ok h1, of_decide_eq_true h2, lk, k2, hcd2, hvs, k4, hcc, hcls, a1, a2, s1, s2, s3, s4, s5, s6, s7, s8, fun a b => hb cc cda n9 n10 n11 n12 n14 a b⟩
            · cases k4
          · cases k4
        · cases k3
      · cases h3
    | _ => cases h
theorem isiB_ok {C : Addr} (hc : Cls K C) (h : isiB K C = true) : IsiC K C := by
  obtain ⟨h1, h⟩ := and2 h
  obtain ⟨h2, h⟩ := and2 h
  obtain ⟨h3, h4⟩ := and2 h
  exact ⟨hc, He.eqO_ok h1, He.eqO_ok h2, of_decide_eq_true h3, of_decide_eq_true h4⟩
theorem nebB_ok {C : Addr} (h : nebB K C = true) : NeK K C := ⟨He.eqO_ok (and2 h).1, of_decide_eq_true (and2 h).2⟩
theorem xiB_ok {C : Addr} (h : xiB K C = true) : ExcC K C := by
  obtain ⟨h1, h⟩ := and2 h
  obtain ⟨h2, h⟩ := and2 h
  obtain ⟨h3, h⟩ := and2 h
  obtain ⟨h4, h⟩ := and2 h
  obtain ⟨h5, h⟩ := and2 h
  obtain ⟨h6, h⟩ := and2 h
  obtain ⟨h7, h8⟩ := and2 h
  exact ⟨He.eqO_ok h1, He.eqO_ok h2, of_decide_eq_true h3, h4, He.eqO_ok h5, He.eqO_ok h6, of_decide_eq_true h7, of_decide_eq_true h8⟩
theorem prpB_ok {C : Addr} {x : Str} (h : prpB K C x = true) : PropOf K C x (He.ma K C x) (getterOf K (He.ma K C x)) := by
  obtain ⟨h1, h⟩ := and2 h
  obtain ⟨h2, h⟩ := and2 h
  obtain ⟨h3, h4⟩ := and2 h
  refine ⟨He.eqO_ok h1, He.eqO_ok h2, of_decide_eq_true h3, ?_⟩
  unfold getterOf
  split at h4
  · rename_i g r e
    rw [e]
    exact ⟨r, rfl⟩
  · cases h4
theorem tupE_ok {a : Addr} (h : tupE K a = true) (F : Hp) : Rep K F (.tup []) (.ref a) := by
  unfold tupE at h
  split at h
  · rename_i c od its n sl lk
    obtain ⟨h1, h2⟩ := and2 h
    have h1 := of_decide_eq_true h1
    have h2 := of_decide_eq_true h2
    have e0 : its.toList = [] := by
      cases its with
      | mk l =>
        cases l with
        | nil => rfl
        | cons z r => simp at h2
    refine rep_tup.mpr ⟨a, [], rfl, .inr ⟨_, its, _, lk, congrArg Value.type h1, rfl, by rw [h2]; exact Nat.zero_le _, ?_⟩, .nil⟩
    rw [e0]; exact .nil
  · cases h
theorem tupS_ok {x : Str} {ws : List Str} (h : He.tupB K x (ws.map He.Dv.str) = true) (F : Hp) : Rep K F (.tup (ws.map .str)) (.ref (He.ga K x)) := by
  have := He.tupB_ok h F
  rw [List.map_map] at this
  exact rep_tup.mpr ⟨_, _, rfl, this, reps_strs⟩
/-- THE FACTS -/
theorem wd_of {w : World} {mg : Str → Option Value} {base h : Heap} (kh : K.In h) (kb : K.In base) (G : h.Ns mainGlobals mg) (hB : wdB K = true) (hd : fn.map (fun d => fnAt K (d.pa.ad K)) = fn.map DefX.val) (hx : exs.map (fun e => fnT K (e.at_ K)) = exs.map ExX.val) : Wd PWm w K mg base := by
  obtain ⟨b1, hB⟩ := and2 hB
  obtain ⟨b2, hB⟩ := and2 hB
  obtain ⟨b3, hB⟩ := and2 hB
  obtain ⟨b4, hB⟩ := and2 hB
  obtain ⟨b5, hB⟩ := and2 hB
  obtain ⟨b6, hB⟩ := and2 hB
  obtain ⟨b7, hB⟩ := and2 hB
  obtain ⟨b8, hB⟩ := and2 hB
  obtain ⟨b9, hB⟩ := and2 hB
  obtain ⟨b10, hB⟩ := and2 hB
  obtain ⟨b11, hB⟩ := and2 hB
  obtain ⟨b12, hB⟩ := and2 hB
  obtain ⟨b13, hB⟩ := and2 hB
  obtain ⟨b14, hB⟩ := and2 hB
  obtain ⟨b15, hB⟩ := and2 hB
  obtain ⟨b16, hB⟩ := and2 hB
  obtain ⟨b17, hB⟩ := and2 hB
  obtain ⟨b18, hB⟩ := and2 hB
  obtain ⟨b19, b20⟩ := and2 hB
  have cl := fun c : Cl => List.all_eq_true.mp b3 c (allCl_in c)
  have cls : ∀ c, Cls K (ca K c) := fun c => He.cls_ok (and2 (cl c)).1
  have fr := List.all_eq_true.mp b2
  have exq : ∀ (i : Nat) (e : ExX), exs[i]? = some e → fnT K (e.at_ K) = e.val := fun i e he => by
    have h1 : (exs.map fun e => fnT K (e.at_ K))[i]? = (exs.map ExX.val)[i]? := by rw [hx]
    rw [List.getElem?_map, List.getElem?_map, he] at h1
    exact Option.some.inj h1
  have sup : PySem.W.nsIn K mainGlobals "super" = some none := He.eqO_ok (fr "super" (by decide +kernel))
  have sta : PySem.W.nsIn K cStatics "thirdparty.any" = some none := He.eqO_ok b11
  have exB := fun e he => List.all_eq_true.mp b10 e he
  have x15 := List.all_eq_true.mp b15
  have x16 := List.all_eq_true.mp b16
  refine ⟨kb, hd, b20, fun x hx => He.glo_ok kh G (List.all_eq_true.mp b1 x hx), fun x hx => He.free_ok kh G (fr x hx), cls, fun p hp => He.noat_ok (List.all_eq_true.mp b4 p hp), fun p hp => He.meth_ok (List.all_eq_true.mp b5 p hp), b6, fun c => He.mkr_ok (and2 (and2 (cl c)).2).1, fun p hp => prpB_ok (List.all_eq_true.mp b7 p hp),
    fun c => isiB_ok (cls c) (and2 (and2 (cl c)).2).2, of_decide_eq_true b8, nebB_ok b9, ?_, b12, b13, fun p hp => ⟨xfB_ok (and2 (List.all_eq_true.mp b14 p hp)).1, of_decide_eq_true (and2 (List.all_eq_true.mp b14 p hp)).2⟩, fun c hc => xiB_ok (and2 (x15 c hc)).1,
    fun c hc c2 hc2 => of_decide_eq_true (List.all_eq_true.mp (and2 (x15 c hc)).2 c2 hc2), fun c hc => of_decide_eq_true (and2 (x16 c hc)).1, tupE_ok b17, tupS_ok (ws := ["change", "label", "till"]) b18, tupS_ok (ws := ["label", "till"]) b19, fun c hc => of_decide_eq_true (and2 (x16 c hc)).2⟩
  intro p hp
  simp only [xcs, List.mem_cons, List.not_mem_nil, or_false] at hp
  rcases hp with rfl | rfl | rfl | rfl | rfl
  · exact ⟨_, _, _, _, _, _, _, _, _, _, xc_gen (e := ⟨"NotLater", "index", "NotLater.__init__", 4⟩) (exq 0 _ rfl) (exB _ (by simp [exs])) sta sup rfl rfl rfl rfl rfl rfl rfl rfl rfl (by decide +kernel) (fun _ _ _ _ _ _ _ _ _ => rfl) (fun _ => ⟨_, rfl⟩) (by decide +kernel) (by decide +kernel) (by decide +kernel)⟩
  · exact ⟨_, _, _, _, _, _, _, _, _, _, xc_gen (e := ⟨"NoNumber", "number", "NoNumber.__init__", 6⟩) (exq 1 _ rfl) (exB _ (by simp [exs])) sta sup rfl rfl rfl rfl rfl rfl rfl rfl rfl (by decide +kernel) (fun _ _ _ _ _ _ _ _ _ => rfl) (fun _ => ⟨_, rfl⟩) (by decide +kernel) (by decide +kernel) (by decide +kernel)⟩
  · exact ⟨_, _, _, _, _, _, _, _, _, _, xc_gen (e := ⟨"Passed", "moment", "Passed.__init__", 9⟩) (exq 2 _ rfl) (exB _ (by simp [exs])) sta sup rfl rfl rfl rfl rfl rfl rfl rfl rfl (by decide +kernel) (fun _ _ _ _ _ _ _ _ _ => rfl) (fun _ => ⟨_, rfl⟩) (by decide +kernel) (by decide +kernel) (by decide +kernel)⟩
  · exact ⟨_, _, _, _, _, _, _, _, _, _, xc_gen (e := ⟨"Clash", "deed", "Clash.__init__", 10⟩) (exq 3 _ rfl) (exB _ (by simp [exs])) sta sup rfl rfl rfl rfl rfl rfl rfl rfl rfl (by decide +kernel) (fun _ _ _ _ _ _ _ _ _ => rfl) (fun _ => ⟨_, rfl⟩) (by decide +kernel) (by decide +kernel) (by decide +kernel)⟩
  · exact ⟨_, _, _, _, _, _, _, _, _, _, xc_gen (e := ⟨"NoText", "index", "NoText.__init__", 12⟩) (exq 4 _ rfl) (exB _ (by simp [exs])) sta sup rfl rfl rfl rfl rfl rfl rfl rfl rfl (by decide +kernel) (fun _ _ _ _ _ _ _ _ _ => rfl) (fun _ => ⟨_, rfl⟩) (by decide +kernel) (by decide +kernel) (by decide +kernel)⟩
end
end K97
/-! # the end: the law's own call -/
namespace K97
open PySem PySem.Spec PyProof.Rows L2
open K97Hd
abbrev lob (vs : List Value) : Obj := { cls := .type "list", data := .seq vs.toArray }
/-- at most the script is tracked, frozen -/
structure Scr (K : PySem.W.Frag) (w : World) (s : Shared) (a : Addr) (vs : List Value) (ns : List Int) (H : Hp) : Prop where
  one : ∀ b u, H b = some u → b = a ∧ u = .frz (lob vs) (.lst (ns.map V.int)) ∧ K.lookup a = none
  seq : SqL K H a (ns.map V.int)
  hok : HOk PWm w H s.heap
theorem scr_run {K : PySem.W.Frag} {w : World} {mg mb : Str → Option Value} {fa a : Addr} {fd : FuncData} {x : Str} {S : SpD} {k : Nat} {s : Shared} {vs : List Value} {ns : List Int} {H : Hp} (T : Scr K w s a vs ns H)
    (k1 : K.In s.heap) (g1 : s.heap.Ns mainGlobals mg) (g2 : s.heap.Ns builtinsNs mb) (g3 : ∀ y : Str, y ≠ "__name__" → mb y = bootBuiltins y) (g4 : s.heap.NoLimit) (g5 : s.gens = #[]) (ha : s.heap.get? a = some (lob vs))
    (B : ∀ base : Heap, K.In base → FnB PWm w K mg base .cold k fa fd [x] (sp K S)) (bt : ∀ (t : Shared) (u : Value), BindsTo t fd ⟨[u], []⟩ [(x, u)]) (room : RoomB k callerA)
    (q : ∀ O, S [.scr ns] O (fun d _ => d = .bl true) fun _ _ => False) :
    codeAny (model PWm w) callerA (.call (.ref fa) ⟨[.ref a], []⟩) (fun z t => z = .ok (.ret (.bool true)) ∧ OldK s.heap t.heap ∧ t.os = s.os ∧ AllBare t.gens) s := by
  -- what is no list is not tracked
  have free : ∀ {b : Addr} {o : Obj}, s.heap.get? b = some o → (∀ (us : Array Value) (n : _), o.data ≠ .seq us n) → H b = none := fun {b o} e nd => by
    cases hb : H b with
    | none => rfl
    | some u =>
      obtain ⟨rfl, _, _⟩ := T.one b u hb
      rw [ha] at e
      cases e
      exact absurd rfl (nd _ _)
  have ns' : ∀ {b : Addr} {m : Str → Option Value}, s.heap.Ns b m → (hidT s.heap H).Ns b m := fun {b m} ⟨o, es, ep, e, d, r⟩ => ⟨o, es, ep, hidT_get e (free e fun us n z => by rw [d] at z; cases z), d, r⟩
  have kin : K.In (hidT s.heap H) := fun b o e => hidT_get (k1 b o e) (by
    cases hb : H b with
    | none => rfl
    | some u =>
      obtain ⟨rfl, _, z⟩ := T.one b u hb
      rw [z] at e; cases e)
  obtain ⟨mc, c1, c2⟩ := g4
  have env : Env0 PWm w K mg (hidT s.heap H) callerA [] s H := by
    refine ⟨rfl, ⟨kin, ns' g1, ⟨mb, ns' g2, g3⟩, ⟨mc, ns' c1, c2⟩⟩, fun b o e => of_hidT e, ?_, trivial, nofun, T.hok, .of_eq g5⟩
    rw [hidT_size]; exact Nat.le_refl _
  have spq : sp K S [.ref a] H (fun v _ => v = .bl true) fun _ _ _ => False := by
    refine ⟨H, fun _ => none, [.scr ns], fun d _ => d = .bl true, fun _ _ => False, ⟨Le.refl H, Le.refl H, nofun⟩, .cons (rep_scr.mpr ⟨a, rfl, T.seq⟩) .nil, q _, ?_, ?_⟩
    · rintro d O' F' H' v rfl rp _
      exact rep_bl.mp rp
    · rintro cls dx H' ⟨_, _, _, z, _⟩
      exact z.elim
  refine codeAny_mono ((B _ kin).run callerA [] s H ⟨[.ref a], []⟩ [.ref a] [.ref a] _ _ room rfl env (bt s (.ref a)) (.cons rfl .nil) spq) fun z t hz => ?_
  match z, hz with
  | .error e, hz =>
    obtain ⟨_, _, _, _, _, _, _, _, _, _, _, _, no⟩ := hz
    exact no.elim
  | .ok .next, hz => exact hz.elim
  | .ok .brk, hz => exact hz.elim
  | .ok .cont, hz => exact hz.elim
  | .ok (.ret u), hz =>
    obtain ⟨v, H', eo, ab, un, ok', rv, qv⟩ := hz
    have qv : v = .bl true := qv
    subst qv
    have eu : u = Value.bool true := rv
    subst eu
    refine ⟨rfl, OldK.of_keep fun b o e => ?_, eo, ab⟩
    cases hb : H b with
    | none => exact un.keep b o e hb nofun nofun
    | some y =>
      obtain ⟨rfl, rfl, _⟩ := T.one b y hb
      have e2 := (ok' b _ (un.frzs b _ _ hb)).1
      rw [ha] at e
      cases e
      exact e2
/-- the law keeps its contract over every base -/
theorem law_fn {K : PySem.W.Frag} {w : World} {mg : Str → Option Value} {h : Heap} {fa : Addr} (kh : K.In h) (G : h.Ns mainGlobals mg) (c : obsW K = valW) (hfa : mg ("law" : Str) = some (.ref fa)) :
    ∃ fd : FuncData, (∀ (t : Shared) (u : Value), BindsTo t fd ⟨[u], []⟩ [("_law_script", u)]) ∧ ∀ base : Heap, K.In base → FnB PWm w K mg base .cold 21 fa fd ["_law_script"] (sp K S_law) := by
  have c1 : wdB K = true := congrArg (fun z : AlW => z.1) c
  have c2 : fn.map (fun d => fnAt K (d.pa.ad K)) = fn.map DefX.val := congrArg (fun z : AlW => z.2.1) c
  have c3 : exs.map (fun e => fnT K (e.at_ K)) = exs.map ExX.val := congrArg (fun z : AlW => z.2.2) c
  have W := fun (base : Heap) (kb : K.In base) => wd_of (w := w) kh kb G c1 c2 c3
  obtain ⟨fd, F⟩ := (W h kh).def_ 93 (d := d_law) rfl
  have e : d_law.dvs K = [] := rfl
  have eq := hfa.symm.trans ((W h kh).glo "law" (by decide +kernel))
  cases eq
  have F0 := F
  rw [e] at F0
  have b := FunD.bindsA (ps := ["_law_script"]) F0 fun _ _ _ _ _ _ us hl => match us, hl with | [_], _ => rfl
  exact ⟨fd, fun t u => b t [u] rfl, fun base kb => fn_d F sc_law (fun ds O Q QE h => S_law_len h) (b_law (W base kb))⟩
theorem law_any {K : PySem.W.Frag} {w : World} {mg mb : Str → Option Value} {fa a : Addr} {s : Shared} {vs : List Value} {ns : List Int} (c : obsW K = valW)
    (k1 : K.In s.heap) (g1 : s.heap.Ns mainGlobals mg) (g2 : s.heap.Ns builtinsNs mb) (g3 : ∀ y : Str, y ≠ "__name__" → mb y = bootBuiltins y) (g4 : s.heap.NoLimit) (g5 : s.gens = #[]) (ha : s.heap.get? a = some (lob vs)) (hi : IntsAre vs ns) (hl : ns.length ≤ sizeLine) (hfa : mg ("law" : Str) = some (.ref fa)) :
    codeAny (model PWm w) callerA (.call (.ref fa) ⟨[.ref a], []⟩) (fun z t => z = .ok (.ret (.bool true)) ∧ OldK s.heap t.heap ∧ t.os = s.os ∧ AllBare t.gens) s := by
  obtain ⟨fd, bt, B⟩ := law_fn (w := w) k1 g1 c hfa
  have rv := L2.vals_ints hi
  have room : RoomB 21 callerA := ⟨by decide, by decide, rfl⟩
  have go := fun (H : Hp) (T : Scr K w s a vs ns H) => scr_run T k1 g1 g2 g3 g4 g5 ha B bt room fun O => ⟨ns, rfl, fun _ => rfl⟩
  cases q : K.lookup a with
  | some o =>
    have e := k1 a o q
    rw [ha] at e
    cases e
    exact go (fun _ => none) ⟨nofun, .inr ⟨_, vs.toArray, _, q, rfl, rfl, rfl, by rw [List.size_toArray, hi.length]; exact hl, by simpa using rv⟩, nofun⟩
  | none =>
    refine go (fun b => if b = a then some (.frz (lob vs) (.lst (ns.map V.int))) else none) ⟨fun b u h => ?_, .inl (.inr ⟨lob vs, if_pos rfl⟩), fun b u h => ?_⟩
    · have h : (if b = a then some (HO.frz (lob vs) (.lst (ns.map V.int))) else none) = some u := h
      by_cases e : b = a
      · rw [if_pos e] at h; cases h; exact ⟨e, rfl, q⟩
      · rw [if_neg e] at h; cases h
    · have h : (if b = a then some (HO.frz (lob vs) (.lst (ns.map V.int))) else none) = some u := h
      by_cases e : b = a
      · subst e
        rw [if_pos rfl] at h; cases h
        exact ⟨ha, by rw [List.length_map]; exact hl, vs, _, rv, ha⟩
      · rw [if_neg e] at h; cases h
end K97
open PySem PySem.W PySem.Calls PyProof.Rows
theorem PySem.Challenge.cw_labeltill_k97_whole_desk_and_shop_holds : PySem.Challenge.rw_labeltill_k97_whole_desk_and_shop.Holds := by
  refine K97Hd.holds_of ?_
  refine Att.attach_call (l := PySem.Challenge.rw_labeltill_k97_whole_desk_and_shop) (n := 63) rfl K97Hd.no_dfl fun w s₀ s₁ mg mb fa o pm cd doc a vs ns G Y ho hd hcd hmg hobj hints hlen hg => ?_
  obtain ⟨K, KX, c⟩ := Y
  have hmg2 : mg ("law" : PySem.Str) = some (.ref fa) := by
    rw [← K97Hd.law_name]
    exact hmg
  exact K97.law_any c KX G.T.g G.T.b G.T.builtins G.T.nolimit hg hobj hints (Nat.le_trans hlen (by decide)) hmg2
