import PyProof.Rows.All
import Wide.All
import OpenK.AllK
import Wide.FinOn
import KE.KStateDown
import HandS.ForMost
import HandS.ForExc
import HandS.Evl
import HandS.Flow
import HandS.TryMany
import HandS.IsInst
import HandS.HeadHook1
import HandS.HeadHook2
import HandS.HeadHook4
import HandS.HeadEnd
import KE.DataEq
import HandS.TupAny
import HandS.Text
import HandS.Style
import HandS.SortInts
import HandS.Iter
import HandS.Conv
import HandS.Zip
import HandS.More
import HandS.Lambda
import HandS.TupLe
import HandS.SetFor
import HandS.Strs
import KE.SortData
import HandS.Small
import HandS.DictTup
import HandS.ListItems
import KE.KIndexOf
import KE.GoesEnum
import HandS.Comp
import HandS.ExcIs
import HandS.ReplaceLit
import PyProof.MeetsStr3
import PySem.Challenge.RW_heldturns_k24_settings_written
import HandS.HeadHook3
import HandS.Head2
set_option Elab.async false
set_option linter.all false
set_option maxRecDepth 100000
set_option maxHeartbeats 1000000
namespace Pc
open PySem L2
open Evl (Ex)

/-! ### results -/
abbrev D := PyData
abbrev En := List (Option D)
inductive P (α : Type) where
  | ok (a : α)
  | exc (c : Str)
  | stuck
def P.bind {α β : Type} (m : P α) (f : α → P β) : P β := match m with
  | .ok a => f a
  | .exc c => .exc c
  | .stuck => .stuck
def P.ofO {α : Type} : Option α → P α
  | some a => .ok a
  | none => .stuck
@[simp] theorem bind_ok {α β : Type} (a : α) (f : α → P β) : (P.ok a).bind f = f a := rfl
@[simp] theorem bind_exc {α β : Type} (c : Str) (f : α → P β) : (P.exc c : P α).bind f = .exc c := rfl
@[simp] theorem bind_stuck {α β : Type} (f : α → P β) : (P.stuck : P α).bind f = .stuck := rfl
@[simp] theorem ofO_some {α : Type} (a : α) : P.ofO (some a) = .ok a := rfl
@[simp] theorem ofO_none {α : Type} : P.ofO (none : Option α) = .stuck := rfl

/-! ### heaps that grow -/
def Gw (F H F' H' : Hp) : Prop := Ex F F' ∧ Ex F' H' ∧ Ex H H' ∧ ∀ a, H a ≠ none → F a = none → F' a = none
theorem none_of_ex {H H' : Hp} {a : Addr} (e : Ex H H') (h : H' a = none) : H a = none := Evl.fresh_back e h
theorem Gw.refl {F H : Hp} (e : Ex F H) : Gw F H F H := ⟨Ex.refl F, e, Ex.refl H, fun _ _ h => h⟩
theorem ne_none_of_ex {H H' : Hp} {a : Addr} (e : Ex H H') (h : H a ≠ none) : H' a ≠ none := fun q => h (none_of_ex e q)
theorem Gw.trans {F H F1 H1 F2 H2 : Hp} (a : Gw F H F1 H1) (b : Gw F1 H1 F2 H2) : Gw F H F2 H2 :=
  ⟨a.1.trans b.1, b.2.1, a.2.2.1.trans b.2.2.1, fun x h1 h2 => b.2.2.2 x (ne_none_of_ex a.2.2.1 h1) (a.2.2.2 x h1 h2)⟩
theorem Gw.frz {F H : Hp} {p : Addr} {o : HO} (e : Ex F H) (h : H p = none) : Gw F H (upd F p o) (upd H p o) := by
  refine ⟨Ex.new (none_of_ex e h), fun a u q => ?_, Ex.new h, fun a h1 h2 => ?_⟩
  · by_cases ha : a = p
    · subst ha; rw [upd_same] at q ⊢; exact q
    · rw [upd_ne ha] at q ⊢; exact e a u q
  · have ha : a ≠ p := fun z => h1 (z ▸ h)
    rw [upd_ne ha]; exact h2
theorem Gw.own {F H : Hp} {p : Addr} {o : HO} (e : Ex F H) (h : H p = none) : Gw F H F (upd H p o) := by
  refine ⟨Ex.refl F, e.trans (Ex.new h), Ex.new h, fun a _ h2 => h2⟩

/-! ### data -/
mutual
/-- a value that is data, in a heap; lists are tracked ones -/
inductive Dq (K : PySem.W.Frag) (H : Hp) : V → PyData → Prop
  | non : Dq K H .non .none
  | bl (b : Bool) : Dq K H (.bl b) (.bool b)
  | int (i : Int) : Dq K H (.int i) (.int i)
  | str (x : Str) : Dq K H (.str x) (.str x)
  | lst {a : Addr} {xs : List V} {ds : List PyData} : H a = some (.lst xs) → DqAll K H xs ds → Dq K H (.ref a) (.list ds)
  | tup {a : Addr} {xs : List V} {ds : List PyData} : SqT K H a xs → DqAll K H xs ds → Dq K H (.ref a) (.tuple ds)
inductive DqAll (K : PySem.W.Frag) (H : Hp) : List V → List PyData → Prop
  | nil : DqAll K H [] []
  | cons {v : V} {vs : List V} {d : PyData} {ds : List PyData} : Dq K H v d → DqAll K H vs ds → DqAll K H (v :: vs) (d :: ds)
end
mutual
theorem Dq.dp {K : PySem.W.Frag} {F : Hp} : ∀ (d : PyData) (v : V), Dq K F v d → L2.Dp K F v d
  | .none, _, h => by cases h; exact .non
  | .bool b, _, h => by cases h; exact .bl b
  | .int i, _, h => by cases h; exact .int i
  | .str x, _, h => by cases h; exact .str x
  | .list ds, _, h => by
    cases h with
    | lst s a => exact .lst (SqL.of s) (DqAll.dp ds _ a)
  | .tuple ds, _, h => by
    cases h with
    | tup s a => exact .tup s (DqAll.dp ds _ a)
  | .dict _, _, h => by cases h
theorem DqAll.dp {K : PySem.W.Frag} {F : Hp} : ∀ (ds : List PyData) (vs : List V), DqAll K F vs ds → L2.DpAll K F vs ds
  | [], _, h => by cases h; exact .nil
  | d :: ds, _, h => by
    cases h with
    | cons h1 h2 => exact .cons (Dq.dp d _ h1) (DqAll.dp ds _ h2)
end
mutual
theorem Dq.mono {K : PySem.W.Frag} {F F' : Hp} (e : Ex F F') : ∀ (d : PyData) (v : V), Dq K F v d → Dq K F' v d
  | .none, _, h => by cases h; exact .non
  | .bool b, _, h => by cases h; exact .bl b
  | .int i, _, h => by cases h; exact .int i
  | .str x, _, h => by cases h; exact .str x
  | .list ds, _, h => by
    cases h with
    | lst s a => exact .lst (e _ _ s) (DqAll.mono e ds _ a)
  | .tuple ds, _, h => by
    cases h with
    | tup s a => exact .tup (Evl.ex_t e s) (DqAll.mono e ds _ a)
  | .dict _, _, h => by cases h
theorem DqAll.mono {K : PySem.W.Frag} {F F' : Hp} (e : Ex F F') : ∀ (ds : List PyData) (vs : List V), DqAll K F vs ds → DqAll K F' vs ds
  | [], _, h => by cases h; exact .nil
  | d :: ds, _, h => by
    cases h with
    | cons h1 h2 => exact .cons (Dq.mono e d _ h1) (DqAll.mono e ds _ h2)
end
theorem Dq.mn {K : PySem.W.Frag} {F F' : Hp} {d : PyData} {v : V} (h : Dq K F v d) (e : Ex F F') : Dq K F' v d := Dq.mono e d v h
theorem DqAll.mn {K : PySem.W.Frag} {F F' : Hp} {ds : List PyData} {vs : List V} (h : DqAll K F vs ds) (e : Ex F F') : DqAll K F' vs ds := DqAll.mono e ds vs h
section
variable {K : PySem.W.Frag} {F H : Hp} {v : V} {vs ws : List V} {d : PyData} {ds es : List PyData}
theorem DqAll.len : ∀ {vs : List V} {ds : List PyData}, DqAll K F vs ds → vs.length = ds.length
  | _, _, .nil => rfl
  | _, _, .cons _ h => congrArg (· + 1) h.len
theorem DqAll.app : ∀ {vs : List V} {ds : List PyData}, DqAll K F vs ds → DqAll K F ws es → DqAll K F (vs ++ ws) (ds ++ es)
  | _, _, .nil, h => h
  | _, _, .cons a t, h => .cons a (t.app h)
theorem DqAll.one (h : Dq K F v d) : DqAll K F [v] [d] := .cons h .nil
theorem DqAll.get : ∀ {vs : List V} {ds : List PyData} {i : Nat} {v : V}, DqAll K F vs ds → vs[i]? = some v → ∃ d, ds[i]? = some d ∧ Dq K F v d
  | _, _, _, _, .nil, e => by simp at e
  | _, _, 0, _, .cons a _, e => by simp at e; subst e; exact ⟨_, rfl, a⟩
  | _, _, i + 1, v, .cons _ t, e => by
    obtain ⟨d, h1, h2⟩ := DqAll.get (i := i) (v := v) t (by simpa using e)
    exact ⟨d, by simpa using h1, h2⟩
theorem DqAll.get2 : ∀ {vs : List V} {ds : List PyData} {i : Nat} {d : PyData}, DqAll K F vs ds → ds[i]? = some d → ∃ v, vs[i]? = some v ∧ Dq K F v d
  | _, _, _, _, .nil, e => by simp at e
  | _, _, 0, _, .cons a _, e => by simp at e; subst e; exact ⟨_, rfl, a⟩
  | _, _, i + 1, d, .cons _ t, e => by
    obtain ⟨d, h1, h2⟩ := DqAll.get2 (i := i) (d := d) t (by simpa using e)
    exact ⟨d, by simpa using h1, h2⟩
theorem DqAll.drop : ∀ {vs : List V} {ds : List PyData} (n : Nat), DqAll K F vs ds → DqAll K F (vs.drop n) (ds.drop n)
  | _, _, 0, h => h
  | _, _, _ + 1, .nil => .nil
  | _, _, n + 1, .cons _ t => DqAll.drop n t
theorem DqAll.take : ∀ {vs : List V} {ds : List PyData} (n : Nat), DqAll K F vs ds → DqAll K F (vs.take n) (ds.take n)
  | _, _, 0, _ => .nil
  | _, _, _ + 1, .nil => .nil
  | _, _, n + 1, .cons a t => .cons a (DqAll.take n t)
theorem DqAll.rev : ∀ {vs : List V} {ds : List PyData}, DqAll K F vs ds → DqAll K F vs.reverse ds.reverse
  | _, _, .nil => .nil
  | _, _, .cons a t => by rw [List.reverse_cons, List.reverse_cons]; exact (t.rev).app (.one a)
theorem DqAll.setp : ∀ {vs : List V} {ds : List PyData} (n : Nat), DqAll K F vs ds → Dq K F v d → DqAll K F (vs.set n v) (ds.set n d)
  | _, _, _, .nil, _ => .nil
  | _, _, 0, .cons _ t, h => .cons h t
  | _, _, n + 1, .cons a t, h => .cons a (DqAll.setp n t h)
theorem DqAll.erase : ∀ {vs : List V} {ds : List PyData} (n : Nat), DqAll K F vs ds → DqAll K F (vs.eraseIdx n) (ds.eraseIdx n)
  | _, _, _, .nil => .nil
  | _, _, 0, .cons _ t => t
  | _, _, n + 1, .cons a t => .cons a (DqAll.erase n t)
theorem DqAll.rep {vs : List V} {ds : List PyData} (h : DqAll K F vs ds) : ∀ n : Nat, DqAll K F (List.replicate n vs).flatten (List.replicate n ds).flatten
  | 0 => .nil
  | n + 1 => by
    rw [List.replicate_succ, List.replicate_succ, List.flatten_cons, List.flatten_cons]
    exact h.app (DqAll.rep h n)
end
/-- a dict's pairs: keys ints and texts -/
def keyD : Key → PyData
  | .inl i => .int i
  | .inr x => .str x
inductive KDp (K : PySem.W.Frag) (F : Hp) : List (Key × V) → List (PyData × PyData) → Prop
  | nil : KDp K F [] []
  | cons {k : Key} {v : V} {d : PyData} {kvs : List (Key × V)} {kds : List (PyData × PyData)} : Dq K F v d → KDp K F kvs kds → KDp K F ((k, v) :: kvs) ((keyD k, d) :: kds)
theorem KDp.mn {K : PySem.W.Frag} {F F' : Hp} {kvs : List (Key × V)} {kds : List (PyData × PyData)} (h : KDp K F kvs kds) (e : Ex F F') : KDp K F' kvs kds := by
  induction h with
  | nil => exact .nil
  | cons a _ ih => exact .cons (a.mn e) ih

/-- what may be looked at: data, or a list | a dict of one's own with data in it -/
def Vw (K : PySem.W.Frag) (F H : Hp) (v : V) (d : PyData) : Prop :=
  Dq K F v d ∨ (∃ a vs ds, v = .ref a ∧ d = .list ds ∧ H a = some (.lst vs) ∧ DqAll K F vs ds) ∨ ∃ a kvs kds, v = .ref a ∧ d = .dict kds ∧ H a = some (.dK kvs) ∧ KDp K F kvs kds
section
variable {K : PySem.W.Frag} {F H F' H' : Hp} {v : V} {d : PyData}
theorem Vw.gw (h : Vw K F H v d) (g : Gw F H F' H') : Vw K F' H' v d := by
  rcases h with h | ⟨a, vs, ds, e1, e2, h1, h2⟩ | ⟨a, vs, ds, e1, e2, h1, h2⟩
  · exact .inl (h.mn g.1)
  · exact .inr (.inl ⟨a, vs, ds, e1, e2, g.2.2.1 a _ h1, h2.mn g.1⟩)
  · exact .inr (.inr ⟨a, vs, ds, e1, e2, g.2.2.1 a _ h1, h2.mn g.1⟩)
theorem Vw.non (h : Vw K F H v .none) : v = .non := by
  rcases h with h | ⟨_, _, _, _, e, _⟩ | ⟨_, _, _, _, e, _⟩
  · cases h; rfl
  · cases e
  · cases e
theorem Vw.bl {b : Bool} (h : Vw K F H v (.bool b)) : v = .bl b := by
  rcases h with h | ⟨_, _, _, _, e, _⟩ | ⟨_, _, _, _, e, _⟩
  · cases h; rfl
  · cases e
  · cases e
theorem Vw.int {i : Int} (h : Vw K F H v (.int i)) : v = .int i := by
  rcases h with h | ⟨_, _, _, _, e, _⟩ | ⟨_, _, _, _, e, _⟩
  · cases h; rfl
  · cases e
  · cases e
theorem Vw.str {x : Str} (h : Vw K F H v (.str x)) : v = .str x := by
  rcases h with h | ⟨_, _, _, _, e, _⟩ | ⟨_, _, _, _, e, _⟩
  · cases h; rfl
  · cases e
  · cases e
theorem Vw.lst {ds : List PyData} (e : Ex F H) (h : Vw K F H v (.list ds)) : ∃ a vs, v = .ref a ∧ H a = some (.lst vs) ∧ DqAll K F vs ds := by
  rcases h with h | ⟨a, vs, ds', e1, e2, h1, h2⟩ | ⟨_, _, _, _, e2, _⟩
  · cases h with
    | lst s q => exact ⟨_, _, rfl, e _ _ s, q⟩
  · cases e2; exact ⟨a, vs, e1, h1, h2⟩
  · cases e2
theorem Vw.tup {ds : List PyData} (e : Ex F H) (h : Vw K F H v (.tuple ds)) : ∃ a vs, v = .ref a ∧ SqT K H a vs ∧ SqT K F a vs ∧ DqAll K F vs ds := by
  rcases h with h | ⟨_, _, _, _, e2, _⟩ | ⟨_, _, _, _, e2, _⟩
  · cases h with
    | tup s q => exact ⟨_, _, rfl, Evl.ex_t e s, s, q⟩
  · cases e2
  · cases e2
theorem Vw.dct {kds : List (PyData × PyData)} (h : Vw K F H v (.dict kds)) : ∃ a kvs, v = .ref a ∧ H a = some (.dK kvs) ∧ KDp K F kvs kds := by
  rcases h with h | ⟨_, _, _, _, e2, _⟩ | ⟨a, vs, ds', e1, e2, h1, h2⟩
  · cases h
  · cases e2
  · cases e2; exact ⟨a, vs, e1, h1, h2⟩
/-- no dict within: it is data in H -/
def isDict : PyData → Bool
  | .dict _ => true
  | _ => false
theorem Vw.dp (e : Ex F H) (h : Vw K F H v d) (hd : isDict d = false) : Dq K H v d := by
  rcases h with h | ⟨a, vs, ds', e1, e2, h1, h2⟩ | ⟨_, _, _, _, e2, _⟩
  · exact h.mn e
  · subst e1 e2; exact .lst h1 (h2.mn e)
  · subst e2; cases hd
end

/-! ### shapes of one's own things -/
inductive Sh where
  | dat
  | scr
  | lst (s : Sh)
  | dct (s : Sh)
  | rcd (f : Str → Sh)
  | obj (C : Str) (f : Str → Sh)
  | fix (u : V) (s : Sh)
  | is (u : V) (d : D)
  | tup (f : Nat → Sh)
inductive OwnL (R : V → D → List Addr → Prop) : List V → List D → List Addr → Prop
  | nil : OwnL R [] [] []
  | cons {v : V} {d : D} {fp : List Addr} {vs : List V} {ds : List D} {fq : List Addr} : R v d fp → OwnL R vs ds fq → OwnL R (v :: vs) (d :: ds) (fp ++ fq)
inductive OwnK (R : V → D → List Addr → Prop) : List (Key × V) → List (D × D) → List Addr → Prop
  | nil : OwnK R [] [] []
  | cons {k : Key} {v : V} {d : D} {fp : List Addr} {vs : List (Key × V)} {ds : List (D × D)} {fq : List Addr} : R v d fp → OwnK R vs ds fq → OwnK R ((k, v) :: vs) ((keyD k, d) :: ds) (fp ++ fq)
inductive OwnF (R : Str → V → D → List Addr → Prop) : List (Str × V) → List (D × D) → List Addr → Prop
  | nil : OwnF R [] [] []
  | cons {k : Str} {v : V} {d : D} {fp : List Addr} {vs : List (Str × V)} {ds : List (D × D)} {fq : List Addr} : R k v d fp → OwnF R vs ds fq → OwnF R ((k, v) :: vs) ((.str k, d) :: ds) (fp ++ fq)
inductive OwnI (R : Nat → V → D → List Addr → Prop) : Nat → List V → List D → List Addr → Prop
  | nil {i : Nat} : OwnI R i [] [] []
  | cons {i : Nat} {v : V} {d : D} {fp : List Addr} {vs : List V} {ds : List D} {fq : List Addr} : R i v d fp → OwnI R (i + 1) vs ds fq → OwnI R i (v :: vs) (d :: ds) (fp ++ fq)
def Own (K : PySem.W.Frag) (F H : Hp) : Sh → V → D → List Addr → Prop
  | .dat => fun v d fp => Dq K F v d ∧ fp = []
  | .scr => fun v d fp => (∃ a vs ds, v = .ref a ∧ d = .list ds ∧ SqL K F a vs ∧ DqAll K F vs ds) ∧ fp = []
  | .lst s => fun v d fp => ∃ a vs ds fq, v = .ref a ∧ d = .list ds ∧ H a = some (.lst vs) ∧ OwnL (Own K F H s) vs ds fq ∧ fp = a :: fq
  | .dct s => fun v d fp => ∃ a kvs kds fq, v = .ref a ∧ d = .dict kds ∧ H a = some (.dK kvs) ∧ OwnK (Own K F H s) kvs kds fq ∧ fp = a :: fq
  | .rcd f => fun v d fp => ∃ a fvs kds fq, v = .ref a ∧ d = .dict kds ∧ H a = some (.dK (fvs.map fun q => (Sum.inr q.1, q.2))) ∧ OwnF (fun k => Own K F H (f k)) fvs kds fq ∧ fp = a :: fq
  | .obj C f => fun v d fp => ∃ a dx fvs kds fq, v = .ref a ∧ d = .dict kds ∧ H a = some (.ins (He.ga K C) dx fvs) ∧ H dx = some (.own a) ∧ OwnF (fun k => Own K F H (f k)) fvs kds fq ∧ fp = a :: dx :: fq
  | .fix u s => fun v d fp => v = u ∧ Own K F H s v d fp
  | .is u c => fun v d fp => v = u ∧ d = c ∧ fp = []
  | .tup f => fun v d fp => ∃ a vs ds, v = .ref a ∧ d = .tuple ds ∧ SqT K F a vs ∧ OwnI (fun i => Own K F H (f i)) 0 vs ds fp
section
variable {K : PySem.W.Frag} {F H F' H' : Hp}
theorem OwnL.imp {R R' : V → D → List Addr → Prop} {vs : List V} {ds : List D} {fq A : List Addr} (h : OwnL R vs ds fq) (sub : ∀ a ∈ fq, a ∈ A) (r : ∀ v d fp, (∀ a ∈ fp, a ∈ A) → R v d fp → R' v d fp) : OwnL R' vs ds fq := by
  induction h with
  | nil => exact .nil
  | cons a _ ih => exact .cons (r _ _ _ (fun x hx => sub x (List.mem_append_left _ hx)) a) (ih fun x hx => sub x (List.mem_append_right _ hx))
theorem OwnK.imp {R R' : V → D → List Addr → Prop} {vs : List (Key × V)} {ds : List (D × D)} {fq A : List Addr} (h : OwnK R vs ds fq) (sub : ∀ a ∈ fq, a ∈ A) (r : ∀ v d fp, (∀ a ∈ fp, a ∈ A) → R v d fp → R' v d fp) : OwnK R' vs ds fq := by
  induction h with
  | nil => exact .nil
  | cons a _ ih => exact .cons (r _ _ _ (fun x hx => sub x (List.mem_append_left _ hx)) a) (ih fun x hx => sub x (List.mem_append_right _ hx))
theorem OwnF.imp {R R' : Str → V → D → List Addr → Prop} {vs : List (Str × V)} {ds : List (D × D)} {fq A : List Addr} (h : OwnF R vs ds fq) (sub : ∀ a ∈ fq, a ∈ A) (r : ∀ k v d fp, (∀ a ∈ fp, a ∈ A) → R k v d fp → R' k v d fp) : OwnF R' vs ds fq := by
  induction h with
  | nil => exact .nil
  | cons a _ ih => exact .cons (r _ _ _ _ (fun x hx => sub x (List.mem_append_left _ hx)) a) (ih fun x hx => sub x (List.mem_append_right _ hx))
theorem OwnI.imp {R R' : Nat → V → D → List Addr → Prop} {i : Nat} {vs : List V} {ds : List D} {fq A : List Addr} (h : OwnI R i vs ds fq) (sub : ∀ a ∈ fq, a ∈ A) (r : ∀ k v d fp, (∀ a ∈ fp, a ∈ A) → R k v d fp → R' k v d fp) : OwnI R' i vs ds fq := by
  induction h with
  | nil => exact .nil
  | cons a _ ih => exact .cons (r _ _ _ _ (fun x hx => sub x (List.mem_append_left _ hx)) a) (ih fun x hx => sub x (List.mem_append_right _ hx))
/-- one's own thing leans on the frozen part and on its own addresses alone -/
theorem Own.stay : ∀ (s : Sh) (v : V) (d : D) (fp : List Addr), Ex F F' → (∀ a ∈ fp, H' a = H a) → Own K F H s v d fp → Own K F' H' s v d fp
  | .dat, v, d, fp, e, _, h => ⟨h.1.mn e, h.2⟩
  | .scr, v, d, fp, e, _, h => by
    obtain ⟨⟨a, vs, ds, e1, e2, h1, h2⟩, h3⟩ := h
    exact ⟨⟨a, vs, ds, e1, e2, Evl.ex_l e h1, h2.mn e⟩, h3⟩
  | .lst s, v, d, fp, e, k, h => by
    obtain ⟨a, vs, ds, fq, e1, e2, h1, h2, e3⟩ := h
    subst e3
    exact ⟨a, vs, ds, fq, e1, e2, (k a List.mem_cons_self).trans h1, h2.imp (A := fq) (fun _ q => q) (fun v d fp hs r => Own.stay s v d fp e (fun b hb => k b (List.mem_cons_of_mem _ (hs b hb))) r), rfl⟩
  | .dct s, v, d, fp, e, k, h => by
    obtain ⟨a, vs, ds, fq, e1, e2, h1, h2, e3⟩ := h
    subst e3
    exact ⟨a, vs, ds, fq, e1, e2, (k a List.mem_cons_self).trans h1, h2.imp (A := fq) (fun _ q => q) (fun v d fp hs r => Own.stay s v d fp e (fun b hb => k b (List.mem_cons_of_mem _ (hs b hb))) r), rfl⟩
  | .rcd f, v, d, fp, e, k, h => by
    obtain ⟨a, vs, ds, fq, e1, e2, h1, h2, e3⟩ := h
    subst e3
    exact ⟨a, vs, ds, fq, e1, e2, (k a List.mem_cons_self).trans h1, h2.imp (A := fq) (fun _ q => q) (fun n v d fp hs r => Own.stay (f n) v d fp e (fun b hb => k b (List.mem_cons_of_mem _ (hs b hb))) r), rfl⟩
  | .obj C f, v, d, fp, e, k, h => by
    obtain ⟨a, dx, vs, ds, fq, e1, e2, h1, h0, h2, e3⟩ := h
    subst e3
    exact ⟨a, dx, vs, ds, fq, e1, e2, (k a List.mem_cons_self).trans h1, (k dx (List.mem_cons_of_mem _ List.mem_cons_self)).trans h0, h2.imp (A := fq) (fun _ q => q) (fun n v d fp hs r => Own.stay (f n) v d fp e (fun b hb => k b (List.mem_cons_of_mem _ (List.mem_cons_of_mem _ (hs b hb)))) r), rfl⟩
  | .fix u s, v, d, fp, e, k, h => ⟨h.1, Own.stay s v d fp e k h.2⟩
  | .is u c, v, d, fp, e, k, h => h
  | .tup f, v, d, fp, e, k, h => by
    obtain ⟨a, vs, ds, e1, e2, h1, h2⟩ := h
    exact ⟨a, vs, ds, e1, e2, Evl.ex_t e h1, h2.imp (A := fp) (fun _ q => q) (fun n v d fp hs r => Own.stay (f n) v d fp e (fun b hb => k b (hs b hb)) r)⟩
end

/-! ### the names' values -/
structure EnvOk (K : PySem.W.Frag) (Δ : Nat → Sh) (F0 B F H : Hp) (σ : St) (ρ : En) : Prop where
  len : σ.length = ρ.length
  e0 : Ex F0 F
  eF : Ex F H
  eB : Ex B H
  lim : ∀ a, F0 a = none → B a ≠ none → F a = none
  own : ∃ φ : Nat → List Addr, (∀ i d, ρ[i]? = some (some d) → ∃ v, σ[i]? = some (some v) ∧ Own K F H (Δ i) v d (φ i)) ∧ (∀ i, (φ i).Nodup) ∧ (∀ i j a, a ∈ φ i → a ∈ φ j → i = j) ∧ ∀ i a, a ∈ φ i → F a = none ∧ B a = none ∧ H a ≠ none
section
variable {K : PySem.W.Frag} {Δ : Nat → Sh} {F0 B F H F' H' : Hp} {σ : St} {ρ : En}
theorem ex_eq {H H' : Hp} {a : Addr} (e : Ex H H') (h : H a ≠ none) : H' a = H a := by
  cases q : H a with
  | none => exact absurd q h
  | some o => exact e a o q
theorem EnvOk.gw (E : EnvOk K Δ F0 B F H σ ρ) (g : Gw F H F' H') : EnvOk K Δ F0 B F' H' σ ρ := by
  obtain ⟨len, e0, eF, eB, lim, φ, h1, h2, h3, h4⟩ := E
  refine ⟨len, e0.trans g.1, g.2.1, eB.trans g.2.2.1, fun a q1 q2 => g.2.2.2 a (ne_none_of_ex eB q2) (lim a q1 q2), φ, fun i d hd => ?_, h2, h3, fun i a ha => ?_⟩
  · obtain ⟨v, e, o⟩ := h1 i d hd
    exact ⟨v, e, Own.stay _ v d _ g.1 (fun a ha => ex_eq g.2.2.1 (h4 i a ha).2.2) o⟩
  · obtain ⟨q1, q2, q3⟩ := h4 i a ha
    exact ⟨g.2.2.2 a q3 q1, q2, ne_none_of_ex g.2.2.1 q3⟩
/-- a slot that holds data -/
theorem EnvOk.dat (E : EnvOk K Δ F0 B F H σ ρ) {i : Nat} {d : D} (hd : Δ i = .dat) (h : ρ[i]? = some (some d)) : ∃ v, σ[i]? = some (some v) ∧ Dq K F v d := by
  obtain ⟨φ, h1, _⟩ := E.own
  obtain ⟨v, e, o⟩ := h1 i d h
  rw [hd] at o
  exact ⟨v, e, o.1⟩
/-- a slot set to data -/
theorem EnvOk.setDat (E : EnvOk K Δ F0 B F H σ ρ) {i : Nat} {v : V} {d : D} (hd : Δ i = .dat) (h : Dq K F v d) : EnvOk K Δ F0 B F H (σ.set i (some v)) (ρ.set i (some d)) := by
  obtain ⟨len, e0, eF, eB, lim, φ, h1, h2, h3, h4⟩ := E
  refine ⟨by rw [List.length_set, List.length_set, len], e0, eF, eB, lim, fun j => if j = i then [] else φ j, fun j d' hj => ?_, fun j => ?_, fun j k a hj hk => ?_, fun j a hj => ?_⟩
  · by_cases hji : j = i
    · subst hji
      have hl : j < ρ.length := by
        have := (List.getElem?_eq_some_iff.mp hj).1
        rwa [List.length_set] at this
      rw [List.getElem?_set_self hl] at hj
      cases hj
      refine ⟨v, by rw [List.getElem?_set_self (by omega)], ?_⟩
      rw [hd]
      exact ⟨h, if_pos rfl⟩
    · rw [List.getElem?_set_ne (Ne.symm hji)] at hj
      obtain ⟨u, e, o⟩ := h1 j d' hj
      refine ⟨u, by rw [List.getElem?_set_ne (Ne.symm hji)]; exact e, ?_⟩
      simp only [if_neg hji]
      exact o
  · show (if j = i then [] else φ j).Nodup
    split
    · exact List.nodup_nil
    · exact h2 j
  · have hj' : a ∈ (if j = i then [] else φ j) := hj
    have hk' : a ∈ (if k = i then [] else φ k) := hk
    split at hj'
    · cases hj'
    · split at hk'
      · cases hk'
      · exact h3 j k a hj' hk'
  · have hj' : a ∈ (if j = i then [] else φ j) := hj
    split at hj'
    · cases hj'
    · exact h4 j a hj'
/-- forget a slot -/
theorem EnvOk.drop (E : EnvOk K Δ F0 B F H σ ρ) (i : Nat) (o : Option V) : EnvOk K Δ F0 B F H (σ.set i o) (ρ.set i none) := by
  obtain ⟨len, e0, eF, eB, lim, φ, h1, h2, h3, h4⟩ := E
  refine ⟨by rw [List.length_set, List.length_set, len], e0, eF, eB, lim, φ, fun j d' hj => ?_, h2, h3, h4⟩
  by_cases hji : j = i
  · subst hji
    have hl : j < ρ.length := by
      have := (List.getElem?_eq_some_iff.mp hj).1
      rwa [List.length_set] at this
    rw [List.getElem?_set_self hl] at hj
    cases hj
  · rw [List.getElem?_set_ne (Ne.symm hji)] at hj ⊢
    exact h1 j d' hj
end
end Pc

set_option maxRecDepth 100000
set_option maxHeartbeats 1000000
namespace Pc
open PySem L2
open Evl (Ex)

/-! ### what is promised of a value -/
structure Rs (β α : Type) where
  r : Hp → Hp → Hp → β → α → Prop
  anti : ∀ {H H1 F' H' : Hp} {v : β} {d : α}, Ex H H1 → r H1 F' H' v d → r H F' H' v d
inductive VwAll (K : PySem.W.Frag) (F H : Hp) : List V → List D → Prop
  | nil : VwAll K F H [] []
  | cons {v : V} {d : D} {vs : List V} {ds : List D} : Vw K F H v d → VwAll K F H vs ds → VwAll K F H (v :: vs) (d :: ds)
theorem VwAll.gw {K : PySem.W.Frag} {F H F' H' : Hp} {vs : List V} {ds : List D} (h : VwAll K F H vs ds) (g : Gw F H F' H') : VwAll K F' H' vs ds := by
  induction h with
  | nil => exact .nil
  | cons a _ ih => exact .cons (a.gw g) ih
theorem VwAll.of {K : PySem.W.Frag} {F H : Hp} : ∀ {vs : List V} {ds : List D}, DqAll K F vs ds → VwAll K F H vs ds
  | _, _, .nil => .nil
  | _, _, .cons a t => .cons (.inl a) (VwAll.of t)
def rVw (K : PySem.W.Frag) : Rs V D := ⟨fun _ F' H' v d => Vw K F' H' v d, fun _ h => h⟩
def rDp (K : PySem.W.Frag) : Rs V D := ⟨fun _ F' _ v d => Dq K F' v d, fun _ h => h⟩
def rNew (K : PySem.W.Frag) (s : Sh) : Rs V D := ⟨fun H F' H' v d => ∃ fp, Own K F' H' s v d fp ∧ fp.Nodup ∧ ∀ a ∈ fp, F' a = none ∧ H a = none ∧ H' a ≠ none,
  fun e ⟨fp, o, n, q⟩ => ⟨fp, o, n, fun a ha => ⟨(q a ha).1, none_of_ex e (q a ha).2.1, (q a ha).2.2⟩⟩⟩
def rBl : Rs Bool Bool := ⟨fun _ _ _ v d => v = d, fun _ h => h⟩
def rVws (K : PySem.W.Frag) : Rs (List V) (List D) := ⟨fun _ F' H' v d => VwAll K F' H' v d, fun _ h => h⟩
def rDps (K : PySem.W.Frag) : Rs (List V) (List D) := ⟨fun _ F' _ v d => DqAll K F' v d, fun _ h => h⟩
def rOp : Rs (Option Int) (Option Int) := ⟨fun _ _ _ v d => v = d, fun _ h => h⟩

def PostG {α β : Type} (K : PySem.W.Frag) (W : WX) (r : Rs β α) (σ : St) (F H : Hp) (m : P α) (Q : β → Hp → Prop) : Prop := match m with
  | .ok d => ∀ v F' H', Gw F H F' H' → r.r H F' H' v d → Q v H'
  | .exc c => ∀ F' H', Gw F H F' H' → W (.ref (He.ga K c)) none σ H'
  | .stuck => False
def tG {α β : Type} (K : PySem.W.Frag) (Δ : Nat → Sh) (W : WX) (r : Rs β α) (m : En → P α) : St → Hp → (β → Hp → Prop) → Prop := fun σ H Q => ∃ F0 B F ρ, EnvOk K Δ F0 B F H σ ρ ∧ PostG K W r σ F H (m ρ) Q
section
variable {α β α1 β1 : Type} {K : PySem.W.Frag} {W : WX} {Δ : Nat → Sh} {r : Rs β α} {r1 : Rs β1 α1} {σ : St} {ρ : En} {F0 B F H F1 H1 : Hp} {Q : β → Hp → Prop}
theorem PostG.gw {m : P α} (p : PostG K W r σ F H m Q) (g : Gw F H F1 H1) : PostG K W r σ F1 H1 m Q := by
  cases m with
  | ok d => exact fun v F' H' g' q => p v F' H' (g.trans g') (r.anti g.2.2.1 q)
  | exc c => exact fun F' H' g' => p F' H' (g.trans g')
  | stuck => exact p
theorem PostG.imp {m : P α} {Q' : β → Hp → Prop} (p : PostG K W r σ F H m Q) (i : ∀ v H', Q v H' → Q' v H') : PostG K W r σ F H m Q' := by
  cases m with
  | ok d => exact fun v F' H' g' q => i _ _ (p v F' H' g' q)
  | exc c => exact p
  | stuck => exact p
theorem seqG {m : En → P α1} {k : α1 → P α} {Q1 : β1 → Hp → Prop} (E : EnvOk K Δ F0 B F H σ ρ) (p : PostG K W r σ F H ((m ρ).bind k) Q)
    (h : ∀ d v F1 H1, Gw F H F1 H1 → r1.r H F1 H1 v d → EnvOk K Δ F0 B F1 H1 σ ρ → PostG K W r σ F1 H1 (k d) Q → Q1 v H1) : tG K Δ W r1 m σ H Q1 := by
  refine ⟨F0, B, F, ρ, E, ?_⟩
  cases e : m ρ with
  | ok d =>
    rw [e] at p
    exact fun v F1 H1 g q => h d v F1 H1 g q (E.gw g) (PostG.gw p g)
  | exc c => rw [e] at p; exact p
  | stuck => rw [e] at p; exact p
end

section
variable {X : Cx} {Δ : Nat → Sh} {W : WX} {e a b c : Expr} {pos : Pos}
theorem pe_mono {t t' : TE} (h : PE X e t) (i : ∀ σ H Q, t' σ H Q → t σ H Q) : PE X e t' := ⟨fun pins s σ H Q I q => h.run pins s σ H Q I (i σ H Q q)⟩
theorem pt_mono {t t' : TT} (h : PT X e t) (i : ∀ σ H Q, t' σ H Q → t σ H Q) : PT X e t' := ⟨fun pins s σ H Q I q => h.run pins s σ H Q I (i σ H Q q)⟩
theorem pw_mono {t t' : TT} (h : PW X e t) (i : ∀ σ H Q, t' σ H Q → t σ H Q) : PW X e t' := ⟨fun wh pins s σ H Q I q => h.run wh pins s σ H Q I (i σ H Q q)⟩
theorem pa_mono {es : List Expr} {t t' : TA} (h : PA X es t) (i : ∀ σ H Q, t' σ H Q → t σ H Q) : PA X es t' := ⟨fun p pins s σ H Q I q => h.run p pins s σ H Q I (i σ H Q q)⟩
theorem ps_mono {st : Stmt} {t t' : TS} (h : PS X st t) (i : ∀ D σ H, t' D σ H → t D σ H) : PS X st t' := ⟨fun pins s σ H D I q => h.run pins s σ H D I (i D σ H q)⟩
theorem pss_mono {st : List Stmt} {t t' : TS} (h : PSs X st t) (i : ∀ D σ H, t' D σ H → t D σ H) : PSs X st t' := ⟨fun pins s σ H D I q => h.run pins s σ H D I (i D σ H q)⟩

/-- a weaker promise -/
theorem tG_weak {α β : Type} {K : PySem.W.Frag} {r r' : Rs β α} {m : En → P α} (i : ∀ H F' H' v d, r.r H F' H' v d → r'.r H F' H' v d) (σ : St) (H : Hp) (Q : β → Hp → Prop) (h : tG K Δ W r' m σ H Q) : tG K Δ W r m σ H Q := by
  obtain ⟨F0, B, F, ρ, E, p⟩ := h
  refine ⟨F0, B, F, ρ, E, ?_⟩
  cases e : m ρ with
  | ok d => rw [e] at p; exact fun v F' H' g q => p v F' H' g (i _ _ _ _ _ q)
  | exc c => rw [e] at p; exact p
  | stuck => rw [e] at p; exact p
theorem de_view {m : En → P D} (h : PE X e (tG X.K Δ W (rDp X.K) m)) : PE X e (tG X.K Δ W (rVw X.K) m) := pe_mono h (tG_weak fun _ _ _ _ _ q => Or.inl q)

/-! ### names, constants -/
def getS (ρ : En) (i : Nat) : P D := match ρ[i]? with
  | some (some d) => .ok d
  | _ => .stuck
theorem de_var {i : Nat} {x : Str} (hd : Δ i = .dat := by rfl) (hN : X.N[i]? = some x := by rfl) (hv : Vis X.env.scope x := by first | exact Or.inl rfl | exact Or.inr (Or.inl rfl) | exact Or.inr (Or.inr rfl))
    (h1 : (x == ("__debug__" : Str)) = false := by decide) (h2 : (x == ("__classdict__" : Str)) = false := by decide) : PE X (.Name x pos) (tG X.K Δ W (rDp X.K) (fun ρ => getS ρ i)) := by
  refine pe_mono (pe_var hN hv h1 h2) fun σ H Q h => ?_
  obtain ⟨F0, B, F, ρ, E, p⟩ := h
  replace p : PostG X.K W (rDp X.K) σ F H (getS ρ i) Q := p
  unfold getS at p
  cases e : ρ[i]? with
  | none => rw [e] at p; exact p.elim
  | some o =>
    cases o with
    | none => rw [e] at p; exact p.elim
    | some d =>
      rw [e] at p
      obtain ⟨v, hv, hp⟩ := E.dat hd e
      exact ⟨v, hv, p v F H (.refl E.eF) hp⟩
theorem tC_of {v : V} {d : D} (h : ∀ F, Dq X.K F v d) (σ : St) (H : Hp) (Q : VK) (q : tG X.K Δ W (rDp X.K) (fun _ => .ok d) σ H Q) : tC v σ H Q := by
  obtain ⟨F0, B, F, ρ, E, p⟩ := q
  exact p v F H (.refl E.eF) (h F)
theorem de_int {i : Int} {j : Nat} : PE X (.Constant (.int i) j pos) (tG X.K Δ W (rDp X.K) (fun _ => .ok (.int i))) := pe_mono pe_int (tC_of fun _ => .int i)
theorem de_bl {i : Bool} {j : Nat} : PE X (.Constant (.bool i) j pos) (tG X.K Δ W (rDp X.K) (fun _ => .ok (.bool i))) := pe_mono pe_bl (tC_of fun _ => .bl i)
theorem de_non {j : Nat} : PE X (.Constant .none j pos) (tG X.K Δ W (rDp X.K) (fun _ => .ok .none)) := pe_mono pe_non (tC_of fun _ => .non)
theorem de_str {i : Str} {j : Nat} : PE X (.Constant (.str i) j pos) (tG X.K Δ W (rDp X.K) (fun _ => .ok (.str i))) := pe_mono pe_str (tC_of fun _ => .str i)
/-- a module's constant -/
theorem de_glob {x : Str} {v : V} {u : Value} {d : D} (hm : X.mg x = some u) (r : RelV v u) (h : ∀ F, Dq X.K F v d) (hg : Gl X x := by rfl) (hd : (x == ("__debug__" : Str)) = false := by decide) : PE X (.Name x pos) (tG X.K Δ W (rDp X.K) (fun _ => .ok d)) :=
  pe_mono (pe_glob hg hm r hd) (tC_of h)

/-! ### operators -/
/-- an operation over data, as a reading over values -/
def r2 (K : PySem.W.Frag) (r : Rs V D) (f : D → D → Option D) : R2 := fun x y H Q => ∃ F dx dy d, Ex F H ∧ Vw K F H x dx ∧ Vw K F H y dy ∧ f dx dy = some d ∧ ∀ z F' H', Gw F H F' H' → r.r H F' H' z d → Q z H'
def r2b (K : PySem.W.Frag) (f : D → D → Option Bool) : R2 := fun x y H Q => ∃ F dx dy d, Ex F H ∧ Vw K F H x dx ∧ Vw K F H y dy ∧ f dx dy = some d ∧ Q (.bl d) H
def r1 (K : PySem.W.Frag) (r : Rs V D) (f : D → Option D) : V → Hp → VK → Prop := fun x H Q => ∃ F dx d, Ex F H ∧ Vw K F H x dx ∧ f dx = some d ∧ ∀ z F' H', Gw F H F' H' → r.r H F' H' z d → Q z H'
def rN (K : PySem.W.Frag) (r : Rs V D) (f : List D → Option D) : List V → Hp → VK → Prop := fun xs H Q => ∃ F ds d, Ex F H ∧ VwAll K F H xs ds ∧ f ds = some d ∧ ∀ z F' H', Gw F H F' H' → r.r H F' H' z d → Q z H'
def rM (K : PySem.W.Frag) (r : Rs V D) (f : D → List D → Option D) : V → List V → Hp → VK → Prop := fun x xs H Q => ∃ F dx ds d, Ex F H ∧ Vw K F H x dx ∧ VwAll K F H xs ds ∧ f dx ds = some d ∧ ∀ z F' H', Gw F H F' H' → r.r H F' H' z d → Q z H'
variable {ma mb mc : En → P D}
/-- two views, then an operation -/
theorem two_of {K : PySem.W.Frag} {r : Rs V D} {f : D → D → Option D} (σ : St) (H : Hp) (Q : VK) (h : tG K Δ W r (fun ρ => (ma ρ).bind fun x => (mb ρ).bind fun y => .ofO (f x y)) σ H Q) :
    tOp (r2 K r f) (tG K Δ W (rVw K) ma) (tG K Δ W (rVw K) mb) σ H Q := by
  obtain ⟨F0, B, F, ρ, E, p⟩ := h
  refine seqG (r1 := rVw K) E p fun dx x F1 H1 g1 q1 E1 p1 => seqG (r1 := rVw K) E1 p1 fun dy y F2 H2 g2 q2 E2 p2 => ?_
  cases e : f dx dy with
  | none => rw [e] at p2; exact p2.elim
  | some d => rw [e] at p2; exact ⟨F2, dx, dy, d, E2.eF, Vw.gw q1 g2, q2, e, p2⟩
theorem de_bin {op : Operator} {r : Rs V D} {f : D → D → Option D} (ho : OpR X (binaryOp op) (r2 X.K r f)) (ha : PE X a (tG X.K Δ W (rVw X.K) ma)) (hb : PE X b (tG X.K Δ W (rVw X.K) mb)) :
    PE X (.BinOp a op b pos) (tG X.K Δ W r (fun ρ => (ma ρ).bind fun x => (mb ρ).bind fun y => .ofO (f x y))) := pe_mono (pe_op ho ha hb) two_of
theorem de_ix {r : Rs V D} {f : D → D → Option D} (ho : IxR X (r2 X.K r f)) (ha : PE X a (tG X.K Δ W (rVw X.K) ma)) (hb : PE X b (tG X.K Δ W (rVw X.K) mb)) (hs : PlainIx b := by exact fun _ _ => rfl) :
    PE X (.Subscript a b pos) (tG X.K Δ W r (fun ρ => (ma ρ).bind fun x => (mb ρ).bind fun y => .ofO (f x y))) := pe_mono (pe_ix ho ha hb hs) two_of
theorem de_un {op : UnaryOp} {r : Rs V D} {f : D → Option D} (ho : UnR X (unaryOp op) (r1 X.K r f)) (ha : PE X a (tG X.K Δ W (rVw X.K) ma)) :
    PE X (.UnaryOp op a pos) (tG X.K Δ W r (fun ρ => (ma ρ).bind fun x => .ofO (f x))) := by
  refine pe_mono (pe_un ho ha) fun σ H Q h => ?_
  obtain ⟨F0, B, F, ρ, E, p⟩ := h
  refine seqG (r1 := rVw X.K) E p fun dx x F1 H1 g1 q1 E1 p1 => ?_
  cases e : f dx with
  | none => rw [e] at p1; exact p1.elim
  | some d => rw [e] at p1; exact ⟨F1, dx, d, E1.eF, q1, e, p1⟩
theorem de_cmp {op : CmpOp} {f : D → D → Option Bool} (ho : OpR X (compareOp op) (r2b X.K f)) (ha : PE X a (tG X.K Δ W (rVw X.K) ma)) (hb : PE X b (tG X.K Δ W (rVw X.K) mb)) (hm : behindInMarks op b = false := by first | exact nomark _ | rfl) :
    PE X (.Compare a [op] [b] pos) (tG X.K Δ W (rDp X.K) (fun ρ => (ma ρ).bind fun x => (mb ρ).bind fun y => (P.ofO (f x y)).bind fun t => .ok (.bool t))) := by
  refine pe_mono (pe_cmpR ho ha hb hm) fun σ H Q h => ?_
  obtain ⟨F0, B, F, ρ, E, p⟩ := h
  refine seqG (r1 := rVw X.K) E p fun dx x F1 H1 g1 q1 E1 p1 => seqG (r1 := rVw X.K) E1 p1 fun dy y F2 H2 g2 q2 E2 p2 => ?_
  cases e : f dx dy with
  | none => rw [e] at p2; exact p2.elim
  | some d => rw [e] at p2; exact ⟨F2, dx, dy, d, E2.eF, Vw.gw q1 g2, q2, e, p2 _ F2 H2 (.refl E2.eF) (.bl d)⟩
theorem dt_cmp {op : CmpOp} {f : D → D → Option Bool} (ho : OpR X (compareOp op) (r2b X.K f)) (ha : PE X a (tG X.K Δ W (rVw X.K) ma)) (hb : PE X b (tG X.K Δ W (rVw X.K) mb)) (hm : behindInMarks op b = false := by first | exact nomark _ | rfl) :
    PT X (.Compare a [op] [b] pos) (tG X.K Δ W rBl (fun ρ => (ma ρ).bind fun x => (mb ρ).bind fun y => .ofO (f x y))) := by
  refine pt_mono (pt_cmpR ho ha hb hm) fun σ H Q h => ?_
  obtain ⟨F0, B, F, ρ, E, p⟩ := h
  refine seqG (r1 := rVw X.K) E p fun dx x F1 H1 g1 q1 E1 p1 => seqG (r1 := rVw X.K) E1 p1 fun dy y F2 H2 g2 q2 E2 p2 => ?_
  cases e : f dx dy with
  | none => rw [e] at p2; exact p2.elim
  | some d => rw [e] at p2; exact ⟨F2, dx, dy, d, E2.eF, Vw.gw q1 g2, q2, e, d, rfl, p2 d F2 H2 (.refl E2.eF) rfl⟩
/-- a op b op c -/
def chainB (f g : D → D → Option Bool) (ma mb mc : En → P D) : En → P Bool := fun ρ => (ma ρ).bind fun x => (mb ρ).bind fun y => (P.ofO (f x y)).bind fun t => if t = true then (mc ρ).bind fun z => .ofO (g y z) else .ok false
theorem chain_of {f g : D → D → Option Bool} (σ : St) (H : Hp) (Q : Bool → Hp → Prop) (h : tG X.K Δ W rBl (chainB f g ma mb mc) σ H Q) :
    tChain (r2b X.K f) (r2b X.K g) (tG X.K Δ W (rVw X.K) ma) (tG X.K Δ W (rVw X.K) mb) (tG X.K Δ W (rVw X.K) mc) σ H (fun z H' => ∃ k, z = V.bl k ∧ Q k H') := by
  obtain ⟨F0, B, F, ρ, E, p⟩ := h
  refine seqG (r1 := rVw X.K) E p fun dx x F1 H1 g1 q1 E1 p1 => seqG (r1 := rVw X.K) E1 p1 fun dy y F2 H2 g2 q2 E2 p2 => ?_
  cases e : f dx dy with
  | none => rw [e] at p2; exact p2.elim
  | some t =>
    rw [e] at p2
    refine ⟨F2, dx, dy, t, E2.eF, Vw.gw q1 g2, q2, e, t, rfl, ?_⟩
    cases t with
    | false => exact ⟨false, rfl, p2 false F2 H2 (.refl E2.eF) rfl⟩
    | true =>
      show tG X.K Δ W (rVw X.K) mc σ H2 _
      refine seqG (r1 := rVw X.K) E2 p2 fun dz z F3 H3 g3 q3 E3 p3 => ?_
      cases e3 : g dy dz with
      | none => rw [e3] at p3; exact p3.elim
      | some u =>
        rw [e3] at p3
        exact ⟨F3, dy, dz, u, E3.eF, Vw.gw q2 g3, q3, e3, u, rfl, p3 u F3 H3 (.refl E3.eF) rfl⟩
end
end Pc

set_option maxRecDepth 100000
set_option maxHeartbeats 1000000
namespace Pc
open PySem L2
open Evl (Ex)
section
variable {X : Cx} {Δ : Nat → Sh} {W : WX} {e a b c : Expr} {es : List Expr} {pos : Pos} {ma mb mc m : En → P D} {ta tb : En → P Bool} {ml : En → P (List D)}
def asBool (m : En → P Bool) : En → P D := fun ρ => (m ρ).bind fun t => .ok (.bool t)
/-- a test's reading as a value's -/
theorem de_chain {op op' : CmpOp} {f g : D → D → Option Bool} (ho : OpR X (compareOp op) (r2b X.K f)) (ho' : OpR X (compareOp op') (r2b X.K g)) (ha : PE X a (tG X.K Δ W (rVw X.K) ma)) (hb : PE X b (tG X.K Δ W (rVw X.K) mb)) (hc : PE X c (tG X.K Δ W (rVw X.K) mc))
    (hm : lastMarks [op, op'] [b, c] = false := by with_unfolding_all rfl) : PE X (.Compare a [op, op'] [b, c] pos) (tG X.K Δ W (rDp X.K) (asBool (chainB f g ma mb mc))) := by
  refine pe_mono (pe_chain ho ho' ha hb hc hm) fun σ H Q h => ?_
  have q : tG X.K Δ W rBl (chainB f g ma mb mc) σ H (fun t H' => Q (.bl t) H') := by
    obtain ⟨F0, B, F, ρ, E, p⟩ := h
    refine ⟨F0, B, F, ρ, E, ?_⟩
    replace p : PostG X.K W (rDp X.K) σ F H ((chainB f g ma mb mc ρ).bind fun t => .ok (.bool t)) Q := p
    cases e : chainB f g ma mb mc ρ with
    | ok t => rw [e] at p; exact fun v F' H' gw hv => hv ▸ p _ F' H' gw (.bl t)
    | exc c => rw [e] at p; exact p
    | stuck => rw [e] at p; exact p
  have z := chain_of (X := X) σ H _ q
  obtain ⟨F0, B, F, ρ, E, p⟩ := z
  refine ⟨F0, B, F, ρ, E, ?_⟩
  refine PostG.imp p fun x H1 z => ?_
  obtain ⟨F0, B, F, ρ, E, p⟩ := z
  refine ⟨F0, B, F, ρ, E, PostG.imp p fun y H2 z => ?_⟩
  obtain ⟨F, dx, dy, d, e1, e2, e3, e4, k, e5, z⟩ := z
  refine ⟨F, dx, dy, d, e1, e2, e3, e4, k, e5, ?_⟩
  cases k with
  | true =>
    replace z : tG X.K Δ W (rVw X.K) mc σ H2 _ := z
    show tG X.K Δ W (rVw X.K) mc σ H2 _
    obtain ⟨F0, B, F, ρ, E, p⟩ := z
    refine ⟨F0, B, F, ρ, E, PostG.imp p fun y H3 z => ?_⟩
    obtain ⟨F, dx, dy, d, e1, e2, e3, e4, k, e5, z⟩ := z
    refine ⟨F, dx, dy, d, e1, e2, e3, e4, ?_⟩
    cases e5
    exact z
  | false =>
    obtain ⟨k, e6, z⟩ := z
    cases e6
    exact z
theorem dt_chain {op op' : CmpOp} {f g : D → D → Option Bool} (ho : OpR X (compareOp op) (r2b X.K f)) (ho' : OpR X (compareOp op') (r2b X.K g)) (ha : PE X a (tG X.K Δ W (rVw X.K) ma)) (hb : PE X b (tG X.K Δ W (rVw X.K) mb)) (hc : PE X c (tG X.K Δ W (rVw X.K) mc))
    (hm : lastMarks [op, op'] [b, c] = false := by with_unfolding_all rfl) : PT X (.Compare a [op, op'] [b, c] pos) (tG X.K Δ W rBl (chainB f g ma mb mc)) :=
  pt_mono (pt_chain ho ho' ha hb hc hm) fun σ H Q h => chain_of σ H Q h

/-! ### truth -/
def LIM : Nat := 16777216
theorem lim_eq : sizeLine = LIM := sizeLine_eq
def truO : D → Option Bool
  | .none => some false
  | .bool b => some b
  | .int i => some (i != 0)
  | .str s => if s.length ≤ LIM then some ((s.length : Int) != 0) else none
  | .list xs => some (!xs.isEmpty)
  | .tuple xs => some (!xs.isEmpty)
  | .dict xs => some (!xs.isEmpty)
theorem dps_empty {K : PySem.W.Frag} {F : Hp} {vs : List V} {ds : List D} (h : DqAll K F vs ds) : vs.isEmpty = ds.isEmpty := by cases h <;> rfl
theorem kdp_empty {K : PySem.W.Frag} {F : Hp} {vs : List (Key × V)} {ds : List (D × D)} (h : KDp K F vs ds) : vs.isEmpty = ds.isEmpty := by cases h <;> rfl
theorem tru_of {K : PySem.W.Frag} {F H : Hp} {x : V} {d : D} {k : Bool} (e : Ex F H) (h : Vw K F H x d) (q : truO d = some k) : TruV K x H k := by
  cases d with
  | none => rw [h.non]; exact (Option.some.inj q).symm
  | bool b => rw [h.bl]; exact (Option.some.inj q).symm
  | int i => rw [h.int]; exact (Option.some.inj q).symm
  | str s =>
    rw [h.str]
    replace q : (if s.length ≤ LIM then some ((s.length : Int) != 0) else none) = some k := q
    split at q
    · rename_i hl
      exact ⟨by rw [lim_eq]; exact hl, (Option.some.inj q).symm⟩
    · cases q
  | list xs =>
    obtain ⟨a, vs, rfl, s, dp⟩ := h.lst e
    refine .inl ⟨vs, SqL.of s, ?_⟩
    rw [dps_empty dp]; exact (Option.some.inj q).symm
  | tuple xs =>
    obtain ⟨a, vs, rfl, s, _, dp⟩ := h.tup e
    refine .inr (.inl ⟨vs, s, ?_⟩)
    rw [dps_empty dp]; exact (Option.some.inj q).symm
  | dict xs =>
    obtain ⟨a, vs, rfl, s, dp⟩ := h.dct
    refine .inr (.inr ⟨vs, s, ?_⟩)
    rw [kdp_empty dp]; exact (Option.some.inj q).symm
theorem tru_tG {R : Bool → Hp → Prop} {r : Rs Bool Bool} (σ : St) (H : Hp) (hr : r = rBl) (h : tG X.K Δ W r (fun ρ => (m ρ).bind fun d => .ofO (truO d)) σ H R) : tG X.K Δ W (rVw X.K) m σ H (fun x H' => ∃ k, TruV X.K x H' k ∧ R k H') := by
  subst hr
  obtain ⟨F0, B, F, ρ, E, p⟩ := h
  refine seqG (r1 := rVw X.K) E p fun dx x F1 H1 g1 q1 E1 p1 => ?_
  cases e : truO dx with
  | none => rw [e] at p1; exact p1.elim
  | some t => rw [e] at p1; exact ⟨t, tru_of E1.eF q1 e, p1 t F1 H1 (.refl E1.eF) rfl⟩
theorem dt_truth (ha : PE X a (tG X.K Δ W (rVw X.K) m)) (he : ∀ whole, isTrue a X.env whole = (do let v ← whole; standAt a.pos; holding [v] (truthy v)) := by intro _; rfl) : PT X a (tG X.K Δ W rBl (fun ρ => (m ρ).bind fun d => .ofO (truO d))) :=
  pt_mono (pt_truth ha he) fun σ H Q h => tru_tG σ H rfl h
theorem dt_not (ha : PT X a (tG X.K Δ W rBl ta)) : PT X (.UnaryOp .Not a pos) (tG X.K Δ W rBl (fun ρ => (ta ρ).bind fun t => .ok (!t))) := by
  refine pt_mono (pt_not ha) fun σ H Q h => ?_
  obtain ⟨F0, B, F, ρ, E, p⟩ := h
  refine seqG (r1 := rBl) E p fun t t' F1 H1 g1 q1 E1 p1 => ?_
  cases q1
  exact p1 _ F1 H1 (.refl E1.eF) rfl
theorem de_not (ha : PE X a (tG X.K Δ W (rVw X.K) m)) : PE X (.UnaryOp .Not a pos) (tG X.K Δ W (rDp X.K) (fun ρ => (m ρ).bind fun d => (P.ofO (truO d)).bind fun t => .ok (.bool (!t)))) := by
  refine pe_mono (pe_notT ha) fun σ H Q h => ?_
  obtain ⟨F0, B, F, ρ, E, p⟩ := h
  refine seqG (r1 := rVw X.K) E p fun dx x F1 H1 g1 q1 E1 p1 => ?_
  cases e : truO dx with
  | none => rw [e] at p1; exact p1.elim
  | some t => rw [e] at p1; exact ⟨t, tru_of E1.eF q1 e, p1 _ F1 H1 (.refl E1.eF) (.bl _)⟩
def andB (ta tb : En → P Bool) : En → P Bool := fun ρ => (ta ρ).bind fun t => if t = true then tb ρ else .ok false
def orB (ta tb : En → P Bool) : En → P Bool := fun ρ => (ta ρ).bind fun t => if t = true then .ok true else tb ρ
theorem dw_and1 (ha : PT X a (tG X.K Δ W rBl ta)) : PW X (.BoolOp .And [a] pos) (tG X.K Δ W rBl ta) := pw_and1 ha
theorem dw_or1 (ha : PT X a (tG X.K Δ W rBl ta)) : PW X (.BoolOp .Or [a] pos) (tG X.K Δ W rBl ta) := pw_or1 ha
theorem dw_and (ha : PT X a (tG X.K Δ W rBl ta)) (hb : PW X (.BoolOp .And (b :: es) pos) (tG X.K Δ W rBl tb)) : PW X (.BoolOp .And (a :: b :: es) pos) (tG X.K Δ W rBl (andB ta tb)) := by
  refine pw_mono (pw_and ha hb) fun σ H Q h => ?_
  obtain ⟨F0, B, F, ρ, E, p⟩ := h
  refine seqG (r1 := rBl) E p fun t t' F1 H1 g1 q1 E1 p1 => ?_
  cases q1
  cases t with
  | true => exact ⟨F0, B, F1, ρ, E1, p1⟩
  | false => exact p1 _ F1 H1 (.refl E1.eF) rfl
theorem dw_or (ha : PT X a (tG X.K Δ W rBl ta)) (hb : PW X (.BoolOp .Or (b :: es) pos) (tG X.K Δ W rBl tb)) : PW X (.BoolOp .Or (a :: b :: es) pos) (tG X.K Δ W rBl (orB ta tb)) := by
  refine pw_mono (pw_or ha hb) fun σ H Q h => ?_
  obtain ⟨F0, B, F, ρ, E, p⟩ := h
  refine seqG (r1 := rBl) E p fun t t' F1 H1 g1 q1 E1 p1 => ?_
  cases q1
  cases t with
  | false => exact ⟨F0, B, F1, ρ, E1, p1⟩
  | true => exact p1 _ F1 H1 (.refl E1.eF) rfl
def andV (ma mb : En → P D) : En → P D := fun ρ => (ma ρ).bind fun x => match x with
  | .bool true => mb ρ
  | .bool false => .ok (.bool false)
  | _ => .stuck
def orV (ma mb : En → P D) : En → P D := fun ρ => (ma ρ).bind fun x => match x with
  | .bool false => mb ρ
  | .bool true => .ok (.bool true)
  | _ => .stuck
theorem de_and (ha : PE X a (tG X.K Δ W (rVw X.K) ma)) (hb : PE X (.BoolOp .And (b :: es) pos) (tG X.K Δ W (rDp X.K) mb)) : PE X (.BoolOp .And (a :: b :: es) pos) (tG X.K Δ W (rDp X.K) (andV ma mb)) := by
  refine pe_mono (pe_and ha hb) fun σ H Q h => ?_
  obtain ⟨F0, B, F, ρ, E, p⟩ := h
  refine seqG (r1 := rVw X.K) E p fun t t' F1 H1 g1 q1 E1 p1 => ?_
  cases t with
  | bool k =>
    refine ⟨k, Vw.bl q1, ?_⟩
    cases k with
    | true => exact ⟨F0, B, F1, ρ, E1, p1⟩
    | false => exact p1 _ F1 H1 (.refl E1.eF) (.bl false)
  | _ => exact p1.elim
theorem de_or (ha : PE X a (tG X.K Δ W (rVw X.K) ma)) (hb : PE X (.BoolOp .Or (b :: es) pos) (tG X.K Δ W (rDp X.K) mb)) : PE X (.BoolOp .Or (a :: b :: es) pos) (tG X.K Δ W (rDp X.K) (orV ma mb)) := by
  refine pe_mono (pe_or ha hb) fun σ H Q h => ?_
  obtain ⟨F0, B, F, ρ, E, p⟩ := h
  refine seqG (r1 := rVw X.K) E p fun t t' F1 H1 g1 q1 E1 p1 => ?_
  cases t with
  | bool k =>
    refine ⟨k, Vw.bl q1, ?_⟩
    cases k with
    | false => exact ⟨F0, B, F1, ρ, E1, p1⟩
    | true => exact p1 _ F1 H1 (.refl E1.eF) (.bl true)
  | _ => exact p1.elim
theorem de_one {op : BoolOp} (ha : PE X a (tG X.K Δ W (rDp X.K) ma)) : PE X (.BoolOp op [a] pos) (tG X.K Δ W (rDp X.K) ma) := pe_one ha
def ifD {α : Type} (tc : En → P Bool) (ma mb : En → P α) : En → P α := fun ρ => (tc ρ).bind fun t => if t = true then ma ρ else mb ρ
theorem de_if {r : Rs V D} (hc : PT X c (tG X.K Δ W rBl ta)) (ha : PE X a (tG X.K Δ W r ma)) (hb : PE X b (tG X.K Δ W r mb)) : PE X (.IfExp c a b pos) (tG X.K Δ W r (ifD ta ma mb)) := by
  refine pe_mono (pe_ifExp hc ha hb) fun σ H Q h => ?_
  obtain ⟨F0, B, F, ρ, E, p⟩ := h
  refine seqG (r1 := rBl) E p fun t t' F1 H1 g1 q1 E1 p1 => ?_
  cases q1
  cases t with
  | true => exact ⟨F0, B, F1, ρ, E1, p1⟩
  | false => exact ⟨F0, B, F1, ρ, E1, p1⟩

/-! ### arguments, displays -/
def rDpsN (K : PySem.W.Frag) (n : Nat) : Rs (List V) (List D) := ⟨fun _ F' _ v d => DqAll K F' v d ∧ v.length = n, fun _ h => h⟩
def consM (ma : En → P D) (ml : En → P (List D)) : En → P (List D) := fun ρ => (ma ρ).bind fun x => (ml ρ).bind fun xs => .ok (x :: xs)
theorem da_nil : PA X [] (tG X.K Δ W (rDpsN X.K 0) (fun _ => .ok [])) := by
  refine pa_mono pa_nil fun σ H Q h => ?_
  obtain ⟨F0, B, F, ρ, E, p⟩ := h
  exact p [] F H (.refl E.eF) ⟨.nil, rfl⟩
theorem da_cons {n : Nat} (ha : PE X e (tG X.K Δ W (rDp X.K) ma)) (hr : PA X es (tG X.K Δ W (rDpsN X.K n) ml)) (hs : starEach (e :: es) X.env = (false, eval e X.env) :: starEach es X.env := by rfl) :
    PA X (e :: es) (tG X.K Δ W (rDpsN X.K (n + 1)) (consM ma ml)) := by
  refine pa_mono (pa_cons ha hr hs) fun σ H Q h => ?_
  obtain ⟨F0, B, F, ρ, E, p⟩ := h
  refine seqG (r1 := rDp X.K) E p fun dx x F1 H1 g1 q1 E1 p1 => seqG (r1 := rDpsN X.K n) E1 p1 fun dy y F2 H2 g2 q2 E2 p2 => ?_
  exact p2 _ F2 H2 (.refl E2.eF) ⟨.cons (Dq.mn q1 g2.1) q2.1, congrArg (· + 1) q2.2⟩
theorem dv_nil : PA X [] (tG X.K Δ W (rVws X.K) (fun _ => .ok [])) := by
  refine pa_mono pa_nil fun σ H Q h => ?_
  obtain ⟨F0, B, F, ρ, E, p⟩ := h
  exact p [] F H (.refl E.eF) .nil
theorem dv_cons (ha : PE X e (tG X.K Δ W (rVw X.K) ma)) (hr : PA X es (tG X.K Δ W (rVws X.K) ml)) (hs : starEach (e :: es) X.env = (false, eval e X.env) :: starEach es X.env := by rfl) :
    PA X (e :: es) (tG X.K Δ W (rVws X.K) (consM ma ml)) := by
  refine pa_mono (pa_cons ha hr hs) fun σ H Q h => ?_
  obtain ⟨F0, B, F, ρ, E, p⟩ := h
  refine seqG (r1 := rVw X.K) E p fun dx x F1 H1 g1 q1 E1 p1 => seqG (r1 := rVws X.K) E1 p1 fun dy y F2 H2 g2 q2 E2 p2 => ?_
  exact p2 _ F2 H2 (.refl E2.eF) (.cons (Vw.gw q1 g2) q2)
theorem de_tup {n : Nat} {x1} (h : PA X es (tG X.K Δ W (rDpsN X.K n) ml)) (hn : n ≤ sizeLine := by decide) : PE X (.Tuple es x1 pos) (tG X.K Δ W (rDp X.K) (fun ρ => (ml ρ).bind fun xs => .ok (.tuple xs))) := by
  refine pe_mono (pe_tup h) fun σ H Q h => ?_
  obtain ⟨F0, B, F, ρ, E, p⟩ := h
  refine seqG (r1 := rDpsN X.K n) E p fun dx x F1 H1 g1 q1 E1 p1 => ⟨by rw [q1.2]; exact hn, fun q hq => ?_⟩
  exact p1 _ _ _ (.frz E1.eF hq) (.tup (SqT.of upd_same) (q1.1.mn (Ex.new (none_of_ex E1.eF hq))))
theorem ownL_dat {K : PySem.W.Frag} {F H : Hp} : ∀ {vs : List V} {ds : List D}, DqAll K F vs ds → OwnL (Own K F H .dat) vs ds []
  | _, _, .nil => .nil
  | _, _, .cons a t => OwnL.cons (fp := []) (fq := []) ⟨a, rfl⟩ (ownL_dat t)
theorem dat_ownL {K : PySem.W.Frag} {F H : Hp} {vs : List V} {ds : List D} {fq : List Addr} (h : OwnL (Own K F H .dat) vs ds fq) : DqAll K F vs ds ∧ fq = [] := by
  induction h with
  | nil => exact ⟨.nil, rfl⟩
  | cons a _ ih => exact ⟨.cons a.1 ih.1, by rw [a.2, ih.2]; rfl⟩
/-- a new list of one's own -/
theorem new_lst {K : PySem.W.Frag} {F H : Hp} {p : Addr} {vs : List V} {ds : List D} (e : Ex F H) (h : H p = none) (dp : DqAll K F vs ds) : (rNew K (.lst .dat)).r H F (upd H p (.lst vs)) (.ref p) (.list ds) := by
  refine ⟨[p], ⟨p, vs, ds, [], rfl, rfl, upd_same, ownL_dat dp, rfl⟩, by simp, fun a ha => ?_⟩
  have ea : a = p := by simpa using ha
  subst ea
  exact ⟨none_of_ex e h, h, by rw [upd_same]; exact fun z => nomatch z⟩
theorem de_lst {n : Nat} (h : PA X es (tG X.K Δ W (rDpsN X.K n) ml)) (hn : n ≤ sizeLine := by decide) : PE X (.List es pos) (tG X.K Δ W (rNew X.K (.lst .dat)) (fun ρ => (ml ρ).bind fun xs => .ok (.list xs))) := by
  refine pe_mono (pe_lst h) fun σ H Q h => ?_
  obtain ⟨F0, B, F, ρ, E, p⟩ := h
  refine seqG (r1 := rDpsN X.K n) E p fun dx x F1 H1 g1 q1 E1 p1 => ⟨by rw [q1.2]; exact hn, fun q hq => ?_⟩
  exact p1 _ _ _ (.own E1.eF hq) (new_lst E1.eF hq q1.1)
/-- what is new may be frozen -/
theorem frz_lst {K : PySem.W.Frag} {F H F1 H1 : Hp} {v : V} {d : D} (g : Gw F H F1 H1) (h : (rNew K (.lst .dat)).r H F1 H1 v d) : ∃ F2, Gw F H F2 H1 ∧ Dq K F2 v d := by
  obtain ⟨fp, ⟨a, vs, ds, fq, rfl, rfl, ha, o, rfl⟩, nd, q⟩ := h
  obtain ⟨dp, rfl⟩ := dat_ownL o
  obtain ⟨q1, q2, q3⟩ := q a List.mem_cons_self
  refine ⟨upd F1 a (.lst vs), ⟨g.1.trans (Ex.new q1), fun b u e => ?_, g.2.2.1, fun b h1 h2 => ?_⟩, .lst upd_same (dp.mn (Ex.new q1))⟩
  · by_cases hb : b = a
    · subst hb; rw [upd_same] at e; rw [ha]; exact e
    · rw [upd_ne hb] at e; exact g.2.1 b u e
  · have hb : b ≠ a := fun z => h1 (z ▸ q2)
    rw [upd_ne hb]; exact g.2.2.2 b h1 h2
theorem de_frz {m : En → P D} (h : PE X e (tG X.K Δ W (rNew X.K (.lst .dat)) m)) : PE X e (tG X.K Δ W (rDp X.K) m) := by
  refine pe_mono h fun σ H Q h => ?_
  obtain ⟨F0, B, F, ρ, E, p⟩ := h
  refine ⟨F0, B, F, ρ, E, ?_⟩
  cases e : m ρ with
  | ok d =>
    rw [e] at p
    intro v F' H' g q
    obtain ⟨F2, g2, dp⟩ := frz_lst g q
    exact p v F2 H' g2 dp
  | exc c => rw [e] at p; exact p
  | stuck => rw [e] at p; exact p

/-! ### calls of built-ins -/
theorem one_of {K : PySem.W.Frag} {r : Rs V D} {f : List D → Option D} (σ : St) (H : Hp) (Q : VK) (h : tG K Δ W r (fun ρ => (ml ρ).bind fun xs => .ofO (f xs)) σ H Q) : tCB (rN K r f) (tG K Δ W (rVws K) ml) σ H Q := by
  obtain ⟨F0, B, F, ρ, E, p⟩ := h
  refine seqG (r1 := rVws K) E p fun dx x F1 H1 g1 q1 E1 p1 => ?_
  cases e : f dx with
  | none => rw [e] at p1; exact p1.elim
  | some d => rw [e] at p1; exact ⟨F1, dx, d, E1.eF, q1, e, p1⟩
theorem de_callB {x : Str} {id : String} {r : Rs V D} {f : List D → Option D} {p : Pos} (hc : CallR X (.builtin id) (rN X.K r f)) (hm : X.mg x = none) (ha : PA X (e :: es) (tG X.K Δ W (rVws X.K) ml)) (hv : bootBuiltins x = some (.builtin id) := by decide +kernel) (hg : Gl X x := by rfl) (hn : x ≠ "__name__" := by decide)
    (hdb : (x == ("__debug__" : Str)) = false := by decide) (he : starEach (e :: es) X.env = (false, eval e X.env) :: starEach es X.env := by rfl) (hpl : (backTo pos (starEach es X.env)).any (·.1) = false := by rfl) :
    PE X (.Call (.Name x p) (e :: es) [] pos) (tG X.K Δ W r (fun ρ => (ml ρ).bind fun xs => .ofO (f xs))) := pe_mono (pe_callB hc hg hm hv ha hn hdb he hpl) one_of
theorem de_callTy {x : Str} {T : String} {r : Rs V D} {f : List D → Option D} {p : Pos} (hc : CallR X (.type T) (rN X.K r f)) (hm : X.mg x = none) (ha : PA X (e :: es) (tG X.K Δ W (rVws X.K) ml)) (hv : bootBuiltins x = some (.type T) := by decide +kernel) (hg : Gl X x := by rfl) (hn : x ≠ "__name__" := by decide)
    (hdb : (x == ("__debug__" : Str)) = false := by decide) (he : starEach (e :: es) X.env = (false, eval e X.env) :: starEach es X.env := by rfl) (hpl : (backTo pos (starEach es X.env)).any (·.1) = false := by rfl) :
    PE X (.Call (.Name x p) (e :: es) [] pos) (tG X.K Δ W r (fun ρ => (ml ρ).bind fun xs => .ofO (f xs))) := pe_mono (pe_callTy hc hg hm hv ha hn hdb he hpl) one_of

/-! ### slices -/
def asInt : D → P (Option Int)
  | .int i => .ok (some i)
  | _ => .stuck
theorem po_mono {oe : Option Expr} {t t' : TO} (h : PO X oe t) (i : ∀ σ H Q, t' σ H Q → t σ H Q) : PO X oe t' := ⟨fun pins s σ H Q I q => h.run pins s σ H Q I (i σ H Q q)⟩
theorem do_none : PO X none (tG X.K Δ W rOp (fun _ => .ok none)) := by
  refine po_mono po_none fun σ H Q h => ?_
  obtain ⟨F0, B, F, ρ, E, p⟩ := h
  exact p none F H (.refl E.eF) rfl
theorem do_some (h : PE X e (tG X.K Δ W (rVw X.K) m)) : PO X (some e) (tG X.K Δ W rOp (fun ρ => (m ρ).bind asInt)) := by
  refine po_mono (po_some h) fun σ H Q h => ?_
  obtain ⟨F0, B, F, ρ, E, p⟩ := h
  refine seqG (r1 := rVw X.K) E p fun dx x F1 H1 g1 q1 E1 p1 => ?_
  cases dx with
  | int i => exact ⟨i, Vw.int q1, p1 _ F1 H1 (.refl E1.eF) rfl⟩
  | _ => exact p1.elim
def rSl (K : PySem.W.Frag) (r : Rs V D) (f : D → Option Int → Option Int → Option D) : V → Option Int → Option Int → Hp → VK → Prop := fun x lo hi H Q => ∃ F dx d, Ex F H ∧ Vw K F H x dx ∧ f dx lo hi = some d ∧ ∀ z F' H', Gw F H F' H' → r.r H F' H' z d → Q z H'
theorem de_slice {r : Rs V D} {f : D → Option Int → Option Int → Option D} {lo hi : Option Expr} {p2 : Pos} {ml mh : En → P (Option Int)} (hr : SlR X (rSl X.K r f)) (he : PE X e (tG X.K Δ W (rVw X.K) m)) (hl : PO X lo (tG X.K Δ W rOp ml)) (hu : PO X hi (tG X.K Δ W rOp mh)) :
    PE X (.Subscript e (.Slice lo hi none p2) pos) (tG X.K Δ W r (fun ρ => (m ρ).bind fun x => (ml ρ).bind fun l => (mh ρ).bind fun h => .ofO (f x l h))) := by
  refine pe_mono (pe_slice hr he hl hu) fun σ H Q h => ?_
  obtain ⟨F0, B, F, ρ, E, p⟩ := h
  refine seqG (r1 := rVw X.K) E p fun dx x F1 H1 g1 q1 E1 p1 => seqG (r1 := rOp) E1 p1 fun dl l F2 H2 g2 q2 E2 p2 => seqG (r1 := rOp) E2 p2 fun dh h F3 H3 g3 q3 E3 p3 => ?_
  cases q2
  cases q3
  cases e : f dx dl dh with
  | none => rw [e] at p3; exact p3.elim
  | some d => rw [e] at p3; exact ⟨F3, dx, d, E3.eF, (Vw.gw q1 g2).gw g3, e, p3⟩
end
end Pc

set_option maxRecDepth 100000
set_option maxHeartbeats 1000000
namespace Pc
open PySem L2
open Evl (Ex)
/-! ### operations over data -/
def mulOk (i j : Int) : Bool := (decide (-(2 ^ 64) < i) && decide (i < 2 ^ 64)) || (decide (-(2 ^ 64) < j) && decide (j < 2 ^ 64))
def addO : D → D → Option D
  | .int i, .int j => some (.int (i + j))
  | .str x, .str y => if x.length + y.length ≤ LIM then some (.str (x ++ y)) else none
  | .list x, .list y => if x.length + y.length ≤ LIM then some (.list (x ++ y)) else none
  | .tuple x, .tuple y => if x.length + y.length ≤ LIM then some (.tuple (x ++ y)) else none
  | _, _ => none
def addLO : D → D → Option D
  | .list x, .list y => if x.length + y.length ≤ LIM then some (.list (x ++ y)) else none
  | _, _ => none
def subO : D → D → Option D
  | .int i, .int j => some (.int (i - j))
  | _, _ => none
def mulO : D → D → Option D
  | .int i, .int j => if mulOk i j = true then some (.int (i * j)) else none
  | _, _ => none
def fdivO : D → D → Option D
  | .int i, .int j => if 0 < j ∧ j < 1073741824 then some (.int (i / j)) else none
  | _, _ => none
def modO : D → D → Option D
  | .int i, .int j => if 0 < j then some (.int (i % j)) else none
  | _, _ => none
def powO : D → D → Option D
  | .int i, .int j => if 0 ≤ j ∧ j ≤ 1000000 ∧ i.natAbs < 2 ^ 64 then some (.int (i ^ j.toNat)) else none
  | _, _ => none
def negO : D → Option D
  | .int i => some (.int (-i))
  | _ => none
def ltO : D → D → Option Bool
  | .int i, .int j => some (decide (i < j))
  | _, _ => none
def leO : D → D → Option Bool
  | .int i, .int j => some (decide (i ≤ j))
  | _, _ => none
def gtO : D → D → Option Bool
  | .int i, .int j => some (decide (j < i))
  | _, _ => none
def geO : D → D → Option Bool
  | .int i, .int j => some (decide (j ≤ i))
  | _, _ => none
def isNO : D → D → Option Bool
  | .none, .none => some true
  | .dict _, _ => none
  | _, .none => some false
  | _, _ => none
def notNO : D → D → Option Bool
  | .none, .none => some false
  | .dict _, _ => none
  | _, .none => some true
  | _, _ => none
/-- not deeper than n -/
def flat : Nat → D → Bool
  | 0, _ => false
  | n + 1, .list xs => xs.all (flat n)
  | n + 1, .tuple xs => xs.all (flat n)
  | _ + 1, .dict _ => false
  | _ + 1, _ => true
def shal (d e : D) : Bool := flat 40 d || flat 40 e
def eqO (d e : D) : Option Bool := if isDict d || isDict e then none else if shal d e = true then some (PyData.eqv d e) else none
def neO (d e : D) : Option Bool := if isDict d || isDict e then none else if shal d e = true then some (!PyData.eqv d e) else none
def strIn (x z : Str) : Bool := match x.cps.toList with
  | [c] => decide (c ∈ z.cps.toList)
  | _ => !(Builtin.Str.occurrences z x 0 z.length 1).isEmpty
def keyOf : D → Option D
  | .int i => some (.int i)
  | .str x => some (.str x)
  | _ => none
/-- the value under a key -/
def lookD (k : D) : List (D × D) → Option D
  | [] => none
  | (k', v) :: r => if PyData.eqv k' k = true then some v else lookD k r
def inO (x c : D) : Option Bool := match c with
  | .list xs => if isDict x then none else if shal x (.list xs) = true then some (xs.any fun y => PyData.eqv y x) else none
  | .tuple xs => if isDict x then none else if shal x (.tuple xs) = true then some (xs.any fun y => PyData.eqv y x) else none
  | .str z => match x with
    | .str y => some (strIn y z)
    | _ => none
  | _ => none
def notInO (x c : D) : Option Bool := (inO x c).map (!·)
/-- x[i] -/
def ixO : D → D → Option D
  | .list xs, .int i => atI xs i
  | .tuple xs, .int i => atI xs i
  | .str z, .int i => if z.length ≤ LIM then (atI z.cps.toList i).map fun c => .str ⟨#[c]⟩ else none
  | _, _ => none
def cutL {α : Type} (xs : List α) (lo hi : Option Int) : List α := (xs.drop (HT.sIx xs.length 0 lo)).take (HT.sIx xs.length xs.length hi - HT.sIx xs.length 0 lo)
def cutO : D → Option Int → Option Int → Option D
  | .tuple xs, lo, hi => some (.tuple (cutL xs lo hi))
  | .list xs, lo, hi => some (.list (cutL xs lo hi))
  | .str z, lo, hi => if z.length ≤ LIM then some (.str (cutS z lo hi)) else none
  | _, _, _ => none
def cutLO : D → Option Int → Option Int → Option D
  | .list xs, lo, hi => some (.list (cutL xs lo hi))
  | _, _, _ => none
def lenO : List D → Option D
  | [.list xs] => some (.int xs.length)
  | [.tuple xs] => some (.int xs.length)
  | [.str z] => if z.length ≤ LIM then some (.int z.length) else none
  | _ => none

/-! ### their rules -/
section
variable {X : Cx}
theorem lim_le {n : Nat} (h : n ≤ LIM) : n ≤ sizeLine := by rw [lim_eq]; exact h
theorem frz_new {K : PySem.W.Frag} {F H : Hp} {p : Addr} {vs : List V} {ds : List D} (e : Ex F H) (h : H p = none) (dp : DqAll K F vs ds) : Gw F H (upd F p (.lst vs)) (upd H p (.lst vs)) ∧ Dq K (upd F p (.lst vs)) (.ref p) (.list ds) :=
  ⟨.frz e h, .lst upd_same (dp.mn (Ex.new (none_of_ex e h)))⟩
theorem frz_tup {K : PySem.W.Frag} {F H : Hp} {p : Addr} {vs : List V} {ds : List D} (e : Ex F H) (h : H p = none) (dp : DqAll K F vs ds) : Gw F H (upd F p (.tup vs)) (upd H p (.tup vs)) ∧ Dq K (upd F p (.tup vs)) (.ref p) (.tuple ds) :=
  ⟨.frz e h, .tup (SqT.of upd_same) (dp.mn (Ex.new (none_of_ex e h)))⟩
theorem o_addL : OpR X (binaryOp .Add) (r2 X.K (rNew X.K (.lst .dat)) addLO) := by
  intro pins s σ H x y v u Q I rx ry h
  obtain ⟨F, dx, dy, d, eF, vx, vy, hf, q⟩ := h
  cases dx <;> try (cases hf; done)
  cases dy <;> try (cases hf; done)
  rename_i xs ys
  replace hf : (if xs.length + ys.length ≤ LIM then some (PyData.list (xs ++ ys)) else none) = some d := hf
  split at hf
  · rename_i hl
    cases hf
    obtain ⟨a, vs, rfl, s1, d1⟩ := vx.lst eF
    obtain ⟨b, ws, rfl, s2, d2⟩ := vy.lst eF
    refine op_cat pins s σ H _ _ v u Q I rx ry ⟨a, b, vs, ws, rfl, rfl, s1, s2, lim_le (by rw [d1.len, d2.len]; exact hl), fun p hp => ?_⟩
    exact q _ _ _ (.own eF hp) (new_lst eF hp (d1.app d2))
  · cases hf
theorem o_add : OpR X (binaryOp .Add) (r2 X.K (rDp X.K) addO) := by
  intro pins s σ H x y v u Q I rx ry h
  obtain ⟨F, dx, dy, d, eF, vx, vy, hf, q⟩ := h
  cases dx <;> cases dy <;> try (cases hf; done)
  · rename_i i j
    cases hf
    exact op_add pins s σ H _ _ v u Q I rx ry ⟨i, j, vx.int, vy.int, q _ F H (.refl eF) (.int _)⟩
  · rename_i i j
    replace hf : (if i.length + j.length ≤ LIM then some (PyData.str (i ++ j)) else none) = some d := hf
    split at hf
    · rename_i hl
      cases hf
      exact op_add_str pins s σ H _ _ v u Q I rx ry ⟨i, j, vx.str, vy.str, lim_le hl, q _ F H (.refl eF) (.str _)⟩
    · cases hf
  · rename_i xs ys
    refine o_addL pins s σ H x y v u Q I rx ry ⟨F, _, _, d, eF, vx, vy, hf, fun z F' H' g r => ?_⟩
    obtain ⟨F2, g2, dp⟩ := frz_lst g r
    exact q z F2 H' g2 dp
  · rename_i xs ys
    replace hf : (if xs.length + ys.length ≤ LIM then some (PyData.tuple (xs ++ ys)) else none) = some d := hf
    split at hf
    · rename_i hl
      cases hf
      obtain ⟨a, vs, rfl, s1, f1, d1⟩ := vx.tup eF
      obtain ⟨b, ws, rfl, s2, f2, d2⟩ := vy.tup eF
      refine op_catA pins s σ H _ _ v u Q I rx ry ⟨a, b, vs, ws, rfl, rfl, s1, s2, lim_le (by rw [d1.len, d2.len]; exact hl), fun hx => ?_, fun hx hy => ?_, fun hx hy p hp => ?_⟩
      · subst hx
        cases d1
        exact q _ F H (.refl eF) (.tup f2 d2)
      · subst hy
        cases d2
        rw [List.append_nil] at q
        exact q _ F H (.refl eF) (.tup f1 d1)
      · obtain ⟨g, dq⟩ := frz_tup (K := X.K) eF hp (d1.app d2)
        exact q _ _ _ g dq
    · cases hf
theorem o_sub : OpR X (binaryOp .Sub) (r2 X.K (rDp X.K) subO) := by
  intro pins s σ H x y v u Q I rx ry h
  obtain ⟨F, dx, dy, d, eF, vx, vy, hf, q⟩ := h
  cases dx <;> cases dy <;> try (cases hf; done)
  rename_i i j
  cases hf
  exact op_sub pins s σ H _ _ v u Q I rx ry ⟨i, j, vx.int, vy.int, q _ F H (.refl eF) (.int _)⟩
theorem o_mul : OpR X (binaryOp .Mult) (r2 X.K (rDp X.K) mulO) := by
  intro pins s σ H x y v u Q I rx ry h
  obtain ⟨F, dx, dy, d, eF, vx, vy, hf, q⟩ := h
  cases dx <;> cases dy <;> try (cases hf; done)
  rename_i i j
  replace hf : (if mulOk i j = true then some (PyData.int (i * j)) else none) = some d := hf
  split at hf
  · rename_i hl
    cases hf
    unfold mulOk at hl
    simp only [Bool.or_eq_true, Bool.and_eq_true, decide_eq_true_eq] at hl
    exact op_mul pins s σ H _ _ v u Q I rx ry ⟨i, j, vx.int, vy.int, hl, q _ F H (.refl eF) (.int _)⟩
  · cases hf
theorem o_fdiv : OpR X (binaryOp .FloorDiv) (r2 X.K (rDp X.K) fdivO) := by
  intro pins s σ H x y v u Q I rx ry h
  obtain ⟨F, dx, dy, d, eF, vx, vy, hf, q⟩ := h
  cases dx <;> cases dy <;> try (cases hf; done)
  rename_i i j
  replace hf : (if 0 < j ∧ j < 1073741824 then some (PyData.int (i / j)) else none) = some d := hf
  split at hf
  · rename_i hl
    cases hf
    exact op_fdiv pins s σ H _ _ v u Q I rx ry ⟨i, j, vx.int, vy.int, hl, q _ F H (.refl eF) (.int _)⟩
  · cases hf
theorem o_mod : OpR X (binaryOp .Mod) (r2 X.K (rDp X.K) modO) := by
  intro pins s σ H x y v u Q I rx ry h
  obtain ⟨F, dx, dy, d, eF, vx, vy, hf, q⟩ := h
  cases dx <;> cases dy <;> try (cases hf; done)
  rename_i i j
  replace hf : (if 0 < j then some (PyData.int (i % j)) else none) = some d := hf
  split at hf
  · rename_i hl
    cases hf
    exact op_mod pins s σ H _ _ v u Q I rx ry ⟨i, j, vx.int, vy.int, hl, q _ F H (.refl eF) (.int _)⟩
  · cases hf
theorem o_pow : OpR X (binaryOp .Pow) (r2 X.K (rDp X.K) powO) := by
  intro pins s σ H x y v u Q I rx ry h
  obtain ⟨F, dx, dy, d, eF, vx, vy, hf, q⟩ := h
  cases dx <;> cases dy <;> try (cases hf; done)
  rename_i i j
  replace hf : (if 0 ≤ j ∧ j ≤ 1000000 ∧ i.natAbs < 2 ^ 64 then some (PyData.int (i ^ j.toNat)) else none) = some d := hf
  split at hf
  · rename_i hl
    cases hf
    exact op_pow pins s σ H _ _ v u Q I rx ry ⟨i, j, vx.int, vy.int, hl, q _ F H (.refl eF) (.int _)⟩
  · cases hf
theorem o_neg : UnR X (unaryOp .USub) (r1 X.K (rDp X.K) negO) := by
  intro pins s σ H x v Q I rx h
  obtain ⟨F, dx, d, eF, vx, hf, q⟩ := h
  cases dx <;> try (cases hf; done)
  rename_i i
  cases hf
  exact un_neg pins s σ H _ v Q I rx ⟨i, vx.int, q _ F H (.refl eF) (.int _)⟩
theorem o_lt : OpR X (compareOp .Lt) (r2b X.K ltO) := by
  intro pins s σ H x y v u Q I rx ry h
  obtain ⟨F, dx, dy, d, eF, vx, vy, hf, q⟩ := h
  cases dx <;> cases dy <;> try (cases hf; done)
  rename_i i j
  cases hf
  exact op_lt pins s σ H _ _ v u Q I rx ry ⟨i, j, vx.int, vy.int, q⟩
theorem o_le : OpR X (compareOp .LtE) (r2b X.K leO) := by
  intro pins s σ H x y v u Q I rx ry h
  obtain ⟨F, dx, dy, d, eF, vx, vy, hf, q⟩ := h
  cases dx <;> cases dy <;> try (cases hf; done)
  rename_i i j
  cases hf
  exact op_le pins s σ H _ _ v u Q I rx ry ⟨i, j, vx.int, vy.int, q⟩
theorem o_gt : OpR X (compareOp .Gt) (r2b X.K gtO) := by
  intro pins s σ H x y v u Q I rx ry h
  obtain ⟨F, dx, dy, d, eF, vx, vy, hf, q⟩ := h
  cases dx <;> cases dy <;> try (cases hf; done)
  rename_i i j
  cases hf
  exact op_gt pins s σ H _ _ v u Q I rx ry ⟨i, j, vx.int, vy.int, q⟩
theorem o_ge : OpR X (compareOp .GtE) (r2b X.K geO) := by
  intro pins s σ H x y v u Q I rx ry h
  obtain ⟨F, dx, dy, d, eF, vx, vy, hf, q⟩ := h
  cases dx <;> cases dy <;> try (cases hf; done)
  rename_i i j
  cases hf
  exact op_ge pins s σ H _ _ v u Q I rx ry ⟨i, j, vx.int, vy.int, q⟩
def isNon : D → Bool
  | .none => true
  | _ => false
theorem vw_non {K : PySem.W.Frag} {F H : Hp} {x : V} {d : D} (eF : Ex F H) (h : Vw K F H x d) (hd : isDict d = false) : decide (x = V.non) = isNon d := by
  cases d with
  | none => rw [h.non]; rfl
  | bool b => rw [h.bl]; rfl
  | int b => rw [h.int]; rfl
  | str b => rw [h.str]; rfl
  | list b => obtain ⟨a, vs, rfl, _⟩ := h.lst eF; rfl
  | tuple b => obtain ⟨a, vs, rfl, _⟩ := h.tup eF; rfl
  | dict b => cases hd
theorem o_isN : OpR X (compareOp .Is) (r2b X.K isNO) := by
  intro pins s σ H x y v u Q I rx ry h
  obtain ⟨F, dx, dy, d, eF, vx, vy, hf, q⟩ := h
  have hy : dy = .none := by cases dx <;> cases dy <;> first | rfl | cases hf
  subst hy
  have hd : isDict dx = false := by cases dx <;> first | rfl | cases hf
  refine op_isN pins s σ H _ _ v u Q I rx ry ⟨vy.non, ?_⟩
  rw [vw_non eF vx hd]
  cases dx <;> cases hf <;> exact q
theorem o_notN : OpR X (compareOp .IsNot) (r2b X.K notNO) := by
  intro pins s σ H x y v u Q I rx ry h
  obtain ⟨F, dx, dy, d, eF, vx, vy, hf, q⟩ := h
  have hy : dy = .none := by cases dx <;> cases dy <;> first | rfl | cases hf
  subst hy
  have hd : isDict dx = false := by cases dx <;> first | rfl | cases hf
  refine op_notN pins s σ H _ _ v u Q I rx ry ⟨vy.non, ?_⟩
  rw [vw_non eF vx hd]
  cases dx <;> cases hf <;> exact q
end

/-! ### equality, membership -/
theorem flat_all {n : Nat} {xs : List D} : ∀ (ys : List D), ys.all (flat n) = true → (∀ y ∈ ys, flat n y = true → y.depth ≤ n) → PyData.depthAll ys ≤ n
  | [], _, _ => Nat.zero_le _
  | y :: ys, h, i => by
    rw [List.all_cons, Bool.and_eq_true] at h
    have h1 := i y List.mem_cons_self h.1
    have h2 := flat_all (n := n) (xs := xs) ys h.2 fun z hz => i z (List.mem_cons_of_mem _ hz)
    show max y.depth (PyData.depthAll ys) ≤ n
    omega
theorem flat_depth : ∀ (n : Nat) (d : D), flat n d = true → d.depth ≤ n
  | 0, _, h => by cases h
  | n + 1, .none, _ => Nat.zero_le _
  | n + 1, .bool _, _ => Nat.zero_le _
  | n + 1, .int _, _ => Nat.zero_le _
  | n + 1, .str _, _ => Nat.zero_le _
  | n + 1, .list xs, h => by
    have := flat_all (n := n) (xs := xs) xs h fun y _ hy => flat_depth n y hy
    show PyData.depthAll xs + 1 ≤ n + 1
    omega
  | n + 1, .tuple xs, h => by
    have := flat_all (n := n) (xs := xs) xs h fun y _ hy => flat_depth n y hy
    show PyData.depthAll xs + 1 ≤ n + 1
    omega
  | n + 1, .dict _, h => by cases h
mutual
theorem dq_plain {K : PySem.W.Frag} {F : Hp} : ∀ (d : D) (v : V), Dq K F v d → d.plain = true
  | .none, _, _ => rfl
  | .bool _, _, _ => rfl
  | .int _, _, _ => rfl
  | .str _, _, _ => rfl
  | .list ds, _, h => by
    cases h with
    | lst _ a => exact dq_plainAll ds _ a
  | .tuple ds, _, h => by
    cases h with
    | tup _ a => exact dq_plainAll ds _ a
  | .dict _, _, h => by cases h
theorem dq_plainAll {K : PySem.W.Frag} {F : Hp} : ∀ (ds : List D) (vs : List V), DqAll K F vs ds → PyData.plainAll ds = true
  | [], _, _ => rfl
  | d :: ds, _, h => by
    cases h with
    | cons h1 h2 => show (d.plain && PyData.plainAll ds) = true; rw [dq_plain d _ h1, dq_plainAll ds _ h2]; rfl
end
end Pc

set_option maxRecDepth 100000
set_option maxHeartbeats 1000000
namespace Pc
open PySem L2
open Evl (Ex)
section
variable {X : Cx}
theorem shal_depth {d e : D} (h : shal d e = true) : min d.depth e.depth ≤ 40 := by
  unfold shal at h
  rw [Bool.or_eq_true] at h
  rcases h with h | h
  · have := flat_depth 40 d h; omega
  · have := flat_depth 40 e h; omega
theorem o_eq (hu : X.A.units + 64 < cLine) : OpR X (compareOp .Eq) (r2b X.K eqO) := by
  intro pins s σ H x y v u Q I rx ry h
  obtain ⟨F, dx, dy, d, eF, vx, vy, hf, q⟩ := h
  unfold eqO at hf
  split at hf
  · cases hf
  · rename_i hn
    rw [Bool.or_eq_true, not_or, Bool.not_eq_true, Bool.not_eq_true] at hn
    split at hf
    · rename_i hs
      cases hf
      have h1 := vx.dp eF hn.1
      have h2 := vy.dp eF hn.2
      obtain ⟨as, r1⟩ := Dp.reads I dx x v (Dq.dp _ _ h1) rx
      obtain ⟨bs, r2⟩ := Dp.reads I dy y u (Dq.dp _ _ h2) ry
      exact SeqAt.eq_plain r1 r2 (dq_plain _ _ h1) (dq_plain _ _ h2) (by have := shal_depth hs; omega) ⟨.bl _, H, I, rfl, q⟩
    · cases hf
theorem o_ne (hu : X.A.units + 64 < cLine) : OpR X (compareOp .NotEq) (r2b X.K neO) := by
  intro pins s σ H x y v u Q I rx ry h
  obtain ⟨F, dx, dy, d, eF, vx, vy, hf, q⟩ := h
  unfold neO at hf
  split at hf
  · cases hf
  · rename_i hn
    rw [Bool.or_eq_true, not_or, Bool.not_eq_true, Bool.not_eq_true] at hn
    split at hf
    · rename_i hs
      cases hf
      have h1 := vx.dp eF hn.1
      have h2 := vy.dp eF hn.2
      obtain ⟨as, r1⟩ := Dp.reads I dx x v (Dq.dp _ _ h1) rx
      obtain ⟨bs, r2⟩ := Dp.reads I dy y u (Dq.dp _ _ h2) ry
      exact SeqAt.ne_plain r1 r2 (dq_plain _ _ h1) (dq_plain _ _ h2) (by have := shal_depth hs; omega) ⟨.bl _, H, I, rfl, q⟩
    · cases hf
/-- in, not in: n says which -/
theorem o_in_any (hu : X.A.units + 64 < cLine) : OpR X (compareOp .In) (r2b X.K inO) := by
  intro pins s σ H x y v u Q I rx ry h
  obtain ⟨F, dx, dy, d, eF, vx, vy, hf, q⟩ := h
  cases dy with
  | list xs =>
    replace hf : (if isDict dx then none else if shal dx (.list xs) = true then some (xs.any fun y => PyData.eqv y dx) else none) = some d := hf
    split at hf
    · cases hf
    · rename_i hn
      rw [Bool.not_eq_true] at hn
      split at hf
      · rename_i hs
        cases hf
        have h1 := vx.dp eF hn
        have h2 := vy.dp eF rfl
        obtain ⟨as, r1⟩ := Dp.reads I dx x v (Dq.dp _ _ h1) rx
        obtain ⟨bs, r2⟩ := Dp.reads I _ y u (Dq.dp _ _ h2) ry
        refine SeqAt.in_list_data r2 r1 (dq_plain _ _ h2) (dq_plain _ _ h1) ?_ ⟨.bl _, H, I, rfl, q⟩
        have := shal_depth hs
        have e : (PyData.list xs).depth = PyData.depthAll xs + 1 := rfl
        omega
      · cases hf
  | tuple xs =>
    replace hf : (if isDict dx then none else if shal dx (.tuple xs) = true then some (xs.any fun y => PyData.eqv y dx) else none) = some d := hf
    split at hf
    · cases hf
    · rename_i hn
      rw [Bool.not_eq_true] at hn
      split at hf
      · rename_i hs
        cases hf
        have h1 := vx.dp eF hn
        have h2 := vy.dp eF rfl
        obtain ⟨as, r1⟩ := Dp.reads I dx x v (Dq.dp _ _ h1) rx
        obtain ⟨bs, r2⟩ := Dp.reads I _ y u (Dq.dp _ _ h2) ry
        refine SeqAt.in_tuple_data r2 r1 (dq_plain _ _ h2) (dq_plain _ _ h1) ?_ ⟨.bl _, H, I, rfl, q⟩
        have := shal_depth hs
        have e : (PyData.tuple xs).depth = PyData.depthAll xs + 1 := rfl
        omega
      · cases hf
  | str z =>
    cases dx with
    | str w =>
      cases hf
      have ex := vx.str
      subst ex
      unfold strIn at q
      split at q
      · rename_i c hc
        have ew : w = ⟨#[c]⟩ := by
          obtain ⟨⟨l⟩⟩ := w
          have : l = [c] := hc
          subst this
          rfl
        subst ew
        exact op_in_sign pins s σ H _ _ v u Q I rx ry ⟨c, z, rfl, vy.str, q⟩
      · exact op_in_str pins s σ H _ _ v u Q I rx ry ⟨w, z, rfl, vy.str, q⟩
    | _ => cases hf
  | _ => cases dx <;> cases hf
theorem o_notin_any (hu : X.A.units + 64 < cLine) : OpR X (compareOp .NotIn) (r2b X.K notInO) := by
  intro pins s σ H x y v u Q I rx ry h
  obtain ⟨F, dx, dy, d, eF, vx, vy, hf, q⟩ := h
  obtain ⟨b, hb, rfl⟩ := Option.map_eq_some_iff.mp hf
  cases dy with
  | list xs =>
    replace hb : (if isDict dx then none else if shal dx (.list xs) = true then some (xs.any fun y => PyData.eqv y dx) else none) = some b := hb
    split at hb
    · cases hb
    · rename_i hn
      rw [Bool.not_eq_true] at hn
      split at hb
      · rename_i hs
        cases hb
        have h1 := vx.dp eF hn
        have h2 := vy.dp eF rfl
        obtain ⟨as, r1⟩ := Dp.reads I dx x v (Dq.dp _ _ h1) rx
        obtain ⟨bs, r2⟩ := Dp.reads I _ y u (Dq.dp _ _ h2) ry
        refine SeqAt.notIn_list_data r2 r1 (dq_plain _ _ h2) (dq_plain _ _ h1) ?_ ⟨.bl _, H, I, rfl, q⟩
        have := shal_depth hs
        have e : (PyData.list xs).depth = PyData.depthAll xs + 1 := rfl
        omega
      · cases hb
  | tuple xs =>
    replace hb : (if isDict dx then none else if shal dx (.tuple xs) = true then some (xs.any fun y => PyData.eqv y dx) else none) = some b := hb
    split at hb
    · cases hb
    · rename_i hn
      rw [Bool.not_eq_true] at hn
      split at hb
      · rename_i hs
        cases hb
        have h1 := vx.dp eF hn
        have h2 := vy.dp eF rfl
        obtain ⟨as, r1⟩ := Dp.reads I dx x v (Dq.dp _ _ h1) rx
        obtain ⟨bs, r2⟩ := Dp.reads I _ y u (Dq.dp _ _ h2) ry
        refine SeqAt.notIn_tuple_data r2 r1 (dq_plain _ _ h2) (dq_plain _ _ h1) ?_ ⟨.bl _, H, I, rfl, q⟩
        have := shal_depth hs
        have e : (PyData.tuple xs).depth = PyData.depthAll xs + 1 := rfl
        omega
      · cases hb
  | str z =>
    cases dx with
    | str w =>
      cases hb
      have ex := vx.str
      subst ex
      unfold strIn at q
      split at q
      · rename_i c hc
        have ew : w = ⟨#[c]⟩ := by
          obtain ⟨⟨l⟩⟩ := w
          have : l = [c] := hc
          subst this
          rfl
        subst ew
        exact op_notIn_sign pins s σ H _ _ v u Q I rx ry ⟨c, z, rfl, vy.str, q⟩
      · exact op_notIn_str pins s σ H _ _ v u Q I rx ry ⟨w, z, rfl, vy.str, q⟩
    | _ => cases hb
  | _ => cases dx <;> cases hb

/-! ### places, slices -/
theorem atI_dq {K : PySem.W.Frag} {F : Hp} {vs : List V} {ds : List D} {i : Int} {d : D} (h : DqAll K F vs ds) (e : atI ds i = some d) : ∃ v, atI vs i = some v ∧ Dq K F v d := by
  unfold atI at e ⊢
  rw [h.len]
  cases q : ixN ds.length i with
  | none => rw [q] at e; cases e
  | some j => rw [q] at e; exact h.get2 e
theorem o_ix : IxR X (r2 X.K (rDp X.K) ixO) := by
  intro value slice pins s σ H x y v u Q I rx ry h hsub
  obtain ⟨F, dx, dy, d, eF, vx, vy, hf, q⟩ := h
  cases dx <;> cases dy <;> try (cases hf; done)
  · rename_i z i
    replace hf : (if z.length ≤ LIM then (atI z.cps.toList i).map (fun c => PyData.str ⟨#[c]⟩) else none) = some d := hf
    split at hf
    · rename_i hl
      obtain ⟨c, hc, rfl⟩ := Option.map_eq_some_iff.mp hf
      exact ix_str value slice pins s σ H _ _ v u Q I rx ry ⟨z, i, c, vx.str, vy.int, lim_le hl, hc, q _ F H (.refl eF) (.str _)⟩ hsub
    · cases hf
  · rename_i xs i
    obtain ⟨a, vs, rfl, s1, d1⟩ := vx.lst eF
    obtain ⟨w, hw, dw⟩ := atI_dq d1 (show atI xs i = some d from hf)
    exact ix_list value slice pins s σ H _ _ v u Q I rx ry ⟨a, vs, i, w, rfl, vy.int, SqL.of s1, hw, q _ F H (.refl eF) dw⟩ hsub
  · rename_i xs i
    obtain ⟨a, vs, rfl, s1, _, d1⟩ := vx.tup eF
    obtain ⟨w, hw, dw⟩ := atI_dq d1 (show atI xs i = some d from hf)
    exact ix_tup value slice pins s σ H _ _ v u Q I rx ry ⟨a, vs, i, w, rfl, vy.int, s1, hw, q _ F H (.refl eF) dw⟩ hsub
theorem cut_dq {K : PySem.W.Frag} {F : Hp} {vs : List V} {ds : List D} {lo hi : Option Int} (h : DqAll K F vs ds) : DqAll K F (cutV vs lo hi) (cutL ds lo hi) := by
  unfold cutV cutL
  rw [h.len]
  exact (h.drop _).take _
theorem o_cutL : SlR X (rSl X.K (rNew X.K (.lst .dat)) cutLO) := by
  intro pins s σ H x v vl vu lo hi sl Q I rx hs pl pu h
  obtain ⟨F, dx, d, eF, vx, hf, q⟩ := h
  cases dx <;> try (cases hf; done)
  cases hf
  obtain ⟨a, vs, rfl, s1, d1⟩ := vx.lst eF
  exact sl_list pins s σ H _ v vl vu lo hi sl Q I rx hs pl pu ⟨a, vs, rfl, SqL.of s1, fun p hp => q _ _ _ (.own eF hp) (new_lst eF hp (cut_dq d1))⟩
theorem o_cut : SlR X (rSl X.K (rDp X.K) cutO) := by
  intro pins s σ H x v vl vu lo hi sl Q I rx hs pl pu h
  obtain ⟨F, dx, d, eF, vx, hf, q⟩ := h
  cases dx <;> try (cases hf; done)
  · rename_i z
    replace hf : (if z.length ≤ LIM then some (PyData.str (cutS z lo hi)) else none) = some d := hf
    split at hf
    · rename_i hl
      cases hf
      exact sl_str pins s σ H _ v vl vu lo hi sl Q I rx hs pl pu ⟨z, vx.str, lim_le hl, q _ F H (.refl eF) (.str _)⟩
    · cases hf
  · cases hf
    obtain ⟨a, vs, rfl, s1, d1⟩ := vx.lst eF
    refine sl_list pins s σ H _ v vl vu lo hi sl Q I rx hs pl pu ⟨a, vs, rfl, SqL.of s1, fun p hp => ?_⟩
    obtain ⟨g, dq⟩ := frz_new (K := X.K) eF hp (cut_dq (lo := lo) (hi := hi) d1)
    exact q _ _ _ g dq
  · rename_i xs
    cases hf
    obtain ⟨a, vs, rfl, s1, f1, d1⟩ := vx.tup eF
    refine sl_tupA pins s σ H _ v vl vu lo hi sl Q I rx hs pl pu ⟨a, vs, rfl, s1, fun hw => ?_, fun hw p hp => ?_⟩
    · rw [d1.len] at hw
      have e : cutL xs lo hi = xs := by
        unfold cutL
        rw [hw.1, hw.2]
        simp
      rw [e] at q
      exact q _ F H (.refl eF) (.tup f1 d1)
    · obtain ⟨g, dq⟩ := frz_tup (K := X.K) eF hp (cut_dq (lo := lo) (hi := hi) d1)
      exact q _ _ _ g dq
/-! ### len, list, tuple, str, int -/
theorem vws1 {K : PySem.W.Frag} {F H : Hp} {xs : List V} {d : D} (h : VwAll K F H xs [d]) : ∃ x, xs = [x] ∧ Vw K F H x d := by
  cases h with
  | cons a t => cases t; exact ⟨_, rfl, a⟩
theorem vws2 {K : PySem.W.Frag} {F H : Hp} {xs : List V} {d e : D} (h : VwAll K F H xs [d, e]) : ∃ x y, xs = [x, y] ∧ Vw K F H x d ∧ Vw K F H y e := by
  cases h with
  | cons a t => obtain ⟨y, rfl, b⟩ := vws1 t; exact ⟨_, _, rfl, a, b⟩
theorem o_len : CallR X (.builtin "len") (rN X.K (rDp X.K) lenO) := by
  intro pins s σ H xs us Q I r h
  obtain ⟨F, ds, d, eF, vs, hf, q⟩ := h
  match ds, hf with
  | [.list ys], hf =>
    cases hf
    obtain ⟨x, rfl, vx⟩ := vws1 vs
    obtain ⟨a, ws, rfl, s1, d1⟩ := vx.lst eF
    refine call_len_seq pins s σ H _ us Q I r ⟨a, ws, rfl, .inl (SqL.of s1), ?_⟩
    rw [d1.len]
    exact q _ F H (.refl eF) (.int _)
  | [.tuple ys], hf =>
    cases hf
    obtain ⟨x, rfl, vx⟩ := vws1 vs
    obtain ⟨a, ws, rfl, s1, _, d1⟩ := vx.tup eF
    refine call_len_seq pins s σ H _ us Q I r ⟨a, ws, rfl, .inr s1, ?_⟩
    rw [d1.len]
    exact q _ F H (.refl eF) (.int _)
  | [.str z], hf =>
    replace hf : (if z.length ≤ LIM then some (PyData.int z.length) else none) = some d := hf
    split at hf
    · rename_i hl
      cases hf
      obtain ⟨x, rfl, vx⟩ := vws1 vs
      have e := vx.str
      subst e
      exact call_len_str pins s σ H _ us Q I r ⟨z, rfl, lim_le hl, q _ F H (.refl eF) (.int _)⟩
    · cases hf
def listO : List D → Option D
  | [.list xs] => some (.list xs)
  | [.tuple xs] => some (.list xs)
  | _ => none
theorem o_list : CallR X (.type "list") (rN X.K (rNew X.K (.lst .dat)) listO) := by
  intro pins s σ H xs us Q I r h
  obtain ⟨F, ds, d, eF, vs, hf, q⟩ := h
  match ds, hf with
  | [.list ys], hf =>
    cases hf
    obtain ⟨x, rfl, vx⟩ := vws1 vs
    obtain ⟨a, ws, rfl, s1, d1⟩ := vx.lst eF
    exact call_list_of pins s σ H _ us Q I r ⟨a, ws, rfl, .inl (SqL.of s1), fun p hp => q _ _ _ (.own eF hp) (new_lst eF hp d1)⟩
  | [.tuple ys], hf =>
    cases hf
    obtain ⟨x, rfl, vx⟩ := vws1 vs
    obtain ⟨a, ws, rfl, s1, _, d1⟩ := vx.tup eF
    exact call_list_of pins s σ H _ us Q I r ⟨a, ws, rfl, .inr s1, fun p hp => q _ _ _ (.own eF hp) (new_lst eF hp d1)⟩
def tupleO : List D → Option D
  | [.list xs] => some (.tuple xs)
  | [.tuple xs] => some (.tuple xs)
  | _ => none
theorem o_tuple : CallR X (.type "tuple") (rN X.K (rDp X.K) tupleO) := by
  intro pins s σ H xs us Q I r h
  obtain ⟨F, ds, d, eF, vs, hf, q⟩ := h
  match ds, hf with
  | [.list ys], hf =>
    cases hf
    obtain ⟨x, rfl, vx⟩ := vws1 vs
    obtain ⟨a, ws, rfl, s1, d1⟩ := vx.lst eF
    refine call_tuple_of pins s σ H _ us Q I r ⟨a, ws, rfl, .inl ⟨SqL.of s1, fun p hp => ?_⟩⟩
    obtain ⟨g, dq⟩ := frz_tup (K := X.K) eF hp d1
    exact q _ _ _ g dq
  | [.tuple ys], hf =>
    cases hf
    obtain ⟨x, rfl, vx⟩ := vws1 vs
    obtain ⟨a, ws, rfl, s1, f1, d1⟩ := vx.tup eF
    exact call_tuple_of pins s σ H _ us Q I r ⟨a, ws, rfl, .inr ⟨s1, q _ F H (.refl eF) (.tup f1 d1)⟩⟩
def intO : List D → Option D
  | [.int i] => some (.int i)
  | [.bool b] => some (.int (if b then 1 else 0))
  | [.str z] => if z.length ≤ 640 then (PySem.intText? z).map .int else none
  | _ => none
theorem o_int : CallR X (.type "int") (rN X.K (rDp X.K) intO) := by
  intro pins s σ H xs us Q I r h
  obtain ⟨F, ds, d, eF, vs, hf, q⟩ := h
  match ds, hf with
  | [.int i], hf =>
    cases hf
    obtain ⟨x, rfl, vx⟩ := vws1 vs
    have e := vx.int
    subst e
    exact call_int1 pins s σ H _ us Q I r (.inl ⟨i, rfl, q _ F H (.refl eF) (.int _)⟩)
  | [.bool b], hf =>
    cases hf
    obtain ⟨x, rfl, vx⟩ := vws1 vs
    have e := vx.bl
    subst e
    exact call_int1 pins s σ H _ us Q I r (.inr ⟨b, rfl, q _ F H (.refl eF) (.int _)⟩)
  | [.str z], hf =>
    replace hf : (if z.length ≤ 640 then (PySem.intText? z).map PyData.int else none) = some d := hf
    split at hf
    · rename_i hl
      obtain ⟨n, hn, rfl⟩ := Option.map_eq_some_iff.mp hf
      obtain ⟨x, rfl, vx⟩ := vws1 vs
      have e := vx.str
      subst e
      exact call_int_str pins s σ H _ us Q I r ⟨z, n, rfl, hn, hl, q _ F H (.refl eF) (.int _)⟩
    · cases hf
def strO : List D → Option D
  | [.int i] => if i.natAbs.log2 < 1920 then some (.str (toString i)) else none
  | _ => none
theorem o_str : CallR X (.type "str") (rN X.K (rDp X.K) strO) := by
  intro pins s σ H xs us Q I r h
  obtain ⟨F, ds, d, eF, vs, hf, q⟩ := h
  match ds, hf with
  | [.int i], hf =>
    replace hf : (if i.natAbs.log2 < 1920 then some (PyData.str (toString i)) else none) = some d := hf
    split at hf
    · rename_i hl
      cases hf
      obtain ⟨x, rfl, vx⟩ := vws1 vs
      have e := vx.int
      subst e
      exact call_str_int pins s σ H _ us Q I r ⟨i, rfl, hl, q _ F H (.refl eF) (.str _)⟩
    · cases hf
def max2O : List D → Option D
  | [.int i, .int j] => some (.int (if j > i then j else i))
  | _ => none
def min2O : List D → Option D
  | [.int i, .int j] => some (.int (if j < i then j else i))
  | _ => none
theorem o_max2 (hc : X.calm = true) : CallR X (.builtin "max") (rN X.K (rDp X.K) max2O) := by
  intro pins s σ H xs us Q I r h
  obtain ⟨F, ds, d, eF, vs, hf, q⟩ := h
  match ds, hf with
  | [.int i, .int j], hf =>
    cases hf
    obtain ⟨x, y, rfl, vx, vy⟩ := vws2 vs
    have e := vx.int
    subst e
    have e := vy.int
    subst e
    exact call_max2 hc pins s σ H _ us Q I r ⟨i, j, rfl, q _ F H (.refl eF) (.int _)⟩
theorem o_min2 (hc : X.calm = true) : CallR X (.builtin "min") (rN X.K (rDp X.K) min2O) := by
  intro pins s σ H xs us Q I r h
  obtain ⟨F, ds, d, eF, vs, hf, q⟩ := h
  match ds, hf with
  | [.int i, .int j], hf =>
    cases hf
    obtain ⟨x, y, rfl, vx, vy⟩ := vws2 vs
    have e := vx.int
    subst e
    have e := vy.int
    subst e
    exact call_min2 hc pins s σ H _ us Q I r ⟨i, j, rfl, q _ F H (.refl eF) (.int _)⟩
end
end Pc

set_option maxRecDepth 100000
set_option maxHeartbeats 1000000
namespace Pc
open PySem L2
open Evl (Ex)
/-! ### statements -/
inductive Fl where
  | nx (ρ : En)
  | rt (d : D) (ρ : En)
  | ct (ρ : En)
  | ex (c : Str) (ρ : En)
  | stuck
/-- where a def's body stands: the shapes of what is handed in and out (io), of a loop's turns, which shapes may stand at a raise, what is wanted of an exception -/
structure Ct where
  K : PySem.W.Frag
  Dx : Nat → Sh
  io : Nat → Bool
  W : WX
  Dl : Nat → Sh
  okE : (Nat → Sh) → Prop
  rv : Hp → V → D → Prop
def mask (io : Nat → Bool) (ρ : En) : En := ρ.mapIdx fun i o => if io i = true then o else none
theorem mask_get {io : Nat → Bool} {ρ : En} {i : Nat} {d : D} (h : (mask io ρ)[i]? = some (some d)) : io i = true ∧ ρ[i]? = some (some d) := by
  unfold mask at h
  rw [List.getElem?_mapIdx] at h
  cases e : ρ[i]? with
  | none => rw [e] at h; cases h
  | some o =>
    rw [e] at h
    simp only [Option.map_some, Option.some.injEq] at h
    split at h
    · rename_i hi; exact ⟨hi, by rw [h]⟩
    · cases h
theorem mask_len (io : Nat → Bool) (ρ : En) : (mask io ρ).length = ρ.length := by unfold mask; rw [List.length_mapIdx]
structure EnvS (C : Ct) (Δ : Nat → Sh) (F0 B F H : Hp) (σ : St) (ρ : En) : Prop where
  e : EnvOk C.K Δ F0 B F H σ ρ
  sh : ∀ i, C.io i = true → Δ i = C.Dx i
  ok : C.okE Δ
theorem EnvOk.mask {K : PySem.W.Frag} {Δ Δ' : Nat → Sh} {F0 B F H : Hp} {σ : St} {ρ : En} {io : Nat → Bool} (E : EnvOk K Δ F0 B F H σ ρ) (hs : ∀ i, io i = true → Δ i = Δ' i) : EnvOk K Δ' F0 B F H σ (mask io ρ) := by
  obtain ⟨len, e0, eF, eB, lim, φ, h1, h2, h3, h4⟩ := E
  refine ⟨by rw [mask_len]; exact len, e0, eF, eB, lim, φ, fun i d hd => ?_, h2, h3, h4⟩
  obtain ⟨hi, hd⟩ := mask_get hd
  obtain ⟨v, e, o⟩ := h1 i d hd
  exact ⟨v, e, hs i hi ▸ o⟩
theorem EnvS.mask {C : Ct} {Δ : Nat → Sh} {F0 B F H : Hp} {σ : St} {ρ : En} (E : EnvS C Δ F0 B F H σ ρ) : EnvOk C.K C.Dx F0 B F H σ (mask C.io ρ) := E.e.mask E.sh
theorem EnvS.gw {C : Ct} {Δ : Nat → Sh} {F0 B F H F' H' : Hp} {σ : St} {ρ : En} (E : EnvS C Δ F0 B F H σ ρ) (g : Gw F H F' H') : EnvS C Δ F0 B F' H' σ ρ := ⟨E.e.gw g, E.sh, E.ok⟩

/-- the frozen part as it stands now is where one begins -/
theorem EnvOk.base {K : PySem.W.Frag} {Δ : Nat → Sh} {F0 B F H : Hp} {σ : St} {ρ : En} (E : EnvOk K Δ F0 B F H σ ρ) : EnvOk K Δ F B F H σ ρ := ⟨E.len, Ex.refl _, E.eF, E.eB, fun _ h _ => h, E.own⟩
theorem EnvOk.down {K : PySem.W.Frag} {Δ : Nat → Sh} {F0 F1 B F H : Hp} {σ : St} {ρ : En} (E : EnvOk K Δ F1 B F H σ ρ) (e : Ex F0 F1) (l : ∀ a, F0 a = none → B a ≠ none → F1 a = none) : EnvOk K Δ F0 B F H σ ρ :=
  ⟨E.len, e.trans E.e0, E.eF, E.eB, fun a h1 h2 => E.lim a (l a h1 h2) h2, E.own⟩
theorem EnvS.base {C : Ct} {Δ : Nat → Sh} {F0 B F H : Hp} {σ : St} {ρ : En} (E : EnvS C Δ F0 B F H σ ρ) : EnvS C Δ F B F H σ ρ := ⟨E.e.base, E.sh, E.ok⟩
def PostS (C : Ct) (Δ : Nat → Sh) (F0 B : Hp) (D : Ends) : Fl → Prop
  | .nx ρ => ∀ σ F H, EnvS C Δ F0 B F H σ ρ → D.nx σ H
  | .rt d ρ => ∀ v σ F H, EnvOk C.K C.Dx F0 B F H σ (mask C.io ρ) → C.rv F v d → D.rt v H
  | .ct ρ => ∀ σ F H, EnvS C C.Dl F0 B F H σ ρ → D.ct σ H
  | .ex c ρ => ∀ Δe σ F H, EnvS C Δe F0 B F H σ ρ → C.W (.ref (He.ga C.K c)) none σ H
  | .stuck => False
theorem PostS.up {C : Ct} {Δ : Nat → Sh} {F0 F1 B : Hp} {D : Ends} {m : Fl} (p : PostS C Δ F0 B D m) (e : Ex F0 F1) (l : ∀ a, F0 a = none → B a ≠ none → F1 a = none) : PostS C Δ F1 B D m := by
  cases m with
  | nx ρ => exact fun σ F H E => p σ F H ⟨E.e.down e l, E.sh, E.ok⟩
  | rt d ρ => exact fun v σ F H E q => p v σ F H (E.down e l) q
  | ct ρ => exact fun σ F H E => p σ F H ⟨E.e.down e l, E.sh, E.ok⟩
  | ex c ρ => exact fun Δe σ F H E => p Δe σ F H ⟨E.e.down e l, E.sh, E.ok⟩
  | stuck => exact p
def tS (C : Ct) (Δ Δ' : Nat → Sh) (m : En → Fl) : TS := fun D σ H => ∃ F0 B F ρ, EnvS C Δ F0 B F H σ ρ ∧ PostS C Δ' F0 B D (m ρ)
def liftP {α : Type} (m : P α) (ρ : En) (k : α → Fl) : Fl := match m with
  | .ok a => k a
  | .exc c => .ex c ρ
  | .stuck => .stuck
@[simp] theorem liftP_ok {α : Type} (a : α) (ρ : En) (k : α → Fl) : liftP (.ok a) ρ k = k a := rfl
@[simp] theorem liftP_exc {α : Type} (c : Str) (ρ : En) (k : α → Fl) : liftP (.exc c : P α) ρ k = .ex c ρ := rfl
@[simp] theorem liftP_stuck {α : Type} (ρ : En) (k : α → Fl) : liftP (.stuck : P α) ρ k = .stuck := rfl
def seqM (m1 m2 : En → Fl) : En → Fl := fun ρ => match m1 ρ with
  | .nx ρ' => m2 ρ'
  | .rt d ρ' => .rt d ρ'
  | .ct ρ' => .ct ρ'
  | .ex c ρ' => .ex c ρ'
  | .stuck => .stuck

/-- an expression, then what follows -/
theorem stepS {α β : Type} {C : Ct} {Δ Δ' : Nat → Sh} {r : Rs β α} {m : En → P α} {k : α → Fl} {F0 B F H : Hp} {σ : St} {ρ : En} {D : Ends} {Q1 : β → Hp → Prop} (E : EnvS C Δ F0 B F H σ ρ) (p : PostS C Δ' F0 B D (liftP (m ρ) ρ k))
    (h : ∀ d v F1 H1, Gw F H F1 H1 → r.r H F1 H1 v d → EnvS C Δ F0 B F1 H1 σ ρ → PostS C Δ' F0 B D (k d) → Q1 v H1) : tG C.K Δ C.W r m σ H Q1 := by
  refine ⟨F0, B, F, ρ, E.e, ?_⟩
  cases e : m ρ with
  | ok d => rw [e] at p; exact fun v F1 H1 g q => h d v F1 H1 g q (E.gw g) p
  | exc c => rw [e] at p; exact fun F1 H1 g => p Δ σ F1 H1 (E.gw g)
  | stuck => rw [e] at p; exact p
section
variable {X : Cx} {C : Ct} {Δ Δ1 Δ' : Nat → Sh} {e a b c : Expr} {pos : Pos} {m ma mb : En → P D} {m1 m2 : En → Fl} {st : Stmt} {rest body body2 : List Stmt} {tc : En → P Bool}
theorem ss_nil : PSs X [] (tS C Δ Δ .nx) := pss_mono pss_nil fun D σ H ⟨F0, B, F, ρ, E, p⟩ => p σ F H E
theorem ss_cons (h1 : PS X st (tS C Δ Δ1 m1)) (h2 : PSs X rest (tS C Δ1 Δ' m2)) : PSs X (st :: rest) (tS C Δ Δ' (seqM m1 m2)) := by
  refine pss_mono (pss_cons h1 h2) fun D σ H h => ?_
  obtain ⟨F0, B, F, ρ, E, p⟩ := h
  refine ⟨F0, B, F, ρ, E, ?_⟩
  replace p : PostS C Δ' F0 B D (seqM m1 m2 ρ) := p
  unfold seqM at p
  cases e : m1 ρ with
  | nx ρ' => rw [e] at p; exact fun σ' F' H' E' => ⟨F0, B, F', ρ', E', p⟩
  | rt d ρ' => rw [e] at p; exact p
  | ct ρ' => rw [e] at p; exact p
  | ex c ρ' => rw [e] at p; exact p
  | stuck => rw [e] at p; exact p
theorem ss_one (h1 : PS X st (tS C Δ Δ' m1)) : PSs X [st] (tS C Δ Δ' m1) := pss_one h1
/-- x = e, data -/
theorem ss_set {i : Nat} {x : Str} {pos' : Pos} (hK : C.K = X.K) (he : PE X e (tG C.K Δ C.W (rDp C.K) m)) (hN : X.N.Nodup) (hd : Δ i = .dat := by rfl) (hi : X.N[i]? = some x := by rfl) (hx : Loc X.env.scope x := by first | exact Or.inl rfl | exact Or.inr rfl)
    (hs : swapsWith e (some (.Name x pos')) pos.line X.env = pure false := by rfl) (hf : X.fn x = true ∨ X.env.scope.names.lookup x = some .local := by first | exact .inl rfl | exact .inr rfl | assumption) :
    PS X (.Assign [.Name x pos'] e pos) (tS C Δ Δ (fun ρ => liftP (m ρ) ρ fun d => .nx (ρ.set i (some d)))) := by
  refine ps_mono (ps_set hN hi hx he hs hf) fun D σ H h => ?_
  obtain ⟨F0, B, F, ρ, E, p⟩ := h
  exact stepS (r := rDp C.K) E p fun d v F1 H1 g q E1 p1 => p1 _ F1 H1 ⟨E1.e.setDat hd q, E1.sh, E1.ok⟩
theorem ss_expr (he : PE X e (tG C.K Δ C.W (rVw C.K) m)) (hs : swapsWith e none pos.line X.env = pure false := by rfl) : PS X (.Expr e pos) (tS C Δ Δ (fun ρ => liftP (m ρ) ρ fun _ => .nx ρ)) := by
  refine ps_mono (ps_expr he hs) fun D σ H h => ?_
  obtain ⟨F0, B, F, ρ, E, p⟩ := h
  exact stepS (r := rVw C.K) E p fun d v F1 H1 g q E1 p1 => p1 _ F1 H1 E1
theorem ss_pass : PS X (.Pass pos) (tS C Δ Δ .nx) := ps_mono ps_pass fun D σ H ⟨F0, B, F, ρ, E, p⟩ => p σ F H E
theorem ss_cont : PS X (.Continue pos) (tS C C.Dl Δ' .ct) := ps_mono ps_continue fun D σ H ⟨F0, B, F, ρ, E, p⟩ => p σ F H E
theorem ss_ret (he : PE X e (tG C.K Δ C.W (rDp C.K) m)) (hr : ∀ F v d, Dq C.K F v d → C.rv F v d := by first | exact fun _ _ _ h => h | exact fun _ _ _ _ => trivial) : PS X (.Return (some e) pos) (tS C Δ Δ' (fun ρ => liftP (m ρ) ρ fun d => .rt d ρ)) := by
  refine ps_mono (ps_ret he) fun D σ H h => ?_
  obtain ⟨F0, B, F, ρ, E, p⟩ := h
  exact stepS (r := rDp C.K) E p fun d v F1 H1 g q E1 p1 => p1 v σ F1 H1 E1.mask (hr _ _ _ q)
theorem ss_retV {r : Rs V D} (he : PE X e (tG C.K Δ C.W r m)) (hr : ∀ F v d, C.rv F v d := by exact fun _ _ _ => trivial) : PS X (.Return (some e) pos) (tS C Δ Δ' (fun ρ => liftP (m ρ) ρ fun d => .rt d ρ)) := by
  refine ps_mono (ps_ret he) fun D σ H h => ?_
  obtain ⟨F0, B, F, ρ, E, p⟩ := h
  exact stepS (r := r) E p fun d v F1 H1 g q E1 p1 => p1 v σ F1 H1 E1.mask (hr _ _ _)
def ifS (tc : En → P Bool) (m1 m2 : En → Fl) : En → Fl := fun ρ => liftP (tc ρ) ρ fun t => if t = true then m1 ρ else m2 ρ
theorem ss_if (hc : PT X c (tG C.K Δ C.W rBl tc)) (ha : PSs X body (tS C Δ Δ' m1)) (hb : PSs X body2 (tS C Δ Δ' m2)) : PS X (.If c body body2 pos) (tS C Δ Δ' (ifS tc m1 m2)) := by
  refine ps_mono (ps_if hc ha hb) fun D σ H h => ?_
  obtain ⟨F0, B, F, ρ, E, p⟩ := h
  refine stepS (r := rBl) E p fun t v F1 H1 g q E1 p1 => ?_
  cases q
  cases t with
  | true => exact ⟨F0, B, F1, ρ, E1, p1⟩
  | false => exact ⟨F0, B, F1, ρ, E1, p1⟩

/-! ### targets -/
/-- all but some slots are as they were -/
def SameS (vs : List Nat) (σ σ' : St) : Prop := σ'.length = σ.length ∧ ∀ j, j ∉ vs → σ'[j]? = σ[j]?
theorem SameS.refl (vs : List Nat) (σ : St) : SameS vs σ σ := ⟨rfl, fun _ _ => rfl⟩
theorem SameS.set {vs : List Nat} {σ : St} {i : Nat} {o : Option V} (h : i ∈ vs) : SameS vs σ (σ.set i o) := ⟨List.length_set, fun j hj => List.getElem?_set_ne (fun (z : i = j) => hj (z ▸ h))⟩
theorem SameS.trans {vs : List Nat} {σ σ1 σ2 : St} (a : SameS vs σ σ1) (b : SameS vs σ1 σ2) : SameS vs σ σ2 := ⟨b.1.trans a.1, fun j hj => (b.2 j hj).trans (a.2 j hj)⟩
def tB (K : PySem.W.Frag) (Δ : Nat → Sh) (vs : List Nat) (b : D → En → Option En) : TG := fun v σ H Q => ∃ F0 B F ρ d ρ', EnvOk K Δ F0 B F H σ ρ ∧ Dq K F v d ∧ b d ρ = some ρ' ∧ ∀ σ', SameS vs σ σ' → EnvOk K Δ F0 B F H σ' ρ' → Q σ' H
def tBs (K : PySem.W.Frag) (Δ : Nat → Sh) (vs : List Nat) (b : List D → En → Option En) : TGs := fun us σ H Q => ∃ F0 B F ρ ds ρ', EnvOk K Δ F0 B F H σ ρ ∧ DqAll K F us ds ∧ b ds ρ = some ρ' ∧ ∀ σ', SameS vs σ σ' → EnvOk K Δ F0 B F H σ' ρ' → Q σ' H
def bN (i : Nat) (d : D) (ρ : En) : Option En := some (ρ.set i (some d))
def bNil : List D → En → Option En
  | [], ρ => some ρ
  | _ :: _, _ => none
def bCons (b : D → En → Option En) (bs : List D → En → Option En) : List D → En → Option En
  | [], _ => none
  | d :: ds, ρ => (b d ρ).bind (bs ds)
def bT (n : Nat) (bs : List D → En → Option En) : D → En → Option En
  | .tuple ds, ρ => if ds.length = n then bs ds ρ else none
  | _, _ => none
theorem pg_mono {t t' : TG} (h : PG X e t) (i : ∀ v σ H Q, t' v σ H Q → t v σ H Q) : PG X e t' := ⟨fun pins s σ H v u Q I r q => h.run pins s σ H v u Q I r (i v σ H Q q)⟩
theorem pgs_mono {es : List Expr} {t t' : TGs} (h : PGs X es t) (i : ∀ v σ H Q, t' v σ H Q → t v σ H Q) : PGs X es t' := ⟨fun pins s σ H v u Q I r q => h.run pins s σ H v u Q I r (i v σ H Q q)⟩
theorem dg_name {K : PySem.W.Frag} {vs : List Nat} {i : Nat} {x : Str} (hv : i ∈ vs) (hN : X.N.Nodup) (hd : Δ i = .dat := by rfl) (hi : X.N[i]? = some x := by rfl) (hx : Loc X.env.scope x := by first | exact Or.inl rfl | exact Or.inr rfl) (hf : X.fn x = true ∨ X.env.scope.names.lookup x = some .local := by first | exact .inl rfl | exact .inr rfl | assumption) :
    PG X (.Name x pos) (tB K Δ vs (bN i)) := pg_mono (pg_name hN hi hx hf) fun v σ H Q ⟨F0, B, F, ρ, d, ρ', E, dq, e, q⟩ => by
  cases e
  exact q _ (.set hv) (E.setDat hd dq)
theorem dgs_nil {K : PySem.W.Frag} {vs : List Nat} : PGs X [] (tBs K Δ vs bNil) := pgs_mono pgs_nil fun v σ H Q ⟨F0, B, F, ρ, ds, ρ', E, dq, e, q⟩ => by
  cases dq with
  | nil => cases e; exact ⟨rfl, q _ (.refl _ _) E⟩
  | cons _ _ => cases e
theorem dgs_cons {K : PySem.W.Frag} {vs : List Nat} {es : List Expr} {b : D → En → Option En} {bs : List D → En → Option En} (h1 : PG X e (tB K Δ vs b)) (h2 : PGs X es (tBs K Δ vs bs)) (hs : (assignEach (e :: es) X.env).map (·.2) = assign e X.env :: (assignEach es X.env).map (·.2) := by rfl) :
    PGs X (e :: es) (tBs K Δ vs (bCons b bs)) := pgs_mono (pgs_cons h1 h2 hs) fun v σ H Q ⟨F0, B, F, ρ, ds, ρ', E, dq, e, q⟩ => by
  cases dq with
  | nil => cases e
  | @cons v us d ds a t =>
    obtain ⟨ρ1, e1, e2⟩ := Option.bind_eq_some_iff.mp e
    exact ⟨v, us, rfl, F0, B, F, ρ, d, ρ1, E, a, e1, fun σ1 S1 E1 => ⟨F0, B, F, ρ1, ds, ρ', E1, t, e2, fun σ2 S2 E2 => q σ2 (S1.trans S2) E2⟩⟩
theorem dg_tup {K : PySem.W.Frag} {vs : List Nat} {es : List Expr} {k : Nat} {n : Nat} {bs : List D → En → Option En} (hK : K = X.K) (hc : X.calm = true) (h : PGs X es (tBs K Δ vs bs)) (hn : (assignEach es X.env).length = n := by rfl) (hst : (assignEach es X.env).findIdx? (·.1) = none := by rfl) :
    PG X (.Tuple es k pos) (tB K Δ vs (bT n bs)) := pg_mono (pg_tup hc h hn hst) fun v σ H Q ⟨F0, B, F, ρ, d, ρ', E, dq, e, q⟩ => by
  subst hK
  cases d <;> try (cases e; done)
  rename_i ds
  cases dq with
  | @tup a xs _ s t =>
    replace e : (if ds.length = n then bs ds ρ else none) = some ρ' := e
    split at e
    · rename_i hl
      exact ⟨a, xs, rfl, Evl.ex_t E.eF s, by rw [t.len]; exact hl, F0, B, F, ρ, ds, ρ', E, t, e, q⟩
    · cases e
/-- target = e -/
def bindS (b : D → En → Option En) (d : D) (ρ : En) : Fl := match b d ρ with
  | some ρ' => .nx ρ'
  | none => .stuck
theorem ss_asg {tg : Expr} {vs : List Nat} {bd : D → En → Option En} (he : PE X e (tG C.K Δ C.W (rDp C.K) m)) (hg : PG X tg (tB C.K Δ vs bd)) (hs : swapsWithSole [tg] e pos.line X.env = pure false := by rfl) (hw : swappedStores [tg] e X.env = pure none := by rfl)
    (h1 : (assignEach [tg] X.env).map (·.2) = [assign tg X.env] := by rfl) : PS X (.Assign [tg] e pos) (tS C Δ Δ (fun ρ => liftP (m ρ) ρ fun d => bindS bd d ρ)) := by
  refine ps_mono (ps_asg he hg hs hw h1) fun D σ H h => ?_
  obtain ⟨F0, B, F, ρ, E, p⟩ := h
  refine stepS (r := rDp C.K) E p fun d v F1 H1 g q E1 p1 => ?_
  unfold bindS at p1
  cases e : bd d ρ with
  | none => rw [e] at p1; exact p1.elim
  | some ρ' => rw [e] at p1; exact ⟨F0, B, F1, ρ, d, ρ', E1.e, q, e, fun σ' _ E' => p1 σ' F1 H1 ⟨E', E1.sh, E1.ok⟩⟩
/-- a, b = e1, e2 -/
def par2 (i j : Nat) (ρ : En) : List D → Fl
  | [d, d'] => .nx ((ρ.set i (some d)).set j (some d'))
  | _ => .stuck
theorem ss_par {i j : Nat} {x y : Str} {px py pt : Pos} {kt k2 pt2} {ml : En → P (List D)} (ha : PA X [a, b] (tG C.K Δ C.W (rDpsN C.K 2) ml)) (hc : X.calm = true) (hN : X.N.Nodup) (hdi : Δ i = .dat := by rfl) (hdj : Δ j = .dat := by rfl) (hi : X.N[i]? = some x := by rfl) (hj : X.N[j]? = some y := by rfl) (hij : i ≠ j := by decide)
    (hx : X.env.scope.names.lookup x = some .local := by rfl) (hy : X.env.scope.names.lookup y = some .local := by rfl)
    (hw : swappedStores [.Tuple [.Name x px, .Name y py] kt pt] (.Tuple [a, b] k2 pt2) X.env = pure (some [x, y]) := by rfl)
    (hs : swapsWithSole [.Tuple [.Name x px, .Name y py] kt pt] (.Tuple [a, b] k2 pt2) pos.line X.env = pure false := by rfl) :
    PS X (.Assign [.Tuple [.Name x px, .Name y py] kt pt] (.Tuple [a, b] k2 pt2) pos) (tS C Δ Δ (fun ρ => liftP (ml ρ) ρ (par2 i j ρ))) := by
  refine ps_mono (ps_par hc hN hi hj hij hx hy ha hw hs) fun D σ H h => ?_
  obtain ⟨F0, B, F, ρ, E, p⟩ := h
  refine stepS (r := rDpsN C.K 2) E p fun ds vs F1 H1 g q E1 p1 => ?_
  obtain ⟨q1, q2⟩ := q
  cases q1 with
  | nil => cases q2
  | cons a1 t =>
    cases t with
    | nil => cases q2
    | cons a2 t =>
      cases t with
      | nil => exact ⟨_, _, rfl, p1 _ F1 H1 ⟨(E1.e.setDat hdi a1).setDat hdj a2, E1.sh, E1.ok⟩⟩
      | cons _ _ => cases q2

/-! ### loops -/
/-- within a loop's turn -/
abbrev Ct.lp (C : Ct) (Δ : Nat → Sh) : Ct := { C with Dl := Δ }
theorem EnvS.lp {C : Ct} {Δ Δl : Nat → Sh} {F0 B F H : Hp} {σ : St} {ρ : En} (E : EnvS C Δ F0 B F H σ ρ) : EnvS (C.lp Δl) Δ F0 B F H σ ρ := ⟨E.e, E.sh, E.ok⟩
theorem EnvS.unlp {C : Ct} {Δ Δl : Nat → Sh} {F0 B F H : Hp} {σ : St} {ρ : En} (E : EnvS (C.lp Δl) Δ F0 B F H σ ρ) : EnvS C Δ F0 B F H σ ρ := ⟨E.e, E.sh, E.ok⟩
def forL (bd : D → En → Option En) (body : En → Fl) : List D → En → Fl
  | [], ρ => .nx ρ
  | x :: xs, ρ => match bd x ρ with
    | none => .stuck
    | some ρ1 => match body ρ1 with
      | .nx ρ2 => forL bd body xs ρ2
      | .ct ρ2 => forL bd body xs ρ2
      | .rt d ρ2 => .rt d ρ2
      | .ex c ρ2 => .ex c ρ2
      | .stuck => .stuck
def asList : D → P (List D)
  | .list xs => .ok xs
  | .tuple xs => .ok xs
  | _ => .stuck
/-- a turn: the target, the body -/
theorem turn_ok {bd : D → En → Option En} {mb : En → Fl} {F0 B F H : Hp} {σ : St} {ρ : En} {D : Ends} {x : V} {d : PyData} {ds : List PyData} {N : St → Hp → Prop} {vs : List Nat} (E : EnvS C Δ F0 B F H σ ρ) (hx : Dq C.K F x d) (p : PostS C Δ F0 B D (forL bd mb (d :: ds) ρ))
    (n : ∀ σ F H ρ', EnvS C Δ F0 B F H σ ρ' → PostS C Δ F0 B D (forL bd mb ds ρ') → N σ H) : tB C.K Δ vs bd x σ H fun σ2 H2 => tS (C.lp Δ) Δ Δ mb { D with nx := N, ct := N, bk := D.nx } σ2 H2 := by
  unfold forL at p
  cases e : bd d ρ with
  | none => rw [e] at p; exact p.elim
  | some ρ1 =>
    rw [e] at p
    dsimp only at p
    refine ⟨F0, B, F, ρ, d, ρ1, E.e, hx, e, fun σ1 _ E1 => ⟨F0, B, F, ρ1, ⟨E1, E.sh, E.ok⟩, ?_⟩⟩
    cases e2 : mb ρ1 with
    | nx ρ2 => rw [e2] at p; exact fun σ' F' H' E' => n σ' F' H' ρ2 E'.unlp p
    | ct ρ2 => rw [e2] at p; exact fun σ' F' H' E' => n σ' F' H' ρ2 E'.unlp p
    | rt d ρ2 => rw [e2] at p; exact p
    | ex c ρ2 => rw [e2] at p; exact fun Δe σ' F' H' E' => p Δe σ' F' H' E'.unlp
    | stuck => rw [e2] at p; exact p
theorem drop_get {α : Type} {l : List α} {i : Nat} {x : α} (h : l[i]? = some x) : l.drop i = x :: l.drop (i + 1) := by
  obtain ⟨hi, e⟩ := List.getElem?_eq_some_iff.mp h
  rw [List.drop_eq_getElem_cons hi, e]
/-- for .. in a list -/
def forD (bd : D → En → Option En) (body : En → Fl) : D → En → Fl
  | .list xs, ρ => forL bd body xs ρ
  | _, _ => .stuck
def forT (bd : D → En → Option En) (body : En → Fl) : D → En → Fl
  | .tuple xs, ρ => forL bd body xs ρ
  | _, _ => .stuck
theorem ss_for {tg iter : Expr} {vs : List Nat} {bd : D → En → Option En} {mbody : En → Fl} (hK : C.K = X.K) (hp : PassesOwn (model X.prog X.w) X.A X.env X.xe) (hc : X.calm = true) (hi : PE X iter (tG C.K Δ C.W (rDp C.K) m)) (hg : PG X tg (tB C.K Δ vs bd)) (hb : PSs X body (tS (C.lp Δ) Δ Δ mbody))
    (hs : ∀ x, foldedSetIterable iter X.env x = pure x := by intro _; rfl) : PS X (.For tg iter body [] pos) (tS C Δ Δ (fun ρ => liftP (m ρ) ρ fun d => forD bd mbody d ρ)) := by
  refine ps_mono (ps_for hp hc (pi_list hi) hg hb hs) fun D σ H h => ?_
  obtain ⟨F0, B, F, ρ, E, p⟩ := h
  refine stepS (r := rDp C.K) E p fun d v F1 H1 g q E1 p1 => ?_
  cases d with
  | list ds =>
    replace p1 : PostS C Δ F0 B D (forL bd mbody ds ρ) := p1
    cases q with
    | @lst a xs _ s t =>
      refine ⟨a, rfl, ⟨xs, SqL.of (E1.e.eF _ _ s)⟩, for_list (K := X.K) (a := a) (xs := xs) (fun i σ' H' => ∃ F' ρ', EnvS C Δ F1 B F' H' σ' ρ' ∧ PostS C Δ F1 B D (forL bd mbody (ds.drop i) ρ')) ⟨F1, ρ, E1.base, p1.up E1.e.e0 E1.e.lim⟩ (fun i σ' H' _ ⟨F', ρ', E', _⟩ => SqL.of (E'.e.eF _ _ (E'.e.e0 _ _ s))) ?_ ?_⟩
      · rintro i x σ' H' hx ⟨F', ρ', E', p'⟩
        obtain ⟨d, hd, dq⟩ := t.get hx
        rw [drop_get hd] at p'
        exact turn_ok E' (dq.mn E'.e.e0) p' fun σ2 F2 H2 ρ2 E2 p2 => ⟨F2, ρ2, E2, p2⟩
      · rintro σ' H' ⟨F', ρ', E', p'⟩
        rw [t.len, List.drop_length] at p'
        exact p' σ' F' H' E'
  | _ => exact p1.elim
theorem ss_forT {tg iter : Expr} {vs : List Nat} {bd : D → En → Option En} {mbody : En → Fl} (hK : C.K = X.K) (hp : PassesOwn (model X.prog X.w) X.A X.env X.xe) (hc : X.calm = true) (hi : PE X iter (tG C.K Δ C.W (rDp C.K) m)) (hg : PG X tg (tB C.K Δ vs bd)) (hb : PSs X body (tS (C.lp Δ) Δ Δ mbody))
    (hs : ∀ x, foldedSetIterable iter X.env x = pure x := by intro _; rfl) : PS X (.For tg iter body [] pos) (tS C Δ Δ (fun ρ => liftP (m ρ) ρ fun d => forT bd mbody d ρ)) := by
  refine ps_mono (ps_for hp hc (pi_tup hi) hg hb hs) fun D σ H h => ?_
  obtain ⟨F0, B, F, ρ, E, p⟩ := h
  refine stepS (r := rDp C.K) E p fun d v F1 H1 g q E1 p1 => ?_
  cases d with
  | tuple ds =>
    replace p1 : PostS C Δ F0 B D (forL bd mbody ds ρ) := p1
    cases q with
    | @tup a xs _ s t =>
      rw [hK] at s
      refine ⟨a, rfl, ⟨xs, Evl.ex_t E1.e.eF s⟩, for_tup (K := X.K) (a := a) (xs := xs) (fun i σ' H' => ∃ F' ρ', EnvS C Δ F1 B F' H' σ' ρ' ∧ PostS C Δ F1 B D (forL bd mbody (ds.drop i) ρ')) ⟨F1, ρ, E1.base, p1.up E1.e.e0 E1.e.lim⟩ (fun i σ' H' _ ⟨F', ρ', E', _⟩ => Evl.ex_t E'.e.eF (Evl.ex_t E'.e.e0 s)) ?_ ?_⟩
      · rintro i x σ' H' hx ⟨F', ρ', E', p'⟩
        obtain ⟨d, hd, dq⟩ := t.get hx
        rw [drop_get hd] at p'
        exact turn_ok E' (dq.mn E'.e.e0) p' fun σ2 F2 H2 ρ2 E2 p2 => ⟨F2, ρ2, E2, p2⟩
      · rintro σ' H' ⟨F', ρ', E', p'⟩
        rw [t.len, List.drop_length] at p'
        exact p' σ' F' H' E'
  | _ => exact p1.elim
/-- 0, 1, .. below n -/
def intL (lo : Int) (n : Nat) : List D := (List.range n).map fun (k : Nat) => .int (lo + (k : Int))
theorem intL_get {lo : Int} {n i : Nat} (h : i < n) : (intL lo n)[i]? = some (.int (lo + (i : Int))) := by
  unfold intL
  rw [List.getElem?_map, List.getElem?_range h]
  rfl
theorem intL_len (lo : Int) (n : Nat) : (intL lo n).length = n := by unfold intL; simp
def rngOk (i : Int) : Bool := decide (-(2 ^ 62) ≤ i) && decide (i < 2 ^ 62)
def rng1 : List D → Option (List D)
  | [.int j] => if rngOk j = true then some (intL 0 j.toNat) else none
  | _ => none
def rng2 : List D → Option (List D)
  | [.int i, .int j] => if (rngOk i && rngOk j) = true then some (intL i (j - i).toNat) else none
  | _ => none
theorem rngOk_iff {i : Int} (h : rngOk i = true) : -(2 ^ 62) ≤ i ∧ i < 2 ^ 62 := by
  unfold rngOk at h
  rw [Bool.and_eq_true, decide_eq_true_eq, decide_eq_true_eq] at h
  exact h
theorem range_turns {vs : List Nat} {bd : D → En → Option En} {mbody : En → Fl} {F0 B F H : Hp} {σ : St} {ρ : En} {D : Ends} {lo : Int} {n : Nat} (E : EnvS C Δ F0 B F H σ ρ) (p : PostS C Δ F0 B D (forL bd mbody (intL lo n) ρ)) :
    ∃ W : Nat → Nat → St → Hp → Prop, (∃ m, W 0 m σ H) ∧ ∀ i m σ H, W i m σ H →
      ((Itr lo n).stop i H ∧ D.nx σ H) ∨ ((Itr lo n).go i H ∧ ∃ N : St → Hp → Prop, (∀ σ' H', N σ' H' → ∃ m', m' < m ∧ W (i + 1) m' σ' H') ∧ ∀ x H', (Itr lo n).yld i H x H' → tB C.K Δ vs bd x σ H' fun σ2 H2 => tS (C.lp Δ) Δ Δ mbody { D with nx := N, ct := N, bk := D.nx } σ2 H2) := by
  refine for_range (lo := lo) (n := n) (fun i σ' H' => ∃ F' ρ', EnvS C Δ F0 B F' H' σ' ρ' ∧ PostS C Δ F0 B D (forL bd mbody ((intL lo n).drop i) ρ')) ⟨F, ρ, E, p⟩ ?_ ?_
  · rintro i σ' H' hx ⟨F', ρ', E', p'⟩
    rw [drop_get (intL_get hx)] at p'
    exact turn_ok E' (.int _) p' fun σ2 F2 H2 ρ2 E2 p2 => ⟨F2, ρ2, E2, p2⟩
  · rintro σ' H' ⟨F', ρ', E', p'⟩
    rw [List.drop_of_length_le (by rw [intL_len]; exact Nat.le_refl _)] at p'
    exact p' σ' F' H' E'
def forR (f : List D → Option (List D)) (bd : D → En → Option En) (body : En → Fl) (ds : List D) (ρ : En) : Fl := match f ds with
  | some xs => forL bd body xs ρ
  | none => .stuck
theorem vws_int1 {K : PySem.W.Frag} {F H : Hp} {vs : List V} {i : Int} (h : VwAll K F H vs [.int i]) : vs = [.int i] := by
  obtain ⟨x, rfl, vx⟩ := vws1 h
  rw [vx.int]
theorem vws_int2 {K : PySem.W.Frag} {F H : Hp} {vs : List V} {i j : Int} (h : VwAll K F H vs [.int i, .int j]) : vs = [.int i, .int j] := by
  obtain ⟨x, y, rfl, vx, vy⟩ := vws2 h
  rw [vx.int, vy.int]
theorem ss_range1 {tg ea : Expr} {vs : List Nat} {bd : D → En → Option En} {mbody : En → Fl} {p' pos2 : Pos} {ml : En → P (List D)} (hp : PassesOwn (model X.prog X.w) X.A X.env X.xe) (hc : X.calm = true) (hm : X.mg "range" = none) (ha : PA X [ea] (tG C.K Δ C.W (rVws C.K) ml)) (hg : PG X tg (tB C.K Δ vs bd)) (hb : PSs X body (tS (C.lp Δ) Δ Δ mbody))
    (hgl : Gl X "range" := by rfl) (hst : starEach [ea] X.env = [(false, eval ea X.env)] := by rfl) (hs : ∀ x, foldedSetIterable (.Call (.Name "range" p') [ea] [] pos2) X.env x = pure x := by intro _; rfl) :
    PS X (.For tg (.Call (.Name "range" p') [ea] [] pos2) body [] pos) (tS C Δ Δ (fun ρ => liftP (ml ρ) ρ fun ds => forR rng1 bd mbody ds ρ)) := by
  refine ps_mono (ps_for hp hc (pi_range1 hgl hm ha hst) hg hb hs) fun D σ H h => ?_
  obtain ⟨F0, B, F, ρ, E, p⟩ := h
  refine stepS (r := rVws C.K) E p fun ds vs F1 H1 g q E1 p1 => ?_
  match ds, q, p1 with
  | [.int j], q, p1 =>
    replace p1 : PostS C Δ F0 B D (match (if rngOk j = true then some (intL 0 j.toNat) else none) with | some xs => forL bd mbody xs ρ | none => .stuck) := p1
    by_cases hr : rngOk j = true
    · rw [if_pos hr] at p1
      obtain ⟨h1, h2⟩ := rngOk_iff hr
      exact ⟨j, vws_int1 q, h1, h2, range_turns E1 p1⟩
    · rw [if_neg hr] at p1
      exact p1.elim
  | [], q, p1 => exact p1.elim
  | [.none], q, p1 => exact p1.elim
  | [.bool _], q, p1 => exact p1.elim
  | [.str _], q, p1 => exact p1.elim
  | [.list _], q, p1 => exact p1.elim
  | [.tuple _], q, p1 => exact p1.elim
  | [.dict _], q, p1 => exact p1.elim
  | _ :: _ :: _, q, p1 =>
    have e : ∀ x y l, rng1 (x :: y :: l) = none := fun x y l => by cases x <;> rfl
    replace p1 : PostS C Δ F0 B D (match rng1 _ with | some xs => forL bd mbody xs ρ | none => .stuck) := p1
    rw [e] at p1
    exact p1.elim
/-- while -/
def whileN (c : En → P Bool) (b : En → Fl) : Nat → En → Fl
  | 0, _ => .stuck
  | n + 1, ρ => match c ρ with
    | .ok true => match b ρ with
      | .nx ρ2 => whileN c b n ρ2
      | .ct ρ2 => whileN c b n ρ2
      | .rt d ρ2 => .rt d ρ2
      | .ex k ρ2 => .ex k ρ2
      | .stuck => .stuck
    | .ok false => .nx ρ
    | .exc k => .ex k ρ
    | .stuck => .stuck
theorem ss_while {mbody : En → Fl} (n : Nat) (hp : PassesOwn (model X.prog X.w) X.A X.env X.xe) (hc : PT X c (tG C.K Δ C.W rBl tc)) (hb : PSs X body (tS (C.lp Δ) Δ Δ mbody)) : PS X (.While c body [] pos) (tS C Δ Δ (fun ρ => whileN tc mbody n ρ)) := by
  refine ps_mono (ps_while hp hc hb) fun D σ H h => ?_
  obtain ⟨F0, B, F, ρ, E, p⟩ := h
  refine ⟨fun k σ' H' => ∃ F' ρ', EnvS C Δ F0 B F' H' σ' ρ' ∧ PostS C Δ F0 B D (whileN tc mbody k ρ'), ⟨n, F, ρ, E, p⟩, ?_⟩
  rintro k σ' H' ⟨F', ρ', E', p'⟩
  cases k with
  | zero => exact p'.elim
  | succ k =>
    unfold whileN at p'
    have p2 : PostS C Δ F0 B D (liftP (tc ρ') ρ' fun t => match t with
      | true => (match mbody ρ' with
        | .nx ρ2 => whileN tc mbody k ρ2
        | .ct ρ2 => whileN tc mbody k ρ2
        | .rt d ρ2 => .rt d ρ2
        | .ex k ρ2 => .ex k ρ2
        | .stuck => .stuck)
      | false => .nx ρ') := by
      cases e : tc ρ' with
      | ok t => rw [e] at p'; cases t <;> exact p'
      | exc c => rw [e] at p'; exact p'
      | stuck => rw [e] at p'; exact p'
    refine stepS (r := rBl) E' p2 fun t v F1 H1 g q E1 p1 => ?_
    cases q
    cases t with
    | false => exact p1 σ' F1 H1 E1
    | true =>
      refine ⟨fun σ2 H2 => ∃ F' ρ', EnvS C Δ F0 B F' H2 σ2 ρ' ∧ PostS C Δ F0 B D (whileN tc mbody k ρ'), fun σ2 H2 z => ⟨k, Nat.lt_succ_self _, z⟩, F0, B, F1, ρ', E1.lp, ?_⟩
      replace p1 : PostS C Δ F0 B D (match mbody ρ' with
        | .nx ρ2 => whileN tc mbody k ρ2
        | .ct ρ2 => whileN tc mbody k ρ2
        | .rt d ρ2 => .rt d ρ2
        | .ex k ρ2 => .ex k ρ2
        | .stuck => .stuck) := p1
      cases e2 : mbody ρ' with
      | nx ρ2 => rw [e2] at p1; exact fun σ2 F2 H2 E2 => ⟨F2, ρ2, E2.unlp, p1⟩
      | ct ρ2 => rw [e2] at p1; exact fun σ2 F2 H2 E2 => ⟨F2, ρ2, E2.unlp, p1⟩
      | rt d ρ2 => rw [e2] at p1; exact p1
      | ex c ρ2 => rw [e2] at p1; exact fun Δe σ2 F2 H2 E2 => p1 Δe σ2 F2 H2 E2.unlp
      | stuck => rw [e2] at p1; exact p1
end
end Pc

set_option maxRecDepth 100000
set_option maxHeartbeats 1000000
namespace Pc
open PySem PySem.Spec PyProof.Rows L2
open Evl (Ex)
/-! ### defs that change nothing that they are handed -/
def PostF (K : PySem.W.Frag) (F H : Hp) (Q : VK) (E : XK) : P D → Prop
  | .ok d => ∀ v F' H', Gw F H F' H' → Dq K F' v d → Q v H'
  | .exc c => ∀ F' H', Gw F H F' H' → E (.ref (He.ga K c)) none H'
  | .stuck => False
def spP (K : PySem.W.Frag) (n : Nat) (g : List D → P D) : Sp := fun vs H Q E => ∃ F ds, Ex F H ∧ DqAll K F vs ds ∧ vs.length = n ∧ PostF K F H Q E (g ds)
def env0 (n : Nat) (ds : List D) : En := ds.map some ++ List.replicate (n - ds.length) none
def outF : Fl → P D
  | .rt d _ => .ok d
  | .nx _ => .ok .none
  | .ex c _ => .exc c
  | _ => .stuck
def runF (n : Nat) (m : En → Fl) (ds : List D) : P D := outF (m (env0 n ds))
structure Def (Pr : Program) (w : World) (K : PySem.W.Frag) (mg : Str → Option Value) (base : Heap) (x : Str) (k n : Nat) (g : List D → P D) : Prop where
  ok : ∃ f fd ps, FnOk Pr w K mg base (L2.CX Pr w) k f fd ps (spP K n g) ∧ mg x = some (.ref f) ∧ PySem.W.keepIn K (.ref f) = true ∧ Binds K fd ps []
theorem Def.mono {Pr : Program} {w : World} {K : PySem.W.Frag} {mg : Str → Option Value} {base : Heap} {x : Str} {k k' n : Nat} {g : List D → P D} (d : Def Pr w K mg base x k n g) (h : k ≤ k') : Def Pr w K mg base x k' n g := by
  obtain ⟨f, fd, ps, F, r⟩ := d.ok
  exact ⟨f, fd, ps, F.mono h, r⟩
section
variable {X : Cx} {Δ : Nat → Sh} {W : WX} {e : Expr} {es : List Expr} {p pos : Pos} {x : Str} {k n : Nat} {g : List D → P D} {ml : En → P (List D)}
theorem de_call (d : Def X.prog X.w X.K X.mg X.base x k n g) (hr : Room k X.A) (tk : Takes X W) (ha : PA X (e :: es) (tG X.K Δ W (rDpsN X.K n) ml)) (hg : Gl X x := by rfl)
    (hdb : (x == ("__debug__" : Str)) = false := by decide) (he : starEach (e :: es) X.env = (false, eval e X.env) :: starEach es X.env := by rfl) (hpl : (backTo pos (starEach es X.env)).any (·.1) = false := by rfl) :
    PE X (.Call (.Name x p) (e :: es) [] pos) (tG X.K Δ W (rDp X.K) (fun ρ => (ml ρ).bind g)) := by
  obtain ⟨f, fd, ps, F, hm, hk, hb⟩ := d.ok
  refine pe_mono (pe_callS F hr hg hm hk hb (fun σ => passAt tk σ) ha hdb he hpl) fun σ H Q h => ?_
  obtain ⟨F0, B, F, ρ, E, p⟩ := h
  refine seqG (r1 := rDpsN X.K n) E p fun ds vs F1 H1 g1 q1 E1 p1 => ⟨F1, ds, E1.eF, q1.1, q1.2, ?_⟩
  cases e : g ds with
  | ok d => rw [e] at p1; exact p1
  | exc c => rw [e] at p1; exact p1
  | stuck => rw [e] at p1; exact p1
end

/-! ### a def by its body -/
def ctOf (K : PySem.W.Frag) (E : XK) : Ct := ⟨K, fun _ => .dat, fun _ => false, fun cls d _ H => E cls d H, fun _ => .dat, fun _ => True, fun F v d => Dq K F v d⟩
def shs (l : List (Nat × Sh)) (i : Nat) : Sh := match l.lookup i with
  | some s => s
  | none => .dat
theorem env0_len {n : Nat} {ds : List D} (h : ds.length ≤ n) : (env0 n ds).length = n := by unfold env0; simp; omega
theorem start_len {N : List Str} {vs : List V} (h : vs.length ≤ N.length) : (L2.start N vs).length = N.length := by unfold L2.start; simp; omega
theorem start_ok {K : PySem.W.Frag} {Δ : Nat → Sh} {F H : Hp} {N : List Str} {vs : List V} {ds : List D} (e : Ex F H) (dq : DqAll K F vs ds) (hn : vs.length ≤ N.length) (hd : ∀ i, i < vs.length → Δ i = .dat) : EnvOk K Δ F H F H (L2.start N vs) (env0 N.length ds) := by
  refine ⟨by rw [start_len hn, env0_len (by rw [← dq.len]; exact hn)], Ex.refl _, e, Ex.refl _, fun _ h _ => h, fun _ => [], fun i d hi => ?_, fun _ => List.nodup_nil, fun i j a ha => (List.not_mem_nil ha).elim, fun i a ha => (List.not_mem_nil ha).elim⟩
  have hl : i < ds.length := by
    unfold env0 at hi
    by_cases hl : i < ds.length
    · exact hl
    · rw [List.getElem?_append_right (by simpa using hl), List.getElem?_replicate] at hi
      split at hi <;> cases hi
  have hd' : ds[i]? = some d := by
    unfold env0 at hi
    rw [List.getElem?_append_left (by simpa using hl), List.getElem?_map] at hi
    cases e : ds[i]? with
    | none => rw [e] at hi; cases hi
    | some z => rw [e] at hi; cases hi; rfl
  obtain ⟨v, hv, q⟩ := dq.get2 hd'
  have hl2 : i < vs.length := by rw [dq.len]; exact hl
  refine ⟨v, ?_, ?_⟩
  · unfold L2.start
    rw [List.getElem?_append_left (by simpa using hl2), List.getElem?_map, hv]
    rfl
  · rw [hd i hl2]
    exact ⟨q, rfl⟩
section
variable {Pr : Program} {w : World} {K : PySem.W.Frag} {mg : Str → Option Value} {base : Heap} {name : Str} {st : Stmt} {N ps : List Str} {k : Nat} {Δ Δ' : Nat → Sh} {m : En → Fl}
theorem def_of (hF : ∃ fd, FunD K name name (defArgs st) (defBody st) (defScope st) [] [] (He.ga K name) fd) (hg : mg name = some (.ref (He.ga K name))) (S : FnScope N ps (defScope st))
    (hb : ∀ (kV doc pm : Value) (an : Option Addr) (cdv ct : Value) (us : List Value), us.length = ps.length → bindArgs (PySem.W.fnOf name name (defArgs st) (defBody st) (defScope st) .none kV doc pm an cdv ct) ⟨us, []⟩ = pure (ps.zip us))
    (hd : ∀ i, i < ps.length → Δ i = .dat)
    (hbody : ∀ (f : Addr) (cdv : Value) (A : Around) (outer : List Env) (s : Shared) (H : Hp) (E : XK), Room k (A.deeper (envOfC name (defScope st) s.heap.objs.size f cdv)) →
      PSs (cxOf (L2.CX Pr w) Pr w K mg base N name (defScope st) f cdv A outer s H E) (defBody st) (tS (ctOf K E) Δ Δ' m)) : Def Pr w K mg base name (k + 1) ps.length (runF N.length m) := by
  obtain ⟨fd, F⟩ := hF
  have hpl : ps.length ≤ N.length := by have := congrArg List.length S.pre; rw [List.length_take] at this; omega
  refine ⟨He.ga K name, fd, ps, F.ok S (fun vs H Q E h => ?_) (fun cdv A outer s H vs Q E hr h => ⟨_, hbody _ cdv A outer s H E hr, ?_⟩), hg, F.kp, F.bindsN hb⟩
  · obtain ⟨_, _, _, _, h, _⟩ := h
    exact h
  · obtain ⟨F, ds, eF, dq, hl, p⟩ := h
    refine ⟨F, H, F, env0 N.length ds, ⟨start_ok eF dq (by omega) (fun i hi => hd i (by omega)), fun i hi => Bool.noConfusion hi, trivial⟩, ?_⟩
    unfold runF at p
    cases e : m (env0 N.length ds) with
    | nx ρ => rw [e] at p; exact fun σ F' H' E' => p .non F' H' ⟨E'.e.e0, E'.e.eF, E'.e.eB, fun a h1 h2 => E'.e.lim a h2 h1⟩ .non
    | rt d ρ => rw [e] at p; exact fun v σ F' H' E' q => p v F' H' ⟨E'.e0, E'.eF, E'.eB, fun a h1 h2 => E'.lim a h2 h1⟩ q
    | ct ρ => rw [e] at p; exact p.elim
    | ex c ρ => rw [e] at p; exact fun Δe σ F' H' E' => p F' H' ⟨E'.e.e0, E'.e.eF, E'.e.eB, fun a h1 h2 => E'.e.lim a h2 h1⟩
    | stuck => rw [e] at p; exact p
end

/-! ### raise, try -/
/-- an exception class of the program -/
structure Exc (K : PySem.W.Frag) (mg : Str → Option Value) (x : Str) : Prop where
  g : mg x = some (.ref (He.ga K x))
  xi : PySem.W.excIn K (He.ga K x) He.veBase "ValueError.__new__" = true
  k : PySem.W.keepIn K (.ref (He.ga K x)) = true
  b : PySem.W.subIn K (.ref (He.ga K x)) (.type "BaseException") = some true
  t : PySem.W.typeIn K (.ref (He.ga K x)) = some (.type "type")
section
variable {X : Cx} {C : Ct} {Δ Δ' : Nat → Sh} {pos : Pos}
theorem ss_raise {x m : Str} {j : Nat} {p p2 pos' : Pos} (hK : C.K = X.K) (T : Exc X.K X.mg x) (tk : Takes X C.W) (hc : X.calm = true) (hg : Gl X x := by rfl) (hdb : (x == ("__debug__" : Str)) = false := by decide) :
    PS X (.Raise (some (.Call (.Name x p) [.Constant (.str m) j p2] [] pos')) none pos) (tS C Δ Δ' (fun ρ => .ex x ρ)) := by
  refine ps_mono (ps_raise hc tk (pmk_own PySem.F.excBase_ValueError T.xi T.g T.k (raises_own T.b T.t) hg hdb)) fun D σ H h => ?_
  obtain ⟨F0, B, F, ρ, E, p⟩ := h
  rw [← hK]
  exact p Δ σ F H E
/-- the class of an exception against a clause's -/
def pick (names : List Str) (c : Str) : List (Str × (En → Fl)) → En → Fl
  | [], ρ => .ex c ρ
  | (n, h) :: r, ρ => if names.contains c = true then (if (c == n) = true then h ρ else pick names c r ρ) else .stuck
def tryM (names : List Str) (mb : En → Fl) (hs : List (Str × (En → Fl))) : En → Fl := fun ρ => match mb ρ with
  | .ex c ρ' => pick names c hs ρ'
  | .nx ρ' => .nx ρ'
  | .rt d ρ' => .rt d ρ'
  | .ct ρ' => .ct ρ'
  | .stuck => .stuck
/-- the clauses -/
inductive Hds (X : Cx) (C : Ct) (Δ Δ' : Nat → Sh) (names : List Str) : List ExceptHandler → List (Str × (En → Fl)) → Prop
  | nil : Hds X C Δ Δ' names [] []
  | cons {x : Str} {mh : En → Fl} {b₀ : Stmt} {suite : List Stmt} {np pos' : Pos} {hds : List ExceptHandler} {l : List (Str × (En → Fl))} (hc : Names X x (.ref (He.ga X.K x)))
      (hm : ∀ c, names.contains c = true → PySem.W.exmOne X.K (.ref (He.ga X.K c)) (.ref (He.ga X.K x)) = some (c == x))
      (hsu : ∀ (a : Addr) (pn : List (Addr × Obj)), PSs (X.suite a pn) (b₀ :: suite) (tS { C with W := fun _ _ _ _ => False } Δ Δ' mh)) (r : Hds X C Δ Δ' names hds l) :
      Hds X C Δ Δ' names (.ExceptHandler (some (.Name x np)) none (b₀ :: suite) pos' :: hds) ((x, mh) :: l)
def nX (C : Ct) : Ct := { C with W := fun _ _ _ _ => False }
/-- a suite lets nothing out -/
theorem PostS.nx {F0 B : Hp} {D : Ends} {m : Fl} (h : ∀ c ρ, m ≠ .ex c ρ) (p : PostS C Δ F0 B D m) : PostS { C with W := fun _ _ _ _ => False } Δ F0 B D m := by
  cases m with
  | nx ρ => exact fun σ F H E => p σ F H ⟨E.e, E.sh, E.ok⟩
  | rt d ρ => exact p
  | ct ρ => exact fun σ F H E => p σ F H ⟨E.e, E.sh, E.ok⟩
  | ex c ρ => exact absurd rfl (h c ρ)
  | stuck => exact p
/-- what is wanted of an exception that a try's body lets out -/
theorem pick_ok {names : List Str} {hds : List ExceptHandler} {l : List (Str × (En → Fl))} (hK : C.K = X.K) (h : Hds X C Δ Δ' names hds l) : ∃ ls, HdsOk X hds ls ∧ ∀ (c : Str) (ρ : En) (F0 B : Hp) (D : Ends), (∀ q ∈ l, ∀ ρ c' ρ', q.2 ρ ≠ .ex c' ρ') → PostS C Δ' F0 B D (pick names c l ρ) →
    ∀ σ F H, EnvS C Δ F0 B F H σ ρ → wMany X.K C.W D ls (.ref (He.ga X.K c)) none σ H := by
  induction h with
  | nil => exact ⟨[], .nil, fun c ρ F0 B D _ p σ F H E => hK ▸ p Δ σ F H E⟩
  | @cons x mh b₀ suite np pos' hds l hc hm hsu r ih =>
    obtain ⟨ls, h1, h2⟩ := ih
    refine ⟨(.ref (He.ga X.K x), fun _ _ _ => tS { C with W := fun _ _ _ _ => False } Δ Δ' mh) :: ls, .cons hc (fun a oe cls d pn _ _ => hsu a _) h1, fun c ρ F0 B D hn p σ F H E => ?_⟩
    unfold pick at p
    by_cases hcn : names.contains c = true
    · rw [if_pos hcn] at p
      refine ⟨c == x, hm c hcn, fun hb a _ => ?_, fun hb => ?_⟩
      · rw [if_pos hb] at p
        exact ⟨F0, B, F, ρ, ⟨E.e, E.sh, E.ok⟩, PostS.nx (fun c' ρ' => hn (x, mh) List.mem_cons_self ρ c' ρ') p⟩
      · rw [if_neg (by rw [hb]; decide)] at p
        exact h2 c ρ F0 B D (fun q hq => hn q (List.mem_cons_of_mem _ hq)) p σ F H E
    · rw [if_neg hcn] at p
      exact p.elim
theorem ss_try {names : List Str} {body : List Stmt} {h₀ : ExceptHandler} {hds : List ExceptHandler} {mb : En → Fl} {l : List (Str × (En → Fl))} (hK : C.K = X.K) (hs : X.stack = X.env :: X.outer) (hf : X.env.frame = some X.env.locals) (tk : Takes X C.W)
    (hb : ∀ (W : WX) (pn : List (Addr × Obj)) (xe : Value → Shared → Prop), Takes (X.tr pn xe) W → PassesOwn (model X.prog X.w) X.A X.env xe → PSs (X.tr pn xe) body (tS { C with W := W, okE := (· = Δ) } Δ Δ mb)) (hh : Hds X C Δ Δ names (h₀ :: hds) l)
    (hn : ∀ q ∈ l, ∀ ρ c' ρ', q.2 ρ ≠ .ex c' ρ') : PS X (.Try body (h₀ :: hds) [] [] pos) (tS C Δ Δ (tryM names mb l)) := by
  obtain ⟨ls, h1, h2⟩ := pick_ok hK hh
  refine ps_mono (ps_try_many (tb := fun W => tS { C with W := W, okE := (· = Δ) } Δ Δ mb) hs hf tk hb h1) fun D σ H h => ?_
  obtain ⟨F0, B, F, ρ, E, p⟩ := h
  refine ⟨F0, B, F, ρ, ⟨E.e, E.sh, rfl⟩, ?_⟩
  replace p : PostS C Δ F0 B D (tryM names mb l ρ) := p
  unfold tryM at p
  cases e : mb ρ with
  | nx ρ' => rw [e] at p; exact fun σ' F' H' E' => p σ' F' H' ⟨E'.e, E'.sh, E.ok⟩
  | rt d ρ' => rw [e] at p; exact p
  | ct ρ' => rw [e] at p; exact fun σ' F' H' E' => p σ' F' H' ⟨E'.e, E'.sh, (show C.Dl = Δ from E'.ok) ▸ E.ok⟩
  | ex c ρ' =>
    rw [e] at p
    intro Δe σ' F' H' E'
    have ed : Δe = Δ := E'.ok
    subst ed
    rw [hK]
    exact h2 c ρ' F0 B D hn p σ' F' H' ⟨E'.e, E'.sh, E.ok⟩
  | stuck => rw [e] at p; exact p
end
end Pc

set_option maxRecDepth 100000
set_option maxHeartbeats 1000000
namespace Pc
open PySem PySem.Spec PyProof.Rows L2
open Evl (Ex)
/-! ### what is walked -/
/-- J walks ds: what is walked is frozen -/
def WalkF (K : PySem.W.Frag) (F : Hp) (J : It) (ds : List D) : Prop := ∀ i F' H', Ex F F' → Ex F' H' → (∀ d, ds[i]? = some d → J.go i H' ∧ ∀ x H'', J.yld i H' x H'' → ∃ F'', Gw F' H' F'' H'' ∧ Dq K F'' x d) ∧ (ds.length ≤ i → J.stop i H')
/-- .. as long as nothing changes -/
def WalkV (K : PySem.W.Frag) (F H : Hp) (J : It) (ds : List D) : Prop := ∀ i F' H', Gw F H F' H' → (∀ d, ds[i]? = some d → J.go i H' ∧ ∀ x H'', J.yld i H' x H'' → ∃ F'', Gw F' H' F'' H'' ∧ Dq K F'' x d) ∧ (ds.length ≤ i → J.stop i H')
theorem WalkF.v {K : PySem.W.Frag} {F H : Hp} {J : It} {ds : List D} (h : WalkF K F J ds) : WalkV K F H J ds := fun i F' H' g => h i F' H' g.1 g.2.1
def rWF (K : PySem.W.Frag) : Rs It (List D) := ⟨fun _ F' _ J ds => WalkF K F' J ds, fun _ h => h⟩
def rWV (K : PySem.W.Frag) : Rs It (List D) := ⟨fun _ F' H' J ds => WalkV K F' H' J ds, fun _ h => h⟩
section
variable {X : Cx} {Δ : Nat → Sh} {W : WX} {tg e : Expr} {m : En → P D} {ms : En → P (List D)} {pos : Pos}
theorem pi_mono {t t' : TI} (h : PI X tg e t) (i : ∀ σ H Q, t' σ H Q → t σ H Q) : PI X tg e t' := ⟨fun pins s σ H Q I q => h.run pins s σ H Q I (i σ H Q q)⟩
theorem di_view (h : PI X tg e (tG X.K Δ W (rWF X.K) ms)) : PI X tg e (tG X.K Δ W (rWV X.K) ms) := pi_mono h (tG_weak fun _ _ _ _ _ q => WalkF.v q)
def lstO : D → P (List D)
  | .list xs => .ok xs
  | _ => .stuck
def tupO : D → P (List D)
  | .tuple xs => .ok xs
  | _ => .stuck
theorem walk_lst {K : PySem.W.Frag} {F H : Hp} {a : Addr} {vs : List V} {ds : List D} (h : F a = some (.lst vs)) (q : DqAll K F vs ds) : WalkF K F (Itl K a) ds := by
  intro i F' H' e1 e2
  have s : SqL K H' a vs := SqL.of (e2 _ _ (e1 _ _ h))
  refine ⟨fun d hd => ?_, fun hl => ⟨vs, s, by rw [q.len]; exact hl⟩⟩
  obtain ⟨v, hv, dq⟩ := q.get2 hd
  refine ⟨⟨vs, v, s, hv⟩, fun x H'' y => ?_⟩
  obtain ⟨rfl, y⟩ := y
  have e := y vs s
  rw [hv] at e
  cases e
  exact ⟨F', .refl e2, dq.mn e1⟩
theorem walk_tup {K : PySem.W.Frag} {F H : Hp} {a : Addr} {vs : List V} {ds : List D} (h : SqT K F a vs) (q : DqAll K F vs ds) : WalkF K F (Itt K a) ds := by
  intro i F' H' e1 e2
  have s : SqT K H' a vs := Evl.ex_t e2 (Evl.ex_t e1 h)
  refine ⟨fun d hd => ?_, fun hl => ⟨vs, s, by rw [q.len]; exact hl⟩⟩
  obtain ⟨v, hv, dq⟩ := q.get2 hd
  refine ⟨⟨vs, v, s, hv⟩, fun x H'' y => ?_⟩
  obtain ⟨rfl, y⟩ := y
  have e := y vs s
  rw [hv] at e
  cases e
  exact ⟨F', .refl e2, dq.mn e1⟩
theorem walk_lstV {K : PySem.W.Frag} {F H : Hp} {a : Addr} {vs : List V} {ds : List D} (h : H a = some (.lst vs)) (q : DqAll K F vs ds) : WalkV K F H (Itl K a) ds := by
  intro i F' H' g
  have s : SqL K H' a vs := SqL.of (g.2.2.1 _ _ h)
  refine ⟨fun d hd => ?_, fun hl => ⟨vs, s, by rw [q.len]; exact hl⟩⟩
  obtain ⟨v, hv, dq⟩ := q.get2 hd
  refine ⟨⟨vs, v, s, hv⟩, fun x H'' y => ?_⟩
  obtain ⟨rfl, y⟩ := y
  have e := y vs s
  rw [hv] at e
  cases e
  exact ⟨F', .refl g.2.1, dq.mn g.1⟩
theorem walk_rng {K : PySem.W.Frag} {F : Hp} {lo : Int} {n : Nat} : WalkF K F (Itr lo n) (intL lo n) := by
  intro i F' H' e1 e2
  refine ⟨fun d hd => ?_, fun hl => by rw [intL_len] at hl; exact hl⟩
  have hi : i < n := by
    have := (List.getElem?_eq_some_iff.mp hd).1
    rwa [intL_len] at this
  rw [intL_get hi] at hd
  cases hd
  refine ⟨hi, fun x H'' y => ?_⟩
  obtain ⟨rfl, rfl⟩ := y
  exact ⟨F', .refl e2, .int _⟩
theorem di_list (h : PE X e (tG X.K Δ W (rDp X.K) m)) : PI X tg e (tG X.K Δ W (rWF X.K) (fun ρ => (m ρ).bind lstO)) := by
  refine pi_mono (pi_list h) fun σ H Q h => ?_
  obtain ⟨F0, B, F, ρ, E, p⟩ := h
  refine seqG (r1 := rDp X.K) E p fun d v F1 H1 g q E1 p1 => ?_
  cases d with
  | list ds =>
    cases q with
    | lst s t => exact ⟨_, rfl, ⟨_, SqL.of (E1.eF _ _ s)⟩, p1 _ F1 H1 (.refl E1.eF) (walk_lst (H := H1) s t)⟩
  | _ => exact p1.elim
theorem di_listV (h : PE X e (tG X.K Δ W (rVw X.K) m)) : PI X tg e (tG X.K Δ W (rWV X.K) (fun ρ => (m ρ).bind lstO)) := by
  refine pi_mono (pi_list h) fun σ H Q h => ?_
  obtain ⟨F0, B, F, ρ, E, p⟩ := h
  refine seqG (r1 := rVw X.K) E p fun d v F1 H1 g q E1 p1 => ?_
  cases d with
  | list ds =>
    obtain ⟨a, vs, rfl, s, t⟩ := Vw.lst E1.eF q
    exact ⟨_, rfl, ⟨_, SqL.of s⟩, p1 _ F1 H1 (.refl E1.eF) (walk_lstV s t)⟩
  | _ => exact p1.elim
theorem di_tup (h : PE X e (tG X.K Δ W (rDp X.K) m)) : PI X tg e (tG X.K Δ W (rWF X.K) (fun ρ => (m ρ).bind tupO)) := by
  refine pi_mono (pi_tup h) fun σ H Q h => ?_
  obtain ⟨F0, B, F, ρ, E, p⟩ := h
  refine seqG (r1 := rDp X.K) E p fun d v F1 H1 g q E1 p1 => ?_
  cases d with
  | tuple ds =>
    cases q with
    | tup s t => exact ⟨_, rfl, ⟨_, Evl.ex_t E1.eF s⟩, p1 _ F1 H1 (.refl E1.eF) (walk_tup (H := H1) s t)⟩
  | _ => exact p1.elim
theorem di_range1 {ea : Expr} {p' : Pos} {ml : En → P (List D)} (hm : X.mg "range" = none) (ha : PA X [ea] (tG X.K Δ W (rVws X.K) ml)) (hg : Gl X "range" := by rfl) (hs : starEach [ea] X.env = [(false, eval ea X.env)] := by rfl) :
    PI X tg (.Call (.Name "range" p') [ea] [] pos) (tG X.K Δ W (rWF X.K) (fun ρ => (ml ρ).bind fun ds => .ofO (rng1 ds))) := by
  refine pi_mono (pi_range1 hg hm ha hs) fun σ H Q h => ?_
  obtain ⟨F0, B, F, ρ, E, p⟩ := h
  refine seqG (r1 := rVws X.K) E p fun ds vs F1 H1 g q E1 p1 => ?_
  cases e : rng1 ds with
  | none => rw [e] at p1; exact p1.elim
  | some xs =>
    rw [e] at p1
    match ds, e, q with
    | [.int j], e, q =>
      replace e : (if rngOk j = true then some (intL 0 j.toNat) else none) = some xs := e
      split at e
      · rename_i hr
        cases e
        obtain ⟨h1, h2⟩ := rngOk_iff hr
        exact ⟨j, vws_int1 q, h1, h2, p1 _ F1 H1 (.refl E1.eF) walk_rng⟩
      · cases e
theorem di_range2 {ea eb : Expr} {p' : Pos} {ml : En → P (List D)} (hm : X.mg "range" = none) (ha : PA X [ea, eb] (tG X.K Δ W (rVws X.K) ml)) (hg : Gl X "range" := by rfl) (hs : starEach [ea, eb] X.env = [(false, eval ea X.env), (false, eval eb X.env)] := by rfl) (hs2 : starEach [eb] X.env = [(false, eval eb X.env)] := by rfl) :
    PI X tg (.Call (.Name "range" p') [ea, eb] [] pos) (tG X.K Δ W (rWF X.K) (fun ρ => (ml ρ).bind fun ds => .ofO (rng2 ds))) := by
  refine pi_mono (pi_range2 hg hm ha hs hs2) fun σ H Q h => ?_
  obtain ⟨F0, B, F, ρ, E, p⟩ := h
  refine seqG (r1 := rVws X.K) E p fun ds vs F1 H1 g q E1 p1 => ?_
  cases e : rng2 ds with
  | none => rw [e] at p1; exact p1.elim
  | some xs =>
    rw [e] at p1
    match ds, e, q with
    | [.int i, .int j], e, q =>
      replace e : (if (rngOk i && rngOk j) = true then some (intL i (j - i).toNat) else none) = some xs := e
      split at e
      · rename_i hr
        cases e
        rw [Bool.and_eq_true] at hr
        obtain ⟨h1, h2⟩ := rngOk_iff hr.1
        obtain ⟨h3, h4⟩ := rngOk_iff hr.2
        exact ⟨i, j, vws_int2 q, ⟨h1, h2, h3, h4⟩, p1 _ F1 H1 (.refl E1.eF) walk_rng⟩
      · cases e
end

/-! ### list comprehensions -/
def wipeE (ρ : En) : List Nat → En
  | [] => ρ
  | v :: vs => (wipeE ρ vs).set v none
theorem EnvOk.wipe {K : PySem.W.Frag} {Δ : Nat → Sh} {F0 B F H : Hp} {σ : L2.St} {ρ : En} (E : EnvOk K Δ F0 B F H σ ρ) : ∀ vs : List Nat, EnvOk K Δ F0 B F H (wipe σ vs) (wipeE ρ vs)
  | [] => E
  | v :: vs => (E.wipe vs).drop v none
theorem wipe_get {σ : L2.St} {j : Nat} : ∀ {vs : List Nat}, j ∉ vs → (wipe σ vs)[j]? = σ[j]?
  | [], _ => rfl
  | v :: vs, h => by
    unfold wipe
    rw [List.getElem?_set_ne (fun z => h (by rw [z]; exact List.mem_cons_self)), wipe_get fun z => h (List.mem_cons_of_mem _ z)]
theorem wipe_in {σ : L2.St} {j : Nat} (hj : j < σ.length) : ∀ {vs : List Nat}, j ∈ vs → (wipe σ vs)[j]? = some none
  | v :: vs, h => by
    unfold wipe
    by_cases e : v = j
    · subst e
      rw [List.getElem?_set_self (by rw [wipe_length]; exact hj)]
    · rw [List.getElem?_set_ne e]
      rcases List.mem_cons.mp h with z | z
      · exact absurd z.symm e
      · exact wipe_in hj z
theorem wipe_same {σ σ2 : L2.St} {vs : List Nat} (h : SameS vs (wipe σ vs) σ2) : wipe σ2 vs = wipe σ vs := by
  have hl : σ2.length = σ.length := by rw [h.1, wipe_length]
  refine List.ext_getElem? fun j => ?_
  by_cases hj : j ∈ vs
  · by_cases hb : j < σ.length
    · rw [wipe_in hb hj, wipe_in (by omega) hj]
    · rw [List.getElem?_eq_none (by rw [wipe_length]; omega), List.getElem?_eq_none (by rw [wipe_length]; omega)]
  · rw [wipe_get hj, h.2 j hj]
def lcG (bd : D → En → Option En) (cond : En → P Bool) (elt : En → P D) (ρ : En) : List D → P (List D)
  | [] => .ok []
  | x :: xs => match bd x ρ with
    | none => .stuck
    | some ρ1 => match cond ρ1 with
      | .ok true => (match elt ρ1 with
        | .ok y => (lcG bd cond elt ρ xs).bind fun ys => .ok (y :: ys)
        | _ => .stuck)
      | .ok false => lcG bd cond elt ρ xs
      | _ => .stuck
def lcM (src : En → P (List D)) (vs : List Nat) (bd : D → En → Option En) (cond : En → P Bool) (elt : En → P D) : En → P D := fun ρ => (src ρ).bind fun xs => if xs.length ≤ LIM then (lcG bd cond elt (wipeE ρ vs) xs).bind fun ys => .ok (.list ys) else .stuck
abbrev noW : WX := fun _ _ _ _ => False
theorem lc_of {K : PySem.W.Frag} {Δ : Nat → Sh} {W : WX} {src : En → P (List D)} {vs : List Nat} {bd : D → En → Option En} {cond : En → P Bool} {elt : En → P D} (σ : L2.St) (H : Hp) (Q : VK) (h : tG K Δ W (rNew K (.lst .dat)) (lcM src vs bd cond elt) σ H Q) :
    tLc (tG K Δ W (rWV K) src) (tB K Δ vs bd) (tG K Δ noW rBl cond) (tG K Δ noW (rDp K) elt) vs σ H Q := by
  obtain ⟨F0, B, F, ρ, E, p⟩ := h
  refine seqG (r1 := rWV K) E p fun ds J F1 H1 g1 wk E1 p1 => ?_
  intro Dd hD
  by_cases hlim : ds.length ≤ LIM
  case neg => rw [if_neg hlim] at p1; exact p1.elim
  rw [if_pos hlim] at p1
  cases et : lcG bd cond elt (wipeE ρ vs) ds with
  | exc c =>
    exfalso
    have : ∀ xs : List D, lcG bd cond elt (wipeE ρ vs) xs ≠ .exc c := fun xs => by
      induction xs with
      | nil => intro z; cases z
      | cons x xs ih =>
        intro z
        unfold lcG at z
        split at z
        · cases z
        · split at z
          · split at z
            · cases q : lcG bd cond elt (wipeE ρ vs) xs with
              | ok _ => rw [q] at z; cases z
              | exc _ => rw [q] at z; cases z; exact ih q
              | stuck => rw [q] at z; cases z
            · cases z
          · exact ih z
          · cases z
    exact this ds et
  | stuck => rw [et] at p1; exact p1.elim
  | ok tot =>
    rw [et] at p1
    refine ⟨fun i m H' => m = ds.length - i ∧ i ≤ ds.length ∧ ∃ F' accV accD rest, Gw F1 H1 F' H' ∧ F' Dd = none ∧ H' Dd = some (.lst accV) ∧ DqAll K F' accV accD ∧ lcG bd cond elt (wipeE ρ vs) (ds.drop i) = .ok rest ∧ tot = accD ++ rest ∧ accD.length ≤ i,
      ⟨_, rfl, Nat.zero_le _, F1, [], [], tot, .own E1.eF hD, none_of_ex E1.eF hD, upd_same, .nil, et, rfl, Nat.le_refl _⟩, ?_⟩
    rintro i m H' ⟨rfl, hi, F', accV, accD, rest, g', hF, hH, dq, eR, eT, hacc⟩
    by_cases hlt : i < ds.length
    · refine .inr ?_
      obtain ⟨wi, _⟩ := wk i F' H' g'
      have hdi : ds[i]? = some ds[i] := List.getElem?_eq_getElem hlt
      obtain ⟨go, yl⟩ := wi _ hdi
      refine ⟨go, _, fun H2 z => ⟨ds.length - (i + 1), by omega, rfl, hlt, z⟩, fun x H2 y => ?_⟩
      obtain ⟨F2, g2, dx⟩ := yl x H2 y
      have gA := g'.trans g2
      have hF2 : F2 Dd = none := g2.2.2.2 Dd (by rw [hH]; exact fun z => nomatch z) hF
      have hH2 : H2 Dd = some (.lst accV) := g2.2.2.1 _ _ hH
      rw [drop_get hdi] at eR
      unfold lcG at eR
      cases eb : bd ds[i] (wipeE ρ vs) with
      | none => rw [eb] at eR; cases eR
      | some ρ1 =>
        rw [eb] at eR
        dsimp only at eR
        refine ⟨F0, B, F2, wipeE ρ vs, ds[i], ρ1, (E1.gw gA).wipe vs, dx, eb, fun σ2 S2 E2 => ⟨wipe_same S2, F0, B, F2, ρ1, E2, ?_⟩⟩
        cases ec : cond ρ1 with
        | exc c => rw [ec] at eR; cases eR
        | stuck => rw [ec] at eR; cases eR
        | ok t =>
          rw [ec] at eR
          intro t' F3 H3 g3 ht
          cases ht
          have hF3 : F3 Dd = none := g3.2.2.2 Dd (by rw [hH2]; exact fun z => nomatch z) hF2
          have hH3 : H3 Dd = some (.lst accV) := g3.2.2.1 _ _ hH2
          cases t with
          | false => exact ⟨F3, accV, accD, rest, gA.trans g3, hF3, hH3, dq.mn (g2.1.trans g3.1), eR, eT, by omega⟩
          | true =>
            show tG K Δ noW (rDp K) elt σ2 H3 _
            refine ⟨F0, B, F3, ρ1, E2.gw g3, ?_⟩
            dsimp only at eR
            cases ee : elt ρ1 with
            | exc c => rw [ee] at eR; cases eR
            | stuck => rw [ee] at eR; cases eR
            | ok yd =>
              rw [ee] at eR
              dsimp only at eR
              intro y4 F4 H4 g4 dy
              have hF4 : F4 Dd = none := g4.2.2.2 Dd (by rw [hH3]; exact fun z => nomatch z) hF3
              have hH4 : H4 Dd = some (.lst accV) := g4.2.2.1 _ _ hH3
              refine ⟨accV, hH4, by rw [lim_eq, dq.len]; omega, ?_⟩
              have gB := (gA.trans g3).trans g4
              cases er : lcG bd cond elt (wipeE ρ vs) (ds.drop (i + 1)) with
              | exc c => rw [er] at eR; cases eR
              | stuck => rw [er] at eR; cases eR
              | ok ys =>
                rw [er] at eR
                cases eR
                refine ⟨F4, accV ++ [y4], accD ++ [yd], ys, ⟨gB.1, fun b u hb => ?_, fun b u hb => ?_, gB.2.2.2⟩, hF4, upd_same, (dq.mn ((g2.1.trans g3.1).trans g4.1)).app (.one dy), rfl, by rw [eT]; simp, by simp; omega⟩
                · rw [upd_ne (fun z => by rw [z, hF4] at hb; cases hb)]; exact gB.2.1 b u hb
                · rw [upd_ne (fun z => by rw [z, hD] at hb; cases hb)]; exact gB.2.2.1 b u hb
    · have hi' : i = ds.length := by omega
      subst hi'
      refine .inl ⟨(wk ds.length F' H' g').2 (Nat.le_refl _), ?_⟩
      rw [List.drop_length] at eR
      cases eR
      rw [List.append_nil] at eT
      subst eT
      refine p1 _ F' H' g' ⟨[Dd], ⟨Dd, accV, tot, [], rfl, rfl, hH, ownL_dat dq, rfl⟩, by simp, fun a ha => ?_⟩
      have ea : a = Dd := by simpa using ha
      subst ea
      exact ⟨hF, hD, by rw [hH]; exact fun z => nomatch z⟩
section
variable {X : Cx} {C : Ct} {Δ : Nat → Sh} {W : WX} {elt tg iter : Expr} {ifs : List Expr} {scope : Scope} {own : List (Str × Nat)} {pos : Pos} {src : En → P (List D)} {vs : List Nat} {bd : D → En → Option En} {cond : En → P Bool} {me : En → P D}
theorem dts_nil : PTs X [] (tG X.K Δ W rBl (fun _ => .ok true)) := ⟨fun pins s σ H Q I h => pts_nil.run pins s σ H Q I (by
  obtain ⟨F0, B, F, ρ, E, p⟩ := h
  exact p true F H (.refl E.eF) rfl)⟩
theorem dts_one {c : Expr} (h : PT X c (tG X.K Δ W rBl cond)) : PTs X [c] (tG X.K Δ W rBl cond) := pts_one h
theorem de_lc (own : List (Str × Nat)) (hc : X.calm = true) (hN : X.N.Nodup) (hi : PI X tg iter (tG X.K Δ W (rWV X.K) src)) (ok : BlkOk X.N X.env.scope scope own)
    (hg : ∀ (s : Shared) (H : Hp) (Cc : Addr) (cl : List (Str × Addr)) (fp : List Addr), PG (X.blk s H scope (compEnvC scope cl Cc X.env) fp) tg (tB X.K Δ (own.map (·.2)) bd)) (ht : ∀ (s : Shared) (H : Hp) (Cc : Addr) (cl : List (Str × Addr)) (fp : List Addr), PTs (X.blk s H scope (compEnvC scope cl Cc X.env) fp) ifs (tG X.K Δ noW rBl cond))
    (he : ∀ (s : Shared) (H : Hp) (Cc : Addr) (cl : List (Str × Addr)) (fp : List Addr), PE (X.blk s H scope (compEnvC scope cl Cc X.env) fp) elt (tG X.K Δ noW (rDp X.K) me)) (hs : ∀ x, foldedSetIterable iter X.env x = pure x := by intro _; rfl) :
    PE X (.ListComp elt [⟨tg, iter, ifs, 0⟩] scope pos) (tG X.K Δ W (rNew X.K (.lst .dat)) (lcM src (own.map (·.2)) bd cond me)) := pe_mono (pe_lc hc hN hi ok hg ht he hs) lc_of
/-- y = [..], data -/
theorem ss_setLc {i : Nat} {y : Str} {py spos : Pos} (own : List (Str × Nat)) (hK : C.K = X.K) (hc : X.calm = true) (hN : X.N.Nodup) (hi : PI X tg iter (tG X.K Δ C.W (rWV X.K) src)) (ok : BlkOk X.N X.env.scope scope own)
    (hg : ∀ (s : Shared) (H : Hp) (Cc : Addr) (cl : List (Str × Addr)) (fp : List Addr), PG (X.blk s H scope (compEnvC scope cl Cc X.env) fp) tg (tB X.K Δ (own.map (·.2)) bd)) (ht : ∀ (s : Shared) (H : Hp) (Cc : Addr) (cl : List (Str × Addr)) (fp : List Addr), PTs (X.blk s H scope (compEnvC scope cl Cc X.env) fp) ifs (tG X.K Δ noW rBl cond))
    (he : ∀ (s : Shared) (H : Hp) (Cc : Addr) (cl : List (Str × Addr)) (fp : List Addr), PE (X.blk s H scope (compEnvC scope cl Cc X.env) fp) elt (tG X.K Δ noW (rDp X.K) me))
    (hsw : swapsWith (.ListComp elt [⟨tg, iter, ifs, 0⟩] scope pos) (some (.Name y py)) spos.line X.env = pure true)
    (hd : Δ i = .dat := by rfl) (hy : X.N[i]? = some y := by rfl) (hyl : X.env.scope.names.lookup y = some .local := by rfl) (hs : ∀ x, foldedSetIterable iter X.env x = pure x := by intro _; rfl) :
    PS X (.Assign [.Name y py] (.ListComp elt [⟨tg, iter, ifs, 0⟩] scope pos) spos) (tS C Δ Δ (fun ρ => liftP (lcM src (own.map (·.2)) bd cond me ρ) ρ fun d => .nx (ρ.set i (some d)))) := by
  refine ps_mono (ps_setLc hc hN hy hyl hsw hi ok hg ht he hs) fun D σ H h => ?_
  obtain ⟨F0, B, F, ρ, E, p⟩ := h
  refine lc_of (W := C.W) σ H _ ?_
  have z := stepS (r := rNew C.K (.lst .dat)) (Q1 := fun x H1 => D.nx (σ.set i (some x)) H1) E p fun d v F1 H1 g q E1 p1 => by
    obtain ⟨F2, g2, dq⟩ := frz_lst g q
    exact p1 _ F2 H1 ⟨(E.e.gw g2).setDat hd dq, E.sh, E.ok⟩
  rw [← hK]
  exact z
end
end Pc

set_option maxRecDepth 100000
set_option maxHeartbeats 1000000
namespace Pc
open PySem PySem.Spec PyProof.Rows L2
open Evl (Ex)
/-! ### isinstance -/
def tyN : D → Option String
  | .none => some "NoneType"
  | .bool _ => some "bool"
  | .int _ => some "int"
  | .str _ => some "str"
  | .list _ => some "list"
  | .tuple _ => some "tuple"
  | .dict _ => none
def isiB (T t : String) : Bool := t == T || (t == "bool" && T == "int")
def isiO (T : String) (d : D) : Option Bool := (tyN d).map (isiB T)
def tyNames : List String := ["NoneType", "bool", "int", "str", "list", "tuple"]
def KitT (T : String) : Prop := ∀ (K : PySem.W.Frag), ∀ t ∈ tyNames, PySem.W.kitOne K (.type t) (.type T) = some (isiB T t)
theorem kit_all {T : String} (h1 : ∀ K : PySem.W.Frag, PySem.W.kitOne K (.type "NoneType") (.type T) = some (isiB T "NoneType")) (h2 : ∀ K : PySem.W.Frag, PySem.W.kitOne K (.type "bool") (.type T) = some (isiB T "bool")) (h3 : ∀ K : PySem.W.Frag, PySem.W.kitOne K (.type "int") (.type T) = some (isiB T "int"))
    (h4 : ∀ K : PySem.W.Frag, PySem.W.kitOne K (.type "str") (.type T) = some (isiB T "str")) (h5 : ∀ K : PySem.W.Frag, PySem.W.kitOne K (.type "list") (.type T) = some (isiB T "list")) (h6 : ∀ K : PySem.W.Frag, PySem.W.kitOne K (.type "tuple") (.type T) = some (isiB T "tuple")) : KitT T := by
  intro K t ht
  simp only [tyNames, List.mem_cons, List.not_mem_nil, or_false] at ht
  rcases ht with rfl | rfl | rfl | rfl | rfl | rfl
  · exact h1 K
  · exact h2 K
  · exact h3 K
  · exact h4 K
  · exact h5 K
  · exact h6 K
theorem kit_int : KitT "int" := kit_all (fun _ => rfl) (fun _ => rfl) (fun _ => rfl) (fun _ => rfl) (fun _ => rfl) (fun _ => rfl)
theorem kit_bool : KitT "bool" := kit_all (fun _ => rfl) (fun _ => rfl) (fun _ => rfl) (fun _ => rfl) (fun _ => rfl) (fun _ => rfl)
theorem kit_str : KitT "str" := kit_all (fun _ => rfl) (fun _ => rfl) (fun _ => rfl) (fun _ => rfl) (fun _ => rfl) (fun _ => rfl)
theorem kit_list : KitT "list" := kit_all (fun _ => rfl) (fun _ => rfl) (fun _ => rfl) (fun _ => rfl) (fun _ => rfl) (fun _ => rfl)
theorem kit_tuple : KitT "tuple" := kit_all (fun _ => rfl) (fun _ => rfl) (fun _ => rfl) (fun _ => rfl) (fun _ => rfl) (fun _ => rfl)
theorem sqt_ty {K : PySem.W.Frag} {H : Hp} {a : Addr} {xs : List V} (h : SqT K H a xs) : TyX K H (.ref a) (.type "tuple") := by
  rcases h with (h | ⟨o, h⟩) | ⟨o, its, n, h, c, _⟩
  · exact .base (.tup h)
  · exact .fTuple h
  · exact .kTuple h c
theorem ty_of {K : PySem.W.Frag} {F H : Hp} {x : V} {d : D} {t : String} (e : Ex F H) (h : Vw K F H x d) (q : tyN d = some t) : TyX K H x (.type t) ∧ t ∈ tyNames := by
  cases d with
  | none => cases q; rw [h.non]; exact ⟨.base .non, by decide⟩
  | bool b => cases q; rw [h.bl]; exact ⟨.base (.bl b), by decide⟩
  | int b => cases q; rw [h.int]; exact ⟨.base (.int b), by decide⟩
  | str b => cases q; rw [h.str]; exact ⟨.base (.str b), by decide⟩
  | list b => cases q; obtain ⟨a, vs, rfl, s, _⟩ := h.lst e; exact ⟨.base (.lst s), by decide⟩
  | tuple b => cases q; obtain ⟨a, vs, rfl, s, _⟩ := h.tup e; exact ⟨sqt_ty s, by decide⟩
  | dict b => cases q
section
variable {X : Cx} {Δ : Nat → Sh} {W : WX} {a : Expr} {pos p p2 : Pos} {m : En → P D} {x : Str} {T : String}
theorem isi_of (hk : KitT T) (σ : L2.St) (H : Hp) (Q : VK) (h : tG X.K Δ W (rDp X.K) (fun ρ => (m ρ).bind fun d => (P.ofO (isiO T d)).bind fun t => .ok (.bool t)) σ H Q) : tCB (rIsi X.K) (tCons (tG X.K Δ W (rVw X.K) m) (tCons (tC (.ty T)) tNil)) σ H Q := by
  obtain ⟨F0, B, F, ρ, E, p⟩ := h
  refine seqG (r1 := rVw X.K) E p fun dx x F1 H1 g1 q1 E1 p1 => ?_
  unfold isiO at p1
  cases e : tyN dx with
  | none => rw [e] at p1; exact p1.elim
  | some t =>
    rw [e] at p1
    obtain ⟨h1, h2⟩ := ty_of E1.eF q1 e
    exact ⟨x, .ty T, .type t, .type T, isiB T t, rfl, .ty T, h1, hk _ t h2, p1 _ F1 H1 (.refl E1.eF) (.bl _)⟩
theorem de_isi (hk : KitT T) (hm : X.mg "isinstance" = none) (hmT : X.mg x = none) (ha : PE X a (tG X.K Δ W (rVw X.K) m)) (hv : bootBuiltins x = some (.type T) := by decide +kernel) (hv2 : bootBuiltins "isinstance" = some (.builtin "isinstance") := by decide +kernel) (hg : Gl X "isinstance" := by rfl) (hgT : Gl X x := by rfl) (hn : x ≠ "__name__" := by decide)
    (hdb : (x == ("__debug__" : Str)) = false := by decide) (he : starEach [a, .Name x p2] X.env = (false, eval a X.env) :: starEach [.Name x p2] X.env := by rfl) (he2 : starEach [.Name x p2] X.env = (false, eval (.Name x p2) X.env) :: starEach [] X.env := by rfl) (hpl : (backTo pos (starEach [.Name x p2] X.env)).any (·.1) = false := by rfl) :
    PE X (.Call (.Name "isinstance" p) [a, .Name x p2] [] pos) (tG X.K Δ W (rDp X.K) (fun ρ => (m ρ).bind fun d => (P.ofO (isiO T d)).bind fun t => .ok (.bool t))) :=
  pe_mono (pe_callB call_isi hg hm hv2 (pa_cons ha (pa_cons (pe_bltn (v := .ty T) hgT hmT hv (show Value.type T = Value.type T from rfl) hn hdb) pa_nil he2) he) (by decide) (by decide) he hpl) (isi_of hk)
end
/-! ### lists and texts, so often -/
def repO : D → D → Option D
  | .list xs, .int k => if (decide (k < 1000000) && decide (-1000000 < k) && decide (xs.length * k.toNat ≤ LIM)) = true then some (.list (List.replicate k.toNat xs).flatten) else none
  | _, _ => none
theorem o_rep {X : Cx} : OpR X (binaryOp .Mult) (r2 X.K (rNew X.K (.lst .dat)) repO) := by
  intro pins s σ H x y v u Q I rx ry h
  obtain ⟨F, dx, dy, d, eF, vx, vy, hf, q⟩ := h
  cases dx <;> try (cases hf; done)
  cases dy <;> try (cases hf; done)
  rename_i xs k
  replace hf : (if (decide (k < 1000000) && decide (-1000000 < k) && decide (xs.length * k.toNat ≤ LIM)) = true then some (PyData.list (List.replicate k.toNat xs).flatten) else none) = some d := hf
  split at hf
  · rename_i hl
    cases hf
    simp only [Bool.and_eq_true, decide_eq_true_eq] at hl
    obtain ⟨⟨h1, h2⟩, h3⟩ := hl
    obtain ⟨a, vs, rfl, s1, d1⟩ := vx.lst eF
    refine op_rep pins s σ H _ _ v u Q I rx ry ⟨a, k, vs, rfl, vy.int, s1, by omega, by omega, by rw [d1.len]; exact lim_le h3, fun p hp => ?_⟩
    exact q _ _ _ (.own eF hp) (new_lst eF hp (d1.rep k.toNat))
  · cases hf
/-! ### methods of texts -/
section
variable {X : Cx} {Δ : Nat → Sh} {W : WX} {o e : Expr} {pos apos : Pos} {m ma : En → P D}
def strD : D → P Str
  | .str z => .ok z
  | _ => .stuck
theorem m0_of {r : V → List V → Hp → VK → Prop} {f : Str → Option D} {rs : Rs V D} (hr : ∀ F z d H Q, Ex F H → f z = some d → (∀ v F' H', Gw F H F' H' → rs.r H F' H' v d → Q v H') → r (.str z) [] H Q) (σ : L2.St) (H : Hp) (Q : VK)
    (h : tG X.K Δ W rs (fun ρ => (m ρ).bind fun x => (strD x).bind fun z => .ofO (f z)) σ H Q) : tM0 r (tG X.K Δ W (rVw X.K) m) σ H Q := by
  obtain ⟨F0, B, F, ρ, E, p⟩ := h
  refine seqG (r1 := rVw X.K) E p fun dx x F1 H1 g1 q1 E1 p1 => ?_
  cases dx with
  | str z =>
    replace p1 : PostG X.K W rs σ F1 H1 (.ofO (f z)) Q := p1
    have ex := Vw.str q1
    subst ex
    cases ef : f z with
    | none => rw [ef] at p1; exact p1.elim
    | some d => rw [ef] at p1; exact ⟨⟨z, rfl⟩, hr F1 z d H1 Q E1.eF ef p1⟩
  | _ => exact p1.elim
theorem m1_of {r : V → List V → Hp → VK → Prop} {f : Str → D → Option D} {rs : Rs V D} (hr : ∀ F z y d v H Q, Ex F H → Vw X.K F H v y → f z y = some d → (∀ v F' H', Gw F H F' H' → rs.r H F' H' v d → Q v H') → r (.str z) [v] H Q) (σ : L2.St) (H : Hp) (Q : VK)
    (h : tG X.K Δ W rs (fun ρ => (m ρ).bind fun x => (strD x).bind fun z => (ma ρ).bind fun y => .ofO (f z y)) σ H Q) : tM1 r (tG X.K Δ W (rVw X.K) m) (tG X.K Δ W (rVw X.K) ma) σ H Q := by
  obtain ⟨F0, B, F, ρ, E, p⟩ := h
  refine seqG (r1 := rVw X.K) E p fun dx x F1 H1 g1 q1 E1 p1 => ?_
  cases dx with
  | str z =>
    replace p1 : PostG X.K W rs σ F1 H1 ((ma ρ).bind fun y => .ofO (f z y)) Q := p1
    have ex := Vw.str q1
    subst ex
    refine ⟨⟨z, rfl⟩, seqG (r1 := rVw X.K) E1 p1 fun dy y F2 H2 g2 q2 E2 p2 => ?_⟩
    cases ef : f z dy with
    | none => rw [ef] at p2; exact p2.elim
    | some d => rw [ef] at p2; exact hr F2 z dy d y H2 Q E2.eF q2 ef p2
  | _ => exact p1.elim
def upperF (z : Str) : Option D := if z.length ≤ 5592405 then some (.str (Txt.upper z)) else none
theorem de_upper (ho : PE X o (tG X.K Δ W (rVw X.K) m)) (hbase : attributeBase o "upper" X.env (eval o X.env) = eval o X.env := by rfl) (hline : (apos.endLine == pos.line) = true := by rfl) :
    PE X (.Call (.Attribute o "upper" apos) [] [] pos) (tG X.K Δ W (rDp X.K) (fun ρ => (m ρ).bind fun x => (strD x).bind fun z => .ofO (upperF z))) := by
  refine pe_mono (pe_upper ho hbase hline) (m0_of fun F z d H Q e ef q => ?_)
  unfold upperF at ef
  split at ef
  · rename_i hl; cases ef; exact ⟨z, rfl, rfl, hl, q _ F H (.refl e) (.str _)⟩
  · cases ef
def splitF (z : Str) : D → Option D
  | .str y => if (y.length == 0) = false ∧ z.length + 2 ≤ LIM then some (.list ((Txt.split z y).map .str)) else none
  | _ => none
theorem dqs_str {K : PySem.W.Frag} {F : Hp} : ∀ ys : List Str, DqAll K F (ys.map V.str) (ys.map PyData.str)
  | [] => .nil
  | y :: ys => .cons (.str y) (dqs_str ys)
theorem de_split (ho : PE X o (tG X.K Δ W (rVw X.K) m)) (he : PE X e (tG X.K Δ W (rVw X.K) ma)) (hs : starEach [e] X.env = [(false, eval e X.env)] := by rfl) (hbase : attributeBase o "split" X.env (eval o X.env) = eval o X.env := by rfl) (hline : (apos.endLine == pos.line) = true := by rfl) :
    PE X (.Call (.Attribute o "split" apos) [e] [] pos) (tG X.K Δ W (rNew X.K (.lst .dat)) (fun ρ => (m ρ).bind fun x => (strD x).bind fun z => (ma ρ).bind fun y => .ofO (splitF z y))) := by
  refine pe_mono (pe_split ho he hs hbase hline) (m1_of fun F z y d v H Q e vy ef q => ?_)
  cases y with
  | str y =>
    replace ef : (if (y.length == 0) = false ∧ z.length + 2 ≤ LIM then some (PyData.list ((Txt.split z y).map .str)) else none) = some d := ef
    split at ef
    · rename_i hl
      cases ef
      have ev := vy.str
      subst ev
      exact ⟨z, y, rfl, rfl, hl.1, lim_le hl.2, fun p hp => q _ _ _ (.own e hp) (new_lst e hp (dqs_str _))⟩
    · cases ef
  | _ => cases ef
def strsD : List D → Option (List Str)
  | [] => some []
  | .str x :: r => (strsD r).map (x :: ·)
  | _ :: _ => none
theorem strsD_dq {K : PySem.W.Frag} {F : Hp} : ∀ {ds : List D} {vs : List V} {ys : List Str}, DqAll K F vs ds → strsD ds = some ys → vs = ys.map V.str
  | _, _, ys, .nil, h => by cases h; rfl
  | _, _, ys, .cons (d := d) a t, h => by
    cases d with
    | str x =>
      obtain ⟨zs, e1, rfl⟩ := Option.map_eq_some_iff.mp h
      cases a
      rw [strsD_dq t e1]
      rfl
    | _ => cases h
def joinF (z : Str) : D → Option D
  | .list ds => (strsD ds).bind fun ys => if (ys.map (·.length)).sum + ys.length * z.length ≤ 16777216 then some (.str (Txt.join z ys)) else none
  | _ => none
theorem de_join (ho : PE X o (tG X.K Δ W (rVw X.K) m)) (he : PE X e (tG X.K Δ W (rVw X.K) ma)) (hs : starEach [e] X.env = [(false, eval e X.env)] := by rfl) (hbase : attributeBase o "join" X.env (eval o X.env) = eval o X.env := by rfl) (hline : (apos.endLine == pos.line) = true := by rfl) :
    PE X (.Call (.Attribute o "join" apos) [e] [] pos) (tG X.K Δ W (rDp X.K) (fun ρ => (m ρ).bind fun x => (strD x).bind fun z => (ma ρ).bind fun y => .ofO (joinF z y))) := by
  refine pe_mono (pe_join ho he hs hbase hline) (m1_of fun F z y d v H Q e vy ef q => ?_)
  cases y with
  | list ds =>
    obtain ⟨ys, e1, e2⟩ := Option.bind_eq_some_iff.mp ef
    split at e2
    · rename_i hl
      cases e2
      obtain ⟨a, vs, rfl, s1, d1⟩ := vy.lst e
      have ev := strsD_dq d1 e1
      subst ev
      exact ⟨z, a, ys, rfl, rfl, .inl (SqL.of s1), hl, q _ F H (.refl e) (.str _)⟩
    · cases e2
  | _ => cases ef
end
end Pc

set_option maxRecDepth 100000
set_option maxHeartbeats 1000000
namespace Pc
open PySem PySem.Spec PyProof.Rows L2
open Evl (Ex)
/-! ### the mirror's words -/
def mVar (i : Nat) : En → P D := fun ρ => getS ρ i
def mC (d : D) : En → P D := fun _ => .ok d
def m2 (f : D → D → Option D) (ma mb : En → P D) : En → P D := fun ρ => (ma ρ).bind fun x => (mb ρ).bind fun y => .ofO (f x y)
def m1 (f : D → Option D) (ma : En → P D) : En → P D := fun ρ => (ma ρ).bind fun x => .ofO (f x)
def mCmp (f : D → D → Option Bool) (ma mb : En → P D) : En → P D := fun ρ => (ma ρ).bind fun x => (mb ρ).bind fun y => (P.ofO (f x y)).bind fun t => .ok (.bool t)
def tCmp (f : D → D → Option Bool) (ma mb : En → P D) : En → P Bool := fun ρ => (ma ρ).bind fun x => (mb ρ).bind fun y => .ofO (f x y)
def tTru (m : En → P D) : En → P Bool := fun ρ => (m ρ).bind fun d => .ofO (truO d)
def tNot (m : En → P Bool) : En → P Bool := fun ρ => (m ρ).bind fun t => .ok (!t)
def mNot (m : En → P D) : En → P D := fun ρ => (m ρ).bind fun d => (P.ofO (truO d)).bind fun t => .ok (.bool (!t))
def mNil : En → P (List D) := fun _ => .ok []
def mTup (ml : En → P (List D)) : En → P D := fun ρ => (ml ρ).bind fun xs => .ok (.tuple xs)
def mLst (ml : En → P (List D)) : En → P D := fun ρ => (ml ρ).bind fun xs => .ok (.list xs)
def mB (f : List D → Option D) (ml : En → P (List D)) : En → P D := fun ρ => (ml ρ).bind fun xs => .ofO (f xs)
def mF (g : List D → P D) (ml : En → P (List D)) : En → P D := fun ρ => (ml ρ).bind g
def oNone : En → P (Option Int) := fun _ => .ok none
def oSome (m : En → P D) : En → P (Option Int) := fun ρ => (m ρ).bind asInt
def mCut (f : D → Option Int → Option Int → Option D) (m : En → P D) (ml mh : En → P (Option Int)) : En → P D := fun ρ => (m ρ).bind fun x => (ml ρ).bind fun l => (mh ρ).bind fun h => .ofO (f x l h)
def mIsi (T : String) (m : En → P D) : En → P D := fun ρ => (m ρ).bind fun d => (P.ofO (isiO T d)).bind fun t => .ok (.bool t)
def mS0 (f : Str → Option D) (m : En → P D) : En → P D := fun ρ => (m ρ).bind fun x => (strD x).bind fun z => .ofO (f z)
def mS1 (f : Str → D → Option D) (m ma : En → P D) : En → P D := fun ρ => (m ρ).bind fun x => (strD x).bind fun z => (ma ρ).bind fun y => .ofO (f z y)
def iL (m : En → P D) : En → P (List D) := fun ρ => (m ρ).bind lstO
def iT (m : En → P D) : En → P (List D) := fun ρ => (m ρ).bind tupO
def iR1 (ml : En → P (List D)) : En → P (List D) := fun ρ => (ml ρ).bind fun ds => .ofO (rng1 ds)
def iR2 (ml : En → P (List D)) : En → P (List D) := fun ρ => (ml ρ).bind fun ds => .ofO (rng2 ds)
def tYes : En → P Bool := fun _ => .ok true
def sSet (i : Nat) (m : En → P D) : En → Fl := fun ρ => liftP (m ρ) ρ fun d => .nx (ρ.set i (some d))
def sAsg (bd : D → En → Option En) (m : En → P D) : En → Fl := fun ρ => liftP (m ρ) ρ fun d => bindS bd d ρ
def sPar (i j : Nat) (ml : En → P (List D)) : En → Fl := fun ρ => liftP (ml ρ) ρ (par2 i j ρ)
def sExpr (m : En → P D) : En → Fl := fun ρ => liftP (m ρ) ρ fun _ => .nx ρ
def sRet (m : En → P D) : En → Fl := fun ρ => liftP (m ρ) ρ fun d => .rt d ρ
def sEx (c : Str) : En → Fl := fun ρ => .ex c ρ
def sNx : En → Fl := fun ρ => .nx ρ
def sFor (src : En → P (List D)) (bd : D → En → Option En) (body : En → Fl) : En → Fl := fun ρ => liftP (src ρ) ρ fun xs => forL bd body xs ρ
section
variable {X : Cx} {C : Ct} {Δ Δ1 Δ' : Nat → Sh} {W : WX} {e a b c o : Expr} {es : List Expr} {pos p p2 apos : Pos} {ma mb mc m : En → P D} {ta tb : En → P Bool} {ml : En → P (List D)}
theorem g_gint {x : Str} {i : Int} (hm : ∃ t, X.mg x = some (.int i t)) (hg : Gl X x := by rfl) (hd : (x == ("__debug__" : Str)) = false := by decide) : PE X (.Name x pos) (tG X.K Δ W (rDp X.K) (mC (.int i))) := by
  obtain ⟨t, hm⟩ := hm
  exact de_glob hm (v := .int i) ⟨t, rfl⟩ (fun _ => .int i) hg hd
theorem g_gtup {x : Str} {ys : List Str} (hm : X.mg x = some (.ref (He.ga X.K x))) (hs : ∀ F, SqT X.K F (He.ga X.K x) (ys.map V.str)) (hg : Gl X x := by rfl) (hd : (x == ("__debug__" : Str)) = false := by decide) : PE X (.Name x pos) (tG X.K Δ W (rDp X.K) (mC (.tuple (ys.map .str)))) :=
  de_glob hm (v := .ref _) rfl (fun F => .tup (hs F) (dqs_str ys)) hg hd
/-- a list of one's own, looked at -/
theorem de_varL {i : Nat} {x : Str} (hd : Δ i = .lst .dat := by rfl) (hN : X.N[i]? = some x := by rfl) (hv : Vis X.env.scope x := by first | exact Or.inl rfl | exact Or.inr (Or.inl rfl) | exact Or.inr (Or.inr rfl))
    (h1 : (x == ("__debug__" : Str)) = false := by decide) (h2 : (x == ("__classdict__" : Str)) = false := by decide) : PE X (.Name x pos) (tG X.K Δ W (rVw X.K) (mVar i)) := by
  refine pe_mono (pe_var hN hv h1 h2) fun σ H Q h => ?_
  obtain ⟨F0, B, F, ρ, E, p⟩ := h
  replace p : PostG X.K W (rVw X.K) σ F H (getS ρ i) Q := p
  unfold getS at p
  cases e : ρ[i]? with
  | none => rw [e] at p; exact p.elim
  | some o =>
    cases o with
    | none => rw [e] at p; exact p.elim
    | some d =>
      rw [e] at p
      obtain ⟨φ, h1, _⟩ := E.own
      obtain ⟨v, hv, o⟩ := h1 i d e
      rw [hd] at o
      obtain ⟨a, vs, ds, fq, rfl, rfl, ha, ol, _⟩ := o
      exact ⟨_, hv, p _ F H (.refl E.eF) (.inr (.inl ⟨a, vs, ds, rfl, rfl, ha, (dat_ownL ol).1⟩))⟩
/-- for, over anything that is frozen -/
theorem ss_forI {tg iter : Expr} {vs : List Nat} {src : En → P (List D)} {bd : D → En → Option En} {mbody : En → Fl} {body : List Stmt} (hp : PassesOwn (model X.prog X.w) X.A X.env X.xe) (hc : X.calm = true) (hi : PI X tg iter (tG C.K Δ C.W (rWF C.K) src)) (hg : PG X tg (tB C.K Δ vs bd)) (hb : PSs X body (tS (C.lp Δ) Δ Δ mbody))
    (hs : ∀ x, foldedSetIterable iter X.env x = pure x := by intro _; rfl) : PS X (.For tg iter body [] pos) (tS C Δ Δ (sFor src bd mbody)) := by
  refine ps_mono (ps_for hp hc hi hg hb hs) fun D σ H h => ?_
  obtain ⟨F0, B, F, ρ, E, p⟩ := h
  refine stepS (r := rWF C.K) E p fun ds J F1 H1 g wk E1 p1 => ?_
  refine ⟨fun i n σ' H' => n = ds.length - i ∧ i ≤ ds.length ∧ ∃ F' ρ', EnvS C Δ F1 B F' H' σ' ρ' ∧ PostS C Δ F1 B D (forL bd mbody (ds.drop i) ρ'), ⟨_, rfl, Nat.zero_le _, F1, ρ, E1.base, p1.up E1.e.e0 E1.e.lim⟩, ?_⟩
  rintro i n σ' H' ⟨rfl, hi, F', ρ', E', p'⟩
  obtain ⟨w1, w2⟩ := wk i F' H' E'.e.e0 E'.e.eF
  by_cases hlt : i < ds.length
  · refine .inr ?_
    have hd : ds[i]? = some ds[i] := List.getElem?_eq_getElem hlt
    obtain ⟨go, yl⟩ := w1 _ hd
    refine ⟨go, _, fun σ2 H2 z => ⟨ds.length - (i + 1), by omega, rfl, hlt, z⟩, fun x H2 y => ?_⟩
    obtain ⟨F2, g2, dq⟩ := yl x H2 y
    rw [drop_get hd] at p'
    exact turn_ok (E'.gw g2) dq p' fun σ3 F3 H3 ρ3 E3 p3 => ⟨F3, ρ3, E3, p3⟩
  · have e : i = ds.length := by omega
    subst e
    rw [List.drop_length] at p'
    exact .inl ⟨w2 (Nat.le_refl _), p' σ' F' H' E'⟩
end
/-! ### the script -/
def cellO : D → D → Option D
  | .list ds, .int k => if 0 ≤ k then some (ds.getD k.toNat (.int 0)) else none
  | _, _ => none
def spCell (K : PySem.W.Frag) : Sp := fun vs H Q _ => ∃ (a : Addr) (us : List V) (k : Int), vs = [.ref a, .int k] ∧ 0 ≤ k ∧ SqL K H a us ∧ Q (us.getD k.toNat (.int 0)) H
structure DefC (Pr : Program) (w : World) (K : PySem.W.Frag) (mg : Str → Option Value) (base : Heap) : Prop where
  ok : ∃ f fd ps, FnOk Pr w K mg base (L2.CX Pr w) 1 f fd ps (spCell K) ∧ mg "_law_cell" = some (.ref f) ∧ PySem.W.keepIn K (.ref f) = true ∧ Binds K fd ps []
section
variable {X : Cx} {Δ : Nat → Sh} {W : WX} {e : Expr} {pos p p2 : Pos} {m : En → P D} {k : Nat}
theorem de_cell {i : Nat} {x : Str} (d : DefC X.prog X.w X.K X.mg X.base) (hr : Room 1 X.A) (tk : Takes X W) (he : PE X e (tG X.K Δ W (rDp X.K) m)) (hd : Δ i = .scr := by rfl) (hN : X.N[i]? = some x := by rfl) (hv : Vis X.env.scope x := by first | exact Or.inl rfl | exact Or.inr (Or.inl rfl) | exact Or.inr (Or.inr rfl))
    (h1 : (x == ("__debug__" : Str)) = false := by decide) (h2 : (x == ("__classdict__" : Str)) = false := by decide) (hg : Gl X "_law_cell" := by rfl) (hs1 : starEach [.Name x p2, e] X.env = (false, eval (.Name x p2) X.env) :: starEach [e] X.env := by rfl) (hs2 : starEach [e] X.env = (false, eval e X.env) :: starEach [] X.env := by rfl) (hpl : (backTo pos (starEach [e] X.env)).any (·.1) = false := by rfl) :
    PE X (.Call (.Name "_law_cell" p) [.Name x p2, e] [] pos) (tG X.K Δ W (rDp X.K) (m2 cellO (mVar i) m)) := by
  obtain ⟨f, fd, ps, Fn, hm, hk, hb⟩ := d.ok
  refine pe_mono (pe_callS Fn hr hg hm hk hb (fun σ => passAt tk σ) (pa_cons (pe_var hN hv h1 h2) (pa_cons he pa_nil hs2) hs1) (by decide) hs1 hpl) fun σ H Q h => ?_
  obtain ⟨F0, B, F, ρ, E, p⟩ := h
  replace p : PostG X.K W (rDp X.K) σ F H ((getS ρ i).bind fun x => (m ρ).bind fun y => .ofO (cellO x y)) Q := p
  unfold getS at p
  cases e : ρ[i]? with
  | none => rw [e] at p; exact p.elim
  | some o =>
    cases o with
    | none => rw [e] at p; exact p.elim
    | some d =>
      rw [e] at p
      obtain ⟨φ, h1, _⟩ := E.own
      obtain ⟨v, hv, o⟩ := h1 i d e
      rw [hd] at o
      obtain ⟨⟨a, vs, ds, rfl, rfl, hq, dq⟩, _⟩ := o
      refine ⟨_, hv, seqG (r1 := rDp X.K) E p fun dk kv F1 H1 g1 q1 E1 p1 => ?_⟩
      cases dk with
      | int k =>
        cases q1
        replace p1 : PostG X.K W (rDp X.K) σ F1 H1 (.ofO (if 0 ≤ k then some (ds.getD k.toNat (.int 0)) else none)) Q := p1
        by_cases hk0 : 0 ≤ k
        · rw [if_pos hk0] at p1
          refine ⟨a, vs, k, rfl, hk0, Evl.ex_l E1.eF (Evl.ex_l g1.1 hq), p1 _ F1 H1 (.refl E1.eF) ?_⟩
          have dq1 := dq.mn g1.1
          rw [List.getD_eq_getElem?_getD, List.getD_eq_getElem?_getD]
          cases z : vs[k.toNat]? with
          | none =>
            have : ds[k.toNat]? = none := by
              rw [List.getElem?_eq_none_iff] at z ⊢
              rw [← dq.len]; exact z
            rw [this]
            exact .int 0
          | some w =>
            obtain ⟨d', h1, h2⟩ := dq1.get z
            rw [h1]
            exact h2
        · rw [if_neg hk0] at p1; exact p1.elim
      | _ => exact p1.elim
end
section
variable {Pr : Program} {w : World} {K : PySem.W.Frag} {mg : Str → Option Value} {base : Heap} {st : Stmt} {N : List Str} {k : Nat} {Δ Δ' : Nat → Sh} {m : En → Fl}
def spLaw (K : PySem.W.Frag) (n : Nat) (m : En → Fl) : Sp := fun vs H Q E => ∃ (a : Addr) (ns : List Int), vs = [.ref a] ∧ SqL K H a (ns.map V.int) ∧ PostF K H H Q E (runF n m [.list (ns.map .int)])
theorem dqs_int {K : PySem.W.Frag} {F : Hp} : ∀ ns : List Int, DqAll K F (ns.map V.int) (ns.map PyData.int)
  | [] => .nil
  | y :: ys => .cons (.int y) (dqs_int ys)
theorem law_of {f : Addr} {fd : FuncData} (F : FunD K "law" "law" (defArgs st) (defBody st) (defScope st) [] [] f fd) (S : FnScope N ["script"] (defScope st)) (hd : Δ 0 = .scr)
    (hbody : ∀ (cdv : Value) (A : Around) (outer : List Env) (s : Shared) (H : Hp) (E : XK), Room k (A.deeper (envOfC "law" (defScope st) s.heap.objs.size f cdv)) →
      PSs (cxOf (L2.CX Pr w) Pr w K mg base N "law" (defScope st) f cdv A outer s H E) (defBody st) (tS (ctOf K E) Δ Δ' m)) : FnOk Pr w K mg base (L2.CX Pr w) (k + 1) f fd ["script"] (spLaw K N.length m) := by
  have hpl : 1 ≤ N.length := by have := congrArg List.length S.pre; rw [List.length_take] at this; simp at this; omega
  refine F.ok S (fun vs H Q E h => ?_) (fun cdv A outer s H vs Q E hr h => ⟨_, hbody cdv A outer s H E hr, ?_⟩)
  · obtain ⟨_, _, rfl, _⟩ := h
    rfl
  · obtain ⟨a, ns, rfl, hq, p⟩ := h
    refine ⟨H, H, H, env0 N.length [.list (ns.map .int)], ⟨⟨?_, Ex.refl _, Ex.refl _, Ex.refl _, fun _ h _ => h, fun _ => [], fun i d hi => ?_, fun _ => List.nodup_nil, fun i j a ha => (List.not_mem_nil ha).elim, fun i a ha => (List.not_mem_nil ha).elim⟩, fun i hi => Bool.noConfusion hi, trivial⟩, ?_⟩
    · rw [start_len (by simpa using hpl), env0_len (by simpa using hpl)]
    · cases i with
      | zero =>
        cases hi
        refine ⟨.ref a, rfl, ?_⟩
        rw [hd]
        exact ⟨⟨a, _, _, rfl, rfl, hq, dqs_int ns⟩, rfl⟩
      | succ i =>
        exfalso
        unfold env0 at hi
        rw [List.getElem?_append_right (by simp), List.getElem?_replicate] at hi
        split at hi <;> cases hi
    · unfold runF at p
      cases e : m (env0 N.length [.list (ns.map .int)]) with
      | nx ρ => rw [e] at p; exact fun σ F' H' E' => p .non F' H' ⟨E'.e.e0, E'.e.eF, E'.e.eB, fun a h1 h2 => E'.e.lim a h2 h1⟩ .non
      | rt d ρ => rw [e] at p; exact fun v σ F' H' E' q => p v F' H' ⟨E'.e0, E'.eF, E'.eB, fun a h1 h2 => E'.lim a h2 h1⟩ q
      | ct ρ => rw [e] at p; exact p.elim
      | ex c ρ => rw [e] at p; exact fun Δe σ F' H' E' => p F' H' ⟨E'.e.e0, E'.e.eF, E'.e.eB, fun a h1 h2 => E'.e.lim a h2 h1⟩
      | stuck => rw [e] at p; exact p
end
end Pc

set_option maxRecDepth 100000
set_option maxHeartbeats 1000000
namespace Pc
open PySem PySem.Spec PyProof.Rows L2
open Evl (Ex)
section
variable {X : Cx} {C : Ct} {Δ Δ1 Δ' : Nat → Sh} {W : WX} {e a b c o : Expr} {es : List Expr} {pos p p2 apos : Pos} {ma mb mc m : En → P D} {ta tb : En → P Bool} {ml : En → P (List D)} {r : Rs V D}
theorem g_var {i : Nat} {x : Str} (hd : Δ i = .dat := by rfl) (hN : X.N[i]? = some x := by rfl) (hv : Vis X.env.scope x := by first | exact Or.inl rfl | exact Or.inr (Or.inl rfl) | exact Or.inr (Or.inr rfl))
    (h1 : (x == ("__debug__" : Str)) = false := by decide) (h2 : (x == ("__classdict__" : Str)) = false := by decide) : PE X (.Name x pos) (tG X.K Δ W (rDp X.K) (mVar i)) := de_var hd hN hv h1 h2
theorem g_int {i : Int} {j : Nat} : PE X (.Constant (.int i) j pos) (tG X.K Δ W (rDp X.K) (mC (.int i))) := de_int
theorem g_bl {i : Bool} {j : Nat} : PE X (.Constant (.bool i) j pos) (tG X.K Δ W (rDp X.K) (mC (.bool i))) := de_bl
theorem g_non {j : Nat} : PE X (.Constant .none j pos) (tG X.K Δ W (rDp X.K) (mC .none)) := de_non
theorem g_str {i : Str} {j : Nat} : PE X (.Constant (.str i) j pos) (tG X.K Δ W (rDp X.K) (mC (.str i))) := de_str
theorem g_bin {op : Operator} {f : D → D → Option D} (ho : OpR X (binaryOp op) (r2 X.K r f)) (ha : PE X a (tG X.K Δ W (rVw X.K) ma)) (hb : PE X b (tG X.K Δ W (rVw X.K) mb)) : PE X (.BinOp a op b pos) (tG X.K Δ W r (m2 f ma mb)) := de_bin ho ha hb
theorem g_ix {f : D → D → Option D} (ho : IxR X (r2 X.K r f)) (ha : PE X a (tG X.K Δ W (rVw X.K) ma)) (hb : PE X b (tG X.K Δ W (rVw X.K) mb)) (hs : PlainIx b := by exact fun _ _ => rfl) : PE X (.Subscript a b pos) (tG X.K Δ W r (m2 f ma mb)) := de_ix ho ha hb hs
theorem g_un {op : UnaryOp} {f : D → Option D} (ho : UnR X (unaryOp op) (r1 X.K r f)) (ha : PE X a (tG X.K Δ W (rVw X.K) ma)) : PE X (.UnaryOp op a pos) (tG X.K Δ W r (m1 f ma)) := de_un ho ha
theorem g_cmp {op : CmpOp} {f : D → D → Option Bool} (ho : OpR X (compareOp op) (r2b X.K f)) (ha : PE X a (tG X.K Δ W (rVw X.K) ma)) (hb : PE X b (tG X.K Δ W (rVw X.K) mb)) (hm : behindInMarks op b = false := by first | exact nomark _ | rfl) : PE X (.Compare a [op] [b] pos) (tG X.K Δ W (rDp X.K) (mCmp f ma mb)) := de_cmp ho ha hb hm
theorem t_cmp {op : CmpOp} {f : D → D → Option Bool} (ho : OpR X (compareOp op) (r2b X.K f)) (ha : PE X a (tG X.K Δ W (rVw X.K) ma)) (hb : PE X b (tG X.K Δ W (rVw X.K) mb)) (hm : behindInMarks op b = false := by first | exact nomark _ | rfl) : PT X (.Compare a [op] [b] pos) (tG X.K Δ W rBl (tCmp f ma mb)) := dt_cmp ho ha hb hm
theorem t_tru (ha : PE X a (tG X.K Δ W (rVw X.K) m)) (he : ∀ whole, isTrue a X.env whole = (do let v ← whole; standAt a.pos; holding [v] (truthy v)) := by intro _; rfl) : PT X a (tG X.K Δ W rBl (tTru m)) := dt_truth ha he
theorem t_not (ha : PT X a (tG X.K Δ W rBl ta)) : PT X (.UnaryOp .Not a pos) (tG X.K Δ W rBl (tNot ta)) := dt_not ha
theorem g_not (ha : PE X a (tG X.K Δ W (rVw X.K) m)) : PE X (.UnaryOp .Not a pos) (tG X.K Δ W (rDp X.K) (mNot m)) := de_not ha
theorem a_nil : PA X [] (tG X.K Δ W (rDpsN X.K 0) mNil) := da_nil
theorem v_nil : PA X [] (tG X.K Δ W (rVws X.K) mNil) := dv_nil
theorem g_tup {n : Nat} {x1} (h : PA X es (tG X.K Δ W (rDpsN X.K n) ml)) (hn : n ≤ sizeLine := by decide) : PE X (.Tuple es x1 pos) (tG X.K Δ W (rDp X.K) (mTup ml)) := de_tup h hn
theorem g_lst {n : Nat} (h : PA X es (tG X.K Δ W (rDpsN X.K n) ml)) (hn : n ≤ sizeLine := by decide) : PE X (.List es pos) (tG X.K Δ W (rNew X.K (.lst .dat)) (mLst ml)) := de_lst h hn
theorem g_callB {x : Str} {id : String} {f : List D → Option D} (hc : CallR X (.builtin id) (rN X.K r f)) (hm : X.mg x = none) (ha : PA X (e :: es) (tG X.K Δ W (rVws X.K) ml)) (hv : bootBuiltins x = some (.builtin id) := by decide +kernel) (hg : Gl X x := by rfl) (hn : x ≠ "__name__" := by decide)
    (hdb : (x == ("__debug__" : Str)) = false := by decide) (he : starEach (e :: es) X.env = (false, eval e X.env) :: starEach es X.env := by rfl) (hpl : (backTo pos (starEach es X.env)).any (·.1) = false := by rfl) :
    PE X (.Call (.Name x p) (e :: es) [] pos) (tG X.K Δ W r (mB f ml)) := de_callB hc hm ha hv hg hn hdb he hpl
theorem g_callTy {x : Str} {T : String} {f : List D → Option D} (hc : CallR X (.type T) (rN X.K r f)) (hm : X.mg x = none) (ha : PA X (e :: es) (tG X.K Δ W (rVws X.K) ml)) (hv : bootBuiltins x = some (.type T) := by decide +kernel) (hg : Gl X x := by rfl) (hn : x ≠ "__name__" := by decide)
    (hdb : (x == ("__debug__" : Str)) = false := by decide) (he : starEach (e :: es) X.env = (false, eval e X.env) :: starEach es X.env := by rfl) (hpl : (backTo pos (starEach es X.env)).any (·.1) = false := by rfl) :
    PE X (.Call (.Name x p) (e :: es) [] pos) (tG X.K Δ W r (mB f ml)) := de_callTy hc hm ha hv hg hn hdb he hpl
theorem g_call {x : Str} {k n : Nat} {g : List D → P D} (d : Def X.prog X.w X.K X.mg X.base x k n g) (hr : Room k X.A) (tk : Takes X W) (ha : PA X (e :: es) (tG X.K Δ W (rDpsN X.K n) ml)) (hg : Gl X x := by rfl)
    (hdb : (x == ("__debug__" : Str)) = false := by decide) (he : starEach (e :: es) X.env = (false, eval e X.env) :: starEach es X.env := by rfl) (hpl : (backTo pos (starEach es X.env)).any (·.1) = false := by rfl) :
    PE X (.Call (.Name x p) (e :: es) [] pos) (tG X.K Δ W (rDp X.K) (mF g ml)) := de_call d hr tk ha hg hdb he hpl
theorem o_none : PO X none (tG X.K Δ W rOp oNone) := do_none
theorem o_some (h : PE X e (tG X.K Δ W (rVw X.K) m)) : PO X (some e) (tG X.K Δ W rOp (oSome m)) := do_some h
theorem g_cut {f : D → Option Int → Option Int → Option D} {lo hi : Option Expr} {p2 : Pos} {ml mh : En → P (Option Int)} (hr : SlR X (rSl X.K r f)) (he : PE X e (tG X.K Δ W (rVw X.K) m)) (hl : PO X lo (tG X.K Δ W rOp ml)) (hu : PO X hi (tG X.K Δ W rOp mh)) :
    PE X (.Subscript e (.Slice lo hi none p2) pos) (tG X.K Δ W r (mCut f m ml mh)) := de_slice hr he hl hu
theorem g_isi {x : Str} {T : String} (hk : KitT T) (hm : X.mg "isinstance" = none) (hmT : X.mg x = none) (ha : PE X a (tG X.K Δ W (rVw X.K) m)) (hv : bootBuiltins x = some (.type T) := by decide +kernel) (hv2 : bootBuiltins "isinstance" = some (.builtin "isinstance") := by decide +kernel) (hg : Gl X "isinstance" := by rfl) (hgT : Gl X x := by rfl) (hn : x ≠ "__name__" := by decide)
    (hdb : (x == ("__debug__" : Str)) = false := by decide) (he : starEach [a, .Name x p2] X.env = (false, eval a X.env) :: starEach [.Name x p2] X.env := by rfl) (he2 : starEach [.Name x p2] X.env = (false, eval (.Name x p2) X.env) :: starEach [] X.env := by rfl) (hpl : (backTo pos (starEach [.Name x p2] X.env)).any (·.1) = false := by rfl) :
    PE X (.Call (.Name "isinstance" p) [a, .Name x p2] [] pos) (tG X.K Δ W (rDp X.K) (mIsi T m)) := de_isi hk hm hmT ha hv hv2 hg hgT hn hdb he he2 hpl
theorem g_upper (ho : PE X o (tG X.K Δ W (rVw X.K) m)) (hbase : attributeBase o "upper" X.env (eval o X.env) = eval o X.env := by rfl) (hline : (apos.endLine == pos.line) = true := by rfl) : PE X (.Call (.Attribute o "upper" apos) [] [] pos) (tG X.K Δ W (rDp X.K) (mS0 upperF m)) := de_upper ho hbase hline
theorem g_split (ho : PE X o (tG X.K Δ W (rVw X.K) m)) (he : PE X e (tG X.K Δ W (rVw X.K) ma)) (hs : starEach [e] X.env = [(false, eval e X.env)] := by rfl) (hbase : attributeBase o "split" X.env (eval o X.env) = eval o X.env := by rfl) (hline : (apos.endLine == pos.line) = true := by rfl) :
    PE X (.Call (.Attribute o "split" apos) [e] [] pos) (tG X.K Δ W (rNew X.K (.lst .dat)) (mS1 splitF m ma)) := de_split ho he hs hbase hline
theorem g_join (ho : PE X o (tG X.K Δ W (rVw X.K) m)) (he : PE X e (tG X.K Δ W (rVw X.K) ma)) (hs : starEach [e] X.env = [(false, eval e X.env)] := by rfl) (hbase : attributeBase o "join" X.env (eval o X.env) = eval o X.env := by rfl) (hline : (apos.endLine == pos.line) = true := by rfl) :
    PE X (.Call (.Attribute o "join" apos) [e] [] pos) (tG X.K Δ W (rDp X.K) (mS1 joinF m ma)) := de_join ho he hs hbase hline
variable {tg iter : Expr}
theorem i_list (h : PE X e (tG X.K Δ W (rDp X.K) m)) : PI X tg e (tG X.K Δ W (rWF X.K) (iL m)) := di_list h
theorem i_listV (h : PE X e (tG X.K Δ W (rVw X.K) m)) : PI X tg e (tG X.K Δ W (rWV X.K) (iL m)) := di_listV h
theorem i_tup (h : PE X e (tG X.K Δ W (rDp X.K) m)) : PI X tg e (tG X.K Δ W (rWF X.K) (iT m)) := di_tup h
theorem i_range1 {ea : Expr} {p' : Pos} (hm : X.mg "range" = none) (ha : PA X [ea] (tG X.K Δ W (rVws X.K) ml)) (hg : Gl X "range" := by rfl) (hs : starEach [ea] X.env = [(false, eval ea X.env)] := by rfl) :
    PI X tg (.Call (.Name "range" p') [ea] [] pos) (tG X.K Δ W (rWF X.K) (iR1 ml)) := di_range1 hm ha hg hs
theorem i_range2 {ea eb : Expr} {p' : Pos} (hm : X.mg "range" = none) (ha : PA X [ea, eb] (tG X.K Δ W (rVws X.K) ml)) (hg : Gl X "range" := by rfl) (hs : starEach [ea, eb] X.env = [(false, eval ea X.env), (false, eval eb X.env)] := by rfl) (hs2 : starEach [eb] X.env = [(false, eval eb X.env)] := by rfl) :
    PI X tg (.Call (.Name "range" p') [ea, eb] [] pos) (tG X.K Δ W (rWF X.K) (iR2 ml)) := di_range2 hm ha hg hs hs2
theorem g_lc {elt : Expr} {ifs : List Expr} {scope : Scope} {src : En → P (List D)} {bd : D → En → Option En} {cond : En → P Bool} {me : En → P D} (own : List (Str × Nat)) (hc : X.calm = true) (hN : X.N.Nodup) (hi : PI X tg iter (tG X.K Δ W (rWV X.K) src)) (ok : BlkOk X.N X.env.scope scope own)
    (hg : ∀ (s : Shared) (H : Hp) (Cc : Addr) (cl : List (Str × Addr)) (fp : List Addr), PG (X.blk s H scope (compEnvC scope cl Cc X.env) fp) tg (tB X.K Δ (own.map (·.2)) bd)) (ht : ∀ (s : Shared) (H : Hp) (Cc : Addr) (cl : List (Str × Addr)) (fp : List Addr), PTs (X.blk s H scope (compEnvC scope cl Cc X.env) fp) ifs (tG X.K Δ noW rBl cond))
    (he : ∀ (s : Shared) (H : Hp) (Cc : Addr) (cl : List (Str × Addr)) (fp : List Addr), PE (X.blk s H scope (compEnvC scope cl Cc X.env) fp) elt (tG X.K Δ noW (rDp X.K) me)) (hs : ∀ x, foldedSetIterable iter X.env x = pure x := by intro _; rfl) :
    PE X (.ListComp elt [⟨tg, iter, ifs, 0⟩] scope pos) (tG X.K Δ W (rNew X.K (.lst .dat)) (lcM src (own.map (·.2)) bd cond me)) := de_lc own hc hN hi ok hg ht he hs
theorem ts_nil : PTs X [] (tG X.K Δ W rBl tYes) := dts_nil
variable {st : Stmt} {rest body body2 : List Stmt} {m1' m2' : En → Fl} {tc : En → P Bool}
theorem s_set {i : Nat} {x : Str} {pos' : Pos} (hK : C.K = X.K) (he : PE X e (tG C.K Δ C.W (rDp C.K) m)) (hN : X.N.Nodup) (hd : Δ i = .dat := by rfl) (hi : X.N[i]? = some x := by rfl) (hx : Loc X.env.scope x := by first | exact Or.inl rfl | exact Or.inr rfl)
    (hs : swapsWith e (some (.Name x pos')) pos.line X.env = pure false := by rfl) (hf : X.fn x = true ∨ X.env.scope.names.lookup x = some .local := by first | exact .inl rfl | exact .inr rfl | assumption) :
    PS X (.Assign [.Name x pos'] e pos) (tS C Δ Δ (sSet i m)) := ss_set hK he hN hd hi hx hs hf
theorem s_setLc {i : Nat} {y : Str} {py spos : Pos} {elt : Expr} {ifs : List Expr} {scope : Scope} {src : En → P (List D)} {bd : D → En → Option En} {cond : En → P Bool} {me : En → P D} (own : List (Str × Nat)) (hK : C.K = X.K) (hc : X.calm = true) (hN : X.N.Nodup) (hi : PI X tg iter (tG X.K Δ C.W (rWV X.K) src)) (ok : BlkOk X.N X.env.scope scope own)
    (hg : ∀ (s : Shared) (H : Hp) (Cc : Addr) (cl : List (Str × Addr)) (fp : List Addr), PG (X.blk s H scope (compEnvC scope cl Cc X.env) fp) tg (tB X.K Δ (own.map (·.2)) bd)) (ht : ∀ (s : Shared) (H : Hp) (Cc : Addr) (cl : List (Str × Addr)) (fp : List Addr), PTs (X.blk s H scope (compEnvC scope cl Cc X.env) fp) ifs (tG X.K Δ noW rBl cond))
    (he : ∀ (s : Shared) (H : Hp) (Cc : Addr) (cl : List (Str × Addr)) (fp : List Addr), PE (X.blk s H scope (compEnvC scope cl Cc X.env) fp) elt (tG X.K Δ noW (rDp X.K) me))
    (hsw : swapsWith (.ListComp elt [⟨tg, iter, ifs, 0⟩] scope pos) (some (.Name y py)) spos.line X.env = pure true)
    (hd : Δ i = .dat := by rfl) (hy : X.N[i]? = some y := by rfl) (hyl : X.env.scope.names.lookup y = some .local := by rfl) (hs : ∀ x, foldedSetIterable iter X.env x = pure x := by intro _; rfl) :
    PS X (.Assign [.Name y py] (.ListComp elt [⟨tg, iter, ifs, 0⟩] scope pos) spos) (tS C Δ Δ (sSet i (lcM src (own.map (·.2)) bd cond me))) := ss_setLc own hK hc hN hi ok hg ht he hsw hd hy hyl hs
theorem s_expr (he : PE X e (tG C.K Δ C.W (rVw C.K) m)) (hs : swapsWith e none pos.line X.env = pure false := by rfl) : PS X (.Expr e pos) (tS C Δ Δ (sExpr m)) := ss_expr he hs
theorem s_ret (he : PE X e (tG C.K Δ C.W (rDp C.K) m)) (hr : ∀ F v d, Dq C.K F v d → C.rv F v d := by first | exact fun _ _ _ h => h | exact fun _ _ _ _ => trivial) : PS X (.Return (some e) pos) (tS C Δ Δ' (sRet m)) := ss_ret he hr
theorem s_retV {r : Rs V D} (he : PE X e (tG C.K Δ C.W r m)) (hr : ∀ F v d, C.rv F v d := by exact fun _ _ _ => trivial) : PS X (.Return (some e) pos) (tS C Δ Δ' (sRet m)) := ss_retV he hr
theorem s_asg {vs : List Nat} {bd : D → En → Option En} (he : PE X e (tG C.K Δ C.W (rDp C.K) m)) (hg : PG X tg (tB C.K Δ vs bd)) (hs : swapsWithSole [tg] e pos.line X.env = pure false := by rfl) (hw : swappedStores [tg] e X.env = pure none := by rfl)
    (h1 : (assignEach [tg] X.env).map (·.2) = [assign tg X.env] := by rfl) : PS X (.Assign [tg] e pos) (tS C Δ Δ (sAsg bd m)) := ss_asg he hg hs hw h1
theorem s_par {i j : Nat} {x y : Str} {px py pt : Pos} {kt k2 pt2} (ha : PA X [a, b] (tG C.K Δ C.W (rDpsN C.K 2) ml)) (hc : X.calm = true) (hN : X.N.Nodup) (hdi : Δ i = .dat := by rfl) (hdj : Δ j = .dat := by rfl) (hi : X.N[i]? = some x := by rfl) (hj : X.N[j]? = some y := by rfl) (hij : i ≠ j := by decide)
    (hx : X.env.scope.names.lookup x = some .local := by rfl) (hy : X.env.scope.names.lookup y = some .local := by rfl)
    (hw : swappedStores [.Tuple [.Name x px, .Name y py] kt pt] (.Tuple [a, b] k2 pt2) X.env = pure (some [x, y]) := by rfl)
    (hs : swapsWithSole [.Tuple [.Name x px, .Name y py] kt pt] (.Tuple [a, b] k2 pt2) pos.line X.env = pure false := by rfl) :
    PS X (.Assign [.Tuple [.Name x px, .Name y py] kt pt] (.Tuple [a, b] k2 pt2) pos) (tS C Δ Δ (sPar i j ml)) := ss_par ha hc hN hdi hdj hi hj hij hx hy hw hs
theorem s_raise {x m : Str} {j : Nat} {p p2 pos' : Pos} (hK : C.K = X.K) (T : Exc X.K X.mg x) (tk : Takes X C.W) (hc : X.calm = true) (hg : Gl X x := by rfl) (hdb : (x == ("__debug__" : Str)) = false := by decide) :
    PS X (.Raise (some (.Call (.Name x p) [.Constant (.str m) j p2] [] pos')) none pos) (tS C Δ Δ' (sEx x)) := ss_raise hK T tk hc hg hdb
theorem s_nil : PSs X [] (tS C Δ Δ sNx) := ss_nil
theorem s_pass : PS X (.Pass pos) (tS C Δ Δ sNx) := ss_pass
end
end Pc

set_option maxRecDepth 100000
set_option maxHeartbeats 1000000
namespace Pc
open PySem PySem.Spec PyProof.Rows L2
open Evl (Ex)
/-! ### what is never come to -/
def mStuck : En → P D := fun _ => .stuck
def sStuck : En → Fl := fun _ => .stuck
section
variable {X : Cx} {C : Ct} {Δ Δ' : Nat → Sh} {W : WX} {e a b o : Expr} {es : List Expr} {pos p apos : Pos} {m ma mb : En → P D} {r : Rs V D} {ml : En → P (List D)} {tg : Expr}
theorem g_never : PE X e (tG X.K Δ W r mStuck) := ⟨fun _ _ _ _ _ _ h => by obtain ⟨_, _, _, _, _, p⟩ := h; exact p.elim⟩
theorem s_never {st : Stmt} : PS X st (tS C Δ Δ' sStuck) := ⟨fun _ _ _ _ _ _ h => by obtain ⟨_, _, _, _, _, p⟩ := h; exact p.elim⟩
theorem ss_never {st : List Stmt} : PSs X st (tS C Δ Δ' sStuck) := ⟨fun _ _ _ _ _ _ h => by obtain ⟨_, _, _, _, _, p⟩ := h; exact p.elim⟩
/-! ### signs of a text; enumerate -/
def sgO : D → P (List D)
  | .str z => .ok (z.cps.toList.map fun c => .str ⟨#[c]⟩)
  | _ => .stuck
def iS (m : En → P D) : En → P (List D) := fun ρ => (m ρ).bind sgO
theorem walk_str {K : PySem.W.Frag} {F : Hp} (z : Str) : WalkF K F (Its z) (z.cps.toList.map fun c => .str ⟨#[c]⟩) := by
  intro i F' H' e1 e2
  refine ⟨fun d hd => ?_, fun hl => by rw [List.length_map, Array.length_toList] at hl; exact hl⟩
  rw [List.getElem?_map] at hd
  cases hc : z.cps.toList[i]? with
  | none => rw [hc] at hd; cases hd
  | some c =>
    rw [hc] at hd
    cases hd
    have hi : i < z.cps.size := by
      have := (List.getElem?_eq_some_iff.mp hc).1
      rwa [Array.length_toList] at this
    refine ⟨hi, fun x H'' y => ?_⟩
    obtain ⟨rfl, c', h1, rfl⟩ := y
    rw [← Array.getElem?_toList, hc] at h1
    cases h1
    exact ⟨F', .refl e2, .str _⟩
theorem i_str (h : PE X e (tG X.K Δ W (rDp X.K) m)) : PI X tg e (tG X.K Δ W (rWF X.K) (iS m)) := by
  refine pi_mono (pi_str h) fun σ H Q h => ?_
  obtain ⟨F0, B, F, ρ, E, p⟩ := h
  refine seqG (r1 := rDp X.K) E p fun d v F1 H1 g q E1 p1 => ?_
  cases d with
  | str z => cases q; exact ⟨z, rfl, p1 _ F1 H1 (.refl E1.eF) (walk_str z)⟩
  | _ => exact p1.elim
def enL (n : Nat) : List D → List D
  | [] => []
  | d :: ds => .tuple [.int (n : Int), d] :: enL (n + 1) ds
theorem enL_get : ∀ {ds : List D} {n i : Nat} {t : D}, (enL n ds)[i]? = some t → ∃ d, ds[i]? = some d ∧ t = .tuple [.int ((n + i : Nat) : Int), d]
  | [], _, _, _, h => by cases h
  | d :: ds, n, 0, t, h => by cases h; exact ⟨d, rfl, rfl⟩
  | d :: ds, n, i + 1, t, h => by
    obtain ⟨d', h1, h2⟩ := enL_get (ds := ds) (n := n + 1) (i := i) (t := t) h
    exact ⟨d', h1, by rw [h2, show n + 1 + i = n + (i + 1) by omega]⟩
theorem enL_len : ∀ (ds : List D) (n : Nat), (enL n ds).length = ds.length
  | [], _ => rfl
  | _ :: ds, n => congrArg (· + 1) (enL_len ds (n + 1))
def iEn (m : En → P D) : En → P (List D) := fun ρ => (m ρ).bind fun d => (lstO d).bind fun xs => .ok (enL 0 xs)
theorem en_turn {K : PySem.W.Frag} {F' H' : Hp} {a : Addr} {vs : List V} {ds : List D} {i : Nat} {x : V} {H'' : Hp} {t : D} (e : Ex F' H') (s : SqL K H' a vs) (q : DqAll K F' vs ds) (ht : (enL 0 ds)[i]? = some t) (y : (Ite K a).yld i H' x H'') : ∃ F'', Gw F' H' F'' H'' ∧ Dq K F'' x t := by
  obtain ⟨d, hd, rfl⟩ := enL_get ht
  obtain ⟨T, x', rfl, hT, rfl, hx⟩ := y
  have h1 := hx vs s
  obtain ⟨d', h2, dq⟩ := q.get h1
  rw [hd] at h2
  cases h2
  have e0 : ((0 + i : Nat) : Int) = (i : Int) := by simp
  rw [e0]
  obtain ⟨g, dt⟩ := frz_tup (K := K) e hT (.cons (.int (i : Int)) (.one dq))
  exact ⟨_, g, dt⟩
theorem walk_en {K : PySem.W.Frag} {F : Hp} {a : Addr} {vs : List V} {ds : List D} (h : F a = some (.lst vs)) (q : DqAll K F vs ds) : WalkF K F (Ite K a) (enL 0 ds) := by
  intro i F' H' e1 e2
  have s : SqL K H' a vs := SqL.of (e2 _ _ (e1 _ _ h))
  refine ⟨fun t ht => ?_, fun hl => ⟨vs, s, by rw [q.len, ← enL_len ds 0]; exact hl⟩⟩
  obtain ⟨d, hd, _⟩ := enL_get ht
  obtain ⟨v, hv, dq⟩ := q.get2 hd
  exact ⟨⟨vs, v, s, hv⟩, fun x H'' y => en_turn e2 s (q.mn e1) ht y⟩
theorem walk_enV {K : PySem.W.Frag} {F H : Hp} {a : Addr} {vs : List V} {ds : List D} (h : H a = some (.lst vs)) (q : DqAll K F vs ds) : WalkV K F H (Ite K a) (enL 0 ds) := by
  intro i F' H' g
  have s : SqL K H' a vs := SqL.of (g.2.2.1 _ _ h)
  refine ⟨fun t ht => ?_, fun hl => ⟨vs, s, by rw [q.len, ← enL_len ds 0]; exact hl⟩⟩
  obtain ⟨d, hd, _⟩ := enL_get ht
  obtain ⟨v, hv, dq⟩ := q.get2 hd
  exact ⟨⟨vs, v, s, hv⟩, fun x H'' y => en_turn g.2.1 s (q.mn g.1) ht y⟩
theorem i_enum {p' tpos : Pos} {elts : List Expr} {kk : Nat} (hm : X.mg "enumerate" = none) (h : PE X e (tG X.K Δ W (rDp X.K) m)) (hg : Gl X "enumerate" := by rfl) (hs : starEach [e] X.env = [(false, eval e X.env)] := by rfl) (hs2 : starEach [e] X.env = (false, eval e X.env) :: starEach [] X.env := by rfl) :
    PI X (.Tuple elts kk tpos) (.Call (.Name "enumerate" p') [e] [] pos) (tG X.K Δ W (rWF X.K) (iEn m)) := by
  refine pi_mono (pi_enum hg hm (pa_cons h pa_nil hs2) hs) fun σ H Q h => ?_
  obtain ⟨F0, B, F, ρ, E, p⟩ := h
  refine seqG (r1 := rDp X.K) E p fun d v F1 H1 g q E1 p1 => ?_
  cases d with
  | list ds =>
    cases q with
    | lst s t => exact ⟨_, _, rfl, SqL.of (E1.eF _ _ s), p1 _ F1 H1 (.refl E1.eF) (walk_en s t)⟩
  | _ => exact p1.elim
theorem i_enumV {p' tpos : Pos} {elts : List Expr} {kk : Nat} (hm : X.mg "enumerate" = none) (h : PE X e (tG X.K Δ W (rVw X.K) m)) (hg : Gl X "enumerate" := by rfl) (hs : starEach [e] X.env = [(false, eval e X.env)] := by rfl) (hs2 : starEach [e] X.env = (false, eval e X.env) :: starEach [] X.env := by rfl) :
    PI X (.Tuple elts kk tpos) (.Call (.Name "enumerate" p') [e] [] pos) (tG X.K Δ W (rWV X.K) (iEn m)) := by
  refine pi_mono (pi_enum hg hm (pa_cons h pa_nil hs2) hs) fun σ H Q h => ?_
  obtain ⟨F0, B, F, ρ, E, p⟩ := h
  refine seqG (r1 := rVw X.K) E p fun d v F1 H1 g q E1 p1 => ?_
  cases d with
  | list ds =>
    obtain ⟨a, vs, rfl, s, t⟩ := Vw.lst E1.eF q
    exact ⟨_, _, rfl, SqL.of s, p1 _ F1 H1 (.refl E1.eF) (walk_enV s t)⟩
  | _ => exact p1.elim
/-! ### a text so often; turned about -/
def repS (n : Nat) (x : Str) : Str := ⟨((List.replicate n x.cps.toList).flatten).toArray⟩
def srepO : D → D → Option D
  | .str x, .int k => if (decide (0 ≤ k) && decide (k < 1000) && decide (x.length ≤ 1000)) = true then some (.str (repS k.toNat x)) else none
  | _, _ => none
theorem repS_fold (x : Str) : ∀ (n : Nat) (acc : Array Nat), (List.replicate n x.cps).foldl (· ++ ·) acc = acc ++ ((List.replicate n x.cps.toList).flatten).toArray
  | 0, acc => by simp
  | n + 1, acc => by
    rw [List.replicate_succ, List.foldl_cons, repS_fold x n, List.replicate_succ, List.flatten_cons, Array.append_assoc]
    congr 1
    apply Array.toList_inj.mp
    rw [Array.toList_append]
theorem o_srep : OpR X (binaryOp .Mult) (r2 X.K (rDp X.K) srepO) := by
  intro pins s σ H x y v u Q I rx ry h
  obtain ⟨F, dx, dy, d, eF, vx, vy, hf, q⟩ := h
  cases dx <;> try (cases hf; done)
  cases dy <;> try (cases hf; done)
  rename_i z k
  replace hf : (if (decide (0 ≤ k) && decide (k < 1000) && decide (z.length ≤ 1000)) = true then some (PyData.str (repS k.toNat z)) else none) = some d := hf
  split at hf
  · rename_i hl
    cases hf
    simp only [Bool.and_eq_true, decide_eq_true_eq] at hl
    obtain ⟨⟨h1, h2⟩, h3⟩ := hl
    have ex := vx.str
    subst ex
    have ey := vy.int
    subst ey
    obtain ⟨t, rfl⟩ := rx
    obtain ⟨t', rfl⟩ := ry
    refine PySem.P.mul_str ?_ (fun h4 h5 => ?_) (fun h4 h5 => ?_) ?_
    · rw [decide_eq_false (by omega), decide_eq_false (by omega)]; rfl
    · have : (1000 : Int) ≤ (2 ^ 63 - 1) / k := by
        rw [Int.le_ediv_iff_mul_le (by omega)]
        have : (1000 : Int) * k ≤ 1000 * 1000 := by omega
        omega
      omega
    · have : z.length * k.toNat ≤ 1000 * 1000 := Nat.mul_le_mul h3 (by omega)
      show decide (z.length * k.toNat > sizeLine) = false
      rw [decide_eq_false]
      rw [sizeLine_eq]
      omega
    · by_cases hk : k < 1
      · rw [if_pos hk]
        have e0 : k = 0 := by omega
        subst e0
        refine ⟨by decide, ⟨.str _, H, I.tok _, ⟨_, rfl⟩, q _ F H (.refl eF) ?_⟩⟩
        exact .str _
      · rw [if_neg hk]
        by_cases hk2 : (k == 1 || z.length == 0) = true
        · rw [if_pos hk2]
          have ez : repS k.toNat z = z := by
            unfold repS
            simp only [Bool.or_eq_true, beq_iff_eq] at hk2
            rcases hk2 with rfl | hz
            · simp
            · have : z.cps = #[] := Array.eq_empty_of_size_eq_zero hz
              obtain ⟨c⟩ := z
              have e : c = #[] := this
              subst e
              have : ∀ n : Nat, (List.replicate n ([] : List Nat)).flatten = [] := fun n => by induction n with | zero => rfl | succ n ih => rw [List.replicate_succ, List.flatten_cons, ih]; rfl
              simp [this]
          rw [ez] at q
          exact ⟨.str z, H, I, ⟨t, rfl⟩, q _ F H (.refl eF) (.str _)⟩
        · rw [if_neg hk2, repS_fold, Array.empty_append]
          have hz : ((List.replicate k.toNat z.cps.toList).flatten).toArray.size ≤ 1000000 := by
            simp
            have : k.toNat * z.cps.size ≤ 1000 * 1000 := Nat.mul_le_mul (by omega) h3
            omega
          refine ⟨?_, ⟨.str _, H, I.tok _, ⟨_, rfl⟩, q _ F H (.refl eF) (.str _)⟩⟩
          rw [sizeLine_eq]
          exact Nat.le_trans hz (by decide)
  · cases hf
end
end Pc

set_option maxRecDepth 100000
set_option maxHeartbeats 1000000
namespace Pc
open PySem PySem.Spec PyProof.Rows L2
open Evl (Ex)
/-! ### one's own thing changed -/
structure Fp (F B H : Hp) (fp : List Addr) : Prop where
  nd : fp.Nodup
  off : ∀ a ∈ fp, F a = none ∧ B a = none ∧ H a ≠ none
/-- F' H' behind a change of what lies at fp alone, fq being what it has become -/
structure Chg (F H F' H' : Hp) (fp fq : List Addr) : Prop where
  eF : Ex F F'
  eH : Ex F' H'
  off : ∀ a, a ∉ fp → H a ≠ none → H' a = H a ∧ (F a = none → F' a = none)
  nd : fq.Nodup
  new : ∀ a ∈ fq, F' a = none ∧ H' a ≠ none ∧ (a ∈ fp ∨ H a = none)
def UpdOk (K : PySem.W.Frag) (Δ : Nat → Sh) (F0 B F H : Hp) (σ : L2.St) (s : Sh) (v : V) (fp : List Addr) (g : D → En) : Prop :=
  ∀ F' H' d' fq, Chg F H F' H' fp fq → Own K F' H' s v d' fq → EnvOk K Δ F0 B F' H' σ (g d')
section
variable {K : PySem.W.Frag} {Δ : Nat → Sh} {F0 B F H F' H' : Hp} {σ : L2.St} {ρ : En}
theorem Chg.exB {fp fq : List Addr} (c : Chg F H F' H' fp fq) (eB : Ex B H) (o : ∀ a ∈ fp, B a = none) : Ex B H' := fun a u h => by
  have hb : B a ≠ none := by rw [h]; exact fun z => nomatch z
  have h1 : a ∉ fp := fun z => hb (o a z)
  have h2 := eB a u h
  rw [(c.off a h1 (by rw [h2]; exact fun z => nomatch z)).1]
  exact h2
theorem EnvOk.slot (E : EnvOk K Δ F0 B F H σ ρ) {i : Nat} {d : D} (h : ρ[i]? = some (some d)) : ∃ v fp, σ[i]? = some (some v) ∧ Own K F H (Δ i) v d fp ∧ Fp F B H fp ∧ UpdOk K Δ F0 B F H σ (Δ i) v fp (fun d' => ρ.set i (some d')) := by
  obtain ⟨len, e0, eF, eB, lim, φ, h1, h2, h3, h4⟩ := E
  obtain ⟨v, hv, o⟩ := h1 i d h
  refine ⟨v, φ i, hv, o, ⟨h2 i, fun a ha => h4 i a ha⟩, fun F' H' d' fq c o' => ?_⟩
  have hl : i < ρ.length := (List.getElem?_eq_some_iff.mp h).1
  have hB : ∀ a ∈ fq, B a = none := fun a ha => by
    rcases (c.new a ha).2.2 with z | z
    · exact (h4 i a z).2.1
    · exact none_of_ex eB z
  refine ⟨by rw [List.length_set]; exact len, e0.trans c.eF, c.eH, c.exB eB fun a ha => (h4 i a ha).2.1, fun a q1 q2 => ?_, fun j => if j = i then fq else φ j, fun j d2 hj => ?_, fun j => ?_, fun j k a hj hk => ?_, fun j a hj => ?_⟩
  · exact (c.off a (fun z => q2 (h4 i a z).2.1) (ne_none_of_ex eB q2)).2 (lim a q1 q2)
  · by_cases hji : j = i
    · subst hji
      rw [List.getElem?_set_self hl] at hj
      cases hj
      refine ⟨v, hv, ?_⟩
      simp only [if_pos rfl]
      exact o'
    · rw [List.getElem?_set_ne (Ne.symm hji)] at hj
      obtain ⟨u, e, o2⟩ := h1 j d2 hj
      refine ⟨u, e, ?_⟩
      simp only [if_neg hji]
      exact Own.stay _ u d2 _ c.eF (fun a ha => (c.off a (fun z => hji (h3 j i a ha z)) (h4 j a ha).2.2).1) o2
  · show (if j = i then fq else φ j).Nodup
    split
    · exact c.nd
    · exact h2 j
  · have hj' : a ∈ (if j = i then fq else φ j) := hj
    have hk' : a ∈ (if k = i then fq else φ k) := hk
    have cross : ∀ m, m ≠ i → a ∈ fq → a ∈ φ m → False := fun m hm q1 q2 => by
      rcases (c.new a q1).2.2 with z | z
      · exact hm (h3 m i a q2 z)
      · exact (h4 m a q2).2.2 z
    split at hj'
    · rename_i e1
      split at hk'
      · rename_i e2; rw [e1, e2]
      · rename_i e2; exact (cross k e2 hj' hk').elim
    · rename_i e1
      split at hk'
      · rename_i e2; exact (cross j e1 hk' hj').elim
      · exact h3 j k a hj' hk'
  · have hj' : a ∈ (if j = i then fq else φ j) := hj
    split at hj'
    · exact ⟨(c.new a hj').1, hB a hj', (c.new a hj').2.1⟩
    · rename_i e1
      have q := h4 j a hj'
      have hn : a ∉ φ i := fun z => e1 (h3 j i a hj' z)
      have q2 := c.off a hn q.2.2
      exact ⟨q2.2 q.1, q.2.1, by rw [q2.1]; exact q.2.2⟩
/-- a slot set to something new -/
theorem EnvOk.setNew (E : EnvOk K Δ F0 B F H σ ρ) {i : Nat} {v : V} {d : D} (g : Gw F H F' H') (n : (rNew K (Δ i)).r H F' H' v d) : EnvOk K Δ F0 B F' H' (σ.set i (some v)) (ρ.set i (some d)) := by
  obtain ⟨fp, o, nd, q⟩ := n
  have E' := E.gw g
  have eB0 := E.eB
  obtain ⟨len, e0, eF, eB, lim, _⟩ := E'
  refine ⟨by rw [List.length_set, List.length_set]; exact len, e0, eF, eB, lim, ?_⟩
  obtain ⟨_, _, _, _, _, ψ, k1, k2, k3, k4⟩ := E
  have stay : ∀ j a, a ∈ ψ j → H a ≠ none := fun j a ha => (k4 j a ha).2.2
  refine ⟨fun j => if j = i then fp else ψ j, fun j d2 hj => ?_, fun j => ?_, fun j k a hj hk => ?_, fun j a hj => ?_⟩
  · by_cases hji : j = i
    · subst hji
      have hl : j < ρ.length := by
        have := (List.getElem?_eq_some_iff.mp hj).1
        rwa [List.length_set] at this
      rw [List.getElem?_set_self hl] at hj
      cases hj
      refine ⟨v, by rw [List.getElem?_set_self (by omega)], ?_⟩
      simp only [if_pos rfl]
      exact o
    · rw [List.getElem?_set_ne (Ne.symm hji)] at hj ⊢
      obtain ⟨u, e, o2⟩ := k1 j d2 hj
      refine ⟨u, e, ?_⟩
      simp only [if_neg hji]
      exact Own.stay _ u d2 _ g.1 (fun a ha => ex_eq g.2.2.1 (stay j a ha)) o2
  · show (if j = i then fp else ψ j).Nodup
    split
    · exact nd
    · exact k2 j
  · have hj' : a ∈ (if j = i then fp else ψ j) := hj
    have hk' : a ∈ (if k = i then fp else ψ k) := hk
    split at hj'
    · rename_i e1
      split at hk'
      · rename_i e2; rw [e1, e2]
      · exact (stay k a hk' (q a hj').2.1).elim
    · split at hk'
      · exact (stay j a hj' (q a hk').2.1).elim
      · exact k3 j k a hj' hk'
  · have hj' : a ∈ (if j = i then fp else ψ j) := hj
    split at hj'
    · exact ⟨(q a hj').1, none_of_ex eB0 (q a hj').2.1, (q a hj').2.2⟩
    · have z := k4 j a hj'
      exact ⟨g.2.2.2 a z.2.2 z.1, z.2.1, ne_none_of_ex g.2.2.1 z.2.2⟩
end
/-! ### places -/
structure Pl where
  get : En → Option D
  set : En → D → En
def getO (ρ : En) (i : Nat) : Option D := (ρ[i]?).bind id
def pN (i : Nat) : Pl := ⟨fun ρ => getO ρ i, fun ρ d => ρ.set i (some d)⟩
def mPl (pl : Pl) : En → P D := fun ρ => .ofO (pl.get ρ)
/-- what may be done with the thing at a place, as it stood at H1 -/
def tPl (K : PySem.W.Frag) (Δ : Nat → Sh) (s : Sh) (pl : Pl) : TE := fun σ H Q => ∃ F0 B F1 H1 F ρ, EnvOk K Δ F0 B F1 H1 σ ρ ∧ Gw F1 H1 F H ∧ ∃ d, pl.get ρ = some d ∧ ∀ v fp, Own K F1 H1 s v d fp → Fp F1 B H1 fp → UpdOk K Δ F0 B F1 H1 σ s v fp (pl.set ρ) → Q v H
theorem UpdOk.gw {K : PySem.W.Frag} {Δ : Nat → Sh} {F0 B F H F1 H1 : Hp} {σ : L2.St} {s : Sh} {v : V} {fp : List Addr} {g : D → En} (u : UpdOk K Δ F0 B F H σ s v fp g) (w : Gw F H F1 H1) : UpdOk K Δ F0 B F1 H1 σ s v fp g := fun F' H' d' fq c o => by
  refine u F' H' d' fq ⟨w.1.trans c.eF, c.eH, fun a h1 h2 => ?_, c.nd, fun a ha => ?_⟩ o
  · obtain ⟨q1, q2⟩ := c.off a h1 (ne_none_of_ex w.2.2.1 h2)
    exact ⟨q1.trans (ex_eq w.2.2.1 h2), fun z => q2 (w.2.2.2 a h2 z)⟩
  · obtain ⟨q1, q2, q3⟩ := c.new a ha
    refine ⟨q1, q2, q3.imp id fun z => none_of_ex w.2.2.1 z⟩
theorem Fp.gw {F B H F1 H1 : Hp} {fp : List Addr} (f : Fp F B H fp) (w : Gw F H F1 H1) : Fp F1 B H1 fp := ⟨f.nd, fun a ha => ⟨w.2.2.2 a (f.off a ha).2.2 (f.off a ha).1, (f.off a ha).2.1, ne_none_of_ex w.2.2.1 (f.off a ha).2.2⟩⟩
theorem own_gw {K : PySem.W.Frag} {F B H F1 H1 : Hp} {s : Sh} {v : V} {d : D} {fp : List Addr} (o : Own K F H s v d fp) (f : Fp F B H fp) (w : Gw F H F1 H1) : Own K F1 H1 s v d fp := Own.stay s v d fp w.1 (fun a ha => ex_eq w.2.2.1 (f.off a ha).2.2) o
/-- what lies at one's own address is written anew -/
theorem chg_at {F B H : Hp} {a : Addr} {fq fr : List Addr} {o : HO} (e : Ex F H) (f : Fp F B H (a :: fq)) (hn : (a :: fr).Nodup) (hs : ∀ b ∈ fr, b ∈ fq) : Chg F H F (upd H a o) (a :: fq) (a :: fr) := by
  have ha := f.off a List.mem_cons_self
  refine ⟨Ex.refl F, fun b u hb => ?_, fun b h1 h2 => ?_, hn, fun b hb => ?_⟩
  · rw [upd_ne fun z => by rw [z, ha.1] at hb; cases hb]; exact e b u hb
  · exact ⟨upd_ne fun z => h1 (by rw [z]; exact List.mem_cons_self), id⟩
  · rcases List.mem_cons.mp hb with rfl | hb
    · exact ⟨ha.1, (by rw [upd_same]; exact (fun z => nomatch z)), .inl List.mem_cons_self⟩
    · have q := f.off b (List.mem_cons_of_mem _ (hs b hb))
      refine ⟨q.1, ?_, .inl (List.mem_cons_of_mem _ (hs b hb))⟩
      by_cases z : b = a
      · subst z; rw [upd_same]; exact fun z => nomatch z
      · rw [upd_ne z]; exact q.2.2
section
variable {X : Cx} {C : Ct} {Δ Δ' : Nat → Sh} {W : WX} {e a b o : Expr} {es : List Expr} {pos p apos : Pos} {m ma mb : En → P D} {r : Rs V D} {ml : En → P (List D)} {s : Sh} {pl : Pl}
theorem pl_name {i : Nat} {x : Str} (hN : X.N[i]? = some x := by rfl) (hv : Vis X.env.scope x := by first | exact Or.inl rfl | exact Or.inr (Or.inl rfl) | exact Or.inr (Or.inr rfl))
    (h1 : (x == ("__debug__" : Str)) = false := by decide) (h2 : (x == ("__classdict__" : Str)) = false := by decide) (hd : Δ i = s := by rfl) : PE X (.Name x pos) (tPl X.K Δ s (pN i)) := by
  refine pe_mono (pe_var hN hv h1 h2) fun σ H Q h => ?_
  obtain ⟨F0, B, F1, H1, F, ρ, E, _, d, e, p⟩ := h
  have e' : ρ[i]? = some (some d) := by
    replace e : (ρ[i]?).bind id = some d := e
    cases z : ρ[i]? with
    | none => rw [z] at e; cases e
    | some q => rw [z] at e; exact congrArg some e
  obtain ⟨v, fp, hv, ow, fpo, up⟩ := E.slot e'
  rw [hd] at ow up
  exact ⟨v, hv, p v fp ow fpo up⟩
/-- a place read: then what follows -/
theorem pl_post {K : PySem.W.Frag} {σ : L2.St} {ρ : En} {F0 B F H : Hp} {Q1 : VK} {m : P D} {k : D → P D} {Q : VK} (E : EnvOk K Δ F0 B F H σ ρ) (p : PostG K W r σ F H ((mPl pl ρ).bind k) Q)
    (h : ∀ d v fp, pl.get ρ = some d → Own K F H s v d fp → Fp F B H fp → UpdOk K Δ F0 B F H σ s v fp (pl.set ρ) → PostG K W r σ F H (k d) Q → Q1 v H) : tPl K Δ s pl σ H Q1 := by
  replace p : PostG K W r σ F H ((P.ofO (pl.get ρ)).bind k) Q := p
  cases e : pl.get ρ with
  | none => rw [e] at p; exact p.elim
  | some d => rw [e] at p; exact ⟨F0, B, F, H, F, ρ, E, .refl E.eF, d, e, fun v fp o f u => h d v fp e o f u p⟩
theorem pl_postS {σ : L2.St} {ρ : En} {F0 B F H : Hp} {Q1 : VK} {k : D → Fl} {D : Ends} (E : EnvS C Δ F0 B F H σ ρ) (p : PostS C Δ' F0 B D (liftP (mPl pl ρ) ρ k))
    (h : ∀ d v fp, pl.get ρ = some d → Own C.K F H s v d fp → Fp F B H fp → UpdOk C.K Δ F0 B F H σ s v fp (pl.set ρ) → PostS C Δ' F0 B D (k d) → Q1 v H) : tPl C.K Δ s pl σ H Q1 := by
  replace p : PostS C Δ' F0 B D (liftP (P.ofO (pl.get ρ)) ρ k) := p
  cases e : pl.get ρ with
  | none => rw [e] at p; exact p.elim
  | some d => rw [e] at p; exact ⟨F0, B, F, H, F, ρ, E.e, .refl E.e.eF, d, e, fun v fp o f u => h d v fp e o f u p⟩
/-- a place read behind a pure step -/
theorem pl_postG {σ : L2.St} {ρ : En} {F0 B F H F1 H1 : Hp} {Q1 : VK} {k : D → Fl} {D : Ends} (E : EnvS C Δ F0 B F H σ ρ) (g : Gw F H F1 H1) (p : PostS C Δ' F0 B D (liftP (mPl pl ρ) ρ k))
    (h : ∀ d v fp, pl.get ρ = some d → Own C.K F H s v d fp → Fp F B H fp → UpdOk C.K Δ F0 B F H σ s v fp (pl.set ρ) → PostS C Δ' F0 B D (k d) → Q1 v H1) : tPl C.K Δ s pl σ H1 Q1 := by
  replace p : PostS C Δ' F0 B D (liftP (P.ofO (pl.get ρ)) ρ k) := p
  cases e : pl.get ρ with
  | none => rw [e] at p; exact p.elim
  | some d => rw [e] at p; exact ⟨F0, B, F, H, F1, ρ, E.e, g, d, e, fun v fp o f u => h d v fp e o f u p⟩
/-- what is one's own, looked at -/
theorem own_view {K : PySem.W.Frag} {F H : Hp} {v : V} {d : D} {fp : List Addr} (o : Own K F H (.lst .dat) v d fp) : Vw K F H v d := by
  obtain ⟨a, vs, ds, fq, rfl, rfl, ha, ol, _⟩ := o
  exact .inr (.inl ⟨a, vs, ds, rfl, rfl, ha, (dat_ownL ol).1⟩)
theorem ownK_dat {K : PySem.W.Frag} {F H : Hp} {vs : List (Key × V)} {ds : List (D × D)} {fq : List Addr} (h : OwnK (Own K F H .dat) vs ds fq) : KDp K F vs ds ∧ fq = [] := by
  induction h with
  | nil => exact ⟨.nil, rfl⟩
  | cons a _ ih => exact ⟨.cons a.1 ih.1, by rw [a.2, ih.2]; rfl⟩
theorem dat_ownK {K : PySem.W.Frag} {F H : Hp} {vs : List (Key × V)} {ds : List (D × D)} (h : KDp K F vs ds) : OwnK (Own K F H .dat) vs ds [] := by
  induction h with
  | nil => exact .nil
  | cons a _ ih => exact OwnK.cons (fp := []) (fq := []) ⟨a, rfl⟩ ih
theorem own_viewD {K : PySem.W.Frag} {F H : Hp} {v : V} {d : D} {fp : List Addr} (o : Own K F H (.dct .dat) v d fp) : Vw K F H v d := by
  obtain ⟨a, vs, ds, fq, rfl, rfl, ha, ol, _⟩ := o
  exact .inr (.inr ⟨a, vs, ds, rfl, rfl, ha, (ownK_dat ol).1⟩)
theorem g_plV (hs : ∀ K F H v d fp, Own K F H s v d fp → Vw K F H v d) (h : PE X e (tPl X.K Δ s pl)) : PE X e (tG X.K Δ W (rVw X.K) (mPl pl)) := by
  refine pe_mono h fun σ H Q h => ?_
  obtain ⟨F0, B, F, ρ, E, p⟩ := h
  replace p : PostG X.K W (rVw X.K) σ F H (P.ofO (pl.get ρ)) Q := p
  cases e : pl.get ρ with
  | none => rw [e] at p; exact p.elim
  | some d => rw [e] at p; exact ⟨F0, B, F, H, F, ρ, E, .refl E.eF, d, e, fun v fp o f u => p _ F H (.refl E.eF) (hs _ _ _ _ _ _ o)⟩
theorem g_plL (h : PE X e (tPl X.K Δ (.lst .dat) pl)) : PE X e (tG X.K Δ W (rVw X.K) (mPl pl)) := g_plV (fun _ _ _ _ _ _ o => own_view o) h
theorem g_plD (h : PE X e (tPl X.K Δ (.dct .dat) pl)) : PE X e (tG X.K Δ W (rVw X.K) (mPl pl)) := g_plV (fun _ _ _ _ _ _ o => own_viewD o) h
/-- o.m(y): the thing at a place is made another -/
def sM1 (pl : Pl) (f : D → D → Option D) (me : En → P D) : En → Fl := fun ρ => liftP (mPl pl ρ) ρ fun d => liftP (me ρ) ρ fun y => match f d y with
  | some d' => .nx (pl.set ρ d')
  | none => .stuck
def appO : D → D → Option D
  | .list ds, y => if ds.length < LIM then some (.list (ds ++ [y])) else none
  | _, _ => none
def extO : D → D → Option D
  | .list ds, .list es => if ds.length + es.length ≤ LIM then some (.list (ds ++ es)) else none
  | _, _ => none
theorem up_lst {K : PySem.W.Frag} {F0 B F H : Hp} {σ : L2.St} {g : D → En} {l : Addr} {vs' : List V} {ds' : List D} {fq : List Addr} (eF : Ex F H) (f : Fp F B H (l :: fq)) (u : UpdOk K Δ F0 B F H σ (.lst .dat) (.ref l) (l :: fq) g) (dq : DqAll K F vs' ds') :
    EnvOk K Δ F0 B F (upd H l (.lst vs')) σ (g (.list ds')) := u F _ _ [l] (chg_at eF f (by simp) (fun _ h => (List.not_mem_nil h).elim)) ⟨l, vs', ds', [], rfl, rfl, upd_same, ownL_dat dq, rfl⟩
theorem s_append (hK : C.K = X.K) (ho : PE X o (tPl C.K Δ (.lst .dat) pl)) (he : PE X e (tG C.K Δ C.W (rDp C.K) m)) (hbase : attributeBase o "append" X.env (eval o X.env) = eval o X.env := by rfl)
    (hline : (apos.endLine == p.line) = true := by rfl) (hs : starEach [e] X.env = (false, eval e X.env) :: starEach [] X.env := by rfl) (hsw : swapsWith (.Call (.Attribute o "append" apos) [e] [] p) none pos.line X.env = pure false := by rfl)
    (hfew : ((backTo p (starEach [e] X.env)).all (fun x => !x.1) && (backToKw p (keywordEach [] X.env)).all (fun x => x.1.isSome) && decide (([e] : List Expr).length + ([] : List Keyword).length + (if ([] : List Keyword).isEmpty then 0 else 1) < 30)) = true := by rfl) :
    PS X (.Expr (.Call (.Attribute o "append" apos) [e] [] p) pos) (tS C Δ Δ (sM1 pl appO m)) := by
  refine ps_mono (ps_expr (pe_bm PySem.F.plainAttrs_list PySem.F.slot_list_append PySem.F.type_list_append mt_append ho (pa_cons he pa_nil hs) hbase hfew hline hs rfl) hsw) fun D σ H h => ?_
  obtain ⟨F0, B, F, ρ, E, p⟩ := h
  unfold tDrop tBM
  refine pl_postS E p fun d v fp e0 ow f u p0 => ?_
  obtain ⟨l, vs, ds, fq, rfl, rfl, hl, ol, rfl⟩ := ow
  obtain ⟨dq, _⟩ := dat_ownL ol
  refine ⟨.inl ⟨rfl, _, SqL.of hl⟩, stepS (r := rDp C.K) E p0 fun y w F1 H1 g q E1 p1 => ?_⟩
  replace p1 : PostS C Δ F0 B D (match (if ds.length < LIM then some (PyData.list (ds ++ [y])) else none) with | some d' => .nx (pl.set ρ d') | none => .stuck) := p1
  by_cases hz : ds.length < LIM
  · rw [if_pos hz] at p1
    refine ⟨l, vs, w, rfl, rfl, g.2.2.1 _ _ hl, by rw [lim_eq, dq.len]; exact hz, ?_⟩
    exact p1 σ F1 _ ⟨up_lst E1.e.eF (f.gw g) (u.gw g) ((dq.mn g.1).app (.one q)), E1.sh, E1.ok⟩
  · rw [if_neg hz] at p1; exact p1.elim
theorem s_extend (hK : C.K = X.K) (ho : PE X o (tPl C.K Δ (.lst .dat) pl)) (he : PE X e (tG C.K Δ C.W (rVw C.K) m)) (hbase : attributeBase o "extend" X.env (eval o X.env) = eval o X.env := by rfl)
    (hline : (apos.endLine == p.line) = true := by rfl) (hs : starEach [e] X.env = (false, eval e X.env) :: starEach [] X.env := by rfl) (hsw : swapsWith (.Call (.Attribute o "extend" apos) [e] [] p) none pos.line X.env = pure false := by rfl)
    (hfew : ((backTo p (starEach [e] X.env)).all (fun x => !x.1) && (backToKw p (keywordEach [] X.env)).all (fun x => x.1.isSome) && decide (([e] : List Expr).length + ([] : List Keyword).length + (if ([] : List Keyword).isEmpty then 0 else 1) < 30)) = true := by rfl) :
    PS X (.Expr (.Call (.Attribute o "extend" apos) [e] [] p) pos) (tS C Δ Δ (sM1 pl extO m)) := by
  refine ps_mono (ps_expr (pe_bm PySem.F.plainAttrs_list PySem.F.slot_list_extend PySem.F.type_list_extend mt_extend ho (pa_cons he pa_nil hs) hbase hfew hline hs rfl) hsw) fun D σ H h => ?_
  obtain ⟨F0, B, F, ρ, E, p⟩ := h
  unfold tDrop tBM
  refine pl_postS E p fun d v fp e0 ow f u p0 => ?_
  obtain ⟨l, vs, ds, fq, rfl, rfl, hl, ol, rfl⟩ := ow
  obtain ⟨dq, _⟩ := dat_ownL ol
  refine ⟨.inl ⟨rfl, _, SqL.of hl⟩, stepS (r := rVw C.K) E p0 fun y w F1 H1 g q E1 p1 => ?_⟩
  cases y with
  | list es =>
    replace p1 : PostS C Δ F0 B D (match (if ds.length + es.length ≤ LIM then some (PyData.list (ds ++ es)) else none) with | some d' => .nx (pl.set ρ d') | none => .stuck) := p1
    obtain ⟨b, ws, rfl, hb, dq2⟩ := Vw.lst E1.e.eF q
    by_cases hz : ds.length + es.length ≤ LIM
    · rw [if_pos hz] at p1
      refine ⟨l, b, vs, ws, rfl, rfl, g.2.2.1 _ _ hl, hb, by rw [lim_eq, dq.len, dq2.len]; exact hz, ?_⟩
      exact p1 σ F1 _ ⟨up_lst E1.e.eF (f.gw g) (u.gw g) ((dq.mn g.1).app dq2), E1.sh, E1.ok⟩
    · rw [if_neg hz] at p1; exact p1.elim
  | _ => exact p1.elim
/-- x = something new of one's own -/
theorem s_new {i : Nat} {x : Str} {pos' : Pos} (hK : C.K = X.K) (he : PE X e (tG C.K Δ C.W (rNew C.K (Δ i)) m)) (hN : X.N.Nodup) (hi : X.N[i]? = some x := by rfl) (hx : Loc X.env.scope x := by first | exact Or.inl rfl | exact Or.inr rfl)
    (hs : swapsWith e (some (.Name x pos')) pos.line X.env = pure false := by rfl) (hf : X.fn x = true ∨ X.env.scope.names.lookup x = some .local := by first | exact .inl rfl | exact .inr rfl | assumption) :
    PS X (.Assign [.Name x pos'] e pos) (tS C Δ Δ (sSet i m)) := by
  refine ps_mono (ps_set hN hi hx he hs hf) fun D σ H h => ?_
  obtain ⟨F0, B, F, ρ, E, p⟩ := h
  exact stepS (r := rNew C.K (Δ i)) E p fun d v F1 H1 g q E1 p1 => p1 _ F1 H1 ⟨E.e.setNew g q, E1.sh, E1.ok⟩
/-- return x, a list of one's own -/
theorem Fp.frz {K : PySem.W.Frag} {F0 B F H : Hp} {σ : L2.St} {ρ : En} {i : Nat} {d : D} (E : EnvOk K Δ F0 B F H σ ρ) (hd : Δ i = .lst .dat) (h : ρ[i]? = some (some d)) : ∃ v F', σ[i]? = some (some v) ∧ Dq K F' v d ∧ EnvOk K Δ F0 B F' H σ (ρ.set i none) := by
  obtain ⟨len, e0, eF, eB, lim, φ, h1, h2, h3, h4⟩ := E
  obtain ⟨v, hv, o⟩ := h1 i d h
  rw [hd] at o
  obtain ⟨l, vs, ds, fq, rfl, rfl, hl, ol, ef⟩ := o
  obtain ⟨dq, rfl⟩ := dat_ownL ol
  have hm : l ∈ φ i := by rw [ef]; exact List.mem_cons_self
  obtain ⟨q1, q2, q3⟩ := h4 i l hm
  have eX : Ex F (upd F l (.lst vs)) := Ex.new q1
  refine ⟨.ref l, upd F l (.lst vs), hv, .lst upd_same (dq.mn eX), by rw [List.length_set]; exact len, e0.trans eX, fun b u hb => ?_, eB, fun b z1 z2 => ?_, fun j => if j = i then [] else φ j, fun j d2 hj => ?_, fun j => ?_, fun j k b hj hk => ?_, fun j b hj => ?_⟩
  · by_cases z : b = l
    · subst z; rw [upd_same] at hb; rw [hl]; exact hb
    · rw [upd_ne z] at hb; exact eF b u hb
  · rw [upd_ne fun (z : b = l) => z2 (by rw [z]; exact q2)]; exact lim b z1 z2
  · by_cases hji : j = i
    · subst hji
      rw [List.getElem?_set_self (List.getElem?_eq_some_iff.mp h).1] at hj
      cases hj
    · rw [List.getElem?_set_ne (Ne.symm hji)] at hj
      obtain ⟨u, e, o2⟩ := h1 j d2 hj
      refine ⟨u, e, ?_⟩
      simp only [if_neg hji]
      exact Own.stay _ u d2 _ eX (fun a ha => rfl) o2
  · show (if j = i then [] else φ j).Nodup
    split
    · exact List.nodup_nil
    · exact h2 j
  · have hj' : b ∈ (if j = i then [] else φ j) := hj
    have hk' : b ∈ (if k = i then [] else φ k) := hk
    split at hj'
    · cases hj'
    · split at hk'
      · cases hk'
      · exact h3 j k b hj' hk'
  · have hj' : b ∈ (if j = i then [] else φ j) := hj
    split at hj'
    · cases hj'
    · rename_i e1
      have z := h4 j b hj'
      exact ⟨by rw [upd_ne fun (y : b = l) => e1 (h3 j i b hj' (by rw [y]; exact hm))]; exact z.1, z.2⟩
theorem s_retO {i : Nat} {x : Str} (hK : C.K = X.K) (hr : ∀ F v d, Dq C.K F v d → C.rv F v d := by first | exact fun _ _ _ h => h | exact fun _ _ _ _ => trivial) (hio : C.io i = false := by rfl) (hd : Δ i = .lst .dat := by rfl) (hN : X.N[i]? = some x := by rfl) (hv : Vis X.env.scope x := by first | exact Or.inl rfl | exact Or.inr (Or.inl rfl) | exact Or.inr (Or.inr rfl))
    (h1 : (x == ("__debug__" : Str)) = false := by decide) (h2 : (x == ("__classdict__" : Str)) = false := by decide) : PS X (.Return (some (.Name x p)) pos) (tS C Δ Δ' (sRet (mVar i))) := by
  refine ps_mono (ps_ret (pe_var hN hv h1 h2)) fun D σ H h => ?_
  obtain ⟨F0, B, F, ρ, E, p⟩ := h
  replace p : PostS C Δ' F0 B D (liftP (getS ρ i) ρ fun d => .rt d ρ) := p
  unfold getS at p
  cases e : ρ[i]? with
  | none => rw [e] at p; exact p.elim
  | some o =>
    cases o with
    | none => rw [e] at p; exact p.elim
    | some d =>
      rw [e] at p
      obtain ⟨v, F', hv, dq, E'⟩ := Fp.frz E.e hd e
      refine ⟨v, hv, p v σ F' H ?_ (hr _ _ _ dq)⟩
      have z := E'.mask (io := C.io) (Δ' := C.Dx) E.sh
      have em : mask C.io (ρ.set i none) = mask C.io ρ := by
        unfold mask
        refine List.ext_getElem? fun j => ?_
        rw [List.getElem?_mapIdx, List.getElem?_mapIdx]
        by_cases hj : j = i
        · subst hj
          rw [List.getElem?_set_self (List.getElem?_eq_some_iff.mp e).1, e]
          simp [hio]
        · rw [List.getElem?_set_ne (Ne.symm hj)]
      rw [em] at z
      exact z
end
end Pc

set_option maxRecDepth 100000
set_option maxHeartbeats 1000000
namespace Pc
open PySem PySem.Spec PyProof.Rows L2
open Evl (Ex)
/-! ### tables of one's own -/
def kOf : D → Option Key
  | .int i => some (.inl i)
  | .str x => some (.inr x)
  | _ => none
def kIs : D → Key → Bool
  | .int i, .inl j => decide (i = j)
  | .str x, .inr y => decide (x = y)
  | _, _ => false
def valD (kds : List (D × D)) (k : Key) : Option D := (kds.find? fun q => kIs q.1 k).map (·.2)
def putD (kds : List (D × D)) (k : Key) (v : D) : List (D × D) := if (kds.any fun q => kIs q.1 k) = true then kds.map (fun q => if kIs q.1 k = true then (q.1, v) else q) else kds ++ [(keyD k, v)]
def dropD (kds : List (D × D)) (k : Key) : List (D × D) := kds.filter fun q => !kIs q.1 k
theorem kIs_key (k' k : Key) : kIs (keyD k') k = decide (k' = k) := by
  cases k' <;> cases k <;> simp [keyD, kIs]
section
variable {K : PySem.W.Frag} {F H : Hp} {kvs : List (Key × V)} {kds : List (D × D)}
theorem KDp.len (h : KDp K F kvs kds) : kvs.length = kds.length := by
  induction h with
  | nil => rfl
  | cons _ _ ih => exact congrArg (· + 1) ih
theorem KDp.val (h : KDp K F kvs kds) (k : Key) : (∃ v d, valV kvs k = some v ∧ valD kds k = some d ∧ Dq K F v d) ∨ (valV kvs k = none ∧ valD kds k = none) := by
  induction h with
  | nil => exact .inr ⟨rfl, rfl⟩
  | @cons k' v d kvs kds a t ih =>
    by_cases e : k' = k
    · refine .inl ⟨v, d, valV_pos e, ?_, a⟩
      unfold valD
      rw [List.find?_cons, kIs_key, decide_eq_true e]
      rfl
    · have e1 : valV ((k', v) :: kvs) k = valV kvs k := valV_neg e
      have e2 : valD ((keyD k', d) :: kds) k = valD kds k := by
        unfold valD
        rw [List.find?_cons, kIs_key, decide_eq_false e]
      rw [e1, e2]
      exact ih
theorem KDp.any (h : KDp K F kvs kds) (k : Key) : (kvs.any fun kv => decide (kv.1 = k)) = (kds.any fun q => kIs q.1 k) := by
  induction h with
  | nil => rfl
  | cons a t ih => rw [List.any_cons, List.any_cons, kIs_key, ih]
theorem KDp.map (h : KDp K F kvs kds) (k : Key) {v : V} {d : D} (q : Dq K F v d) : KDp K F (kvs.map fun kv => if kv.1 = k then (kv.1, v) else kv) (kds.map fun z => if kIs z.1 k = true then (z.1, d) else z) := by
  induction h with
  | nil => exact .nil
  | @cons k' v' d' kvs kds a t ih =>
    rw [List.map_cons, List.map_cons]
    by_cases e : k' = k
    · rw [if_pos e, if_pos (by rw [kIs_key]; exact decide_eq_true e)]
      exact .cons q ih
    · rw [if_neg e, if_neg (by rw [kIs_key, decide_eq_false e]; decide)]
      exact .cons a ih
theorem KDp.app {kvs2 : List (Key × V)} {kds2 : List (D × D)} (h : KDp K F kvs kds) (h2 : KDp K F kvs2 kds2) : KDp K F (kvs ++ kvs2) (kds ++ kds2) := by
  induction h with
  | nil => exact h2
  | cons a t ih => exact .cons a ih
theorem KDp.put (h : KDp K F kvs kds) (k : Key) {v : V} {d : D} (q : Dq K F v d) : KDp K F (putK kvs k v) (putD kds k d) := by
  unfold putK putD
  rw [h.any k]
  split
  · exact h.map k q
  · exact h.app (.cons q .nil)
theorem KDp.drop (h : KDp K F kvs kds) (k : Key) : KDp K F (dropK kvs k) (dropD kds k) := by
  unfold dropK dropD
  induction h with
  | nil => exact .nil
  | @cons k' v' d' kvs kds a t ih =>
    rw [List.filter_cons, List.filter_cons, kIs_key]
    by_cases e : k' = k
    · rw [if_neg (by simp [e]), if_neg (by simp [e])]
      exact ih
    · rw [if_pos (by simp [e]), if_pos (by simp [e])]
      exact .cons a ih
theorem kOf_v {v : V} {d : D} {k : Key} (h : Vw K F H v d) (e : kOf d = some k) : v = kV k := by
  cases d <;> try (cases e; done)
  · cases e; exact h.int
  · cases e; exact h.str
end
section
variable {X : Cx} {C : Ct} {Δ Δ' : Nat → Sh} {W : WX} {e a b o i : Expr} {es : List Expr} {pos p apos : Pos} {m ma mb mi : En → P D} {r : Rs V D} {ml : En → P (List D)} {s : Sh} {pl : Pl}
theorem up_dct {K : PySem.W.Frag} {F0 B F H : Hp} {σ : L2.St} {g : D → En} {l : Addr} {kvs' : List (Key × V)} {kds' : List (D × D)} {fq : List Addr} (eF : Ex F H) (f : Fp F B H (l :: fq)) (u : UpdOk K Δ F0 B F H σ (.dct .dat) (.ref l) (l :: fq) g) (dq : KDp K F kvs' kds') :
    EnvOk K Δ F0 B F (upd H l (.dK kvs')) σ (g (.dict kds')) := u F _ _ [l] (chg_at eF f (by simp) (fun _ h => (List.not_mem_nil h).elim)) ⟨l, kvs', kds', [], rfl, rfl, upd_same, dat_ownK dq, rfl⟩
theorem new_dct {K : PySem.W.Frag} {F H : Hp} {p : Addr} {kvs : List (Key × V)} {kds : List (D × D)} (e : Ex F H) (h : H p = none) (dp : KDp K F kvs kds) : (rNew K (.dct .dat)).r H F (upd H p (.dK kvs)) (.ref p) (.dict kds) := by
  refine ⟨[p], ⟨p, kvs, kds, [], rfl, rfl, upd_same, dat_ownK dp, rfl⟩, by simp, fun a ha => ?_⟩
  have ea : a = p := by simpa using ha
  subst ea
  exact ⟨none_of_ex e h, h, by rw [upd_same]; exact fun z => nomatch z⟩
/-- {} -/
theorem g_dnew : PE X (.Dict [] [] pos) (tG X.K Δ W (rNew X.K (.dct .dat)) (mC (.dict []))) := by
  refine pe_mono pe_dnewK fun σ H Q h => ?_
  obtain ⟨F0, B, F, ρ, E, p⟩ := h
  exact fun q hq => p _ F _ (.own E.eF hq) (new_dct E.eF hq .nil)
/-- d[k] -/
def dgetO : D → D → Option D
  | .dict kds, k => (kOf k).bind (valD kds)
  | _, _ => none
theorem vw_dget {K : PySem.W.Frag} {F H : Hp} {x y : V} {dx dy : D} {kds : List (D × D)} {k : Key} (vx : Vw K F H x (.dict kds)) (vy : Vw K F H y dy) (e : kOf dy = some k) : ∃ a kvs, x = .ref a ∧ H a = some (.dK kvs) ∧ KDp K F kvs kds ∧ y = kV k ∧ DGet H a y (valV kvs k) := by
  obtain ⟨a, kvs, rfl, ha, kd⟩ := vx.dct
  have ey := kOf_v vy e
  subst ey
  exact ⟨a, kvs, rfl, ha, kd, rfl, DGet.k ha⟩
theorem g_dget (hu : X.A.units + 64 < cLine) (ho : PE X o (tG X.K Δ W (rVw X.K) m)) (hi : PE X i (tG X.K Δ W (rVw X.K) mi)) (hs : NoSl i := by exact fun _ _ => rfl) : PE X (.Subscript o i pos) (tG X.K Δ W (rDp X.K) (m2 dgetO m mi)) := by
  refine pe_mono (pe_dget (by omega) ho hi hs) fun σ H Q h => ?_
  obtain ⟨F0, B, F, ρ, E, p⟩ := h
  refine seqG (r1 := rVw X.K) E p fun dx x F1 H1 g1 q1 E1 p1 => seqG (r1 := rVw X.K) E1 p1 fun dy y F2 H2 g2 q2 E2 p2 => ?_
  cases dx <;> try (exact p2.elim)
  rename_i kds
  replace p2 : PostG X.K W (rDp X.K) σ F2 H2 (P.ofO ((kOf dy).bind (valD kds))) Q := p2
  cases ek : kOf dy with
  | none => rw [ek] at p2; exact p2.elim
  | some k =>
    rw [ek] at p2
    obtain ⟨a, kvs, rfl, ha, kd, ey, g⟩ := vw_dget (dx := dy) (Vw.gw q1 g2) q2 ek
    rcases kd.val k with ⟨v, d, e1, e2, dq⟩ | ⟨e1, e2⟩
    · replace p2 : PostG X.K W (rDp X.K) σ F2 H2 (P.ofO (valD kds k)) Q := p2
      rw [e2] at p2
      exact ⟨a, v, rfl, e1 ▸ g, p2 _ F2 H2 (.refl E2.eF) dq⟩
    · replace p2 : PostG X.K W (rDp X.K) σ F2 H2 (P.ofO (valD kds k)) Q := p2
      rw [e2] at p2
      exact p2.elim
/-- k in d -/
def dinO : D → D → Option Bool
  | k, .dict kds => (kOf k).map fun k => (valD kds k).isSome
  | _, _ => none
def dnotinO (k d : D) : Option Bool := (dinO k d).map (!·)
theorem din_of (σ : L2.St) (H : Hp) (Q : Bool → Hp → Prop) (h : tG X.K Δ W rBl (tCmp dinO mi m) σ H Q) : tDIn (tG X.K Δ W (rVw X.K) mi) (tG X.K Δ W (rVw X.K) m) σ H (fun z H' => ∃ k, z = V.bl k ∧ Q k H') := by
  obtain ⟨F0, B, F, ρ, E, p⟩ := h
  refine seqG (r1 := rVw X.K) E p fun dy y F1 H1 g1 q1 E1 p1 => seqG (r1 := rVw X.K) E1 p1 fun dx x F2 H2 g2 q2 E2 p2 => ?_
  cases dx <;> try (exact p2.elim)
  rename_i kds
  replace p2 : PostG X.K W rBl σ F2 H2 (P.ofO ((kOf dy).map fun k => (valD kds k).isSome)) Q := p2
  cases ek : kOf dy with
  | none => rw [ek] at p2; exact p2.elim
  | some k =>
    rw [ek] at p2
    obtain ⟨a, kvs, rfl, ha, kd, ey, g⟩ := vw_dget (dx := dy) q2 (Vw.gw q1 g2) ek
    refine ⟨a, _, rfl, g, (valV kvs k).isSome, rfl, p2 _ F2 H2 (.refl E2.eF) ?_⟩
    show (valV kvs k).isSome = (valD kds k).isSome
    rcases kd.val k with ⟨v, d, e1, e2, dq⟩ | ⟨e1, e2⟩ <;> rw [e1, e2] <;> rfl
theorem dnotin_of (σ : L2.St) (H : Hp) (Q : Bool → Hp → Prop) (h : tG X.K Δ W rBl (tCmp dnotinO mi m) σ H Q) : tDNotIn (tG X.K Δ W (rVw X.K) mi) (tG X.K Δ W (rVw X.K) m) σ H (fun z H' => ∃ k, z = V.bl k ∧ Q k H') := by
  obtain ⟨F0, B, F, ρ, E, p⟩ := h
  refine seqG (r1 := rVw X.K) E p fun dy y F1 H1 g1 q1 E1 p1 => seqG (r1 := rVw X.K) E1 p1 fun dx x F2 H2 g2 q2 E2 p2 => ?_
  cases dx <;> try (exact p2.elim)
  rename_i kds
  replace p2 : PostG X.K W rBl σ F2 H2 (P.ofO (((kOf dy).map fun k => (valD kds k).isSome).map (!·))) Q := p2
  cases ek : kOf dy with
  | none => rw [ek] at p2; exact p2.elim
  | some k =>
    rw [ek] at p2
    obtain ⟨a, kvs, rfl, ha, kd, ey, g⟩ := vw_dget (dx := dy) q2 (Vw.gw q1 g2) ek
    refine ⟨a, _, rfl, g, !(valV kvs k).isSome, rfl, p2 _ F2 H2 (.refl E2.eF) ?_⟩
    show (!(valV kvs k).isSome) = (!(valD kds k).isSome)
    rcases kd.val k with ⟨v, d, e1, e2, dq⟩ | ⟨e1, e2⟩ <;> rw [e1, e2] <;> rfl
theorem tB_tG {t : TE} {mt : En → P Bool} (h : ∀ σ H (Q : Bool → Hp → Prop), tG X.K Δ W rBl mt σ H Q → t σ H (fun z H' => ∃ k, z = V.bl k ∧ Q k H')) (mono : ∀ σ H (Q Q' : VK), (∀ v H, Q v H → Q' v H) → t σ H Q → t σ H Q') (σ : L2.St) (H : Hp) (Q : VK) (q : tG X.K Δ W (rDp X.K) (asBool mt) σ H Q) : t σ H Q := by
  refine mono σ H _ _ ?_ (h σ H (fun k H' => Q (.bl k) H') ?_)
  · rintro v H' ⟨k, rfl, z⟩; exact z
  · obtain ⟨F0, B, F, ρ, E, p⟩ := q
    refine ⟨F0, B, F, ρ, E, ?_⟩
    replace p : PostG X.K W (rDp X.K) σ F H ((mt ρ).bind fun t => .ok (.bool t)) Q := p
    cases e : mt ρ with
    | ok t => rw [e] at p; exact fun v F' H' gw hv => hv ▸ p _ F' H' gw (.bl t)
    | exc c => rw [e] at p; exact p
    | stuck => rw [e] at p; exact p
theorem tG_mono {α β : Type} {K : PySem.W.Frag} {r : Rs β α} {m : En → P α} (σ : L2.St) (H : Hp) (Q Q' : β → Hp → Prop) (i : ∀ v H, Q v H → Q' v H) (h : tG K Δ W r m σ H Q) : tG K Δ W r m σ H Q' := by
  obtain ⟨F0, B, F, ρ, E, p⟩ := h
  exact ⟨F0, B, F, ρ, E, p.imp i⟩
theorem t_din (hu : X.A.units + 64 < cLine) (hi : PE X i (tG X.K Δ W (rVw X.K) mi)) (ho : PE X o (tG X.K Δ W (rVw X.K) m)) (hm : behindInMarks .In o = false := by rfl) : PT X (.Compare i [.In] [o] pos) (tG X.K Δ W rBl (tCmp dinO mi m)) :=
  pt_mono (pt_cmp (pc_din (by omega) hi ho) hm) fun σ H Q h => din_of σ H Q h
theorem t_dnotin (hu : X.A.units + 64 < cLine) (hi : PE X i (tG X.K Δ W (rVw X.K) mi)) (ho : PE X o (tG X.K Δ W (rVw X.K) m)) (hm : behindInMarks .NotIn o = false := by rfl) : PT X (.Compare i [.NotIn] [o] pos) (tG X.K Δ W rBl (tCmp dnotinO mi m)) :=
  pt_mono (pt_cmp (pc_dnotin (by omega) hi ho) hm) fun σ H Q h => dnotin_of σ H Q h
theorem g_din (hu : X.A.units + 64 < cLine) (hi : PE X i (tG X.K Δ W (rVw X.K) mi)) (ho : PE X o (tG X.K Δ W (rVw X.K) m)) (hm : behindInMarks .In o = false := by rfl) : PE X (.Compare i [.In] [o] pos) (tG X.K Δ W (rDp X.K) (asBool (tCmp dinO mi m))) :=
  pe_mono (pe_cmp (pc_din (by omega) hi ho) hm) fun σ H Q h => tB_tG (fun σ H Q h => din_of σ H Q h) (fun σ H Q Q' i h => tG_mono σ H _ _ (fun y H1 => tG_mono σ H1 _ _ fun x H2 ⟨a, o, e1, e2, q⟩ => ⟨a, o, e1, e2, i _ _ q⟩) h) σ H Q h
theorem g_dnotin (hu : X.A.units + 64 < cLine) (hi : PE X i (tG X.K Δ W (rVw X.K) mi)) (ho : PE X o (tG X.K Δ W (rVw X.K) m)) (hm : behindInMarks .NotIn o = false := by rfl) : PE X (.Compare i [.NotIn] [o] pos) (tG X.K Δ W (rDp X.K) (asBool (tCmp dnotinO mi m))) :=
  pe_mono (pe_cmp (pc_dnotin (by omega) hi ho) hm) fun σ H Q h => tB_tG (fun σ H Q h => dnotin_of σ H Q h) (fun σ H Q Q' i h => tG_mono σ H _ _ (fun y H1 => tG_mono σ H1 _ _ fun x H2 ⟨a, o, e1, e2, q⟩ => ⟨a, o, e1, e2, i _ _ q⟩) h) σ H Q h
/-- d.get(k, x) -/
def dget2O : D → D → D → Option D
  | .dict kds, k, x => (kOf k).map fun k => (valD kds k).getD x
  | _, _, _ => none
def m3 (f : D → D → D → Option D) (ma mb mc : En → P D) : En → P D := fun ρ => (ma ρ).bind fun x => match x with
  | .dict _ => (mb ρ).bind fun y => (mc ρ).bind fun z => .ofO (f x y z)
  | _ => .stuck
theorem g_dget2 {f : Expr} {mf : En → P D} (hu : X.A.units + 64 < cLine) (ho : PE X o (tG X.K Δ W (rVw X.K) m)) (hi : PE X i (tG X.K Δ W (rVw X.K) mi)) (hf : PE X f (tG X.K Δ W (rDp X.K) mf)) (h1 : attributeBase o "get" X.env (eval o X.env) = eval o X.env := by rfl)
    (h2 : ((backTo pos (starEach [i, f] X.env)).all (fun x => !x.1) && (backToKw pos (keywordEach [] X.env)).all (fun x => x.1.isSome) && decide (([i, f] : List Expr).length + ([] : List Keyword).length + (if ([] : List Keyword).isEmpty then 0 else 1) < 30)) = true := by rfl)
    (h3 : (apos.endLine == pos.line) = true := by rfl) (h4 : backTo pos (starEach [i, f] X.env) = [(false, eval i X.env), (false, eval f X.env)] := by rfl) :
    PE X (.Call (.Attribute o "get" apos) [i, f] [] pos) (tG X.K Δ W (rDp X.K) (m3 dget2O m mi mf)) := by
  refine pe_mono (pe_dget2 (by omega) ho hi hf ⟨h1, h2, h3, h4⟩) fun σ H Q h => ?_
  obtain ⟨F0, B, F, ρ, E, p⟩ := h
  refine seqG (r1 := rVw X.K) E p fun dx x F1 H1 g1 q1 E1 p1 => ?_
  cases dx <;> try (exact p1.elim)
  rename_i kds
  obtain ⟨a0, kvs0, rfl, ha0, _⟩ := Vw.dct q1
  refine ⟨a0, rfl, .inl ⟨kvs0, .inl ha0⟩, seqG (r1 := rVw X.K) E1 p1 fun dy y F2 H2 g2 q2 E2 p2 => seqG (r1 := rDp X.K) E2 p2 fun dz z F3 H3 g3 q3 E3 p3 => ?_⟩
  replace p3 : PostG X.K W (rDp X.K) σ F3 H3 (P.ofO ((kOf dy).map fun k => (valD kds k).getD dz)) Q := p3
  cases ek : kOf dy with
  | none => rw [ek] at p3; exact p3.elim
  | some k =>
    rw [ek] at p3
    obtain ⟨a, kvs, ea, ha, kd, ey, g⟩ := vw_dget (dx := dy) ((Vw.gw q1 g2).gw g3) (Vw.gw q2 g3) ek
    cases ea
    replace p3 : PostG X.K W (rDp X.K) σ F3 H3 (P.ok ((valD kds k).getD dz)) Q := p3
    refine ⟨_, g, ?_⟩
    rcases kd.val k with ⟨v, d, e1, e2, dq⟩ | ⟨e1, e2⟩
    · rw [e2] at p3; rw [e1]; exact p3 _ F3 H3 (.refl E3.eF) dq
    · rw [e2] at p3; rw [e1]; exact p3 _ F3 H3 (.refl E3.eF) q3
/-- d[k] = v: the value, then the place, then the key -/
def sPut (pl : Pl) (f : D → D → D → Option D) (mk mv : En → P D) : En → Fl := fun ρ => liftP (mv ρ) ρ fun v => liftP (mPl pl ρ) ρ fun d => liftP (mk ρ) ρ fun k => match f d k v with
  | some d' => .nx (pl.set ρ d')
  | none => .stuck
def dputO : D → D → D → Option D
  | .dict kds, k, v => (kOf k).bind fun k => if kds.length < LIM then some (.dict (putD kds k v)) else none
  | _, _, _ => none
def lputO : D → D → D → Option D
  | .list ds, .int i, v => (ixN ds.length i).map fun j => .list (ds.set j v)
  | _, _, _ => none
theorem s_dput {pos' : Pos} {value : Expr} {mv : En → P D} (hK : C.K = X.K) (hu : X.A.units + 64 < cLine) (ho : PE X o (tPl C.K Δ (.dct .dat) pl)) (hi : PE X i (tG C.K Δ C.W (rVw C.K) mi)) (hv : PE X value (tG C.K Δ C.W (rDp C.K) mv)) (hs : swapsWith value (some (.Subscript o i pos')) pos.line X.env = pure false := by rfl) :
    PS X (.Assign [.Subscript o i pos'] value pos) (tS C Δ Δ (sPut pl dputO mi mv)) := by
  refine ps_mono (ps_dput (by omega) ho hi hv hs) fun D σ H h => ?_
  obtain ⟨F0, B, F, ρ, E, p⟩ := h
  refine stepS (r := rDp C.K) E p fun dv v F1 H1 g1 q1 E1 p1 => pl_postS E1 p1 fun d x fp e0 ow f u p2 => stepS (r := rVw C.K) E1 p2 fun dy y F2 H2 g2 q2 E2 p3 => ?_
  obtain ⟨l, kvs, kds, fq, rfl, rfl, hl, ol, rfl⟩ := ow
  obtain ⟨kd, _⟩ := ownK_dat ol
  replace p3 : PostS C Δ F0 B D (match ((kOf dy).bind fun k => if kds.length < LIM then some (PyData.dict (putD kds k dv)) else none) with | some d' => .nx (pl.set ρ d') | none => .stuck) := p3
  cases ek : kOf dy with
  | none => rw [ek] at p3; exact p3.elim
  | some k =>
    rw [ek] at p3
    replace p3 : PostS C Δ F0 B D (match (if kds.length < LIM then some (PyData.dict (putD kds k dv)) else none) with | some d' => .nx (pl.set ρ d') | none => .stuck) := p3
    have ey := kOf_v q2 ek
    subst ey
    by_cases hz : kds.length < LIM
    · rw [if_pos hz] at p3
      refine ⟨l, _, rfl, DPut.k (g2.2.2.1 _ _ hl) (by rw [lim_eq, kd.len]; exact hz), ?_⟩
      exact p3 σ F2 _ ⟨up_dct E2.e.eF (f.gw g2) (u.gw g2) ((kd.mn g2.1).put k (Dq.mn q1 g2.1)), E2.sh, E2.ok⟩
    · rw [if_neg hz] at p3; exact p3.elim
theorem s_lput {pos' : Pos} {value : Expr} {mv : En → P D} (hK : C.K = X.K) (ho : PE X o (tPl C.K Δ (.lst .dat) pl)) (hi : PE X i (tG C.K Δ C.W (rVw C.K) mi)) (hv : PE X value (tG C.K Δ C.W (rDp C.K) mv)) (hs : swapsWithSole [.Subscript o i pos'] value pos.line X.env = pure false := by rfl) (hw : swappedStores [.Subscript o i pos'] value X.env = pure none := by rfl)
    (h1 : (assignEach [.Subscript o i pos'] X.env).map (·.2) = [assign (.Subscript o i pos') X.env] := by rfl) (ha : ∀ v, assign (.Subscript o i pos') X.env v = (do
      let ov ← holding [v] (eval o X.env)
      let iv ← holding [v, ov] (eval i X.env)
      standAt pos'
      holding [v, ov, iv] (setItem ov iv v)
      release [v, ov, iv] []) := by intro _; rfl) :
    PS X (.Assign [.Subscript o i pos'] value pos) (tS C Δ Δ (sPut pl lputO mi mv)) := by
  refine ps_mono (ps_asg hv (pg_sub ho hi set_list ha) hs hw h1) fun D σ H h => ?_
  obtain ⟨F0, B, F, ρ, E, p⟩ := h
  refine stepS (r := rDp C.K) E p fun dv v F1 H1 g1 q1 E1 p1 => pl_postS E1 p1 fun d x fp e0 ow f u p2 => stepS (r := rVw C.K) E1 p2 fun dy y F2 H2 g2 q2 E2 p3 => ?_
  obtain ⟨l, vs, ds, fq, rfl, rfl, hl, ol, rfl⟩ := ow
  obtain ⟨dq, _⟩ := dat_ownL ol
  cases dy <;> try (exact p3.elim)
  rename_i k
  replace p3 : PostS C Δ F0 B D (match ((ixN ds.length k).map fun j => PyData.list (ds.set j dv)) with | some d' => .nx (pl.set ρ d') | none => .stuck) := p3
  cases ej : ixN ds.length k with
  | none => rw [ej] at p3; exact p3.elim
  | some j =>
    rw [ej] at p3
    refine ⟨l, vs, k, j, rfl, Vw.int q2, g2.2.2.1 _ _ hl, by rw [dq.len]; exact ej, ?_⟩
    exact p3 σ F2 _ ⟨up_lst E2.e.eF (f.gw g2) (u.gw g2) ((dq.mn g2.1).setp j (Dq.mn q1 g2.1)), E2.sh, E2.ok⟩
/-- x += e -/
def sAug (i : Nat) (f : D → D → Option D) (me : En → P D) : En → Fl := fun ρ => liftP (getS ρ i) ρ fun x => liftP (me ρ) ρ fun y => match f x y with
  | some d' => .nx (ρ.set i (some d'))
  | none => .stuck
def addIO : D → D → Option D
  | .int i, .int j => some (.int (i + j))
  | _, _ => none
theorem s_aug {j : Nat} {x : Str} {pos' : Pos} (hK : C.K = X.K) (he : PE X e (tG C.K Δ C.W (rDp C.K) m)) (hN : X.N.Nodup) (hd : Δ j = .dat := by rfl) (hj : X.N[j]? = some x := by rfl) (hx : Loc X.env.scope x := by first | exact Or.inl rfl | exact Or.inr rfl)
    (hf : X.fn x = true ∨ X.env.scope.names.lookup x = some .local := by first | exact .inl rfl | exact .inr rfl | assumption) : PS X (.AugAssign (.Name x pos') .Add e pos) (tS C Δ Δ (sAug j addIO m)) := by
  refine ps_mono (ps_aug hN hj hx he ip_add hf) fun D σ H h => ?_
  obtain ⟨F0, B, F, ρ, E, p⟩ := h
  replace p : PostS C Δ F0 B D (liftP (getS ρ j) ρ fun x => liftP (m ρ) ρ fun y => match addIO x y with | some d' => .nx (ρ.set j (some d')) | none => .stuck) := p
  unfold getS at p
  cases e : ρ[j]? with
  | none => rw [e] at p; exact p.elim
  | some o =>
    cases o with
    | none => rw [e] at p; exact p.elim
    | some d =>
      rw [e] at p
      obtain ⟨v, hv, dq⟩ := E.e.dat hd e
      refine ⟨v, hv, stepS (r := rDp C.K) E p fun y w F1 H1 g q E1 p1 => ?_⟩
      cases d <;> try (exact p1.elim)
      cases y <;> try (exact p1.elim)
      cases dq
      cases q
      exact ⟨_, _, rfl, rfl, p1 _ F1 H1 ⟨E1.e.setDat hd (.int _), E1.sh, E1.ok⟩⟩
end
end Pc

set_option maxRecDepth 100000
set_option maxHeartbeats 1000000
namespace Pc
open PySem PySem.Spec PyProof.Rows L2
open Evl (Ex)
/-! ### expressions that change what one owns -/
inductive R (α : Type) where
  | ok (a : α) (ρ : En)
  | exc (c : Str) (ρ : En)
  | stuck
def R.bind {α β : Type} (m : R α) (f : α → En → R β) : R β := match m with
  | .ok a ρ => f a ρ
  | .exc c ρ => .exc c ρ
  | .stuck => .stuck
@[simp] theorem rbind_ok {α β : Type} (a : α) (ρ : En) (f : α → En → R β) : (R.ok a ρ).bind f = f a ρ := rfl
@[simp] theorem rbind_exc {α β : Type} (c : Str) (ρ : En) (f : α → En → R β) : (R.exc c ρ : R α).bind f = .exc c ρ := rfl
@[simp] theorem rbind_stuck {α β : Type} (f : α → En → R β) : (R.stuck : R α).bind f = .stuck := rfl
structure Rf (β α : Type) where
  r : Hp → β → α → Prop
  mn : ∀ {F F' : Hp} {v : β} {d : α}, Ex F F' → r F v d → r F' v d
def fDp (K : PySem.W.Frag) : Rf V D := ⟨fun F v d => Dq K F v d, fun e h => h.mn e⟩
def fBl : Rf Bool Bool := ⟨fun _ v d => v = d, fun _ h => h⟩
def fDps (K : PySem.W.Frag) (n : Nat) : Rf (List V) (List D) := ⟨fun F v d => DqAll K F v d ∧ v.length = n, fun e h => ⟨h.1.mn e, h.2⟩⟩
def PostX {α β : Type} (K : PySem.W.Frag) (Δ : Nat → Sh) (F0 B : Hp) (W : WX) (r : Rf β α) (σ : L2.St) (Q : β → Hp → Prop) : R α → Prop
  | .ok d ρ => ∀ v F H, EnvOk K Δ F0 B F H σ ρ → r.r F v d → Q v H
  | .exc c ρ => ∀ F H, EnvOk K Δ F0 B F H σ ρ → W (.ref (He.ga K c)) none σ H
  | .stuck => False
def tX {α β : Type} (K : PySem.W.Frag) (Δ : Nat → Sh) (W : WX) (r : Rf β α) (m : En → R α) : L2.St → Hp → (β → Hp → Prop) → Prop := fun σ H Q => ∃ F0 B F ρ, EnvOk K Δ F0 B F H σ ρ ∧ PostX K Δ F0 B W r σ Q (m ρ)
section
variable {α β α1 β1 : Type} {K : PySem.W.Frag} {W : WX} {Δ Δ' : Nat → Sh} {r : Rf β α} {r1 : Rf β1 α1} {σ : L2.St} {ρ : En} {F0 B F H F1 H1 : Hp} {Q : β → Hp → Prop}
theorem PostX.up {m : R α} (p : PostX K Δ F0 B W r σ Q m) (e : Ex F0 F1) (l : ∀ a, F0 a = none → B a ≠ none → F1 a = none) : PostX K Δ F1 B W r σ Q m := by
  cases m with
  | ok d ρ => exact fun v F H E q => p v F H (E.down e l) q
  | exc c ρ => exact fun F H E => p F H (E.down e l)
  | stuck => exact p
theorem seqX {m : En → R α1} {k : α1 → En → R α} {Q1 : β1 → Hp → Prop} (E : EnvOk K Δ F0 B F H σ ρ) (p : PostX K Δ F0 B W r σ Q ((m ρ).bind k))
    (h : ∀ d v F1 H1 ρ1, EnvOk K Δ F B F1 H1 σ ρ1 → r1.r F1 v d → PostX K Δ F B W r σ Q (k d ρ1) → Q1 v H1) : tX K Δ W r1 m σ H Q1 := by
  have p := p.up E.e0 E.lim
  refine ⟨F, B, F, ρ, E.base, ?_⟩
  cases e : m ρ with
  | ok d ρ1 => rw [e] at p; exact fun v F1 H1 E1 q => h d v F1 H1 ρ1 E1 q p
  | exc c ρ1 => rw [e] at p; exact p
  | stuck => rw [e] at p; exact p
def xUp (m : En → P α) : En → R α := fun ρ => match m ρ with
  | .ok d => .ok d ρ
  | .exc c => .exc c ρ
  | .stuck => .stuck
/-- a pure step, then what follows -/
theorem seqP {m : En → P α1} {k : α1 → R α} {rg : Rs β1 α1} {Q1 : β1 → Hp → Prop} (E : EnvOk K Δ F0 B F H σ ρ) (p : PostX K Δ F0 B W r σ Q ((xUp m ρ).bind fun d _ => k d))
    (h : ∀ d v F1 H1, Gw F H F1 H1 → rg.r H F1 H1 v d → EnvOk K Δ F0 B F1 H1 σ ρ → PostX K Δ F0 B W r σ Q (k d) → Q1 v H1) : tG K Δ W rg m σ H Q1 := by
  refine ⟨F0, B, F, ρ, E, ?_⟩
  unfold xUp at p
  cases e : m ρ with
  | ok d => rw [e] at p; exact fun v F1 H1 g q => h d v F1 H1 g q (E.gw g) p
  | exc c => rw [e] at p; exact fun F1 H1 g => p F1 H1 (E.gw g)
  | stuck => rw [e] at p; exact p
theorem x_up' {m : En → P α} {rg : Rs β α} (i : ∀ H F' H' v d, rg.r H F' H' v d → r.r F' v d) (i2 : ∀ H F' v d, r.r F' v d → rg.r H F' H v d) (σ : L2.St) (H : Hp) (Q : β → Hp → Prop) (h : tX K Δ W r (xUp m) σ H Q) : tG K Δ W rg m σ H Q := by
  obtain ⟨F0, B, F, ρ, E, p⟩ := h
  refine ⟨F0, B, F, ρ, E, ?_⟩
  unfold xUp at p
  cases e : m ρ with
  | ok d => rw [e] at p; exact fun v F1 H1 g q => p v F1 H1 (E.gw g) (i _ _ _ _ _ q)
  | exc c => rw [e] at p; exact fun F1 H1 g => p F1 H1 (E.gw g)
  | stuck => rw [e] at p; exact p
def liftX {α : Type} (m : R α) (k : α → En → Fl) : Fl := match m with
  | .ok a ρ => k a ρ
  | .exc c ρ => .ex c ρ
  | .stuck => .stuck
@[simp] theorem liftX_ok {α : Type} (a : α) (ρ : En) (k : α → En → Fl) : liftX (.ok a ρ) k = k a ρ := rfl
@[simp] theorem liftX_exc {α : Type} (c : Str) (ρ : En) (k : α → En → Fl) : liftX (.exc c ρ : R α) k = .ex c ρ := rfl
@[simp] theorem liftX_stuck {α : Type} (k : α → En → Fl) : liftX (.stuck : R α) k = .stuck := rfl
theorem stepX {C : Ct} {m : En → R α1} {k : α1 → En → Fl} {Q1 : β1 → Hp → Prop} {D : Ends} (E : EnvS C Δ F0 B F H σ ρ) (p : PostS C Δ' F0 B D (liftX (m ρ) k))
    (h : ∀ d v F1 H1 ρ1, EnvS C Δ F B F1 H1 σ ρ1 → r1.r F1 v d → PostS C Δ' F B D (k d ρ1) → Q1 v H1) : tX C.K Δ C.W r1 m σ H Q1 := by
  have p := p.up E.e.e0 E.e.lim
  refine ⟨F, B, F, ρ, E.e.base, ?_⟩
  cases e : m ρ with
  | ok d ρ1 => rw [e] at p; exact fun v F1 H1 E1 q => h d v F1 H1 ρ1 ⟨E1, E.sh, E.ok⟩ q p
  | exc c ρ1 => rw [e] at p; exact fun F1 H1 E1 => p Δ σ F1 H1 ⟨E1, E.sh, E.ok⟩
  | stuck => rw [e] at p; exact p
end
/-! ### the mirror's words -/
def x2 (f : D → D → Option D) (xa xb : En → R D) : En → R D := fun ρ => (xa ρ).bind fun x ρ => (xb ρ).bind fun y ρ => xUp (fun _ => .ofO (f x y)) ρ
def xCmp (f : D → D → Option Bool) (xa xb : En → R D) : En → R D := fun ρ => (xa ρ).bind fun x ρ => (xb ρ).bind fun y ρ => xUp (fun _ => (P.ofO (f x y)).bind fun t => .ok (.bool t)) ρ
def xtCmp (f : D → D → Option Bool) (xa xb : En → R D) : En → R Bool := fun ρ => (xa ρ).bind fun x ρ => (xb ρ).bind fun y ρ => xUp (fun _ => .ofO (f x y)) ρ
def xtTru (xa : En → R D) : En → R Bool := fun ρ => (xa ρ).bind fun x ρ => xUp (fun _ => .ofO (truO x)) ρ
def xtNot (xa : En → R Bool) : En → R Bool := fun ρ => (xa ρ).bind fun x ρ => .ok (!x) ρ
def xAnd (ta tb : En → R Bool) : En → R Bool := fun ρ => (ta ρ).bind fun t ρ => if t = true then tb ρ else .ok false ρ
def xOr (ta tb : En → R Bool) : En → R Bool := fun ρ => (ta ρ).bind fun t ρ => if t = true then .ok true ρ else tb ρ
def xNil : En → R (List D) := fun ρ => .ok [] ρ
def xCons (xa : En → R D) (xs : En → R (List D)) : En → R (List D) := fun ρ => (xa ρ).bind fun x ρ => (xs ρ).bind fun l ρ => .ok (x :: l) ρ
def xTup (xs : En → R (List D)) : En → R D := fun ρ => (xs ρ).bind fun l ρ => .ok (.tuple l) ρ
def xLst (xs : En → R (List D)) : En → R D := fun ρ => (xs ρ).bind fun l ρ => .ok (.list l) ρ
def xIf (t : En → R Bool) (xa xb : En → R D) : En → R D := fun ρ => (t ρ).bind fun t ρ => if t = true then xa ρ else xb ρ
section
variable {X : Cx} {C : Ct} {Δ Δ' : Nat → Sh} {W : WX} {e a b c o i : Expr} {es : List Expr} {pos p apos : Pos} {m ma mb mi : En → P D} {xa xb x : En → R D} {ta tb : En → R Bool} {xl : En → R (List D)} {s : Sh} {pl : Pl} {n : Nat}
theorem x_up (h : PE X e (tG X.K Δ W (rDp X.K) m)) : PE X e (tX X.K Δ W (fDp X.K) (xUp m)) := pe_mono h (x_up' (fun _ _ _ _ _ q => q) fun _ _ _ _ q => q)
theorem xt_up {mt : En → P Bool} (h : PT X e (tG X.K Δ W rBl mt)) : PT X e (tX X.K Δ W fBl (xUp mt)) := pt_mono h (x_up' (fun _ _ _ _ _ q => q) fun _ _ _ _ q => q)
theorem xa_up {ml : En → P (List D)} (h : PA X es (tG X.K Δ W (rDpsN X.K n) ml)) : PA X es (tX X.K Δ W (fDps X.K n) (xUp ml)) := pa_mono h (x_up' (fun _ _ _ _ _ q => q) fun _ _ _ _ q => q)
theorem x_bin {op : Operator} {f : D → D → Option D} (ho : OpR X (binaryOp op) (r2 X.K (rDp X.K) f)) (ha : PE X a (tX X.K Δ W (fDp X.K) xa)) (hb : PE X b (tX X.K Δ W (fDp X.K) xb)) : PE X (.BinOp a op b pos) (tX X.K Δ W (fDp X.K) (x2 f xa xb)) := by
  refine pe_mono (pe_op ho ha hb) fun σ H Q h => ?_
  obtain ⟨F0, B, F, ρ, E, p⟩ := h
  refine seqX (r1 := fDp X.K) E p fun dx x F1 H1 ρ1 E1 q1 p1 => seqX (r1 := fDp X.K) E1 p1 fun dy y F2 H2 ρ2 E2 q2 p2 => ?_
  unfold xUp at p2
  cases e : f dx dy with
  | none => rw [e] at p2; exact p2.elim
  | some d => rw [e] at p2; exact ⟨F2, dx, dy, d, E2.eF, .inl (Dq.mn q1 E2.e0), .inl q2, e, fun z F' H' g q => p2 z F' H' (E2.gw g) q⟩
theorem x_cmp {op : CmpOp} {f : D → D → Option Bool} (ho : OpR X (compareOp op) (r2b X.K f)) (ha : PE X a (tX X.K Δ W (fDp X.K) xa)) (hb : PE X b (tX X.K Δ W (fDp X.K) xb)) (hm : behindInMarks op b = false := by first | exact nomark _ | rfl) :
    PE X (.Compare a [op] [b] pos) (tX X.K Δ W (fDp X.K) (xCmp f xa xb)) := by
  refine pe_mono (pe_cmpR ho ha hb hm) fun σ H Q h => ?_
  obtain ⟨F0, B, F, ρ, E, p⟩ := h
  refine seqX (r1 := fDp X.K) E p fun dx x F1 H1 ρ1 E1 q1 p1 => seqX (r1 := fDp X.K) E1 p1 fun dy y F2 H2 ρ2 E2 q2 p2 => ?_
  unfold xUp at p2
  cases e : f dx dy with
  | none => rw [e] at p2; exact p2.elim
  | some d => rw [e] at p2; exact ⟨F2, dx, dy, d, E2.eF, .inl (Dq.mn q1 E2.e0), .inl q2, e, p2 _ F2 H2 E2 (.bl d)⟩
theorem xt_cmp {op : CmpOp} {f : D → D → Option Bool} (ho : OpR X (compareOp op) (r2b X.K f)) (ha : PE X a (tX X.K Δ W (fDp X.K) xa)) (hb : PE X b (tX X.K Δ W (fDp X.K) xb)) (hm : behindInMarks op b = false := by first | exact nomark _ | rfl) :
    PT X (.Compare a [op] [b] pos) (tX X.K Δ W fBl (xtCmp f xa xb)) := by
  refine pt_mono (pt_cmpR ho ha hb hm) fun σ H Q h => ?_
  obtain ⟨F0, B, F, ρ, E, p⟩ := h
  refine seqX (r1 := fDp X.K) E p fun dx x F1 H1 ρ1 E1 q1 p1 => seqX (r1 := fDp X.K) E1 p1 fun dy y F2 H2 ρ2 E2 q2 p2 => ?_
  unfold xUp at p2
  cases e : f dx dy with
  | none => rw [e] at p2; exact p2.elim
  | some d => rw [e] at p2; exact ⟨F2, dx, dy, d, E2.eF, .inl (Dq.mn q1 E2.e0), .inl q2, e, d, rfl, p2 d F2 H2 E2 rfl⟩
theorem xt_tru (ha : PE X a (tX X.K Δ W (fDp X.K) xa)) (he : ∀ whole, isTrue a X.env whole = (do let v ← whole; standAt a.pos; holding [v] (truthy v)) := by intro _; rfl) : PT X a (tX X.K Δ W fBl (xtTru xa)) := by
  refine pt_mono (pt_truth ha he) fun σ H Q h => ?_
  obtain ⟨F0, B, F, ρ, E, p⟩ := h
  refine seqX (r1 := fDp X.K) E p fun dx x F1 H1 ρ1 E1 q1 p1 => ?_
  unfold xUp at p1
  cases e : truO dx with
  | none => rw [e] at p1; exact p1.elim
  | some t => rw [e] at p1; exact ⟨t, tru_of E1.eF (.inl q1) e, p1 t F1 H1 E1 rfl⟩
theorem xt_not (ha : PT X a (tX X.K Δ W fBl ta)) : PT X (.UnaryOp .Not a pos) (tX X.K Δ W fBl (xtNot ta)) := by
  refine pt_mono (pt_not ha) fun σ H Q h => ?_
  obtain ⟨F0, B, F, ρ, E, p⟩ := h
  refine seqX (r1 := fBl) E p fun t t' F1 H1 ρ1 E1 q1 p1 => ?_
  cases q1
  exact p1 _ F1 H1 E1 rfl
theorem xw_and1 (ha : PT X a (tX X.K Δ W fBl ta)) : PW X (.BoolOp .And [a] pos) (tX X.K Δ W fBl ta) := pw_and1 ha
theorem xw_or1 (ha : PT X a (tX X.K Δ W fBl ta)) : PW X (.BoolOp .Or [a] pos) (tX X.K Δ W fBl ta) := pw_or1 ha
theorem xw_and (ha : PT X a (tX X.K Δ W fBl ta)) (hb : PW X (.BoolOp .And (b :: es) pos) (tX X.K Δ W fBl tb)) : PW X (.BoolOp .And (a :: b :: es) pos) (tX X.K Δ W fBl (xAnd ta tb)) := by
  refine pw_mono (pw_and ha hb) fun σ H Q h => ?_
  obtain ⟨F0, B, F, ρ, E, p⟩ := h
  refine seqX (r1 := fBl) E p fun t t' F1 H1 ρ1 E1 q1 p1 => ?_
  cases q1
  cases t with
  | true => exact ⟨F, B, F1, ρ1, E1, p1⟩
  | false => exact p1 _ F1 H1 E1 rfl
theorem xw_or (ha : PT X a (tX X.K Δ W fBl ta)) (hb : PW X (.BoolOp .Or (b :: es) pos) (tX X.K Δ W fBl tb)) : PW X (.BoolOp .Or (a :: b :: es) pos) (tX X.K Δ W fBl (xOr ta tb)) := by
  refine pw_mono (pw_or ha hb) fun σ H Q h => ?_
  obtain ⟨F0, B, F, ρ, E, p⟩ := h
  refine seqX (r1 := fBl) E p fun t t' F1 H1 ρ1 E1 q1 p1 => ?_
  cases q1
  cases t with
  | false => exact ⟨F, B, F1, ρ1, E1, p1⟩
  | true => exact p1 _ F1 H1 E1 rfl
theorem x_if (hc : PT X c (tX X.K Δ W fBl ta)) (ha : PE X a (tX X.K Δ W (fDp X.K) xa)) (hb : PE X b (tX X.K Δ W (fDp X.K) xb)) : PE X (.IfExp c a b pos) (tX X.K Δ W (fDp X.K) (xIf ta xa xb)) := by
  refine pe_mono (pe_ifExp hc ha hb) fun σ H Q h => ?_
  obtain ⟨F0, B, F, ρ, E, p⟩ := h
  refine seqX (r1 := fBl) E p fun t t' F1 H1 ρ1 E1 q1 p1 => ?_
  cases q1
  cases t with
  | true => exact ⟨F, B, F1, ρ1, E1, p1⟩
  | false => exact ⟨F, B, F1, ρ1, E1, p1⟩
theorem xa_nil : PA X [] (tX X.K Δ W (fDps X.K 0) xNil) := by
  refine pa_mono pa_nil fun σ H Q h => ?_
  obtain ⟨F0, B, F, ρ, E, p⟩ := h
  exact p [] F H E ⟨.nil, rfl⟩
theorem xa_cons (ha : PE X e (tX X.K Δ W (fDp X.K) xa)) (hr : PA X es (tX X.K Δ W (fDps X.K n) xl)) (hs : starEach (e :: es) X.env = (false, eval e X.env) :: starEach es X.env := by rfl) :
    PA X (e :: es) (tX X.K Δ W (fDps X.K (n + 1)) (xCons xa xl)) := by
  refine pa_mono (pa_cons ha hr hs) fun σ H Q h => ?_
  obtain ⟨F0, B, F, ρ, E, p⟩ := h
  refine seqX (r1 := fDp X.K) E p fun dx x F1 H1 ρ1 E1 q1 p1 => seqX (r1 := fDps X.K n) E1 p1 fun dy y F2 H2 ρ2 E2 q2 p2 => ?_
  exact p2 _ F2 H2 E2 ⟨.cons (Dq.mn q1 E2.e0) q2.1, congrArg (· + 1) q2.2⟩
theorem x_tup {x1} (h : PA X es (tX X.K Δ W (fDps X.K n) xl)) (hn : n ≤ sizeLine := by decide) : PE X (.Tuple es x1 pos) (tX X.K Δ W (fDp X.K) (xTup xl)) := by
  refine pe_mono (pe_tup h) fun σ H Q h => ?_
  obtain ⟨F0, B, F, ρ, E, p⟩ := h
  refine seqX (r1 := fDps X.K n) E p fun dx x F1 H1 ρ1 E1 q1 p1 => ⟨by rw [q1.2]; exact hn, fun q hq => ?_⟩
  exact p1 _ _ _ (E1.gw (.frz E1.eF hq)) (.tup (SqT.of upd_same) (q1.1.mn (Ex.new (none_of_ex E1.eF hq))))
theorem x_lst (h : PA X es (tX X.K Δ W (fDps X.K n) xl)) (hn : n ≤ sizeLine := by decide) : PE X (.List es pos) (tX X.K Δ W (fDp X.K) (xLst xl)) := by
  refine pe_mono (pe_lst h) fun σ H Q h => ?_
  obtain ⟨F0, B, F, ρ, E, p⟩ := h
  refine seqX (r1 := fDps X.K n) E p fun dx x F1 H1 ρ1 E1 q1 p1 => ⟨by rw [q1.2]; exact hn, fun q hq => ?_⟩
  exact p1 _ _ _ (E1.gw (.frz E1.eF hq)) (.lst upd_same (q1.1.mn (Ex.new (none_of_ex E1.eF hq))))
/-! ### pops -/
def xPop0 (pl : Pl) (f : D → Option (D × D)) : En → R D := fun ρ => match (pl.get ρ).bind f with
  | some (d', z) => .ok z (pl.set ρ d')
  | none => .stuck
def xPop1 (pl : Pl) (f : D → D → Option (D × D)) (m : En → P D) : En → R D := fun ρ => (xUp (mPl pl) ρ).bind fun d _ => (xUp m ρ).bind fun y _ => match f d y with
  | some (d', z) => .ok z (pl.set ρ d')
  | none => .stuck
def lpopO : D → Option (D × D)
  | .list ds => (ds[ds.length - 1]?).map fun z => (.list ds.dropLast, z)
  | _ => none
def lpopAtO : D → D → Option (D × D)
  | .list ds, .int i => if rngOk i = true then (ixN ds.length i).bind fun j => (ds[j]?).map fun z => (.list (ds.eraseIdx j), z) else none
  | _, _ => none
def dpopO : D → D → Option (D × D)
  | .dict kds, k => (kOf k).bind fun k => (valD kds k).map fun z => (.dict (dropD kds k), z)
  | _, _ => none
theorem DqAll.dropLast {K : PySem.W.Frag} {F : Hp} {vs : List V} {ds : List D} (h : DqAll K F vs ds) : DqAll K F vs.dropLast ds.dropLast := by
  rw [List.dropLast_eq_take, List.dropLast_eq_take, h.len]
  exact h.take _
theorem pl_postX {α β : Type} {K : PySem.W.Frag} {σ : L2.St} {ρ : En} {F0 B F H : Hp} {Q1 : VK} {k : D → R α} {r : Rf β α} {Q : β → Hp → Prop} (E : EnvOk K Δ F0 B F H σ ρ) (p : PostX K Δ F0 B W r σ Q ((xUp (mPl pl) ρ).bind fun d _ => k d))
    (h : ∀ d v fp, pl.get ρ = some d → Own K F H s v d fp → Fp F B H fp → UpdOk K Δ F0 B F H σ s v fp (pl.set ρ) → PostX K Δ F0 B W r σ Q (k d) → Q1 v H) : tPl K Δ s pl σ H Q1 := by
  unfold xUp mPl at p
  cases e : pl.get ρ with
  | none => rw [e] at p; exact p.elim
  | some d => rw [e] at p; exact ⟨F0, B, F, H, F, ρ, E, .refl E.eF, d, e, fun v fp o f u => h d v fp e o f u p⟩
theorem x_lpop (ho : PE X o (tPl X.K Δ (.lst .dat) pl)) (hbase : attributeBase o "pop" X.env (eval o X.env) = eval o X.env := by rfl) (hline : (apos.endLine == pos.line) = true := by rfl) :
    PE X (.Call (.Attribute o "pop" apos) [] [] pos) (tX X.K Δ W (fDp X.K) (xPop0 pl lpopO)) := by
  refine pe_mono (pe_bm0 PySem.F.plainAttrs_list PySem.F.slot_list_pop PySem.F.type_list_pop mt_pop ho hbase hline) fun σ H Q h => ?_
  obtain ⟨F0, B, F, ρ, E, p⟩ := h
  unfold xPop0 at p
  cases e0 : pl.get ρ with
  | none => rw [e0] at p; exact p.elim
  | some d =>
    refine ⟨F0, B, F, H, F, ρ, E, .refl E.eF, d, e0, fun v fp ow f u => ?_⟩
    rw [e0] at p
    obtain ⟨l, vs, ds, fq, rfl, rfl, hl, ol, rfl⟩ := ow
    obtain ⟨dq, _⟩ := dat_ownL ol
    refine ⟨.inl ⟨rfl, _, SqL.of hl⟩, ?_⟩
    replace p : PostX X.K Δ F0 B W (fDp X.K) σ Q (match ((ds[ds.length - 1]?).map fun z => (PyData.list ds.dropLast, z)) with | some (d', z) => .ok z (pl.set ρ d') | none => .stuck) := p
    cases ez : ds[ds.length - 1]? with
    | none => rw [ez] at p; exact p.elim
    | some z =>
      rw [ez] at p
      obtain ⟨w, hw, qw⟩ := dq.get2 ez
      exact ⟨l, vs, w, rfl, rfl, hl, by rw [dq.len]; exact hw, p w F _ (up_lst E.eF f u dq.dropLast) qw⟩
theorem x_lpopAt (ho : PE X o (tPl X.K Δ (.lst .dat) pl)) (he : PE X e (tG X.K Δ W (rDp X.K) m)) (hbase : attributeBase o "pop" X.env (eval o X.env) = eval o X.env := by rfl) (hline : (apos.endLine == pos.line) = true := by rfl) (hs : starEach [e] X.env = (false, eval e X.env) :: starEach [] X.env := by rfl)
    (hfew : ((backTo pos (starEach [e] X.env)).all (fun x => !x.1) && (backToKw pos (keywordEach [] X.env)).all (fun x => x.1.isSome) && decide (([e] : List Expr).length + ([] : List Keyword).length + (if ([] : List Keyword).isEmpty then 0 else 1) < 30)) = true := by rfl) :
    PE X (.Call (.Attribute o "pop" apos) [e] [] pos) (tX X.K Δ W (fDp X.K) (xPop1 pl lpopAtO m)) := by
  refine pe_mono (pe_bm PySem.F.plainAttrs_list PySem.F.slot_list_pop PySem.F.type_list_pop mt_popAt ho (pa_cons he pa_nil hs) hbase hfew hline hs rfl) fun σ H Q h => ?_
  obtain ⟨F0, B, F, ρ, E, p⟩ := h
  refine pl_postX (k := fun d => (xUp m ρ).bind fun y _ => match lpopAtO d y with | some (d', z) => .ok z (pl.set ρ d') | none => .stuck) E p fun d v fp e0 ow f u p0 => ?_
  obtain ⟨l, vs, ds, fq, rfl, rfl, hl, ol, rfl⟩ := ow
  obtain ⟨dq, _⟩ := dat_ownL ol
  refine ⟨.inl ⟨rfl, _, SqL.of hl⟩, seqP (rg := rDp X.K) (k := fun y => match lpopAtO (.list ds) y with | some (d', z) => .ok z (pl.set ρ d') | none => .stuck) E p0 fun y w F1 H1 g q E1 p1 => ?_⟩
  cases y <;> try (exact p1.elim)
  rename_i j
  cases q
  replace p1 : PostX X.K Δ F0 B W (fDp X.K) σ Q (match (if rngOk j = true then (ixN ds.length j).bind fun j => (ds[j]?).map fun z => (PyData.list (ds.eraseIdx j), z) else none) with | some (d', z) => .ok z (pl.set ρ d') | none => .stuck) := p1
  by_cases hr : rngOk j = true
  case neg => rw [if_neg hr] at p1; exact p1.elim
  rw [if_pos hr] at p1
  cases ej : ixN ds.length j with
  | none => rw [ej] at p1; exact p1.elim
  | some k =>
    rw [ej] at p1
    replace p1 : PostX X.K Δ F0 B W (fDp X.K) σ Q (match ((ds[k]?).map fun z => (PyData.list (ds.eraseIdx k), z)) with | some (d', z) => .ok z (pl.set ρ d') | none => .stuck) := p1
    cases ez : ds[k]? with
    | none => rw [ez] at p1; exact p1.elim
    | some z =>
      rw [ez] at p1
      obtain ⟨w, hw, qw⟩ := dq.get2 ez
      obtain ⟨h1, h2, h3, h4⟩ := ixN_seq ej
      obtain ⟨r1, r2⟩ := rngOk_iff hr
      exact ⟨l, vs, j, k, w, rfl, rfl, g.2.2.1 _ _ hl, by omega, by omega, by rw [dq.len]; exact h1, hw, p1 w F1 _ (up_lst E1.eF (f.gw g) (u.gw g) ((dq.mn g.1).erase k)) (qw.mn g.1)⟩
theorem x_dpop (ho : PE X o (tPl X.K Δ (.dct .dat) pl)) (he : PE X e (tG X.K Δ W (rVw X.K) m)) (h1 : attributeBase o "pop" X.env (eval o X.env) = eval o X.env := by rfl)
    (h2 : ((backTo pos (starEach [e] X.env)).all (fun x => !x.1) && (backToKw pos (keywordEach [] X.env)).all (fun x => x.1.isSome) && decide (([e] : List Expr).length + ([] : List Keyword).length + (if ([] : List Keyword).isEmpty then 0 else 1) < 30)) = true := by rfl)
    (h3 : (apos.endLine == pos.line) = true := by rfl) (h4 : backTo pos (starEach [e] X.env) = [(false, eval e X.env)] := by rfl) :
    PE X (.Call (.Attribute o "pop" apos) [e] [] pos) (tX X.K Δ W (fDp X.K) (xPop1 pl dpopO m)) := by
  refine pe_mono (pe_dpop1 ho he ⟨h1, h2, h3, h4⟩) fun σ H Q h => ?_
  obtain ⟨F0, B, F, ρ, E, p⟩ := h
  refine pl_postX (k := fun d => (xUp m ρ).bind fun y _ => match dpopO d y with | some (d', z) => .ok z (pl.set ρ d') | none => .stuck) E p fun d v fp e0 ow f u p0 => ?_
  obtain ⟨l, kvs, kds, fq, rfl, rfl, hl, ol, rfl⟩ := ow
  obtain ⟨kd, _⟩ := ownK_dat ol
  refine ⟨l, rfl, .inl ⟨kvs, .inl hl⟩, seqP (rg := rVw X.K) (k := fun y => match dpopO (.dict kds) y with | some (d', z) => .ok z (pl.set ρ d') | none => .stuck) E p0 fun y w F1 H1 g q E1 p1 => ?_⟩
  replace p1 : PostX X.K Δ F0 B W (fDp X.K) σ Q (match ((kOf y).bind fun k => (valD kds k).map fun z => (PyData.dict (dropD kds k), z)) with | some (d', z) => .ok z (pl.set ρ d') | none => .stuck) := p1
  cases ek : kOf y with
  | none => rw [ek] at p1; exact p1.elim
  | some k =>
    rw [ek] at p1
    replace p1 : PostX X.K Δ F0 B W (fDp X.K) σ Q (match ((valD kds k).map fun z => (PyData.dict (dropD kds k), z)) with | some (d', z) => .ok z (pl.set ρ d') | none => .stuck) := p1
    rcases kd.val k with ⟨v, d, e1, e2, dq⟩ | ⟨e1, e2⟩
    · rw [e2] at p1
      exact ⟨kvs, k, v, g.2.2.1 _ _ hl, kOf_v q ek, e1, p1 v F1 _ (up_dct E1.eF (f.gw g) (u.gw g) ((kd.mn g.1).drop k)) (dq.mn g.1)⟩
    · rw [e2] at p1; exact p1.elim
/-! ### statements -/
def sSetX (i : Nat) (x : En → R D) : En → Fl := fun ρ => liftX (x ρ) fun d ρ => .nx (ρ.set i (some d))
def sAsgX (bd : D → En → Option En) (x : En → R D) : En → Fl := fun ρ => liftX (x ρ) fun d ρ => bindS bd d ρ
def sExprX (x : En → R D) : En → Fl := fun ρ => liftX (x ρ) fun _ ρ => .nx ρ
def sRetX (x : En → R D) : En → Fl := fun ρ => liftX (x ρ) fun d ρ => .rt d ρ
def ifSX (t : En → R Bool) (m1 m2 : En → Fl) : En → Fl := fun ρ => liftX (t ρ) fun t ρ => if t = true then m1 ρ else m2 ρ
def sM1X (i : Nat) (f : D → D → Option D) (x : En → R D) : En → Fl := fun ρ => match getO ρ i with
  | none => .stuck
  | some _ => liftX (x ρ) fun y ρ => match (getO ρ i).bind fun d => f d y with
    | some d' => .nx (ρ.set i (some d'))
    | none => .stuck
variable {body body2 : List Stmt} {m1' m2' : En → Fl}
theorem sx_set {j : Nat} {y : Str} {pos' : Pos} (hK : C.K = X.K) (he : PE X e (tX C.K Δ C.W (fDp C.K) x)) (hN : X.N.Nodup) (hd : Δ j = .dat := by rfl) (hi : X.N[j]? = some y := by rfl) (hx : Loc X.env.scope y := by first | exact Or.inl rfl | exact Or.inr rfl)
    (hs : swapsWith e (some (.Name y pos')) pos.line X.env = pure false := by rfl) (hf : X.fn y = true ∨ X.env.scope.names.lookup y = some .local := by first | exact .inl rfl | exact .inr rfl | assumption) :
    PS X (.Assign [.Name y pos'] e pos) (tS C Δ Δ (sSetX j x)) := by
  refine ps_mono (ps_set hN hi hx he hs hf) fun D σ H h => ?_
  obtain ⟨F0, B, F, ρ, E, p⟩ := h
  exact stepX (r1 := fDp C.K) E p fun d v F1 H1 ρ1 E1 q p1 => p1 _ F1 H1 ⟨E1.e.setDat hd q, E1.sh, E1.ok⟩
theorem sx_asg {tg : Expr} {vs : List Nat} {bd : D → En → Option En} (he : PE X e (tX C.K Δ C.W (fDp C.K) x)) (hg : PG X tg (tB C.K Δ vs bd)) (hs : swapsWithSole [tg] e pos.line X.env = pure false := by rfl) (hw : swappedStores [tg] e X.env = pure none := by rfl)
    (h1 : (assignEach [tg] X.env).map (·.2) = [assign tg X.env] := by rfl) : PS X (.Assign [tg] e pos) (tS C Δ Δ (sAsgX bd x)) := by
  refine ps_mono (ps_asg he hg hs hw h1) fun D σ H h => ?_
  obtain ⟨F0, B, F, ρ, E, p⟩ := h
  refine stepX (r1 := fDp C.K) E p fun d v F1 H1 ρ1 E1 q p1 => ?_
  unfold bindS at p1
  cases e : bd d ρ1 with
  | none => rw [e] at p1; exact p1.elim
  | some ρ' => rw [e] at p1; exact ⟨F, B, F1, ρ1, d, ρ', E1.e, q, e, fun σ' _ E' => p1 σ' F1 H1 ⟨E', E1.sh, E1.ok⟩⟩
theorem sx_expr (he : PE X e (tX C.K Δ C.W (fDp C.K) x)) (hs : swapsWith e none pos.line X.env = pure false := by rfl) : PS X (.Expr e pos) (tS C Δ Δ (sExprX x)) := by
  refine ps_mono (ps_expr he hs) fun D σ H h => ?_
  obtain ⟨F0, B, F, ρ, E, p⟩ := h
  exact stepX (r1 := fDp C.K) E p fun d v F1 H1 ρ1 E1 q p1 => p1 _ F1 H1 E1
theorem sx_ret (he : PE X e (tX C.K Δ C.W (fDp C.K) x)) (hr : ∀ F v d, Dq C.K F v d → C.rv F v d := by first | exact fun _ _ _ h => h | exact fun _ _ _ _ => trivial) : PS X (.Return (some e) pos) (tS C Δ Δ' (sRetX x)) := by
  refine ps_mono (ps_ret he) fun D σ H h => ?_
  obtain ⟨F0, B, F, ρ, E, p⟩ := h
  exact stepX (r1 := fDp C.K) E p fun d v F1 H1 ρ1 E1 q p1 => p1 v σ F1 H1 E1.mask (hr _ _ _ q)
theorem sx_if (hc : PT X c (tX C.K Δ C.W fBl ta)) (ha : PSs X body (tS C Δ Δ' m1')) (hb : PSs X body2 (tS C Δ Δ' m2')) : PS X (.If c body body2 pos) (tS C Δ Δ' (ifSX ta m1' m2')) := by
  refine ps_mono (ps_if hc ha hb) fun D σ H h => ?_
  obtain ⟨F0, B, F, ρ, E, p⟩ := h
  refine stepX (r1 := fBl) E p fun t v F1 H1 ρ1 E1 q p1 => ?_
  cases q
  cases t with
  | true => exact ⟨F, B, F1, ρ1, E1, p1⟩
  | false => exact ⟨F, B, F1, ρ1, E1, p1⟩
theorem getO_eq {ρ : En} {j : Nat} {d : D} (e : getO ρ j = some d) : ρ[j]? = some (some d) := by
  replace e : (ρ[j]?).bind id = some d := e
  cases z : ρ[j]? with
  | none => rw [z] at e; cases e
  | some q => rw [z] at e; exact congrArg some e
theorem sx_append {j : Nat} {y : Str} {pn : Pos} (hK : C.K = X.K) (he : PE X e (tX C.K Δ C.W (fDp C.K) x)) (hd : Δ j = .lst .dat := by rfl) (hN : X.N[j]? = some y := by rfl) (hv : Vis X.env.scope y := by first | exact Or.inl rfl | exact Or.inr (Or.inl rfl) | exact Or.inr (Or.inr rfl))
    (h1 : (y == ("__debug__" : Str)) = false := by decide) (h2 : (y == ("__classdict__" : Str)) = false := by decide) (hbase : attributeBase (.Name y pn) "append" X.env (eval (.Name y pn) X.env) = eval (.Name y pn) X.env := by rfl)
    (hline : (apos.endLine == p.line) = true := by rfl) (hs : starEach [e] X.env = (false, eval e X.env) :: starEach [] X.env := by rfl) (hsw : swapsWith (.Call (.Attribute (.Name y pn) "append" apos) [e] [] p) none pos.line X.env = pure false := by rfl)
    (hfew : ((backTo p (starEach [e] X.env)).all (fun x => !x.1) && (backToKw p (keywordEach [] X.env)).all (fun x => x.1.isSome) && decide (([e] : List Expr).length + ([] : List Keyword).length + (if ([] : List Keyword).isEmpty then 0 else 1) < 30)) = true := by rfl) :
    PS X (.Expr (.Call (.Attribute (.Name y pn) "append" apos) [e] [] p) pos) (tS C Δ Δ (sM1X j appO x)) := by
  refine ps_mono (ps_expr (pe_bm PySem.F.plainAttrs_list PySem.F.slot_list_append PySem.F.type_list_append mt_append (pe_var hN hv h1 h2) (pa_cons he pa_nil hs) hbase hfew hline hs rfl) hsw) fun D σ H h => ?_
  obtain ⟨F0, B, F, ρ, E, p⟩ := h
  unfold sM1X at p
  cases e0 : getO ρ j with
  | none => rw [e0] at p; exact p.elim
  | some d0 =>
    rw [e0] at p
    obtain ⟨v0, fp0, hv0, ow0, _, _⟩ := E.e.slot (getO_eq e0)
    rw [hd] at ow0
    obtain ⟨l0, vs0, ds0, fq0, rfl, rfl, hl0, _, _⟩ := ow0
    refine ⟨_, hv0, .inl ⟨rfl, _, SqL.of hl0⟩, stepX (r1 := fDp C.K) E p fun y w F1 H1 ρ1 E1 q p1 => ?_⟩
    cases e1 : getO ρ1 j with
    | none => rw [e1] at p1; exact p1.elim
    | some d1 =>
      rw [e1] at p1
      obtain ⟨v, fp, hv, ow, f, u⟩ := E1.e.slot (getO_eq e1)
      rw [hv0] at hv
      cases hv
      rw [hd] at ow u
      obtain ⟨l, vs, ds, fq, el, rfl, hl, ol, rfl⟩ := ow
      cases el
      obtain ⟨dq, _⟩ := dat_ownL ol
      replace p1 : PostS C Δ F B D (match (if ds.length < LIM then some (PyData.list (ds ++ [y])) else none) with | some d' => .nx (ρ1.set j (some d')) | none => .stuck) := p1
      by_cases hz : ds.length < LIM
      · rw [if_pos hz] at p1
        exact ⟨l0, vs, w, rfl, rfl, hl, by rw [lim_eq, dq.len]; exact hz, p1 σ F1 _ ⟨up_lst E1.e.eF f u (dq.app (.one q)), E1.sh, E1.ok⟩⟩
      · rw [if_neg hz] at p1; exact p1.elim
end
end Pc

set_option maxRecDepth 100000
set_option maxHeartbeats 1000000
namespace Pc
open PySem PySem.Spec PyProof.Rows L2
open Evl (Ex)
/-! ### whole numbers in a row -/
def intsD : List D → Option (List Int)
  | [] => some []
  | .int i :: r => (intsD r).map (i :: ·)
  | _ :: _ => none
theorem intsD_dq {K : PySem.W.Frag} {F : Hp} : ∀ {ds : List D} {vs : List V} {ns : List Int}, DqAll K F vs ds → intsD ds = some ns → vs = ns.map V.int
  | _, _, ns, .nil, h => by cases h; rfl
  | _, _, ns, .cons (d := d) a t, h => by
    cases d with
    | int x =>
      obtain ⟨zs, e1, rfl⟩ := Option.map_eq_some_iff.mp h
      cases a
      rw [intsD_dq t e1]
      rfl
    | _ => cases h
theorem intsD_map (ns : List Int) : intsD (ns.map .int) = some ns := by
  induction ns with
  | nil => rfl
  | cons n ns ih => show (intsD (ns.map PyData.int)).map (n :: ·) = some (n :: ns); rw [ih]; rfl
/-- in order -/
def insI (x : Int) : List Int → List Int
  | [] => [x]
  | y :: r => if x ≤ y then x :: y :: r else y :: insI x r
def srtI : List Int → List Int
  | [] => []
  | x :: r => insI x (srtI r)
theorem insI_perm (x : Int) : ∀ l, (insI x l).Perm (x :: l)
  | [] => .refl _
  | y :: r => by
    unfold insI
    split
    · exact .refl _
    · exact ((insI_perm x r).cons y).trans (.swap x y r)
theorem srtI_perm : ∀ l, (srtI l).Perm l
  | [] => .refl _
  | x :: r => (insI_perm x (srtI r)).trans ((srtI_perm r).cons x)
theorem insI_sorted (x : Int) : ∀ l : List Int, l.Pairwise (· ≤ ·) → (insI x l).Pairwise (· ≤ ·)
  | [], _ => List.pairwise_singleton _ _
  | y :: r, h => by
    obtain ⟨h1, h2⟩ := List.pairwise_cons.mp h
    unfold insI
    split
    · rename_i hx
      exact List.pairwise_cons.mpr ⟨fun z hz => by
        rcases List.mem_cons.mp hz with rfl | hz
        · exact hx
        · exact Int.le_trans hx (h1 z hz), h⟩
    · rename_i hx
      refine List.pairwise_cons.mpr ⟨fun z hz => ?_, insI_sorted x r h2⟩
      rcases List.mem_cons.mp ((insI_perm x r).mem_iff.mp hz) with rfl | hz
      · omega
      · exact h1 z hz
theorem srtI_sorted : ∀ l, (srtI l).Pairwise (· ≤ ·)
  | [] => .nil
  | x :: r => insI_sorted x _ (srtI_sorted r)
theorem sorted_uniq : ∀ {a b : List Int}, a.Perm b → a.Pairwise (· ≤ ·) → b.Pairwise (· ≤ ·) → a = b
  | [], b, p, _, _ => (List.nil_perm.mp p).symm
  | x :: a, [], p, _, _ => absurd p.length_eq (by simp)
  | x :: a, y :: b, p, ha, hb => by
    obtain ⟨h1, h2⟩ := List.pairwise_cons.mp ha
    obtain ⟨h3, h4⟩ := List.pairwise_cons.mp hb
    have e : x = y := by
      have q1 : x ≤ y := by
        rcases List.mem_cons.mp (p.mem_iff.mpr List.mem_cons_self : y ∈ x :: a) with z | z
        · omega
        · exact h1 y z
      have q2 : y ≤ x := by
        rcases List.mem_cons.mp (p.mem_iff.mp List.mem_cons_self : x ∈ y :: b) with z | z
        · omega
        · exact h3 x z
      omega
    subst e
    rw [sorted_uniq (List.perm_cons x |>.mp p) h2 h4]
theorem srt_of {ns ns' : List Int} (p : ns'.Perm ns) (h : ns'.Pairwise (· ≤ ·)) : ns' = srtI ns := sorted_uniq (p.trans (srtI_perm ns).symm) h (srtI_sorted ns)
def sortO : List D → Option D
  | [.list ds] => (intsD ds).map fun ns => .list ((srtI ns).map .int)
  | _ => none
def sumO : List D → Option D
  | [.list ds] => (intsD ds).map fun ns => .int ns.sum
  | _ => none
def maxI : List Int → Int
  | [] => 0
  | [x] => x
  | x :: y :: r => if x ≤ maxI (y :: r) then maxI (y :: r) else x
theorem maxI_of : ∀ {ns : List Int} {m : Int}, m ∈ ns → (∀ y ∈ ns, y ≤ m) → m = maxI ns
  | [x], m, h, _ => List.mem_singleton.mp h
  | x :: y :: r, m, h, g => by
    unfold maxI
    have spec : ∀ l : List Int, l ≠ [] → maxI l ∈ l ∧ ∀ z ∈ l, z ≤ maxI l := by
      intro l
      induction l with
      | nil => intro z; exact absurd rfl z
      | cons a t ih =>
        intro _
        cases t with
        | nil => exact ⟨by unfold maxI; exact List.mem_cons_self, fun z hz => by unfold maxI; rw [List.mem_singleton.mp hz]; exact Int.le_refl _⟩
        | cons b t =>
          obtain ⟨h1, h2⟩ := ih (by simp)
          unfold maxI
          split
          · rename_i hle
            exact ⟨List.mem_cons_of_mem _ h1, fun z hz => by rcases List.mem_cons.mp hz with rfl | hz; exact hle; exact h2 z hz⟩
          · rename_i hle
            exact ⟨List.mem_cons_self, fun z hz => by rcases List.mem_cons.mp hz with rfl | hz; exact Int.le_refl _; exact Int.le_of_lt (Int.lt_of_le_of_lt (h2 z hz) (by omega))⟩
    obtain ⟨h1, h2⟩ := spec (y :: r) (by simp)
    split
    · rename_i hle
      have q1 := g _ (List.mem_cons_of_mem _ h1)
      rcases List.mem_cons.mp h with rfl | hm
      · omega
      · have := h2 m hm; omega
    · rename_i hle
      have q1 := g x List.mem_cons_self
      rcases List.mem_cons.mp h with rfl | hm
      · rfl
      · have := h2 m hm; omega
def maxLO : List D → Option D
  | [.list ds] => (intsD ds).bind fun ns => if ns.isEmpty = true then none else some (.int (maxI ns))
  | _ => none
def revO : D → Option D
  | .list ds => some (.list ds.reverse)
  | _ => none
section
variable {X : Cx} {C : Ct} {Δ Δ' : Nat → Sh} {W : WX} {e a b c o i : Expr} {es : List Expr} {pos p p2 q0 apos : Pos} {m ma mb mi : En → P D} {ml : En → P (List D)}
theorem o_sort : CallR X (.builtin "sorted") (rN X.K (rNew X.K (.lst .dat)) sortO) := by
  intro pins s σ H xs us Q I r h
  obtain ⟨F, ds, d, eF, vs, hf, q⟩ := h
  match ds, hf with
  | [.list ds], hf =>
    obtain ⟨x, rfl, vx⟩ := vws1 vs
    obtain ⟨l, ws, rfl, s1, dq⟩ := vx.lst eF
    obtain ⟨ns, e1, rfl⟩ := Option.map_eq_some_iff.mp hf
    have ev := intsD_dq dq e1
    subst ev
    refine cr_sortedI pins s σ H _ us Q I r ⟨l, ns, rfl, SqL.of s1, fun ns' p h1 h2 hp => ?_⟩
    rw [srt_of h1 h2]
    exact q _ _ _ (.own eF hp) (new_lst eF hp (dqs_int _))
theorem o_sum (hc : X.calm = true) : CallR X (.builtin "sum") (rN X.K (rDp X.K) sumO) := by
  intro pins s σ H xs us Q I r h
  obtain ⟨F, ds, d, eF, vs, hf, q⟩ := h
  match ds, hf with
  | [.list ds], hf =>
    obtain ⟨x, rfl, vx⟩ := vws1 vs
    obtain ⟨l, ws, rfl, s1, dq⟩ := vx.lst eF
    obtain ⟨ns, e1, rfl⟩ := Option.map_eq_some_iff.mp hf
    have ev := intsD_dq dq e1
    subst ev
    exact cr_sum hc pins s σ H _ us Q I r ⟨l, ns, rfl, SqL.of s1, q _ F H (.refl eF) (.int _)⟩
theorem o_maxL (hc : X.calm = true) : CallR X (.builtin "max") (rN X.K (rDp X.K) maxLO) := by
  intro pins s σ H xs us Q I r h
  obtain ⟨F, ds, d, eF, vs, hf, q⟩ := h
  match ds, hf with
  | [.list ds], hf =>
    obtain ⟨x, rfl, vx⟩ := vws1 vs
    obtain ⟨l, ws, rfl, s1, dq⟩ := vx.lst eF
    obtain ⟨ns, e1, e2⟩ := Option.bind_eq_some_iff.mp hf
    have ev := intsD_dq dq e1
    subst ev
    split at e2
    · cases e2
    · rename_i hne
      cases e2
      refine cr_max hc pins s σ H _ us Q I r ⟨l, ns, rfl, SqL.of s1, ?_, fun m h1 h2 => ?_⟩
      · cases ns with
        | nil => exact absurd rfl hne
        | cons _ _ => exact Nat.succ_pos _
      · rw [maxI_of h1 h2]
        exact q _ F H (.refl eF) (.int _)
theorem g_rev {k : Nat} {p1 p2 p3 : Pos} (h : PE X e (tG X.K Δ W (rVw X.K) m)) : PE X (.Subscript e (.Slice none none (some (.UnaryOp .USub (.Constant (.int 1) k p1) p2)) p3) pos) (tG X.K Δ W (rNew X.K (.lst .dat)) (m1 revO m)) := by
  refine pe_mono (pe_revL h) fun σ H Q h => ?_
  obtain ⟨F0, B, F, ρ, E, p⟩ := h
  refine seqG (r1 := rVw X.K) E p fun dx x F1 H1 g1 q1 E1 p1 => ?_
  cases dx <;> try (exact p1.elim)
  rename_i ds
  obtain ⟨l, ws, rfl, s1, dq⟩ := Vw.lst E1.eF q1
  exact ⟨l, ws, rfl, SqL.of s1, fun q hq => p1 _ _ _ (.own E1.eF hq) (new_lst E1.eF hq dq.rev)⟩
/-! ### len(set(xs)) -/
def dedI (acc : List Int) : List Int → List Int
  | [] => acc
  | x :: r => dedI (if acc.any (· == x) then acc else acc ++ [x]) r
theorem met_ded (ns : List Int) : ∀ (i : Nat), i ≤ ns.length → PyProof.Rows.firstMet (fun i => ns.getD i 0) i = dedI [] (ns.take i) := by
  have app : ∀ (l : List Int) (x : Int) (acc : List Int), dedI acc (l ++ [x]) = (if (dedI acc l).any (· == x) then dedI acc l else dedI acc l ++ [x]) := by
    intro l
    induction l with
    | nil => intro x acc; rfl
    | cons y l ih => intro x acc; exact ih x _
  intro i
  induction i with
  | zero => intro _; rfl
  | succ i ih =>
    intro h
    rw [PyProof.Rows.firstMet_succ, ih (by omega), List.take_succ, List.getElem?_eq_getElem (by omega)]
    have e : ns.getD i 0 = ns[i]'(by omega) := by rw [List.getD_eq_getElem?_getD, List.getElem?_eq_getElem (by omega)]; rfl
    rw [e]
    exact (app _ _ _).symm
def lsetO : D → Option D
  | .list ds => (intsD ds).bind fun ns => if ns.length ≤ 4000 then some (.int ((dedI [] ns).length : Nat)) else none
  | _ => none
theorem dedI_le : ∀ (l acc : List Int), (dedI acc l).length ≤ acc.length + l.length
  | [], acc => by simp [dedI]
  | x :: l, acc => by
    unfold dedI
    split
    · have := dedI_le l acc; simp; omega
    · have := dedI_le l (acc ++ [x]); simp at this ⊢; omega
theorem g_lset (hm : X.mg "len" = none) (hm2 : X.mg "set" = none) (h : PE X a (tG X.K Δ W (rVw X.K) m)) (hc : X.calm = true := by rfl) (hg : Gl X "len" := by rfl) (hg2 : Gl X "set" := by rfl) (na : starEach [a] X.env = (false, eval a X.env) :: starEach [] X.env := by rfl) :
    PE X (.Call (.Name "len" p) [.Call (.Name "set" p2) [a] [] q0] [] pos) (tG X.K Δ W (rDp X.K) (m1 lsetO m)) := by
  refine ⟨fun pins s σ H Q I hh => ?_⟩
  refine Call_ (ld_blt I hg hm PySem.boot_len (PyProof.Rows.callWith_builtin1 (PyProof.Rows.args_cons (Call_ (ld_blt I hg2 hm2 PyProof.Rows.boot_set ?_)) rfl) rfl rfl))
  have run := h.run pins s σ H (fun x H1 => ∃ (l : Addr) (ns : List Int), x = V.ref l ∧ SqL X.K H1 l (ns.map V.int) ∧ ns.length ≤ 4000 ∧ Q (.int ((dedI [] ns).length : Nat)) H1) I (by
    obtain ⟨F0, B, F, ρ, E, p⟩ := hh
    refine seqG (r1 := rVw X.K) E p fun dx x F1 H1 g1 q1 E1 p1 => ?_
    cases dx <;> try (exact p1.elim)
    rename_i ds
    obtain ⟨l, ws, rfl, s1, dq⟩ := Vw.lst E1.eF q1
    replace p1 : PostG X.K W (rDp X.K) σ F1 H1 (P.ofO ((intsD ds).bind fun ns => if ns.length ≤ 4000 then some (.int ((dedI [] ns).length : Nat)) else none)) Q := p1
    cases e1 : intsD ds with
    | none => rw [e1] at p1; exact p1.elim
    | some ns =>
      rw [e1] at p1
      have ev := intsD_dq dq e1
      subst ev
      replace p1 : PostG X.K W (rDp X.K) σ F1 H1 (P.ofO (if ns.length ≤ 4000 then some (.int ((dedI [] ns).length : Nat)) else none)) Q := p1
      by_cases hl : ns.length ≤ 4000
      · rw [if_pos hl] at p1
        exact ⟨l, ns, rfl, SqL.of s1, hl, p1 _ F1 H1 (.refl E1.eF) (.int _)⟩
      · rw [if_neg hl] at p1; exact p1.elim)
  refine PyProof.Rows.callWith_type1 (PyProof.Rows.args_cons (thn run fun v s1 ⟨x, H1, I1, r1, l, ns, ex, hq, hl, q1⟩ => PyProof.Rows.args_nil ?_) na) na rfl
  subst ex
  cases r1
  obtain ⟨its, r, pl, hz⟩ := I1.list hq
  have hsz : its.toArray.size = ns.length := by rw [List.size_toArray, ← r.length, List.length_map]
  refine PySem.call_set_list (I1.ok.hd hc) pl.isList (by simpa using r.ints) (by rw [hsz]; unfold scanBound; omega) fun h' tk hS hk => PyProof.Rows.args_nil ?_
  rw [hsz, met_ded ns _ (Nat.le_refl _), List.take_length] at hS
  obtain ⟨o, es, ep, t, ho, hex, hd, _, _, _, hf, hn⟩ := hS
  have I2 : Inv X pins σ H1 { s1 with heap := h', toks := tk } := I1.kept fun b o e => hk b o (Heap.lt_size e) e
  have hle := dedI_le ns []
  exact call_len_set ho hex hd hf (by rw [hn]; simp at hle; omega) ⟨.int _, H1, I2.tok _, ⟨_, by rw [hn]⟩, q1⟩
/-! ### list(range(..)) -/
theorem rgV_eq (n : Int) : rgV 0 n = (List.range n.toNat).map fun i => V.int (i : Nat) := by unfold rgV; simp
def lrangeO : D → Option D
  | .int n => if (decide (0 ≤ n) && decide (n ≤ 16777216)) = true then some (.list (intL 0 n.toNat)) else none
  | _ => none
theorem dq_range {K : PySem.W.Frag} {F : Hp} (n : Int) : DqAll K F (rgV 0 n) (intL 0 n.toNat) := by
  have key : ∀ (l : List Nat), DqAll K F (l.map fun i => V.int (0 + (i : Nat))) (l.map fun (k : Nat) => PyData.int (0 + (k : Int))) := by
    intro l
    induction l with
    | nil => exact .nil
    | cons k l ih => exact .cons (.int _) ih
  have e : rgV 0 n = (List.range n.toNat).map fun i => V.int (0 + (i : Nat)) := by unfold rgV; simp
  rw [e]
  exact key _
theorem g_lrange {p' pos' : Pos} (hml : X.mg "list" = none) (hmr : X.mg "range" = none) (h : PE X a (tG X.K Δ W (rVw X.K) m)) (hc : X.calm = true := by rfl) (hg : Gl X "list" := by rfl) (hg2 : Gl X "range" := by rfl) (na : starEach [a] X.env = (false, eval a X.env) :: starEach [] X.env := by rfl)
    (na2 : starEach [.Call (.Name "range" p') [a] [] pos'] X.env = (false, eval (.Call (.Name "range" p') [a] [] pos') X.env) :: starEach [] X.env := by rfl) : PE X (.Call (.Name "list" p) [.Call (.Name "range" p') [a] [] pos'] [] pos) (tG X.K Δ W (rNew X.K (.lst .dat)) (m1 lrangeO m)) := by
  refine pe_mono (pe_listRg hc hg hml (prg_1 hg2 hmr h na) na2) fun σ H Q h => ?_
  obtain ⟨F0, B, F, ρ, E, p⟩ := h
  refine seqG (r1 := rVw X.K) E p fun dx x F1 H1 g1 q1 E1 p1 => ?_
  cases dx <;> try (exact p1.elim)
  rename_i n
  replace p1 : PostG X.K W (rNew X.K (.lst .dat)) σ F1 H1 (P.ofO (if (decide (0 ≤ n) && decide (n ≤ 16777216)) = true then some (.list (intL 0 n.toNat)) else none)) Q := p1
  by_cases hn : (decide (0 ≤ n) && decide (n ≤ 16777216)) = true
  · rw [if_pos hn] at p1
    simp only [Bool.and_eq_true, decide_eq_true_eq] at hn
    exact ⟨n, Vw.int q1, .of_le (Int.le_refl _) hn.2 (by decide) hn.1, fun q hq => p1 _ _ _ (.own E1.eF hq) (new_lst E1.eF hq (dq_range n))⟩
  · rw [if_neg hn] at p1; exact p1.elim
end
end Pc

set_option maxRecDepth 100000
set_option maxHeartbeats 1000000
namespace Pc
open PySem PySem.Spec PyProof.Rows L2
open Evl (Ex)
/-! ### things with fields -/
def fldO (n : Str) : D → Option D
  | .dict kds => valD kds (.inr n)
  | _ => none
def putFD (n : Str) (d : D) : List (D × D) → List (D × D)
  | [] => [(.str n, d)]
  | (k, x) :: r => if kIs k (.inr n) = true then (k, d) :: r else (k, x) :: putFD n d r
def fputO (n : Str) (o d : D) : D := match o with
  | .dict kds => .dict (putFD n d kds)
  | x => x
def plF (pl : Pl) (n : Str) : Pl := ⟨fun ρ => (pl.get ρ).bind (fldO n), fun ρ d => match pl.get ρ with
  | some o => pl.set ρ (fputO n o d)
  | none => ρ⟩
theorem kIs_str (k n : Str) : kIs (.str k) (.inr n) = decide (k = n) := rfl
section
variable {R : Str → V → D → List Addr → Prop}
theorem lookup_pos {n : Str} {v : V} {r : List (Str × V)} : ((n, v) :: r).lookup n = some v := by
  have hb : (n == n) = true := beq_iff_eq.mpr rfl
  simp only [List.lookup, hb]
theorem lookup_neg {k n : Str} {v : V} {r : List (Str × V)} (h : ¬ k = n) : ((k, v) :: r).lookup n = r.lookup n := by
  have hb : (n == k) = false := beq_eq_false_iff_ne.mpr fun e => h e.symm
  simp only [List.lookup, hb]
/-- one field taken out -/
theorem OwnF.split {fvs : List (Str × V)} {kds : List (D × D)} {fq : List Addr} {n : Str} {d : D} (h : OwnF R fvs kds fq) (e : valD kds (.inr n) = some d) :
    ∃ v fl fp fr, fvs.lookup n = some v ∧ R n v d fp ∧ fq = fl ++ (fp ++ fr) ∧ ∀ (R' : Str → V → D → List Addr → Prop) d' fp', (∀ k v d fz, (∀ a ∈ fz, a ∈ fl ∨ a ∈ fr) → R k v d fz → R' k v d fz) → R' n v d' fp' → OwnF R' fvs (putFD n d' kds) (fl ++ (fp' ++ fr)) := by
  induction h with
  | nil => cases e
  | @cons k v d0 fp fvs kds fq a t ih =>
    by_cases hk : k = n
    · subst hk
      have e2 : d0 = d := by
        unfold valD at e
        rw [List.find?_cons, kIs_str, decide_eq_true rfl] at e
        exact Option.some.inj e
      subst e2
      refine ⟨v, [], fp, fq, lookup_pos, a, rfl, fun R' d' fp' mono r => ?_⟩
      have e3 : putFD k d' ((.str k, d0) :: kds) = (.str k, d') :: kds := by
        unfold putFD
        rw [if_pos (by rw [kIs_str]; exact decide_eq_true rfl)]
      rw [e3]
      exact OwnF.cons (fp := fp') (fq := fq) r (t.imp (A := fq) (fun _ q => q) fun k v d fz hs r => mono k v d fz (fun a ha => .inr (hs a ha)) r)
    · have e2 : valD kds (.inr n) = some d := by
        unfold valD at e ⊢
        rw [List.find?_cons, kIs_str, decide_eq_false hk] at e
        exact e
      obtain ⟨v', fl, fp1, fr, h1, h2, h3, h4⟩ := ih e2
      refine ⟨v', fp ++ fl, fp1, fr, by rw [lookup_neg hk]; exact h1, h2, by rw [h3, List.append_assoc], fun R' d' fp' mono r => ?_⟩
      have e3 : putFD n d' ((.str k, d0) :: kds) = (.str k, d0) :: putFD n d' kds := by
        show (if kIs (.str k) (.inr n) = true then _ else _) = _
        rw [if_neg (by rw [kIs_str, decide_eq_false hk]; decide)]
      rw [e3, List.append_assoc]
      exact .cons (mono k v d0 fp (fun a ha => .inl (List.mem_append_left _ ha)) a) (h4 R' d' fp' (fun k v d fz hs r => mono k v d fz (fun a ha => (hs a ha).imp (List.mem_append_right _) id) r) r)
/-- one field set -/
theorem OwnF.put {fvs : List (Str × V)} {kds : List (D × D)} {fq : List Addr} (n : Str) (h : OwnF R fvs kds fq) :
    ∃ fl fp fr, fq = fl ++ (fp ++ fr) ∧ ∀ (R' : Str → V → D → List Addr → Prop) v' d' fp', (∀ k v d fz, (∀ a ∈ fz, a ∈ fl ∨ a ∈ fr) → R k v d fz → R' k v d fz) → R' n v' d' fp' → OwnF R' (putF n v' fvs) (putFD n d' kds) (fl ++ (fp' ++ fr)) := by
  induction h with
  | nil => exact ⟨[], [], [], rfl, fun R' v' d' fp' _ r => OwnF.cons (fp := fp') (fq := []) r .nil⟩
  | @cons k v d0 fp fvs kds fq a t ih =>
    by_cases hk : k = n
    · subst hk
      refine ⟨[], fp, fq, rfl, fun R' v' d' fp' mono r => ?_⟩
      have e3 : putFD k d' ((.str k, d0) :: kds) = (.str k, d') :: kds := by
        unfold putFD
        rw [if_pos (by rw [kIs_str]; exact decide_eq_true rfl)]
      have e4 : putF k v' ((k, v) :: fvs) = (k, v') :: fvs := by
        unfold putF
        rw [if_pos rfl]
      rw [e3, e4]
      exact OwnF.cons (fp := fp') (fq := fq) r (t.imp (A := fq) (fun _ q => q) fun k v d fz hs r => mono k v d fz (fun a ha => .inr (hs a ha)) r)
    · obtain ⟨fl, fp1, fr, h3, h4⟩ := ih
      refine ⟨fp ++ fl, fp1, fr, by rw [h3, List.append_assoc], fun R' v' d' fp' mono r => ?_⟩
      have e3 : putFD n d' ((.str k, d0) :: kds) = (.str k, d0) :: putFD n d' kds := by
        show (if kIs (.str k) (.inr n) = true then _ else _) = _
        rw [if_neg (by rw [kIs_str, decide_eq_false hk]; decide)]
      have e4 : putF n v' ((k, v) :: fvs) = (k, v) :: putF n v' fvs := by
        show (if k = n then _ else _) = _
        rw [if_neg hk]
      rw [e3, e4, List.append_assoc]
      exact .cons (mono k v d0 fp (fun a ha => .inl (List.mem_append_left _ ha)) a) (h4 R' v' d' fp' (fun k v d fz hs r => mono k v d fz (fun a ha => (hs a ha).imp (List.mem_append_right _) id) r) r)
theorem OwnF.len {fvs : List (Str × V)} {kds : List (D × D)} {fq : List Addr} (h : OwnF R fvs kds fq) : fvs.length = kds.length := by
  induction h with
  | nil => rfl
  | cons _ _ ih => exact congrArg (· + 1) ih
theorem OwnF.none {fvs : List (Str × V)} {kds : List (D × D)} {fq : List Addr} {n : Str} (h : OwnF R fvs kds fq) (e : valD kds (.inr n) = Option.none) : fvs.lookup n = Option.none := by
  induction h with
  | nil => rfl
  | @cons k v d0 fp fvs kds fq a t ih =>
    unfold valD at e
    rw [List.find?_cons, kIs_str] at e
    by_cases hk : k = n
    · rw [decide_eq_true hk] at e; cases e
    · rw [decide_eq_false hk] at e
      rw [lookup_neg hk]
      exact ih e
end
theorem nodup_mid {a b c : List Addr} (h : (a ++ (b ++ c)).Nodup) : b.Nodup ∧ (∀ x ∈ b, x ∉ a ∧ x ∉ c) := by
  obtain ⟨h1, h2, h3⟩ := List.nodup_append.mp h
  obtain ⟨h4, h5, h6⟩ := List.nodup_append.mp h2
  exact ⟨h4, fun x hx => ⟨fun ha => h3 x ha x (List.mem_append_left _ hx) rfl, fun hc => h6 x hx x hc rfl⟩⟩
/-- the middle exchanged -/
theorem nodup_swap {a b c b' : List Addr} (h : (a ++ (b ++ c)).Nodup) (hb : b'.Nodup) (hd : ∀ x ∈ b', x ∈ b ∨ (x ∉ a ∧ x ∉ c)) : (a ++ (b' ++ c)).Nodup := by
  have hm := (nodup_mid h).2
  obtain ⟨h1, h2, h3⟩ := List.nodup_append.mp h
  obtain ⟨h4, h5, h6⟩ := List.nodup_append.mp h2
  have hd' : ∀ x ∈ b', x ∉ a ∧ x ∉ c := fun x hx => (hd x hx).elim (fun z => hm x z) id
  refine List.nodup_append.mpr ⟨h1, List.nodup_append.mpr ⟨hb, h5, fun x hx y hy e => (hd' x hx).2 (e ▸ hy)⟩, fun x hx y hy e => ?_⟩
  subst e
  rcases List.mem_append.mp hy with z | z
  · exact (hd' x z).1 hx
  · exact h3 x hx x (List.mem_append_right _ z) rfl
/-- a field's change, seen from the thing -/
theorem obj_chg {F B H F' H' : Hp} {l dx : Addr} {fl fp fr fq : List Addr} (c : Chg F H F' H' fp fq) (f : Fp F B H (l :: dx :: (fl ++ (fp ++ fr)))) :
    Chg F H F' H' (l :: dx :: (fl ++ (fp ++ fr))) (l :: dx :: (fl ++ (fq ++ fr))) ∧ ∀ x, x ∉ fp → x ∈ l :: dx :: (fl ++ (fp ++ fr)) → H' x = H x := by
  have stay : ∀ x, x ∉ fp → x ∈ l :: dx :: (fl ++ (fp ++ fr)) → H' x = H x ∧ F' x = none := fun x h1 h2 => by
    obtain ⟨q1, _, q3⟩ := f.off x h2
    obtain ⟨z1, z2⟩ := c.off x h1 q3
    exact ⟨z1, z2 q1⟩
  have inn : ∀ x ∈ fp, x ∈ l :: dx :: (fl ++ (fp ++ fr)) := fun x hx => List.mem_cons_of_mem _ (List.mem_cons_of_mem _ (List.mem_append_right _ (List.mem_append_left _ hx)))
  have nd : (([l, dx] ++ fl) ++ (fp ++ fr)).Nodup := by simpa using f.nd
  have fresh : ∀ x ∈ fq, x ∈ fp ∨ (x ∉ [l, dx] ++ fl ∧ x ∉ fr) := fun x hx => by
    rcases (c.new x hx).2.2 with z | z
    · exact .inl z
    · refine .inr ⟨fun y => ?_, fun y => ?_⟩
      · exact (f.off x (by
          rcases List.mem_append.mp y with y | y
          · rcases List.mem_cons.mp y with rfl | y
            · exact List.mem_cons_self
            · exact List.mem_cons_of_mem _ (List.mem_cons.mpr (.inl (List.mem_singleton.mp y)))
          · exact List.mem_cons_of_mem _ (List.mem_cons_of_mem _ (List.mem_append_left _ y)))).2.2 z
      · exact (f.off x (List.mem_cons_of_mem _ (List.mem_cons_of_mem _ (List.mem_append_right _ (List.mem_append_right _ y))))).2.2 z
  have nd2 := nodup_swap nd c.nd fresh
  have hm := (nodup_mid nd).2
  refine ⟨⟨c.eF, c.eH, fun x h1 h2 => c.off x (fun z => h1 (inn x z)) h2, by simpa using nd2, fun x hx => ?_⟩, fun x h1 h2 => (stay x h1 h2).1⟩
  by_cases hq : x ∈ fq
  · obtain ⟨z1, z2, z3⟩ := c.new x hq
    exact ⟨z1, z2, z3.imp (inn x) id⟩
  · have hx2 : x ∈ ([l, dx] ++ fl) ∨ x ∈ fr := by
      simp only [List.mem_cons, List.mem_append] at hx ⊢
      rcases hx with z | z | z | z | z
      · exact .inl (.inl (.inl z))
      · exact .inl (.inl (.inr (.inl z)))
      · exact .inl (.inr z)
      · exact absurd z hq
      · exact .inr z
    have hf : x ∉ fp := fun z => hx2.elim (fun y => (hm x z).1 y) fun y => (hm x z).2 y
    have hw : x ∈ l :: dx :: (fl ++ (fp ++ fr)) := by
      simp only [List.mem_cons, List.mem_append] at hx2 ⊢
      rcases hx2 with (z | z) | z
      · rcases z with z | z | z
        · exact .inl z
        · exact .inr (.inl z)
        · cases z
      · exact .inr (.inr (.inl z))
      · exact .inr (.inr (.inr (.inr z)))
    obtain ⟨z1, z2⟩ := stay x hf hw
    exact ⟨z2, by rw [z1]; exact (f.off x hw).2.2, .inl hw⟩
section
variable {X : Cx} {C : Ct} {Δ Δ' : Nat → Sh} {W : WX} {e a b o i value : Expr} {es : List Expr} {pos p apos pos' : Pos} {m ma mb mi : En → P D} {r : Rs V D} {ml : En → P (List D)} {s : Sh} {pl : Pl} {cn : Str} {sh : Str → Sh} {n : Str}
theorem tPl_mono {K : PySem.W.Frag} {σ : L2.St} {H : Hp} {Q Q' : VK} (i : ∀ v H, Q v H → Q' v H) (h : tPl K Δ s pl σ H Q) : tPl K Δ s pl σ H Q' := by
  obtain ⟨F0, B, F1, H1, F, ρ, E, g, d, e, q⟩ := h
  exact ⟨F0, B, F1, H1, F, ρ, E, g, d, e, fun v fp o f u => i _ _ (q v fp o f u)⟩
/-- a place that is what it was handed as -/
theorem pl_fix {u : V} (h : PE X e (tPl X.K Δ (.fix u s) pl)) : PE X e (tPl X.K Δ s pl) := pe_mono h fun σ H Q h => by
  obtain ⟨F0, B, F1, H1, F, ρ, E, g, d, e, q⟩ := h
  refine ⟨F0, B, F1, H1, F, ρ, E, g, d, e, fun v fp o f u => q v fp o.2 f fun F' H' d' fq c o' => u F' H' d' fq c ⟨o.1, o'⟩⟩
/-- o.n, a place within a place -/
theorem pl_fld (c : Cls X.K (He.ga X.K cn)) (na : NoAttr X.K (He.ga X.K cn) n) (ho : PE X o (tPl X.K Δ (.obj cn sh) pl)) (hb : attributeBase o n X.env (eval o X.env) = eval o X.env := by rfl) : PE X (.Attribute o n pos) (tPl X.K Δ (sh n) (plF pl n)) := by
  refine pe_mono (pe_fld ho hb) fun σ H Q h => ?_
  obtain ⟨F0, B, F1, H1, F, ρ, E, gw, d, e, q⟩ := h
  obtain ⟨od, e1, e2⟩ := Option.bind_eq_some_iff.mp (show (pl.get ρ).bind (fldO n) = some d from e)
  refine ⟨F0, B, F1, H1, F, ρ, E, gw, od, e1, fun v fp ow f u => ?_⟩
  obtain ⟨l, dx, fvs, kds, fq, rfl, rfl, hl, hdx, of_, rfl⟩ := ow
  obtain ⟨v, fl, fp, fr, h1, h2, rfl, h4⟩ := OwnF.split of_ e2
  obtain ⟨n1, n2⟩ := List.nodup_cons.mp f.nd
  obtain ⟨n3, n4⟩ := List.nodup_cons.mp n2
  obtain ⟨n5, n6⟩ := nodup_mid n4
  have hin : ∀ x ∈ fp, x ∈ l :: dx :: (fl ++ (fp ++ fr)) := fun x hx => List.mem_cons_of_mem _ (List.mem_cons_of_mem _ (List.mem_append_right _ (List.mem_append_left _ hx)))
  refine ⟨l, He.ga X.K cn, dx, fvs, v, rfl, gw.2.2.1 _ _ hl, c, na, h1, q v fp h2 ⟨n5, fun x hx => f.off x (hin x hx)⟩ fun F' H' d' fq c o' => ?_⟩
  have hset : (plF pl n).set ρ d' = pl.set ρ (.dict (putFD n d' kds)) := by
    show (match pl.get ρ with | some o => pl.set ρ (fputO n o d') | none => ρ) = _
    rw [e1]
    rfl
  rw [hset]
  have hlfp : l ∉ fp := fun z => n1 (List.mem_cons_of_mem _ (List.mem_append_right _ (List.mem_append_left _ z)))
  have hdfp : dx ∉ fp := fun z => n3 (List.mem_append_right _ (List.mem_append_left _ z))
  obtain ⟨w1, w2⟩ := obj_chg c f
  exact u F' H' _ _ w1 ⟨l, dx, fvs, _, _, rfl, rfl, (w2 l hlfp List.mem_cons_self).trans hl, (w2 dx hdfp (List.mem_cons_of_mem _ List.mem_cons_self)).trans hdx,
    h4 (fun k => Own X.K F' H' (sh k)) d' fq (fun k v d fz hs r => Own.stay (sh k) v d fz c.eF (fun x hx => w2 x (fun z => by
      rcases hs x hx with y | y
      · exact (n6 x z).1 y
      · exact (n6 x z).2 y) (by
      rcases hs x hx with y | y
      · exact List.mem_cons_of_mem _ (List.mem_cons_of_mem _ (List.mem_append_left _ y))
      · exact List.mem_cons_of_mem _ (List.mem_cons_of_mem _ (List.mem_append_right _ (List.mem_append_right _ y))))) r) o', rfl⟩
end
end Pc

set_option maxRecDepth 100000
set_option maxHeartbeats 1000000
namespace Pc
open PySem PySem.Spec PyProof.Rows L2
open Evl (Ex)
/-- a field set to something new, seen from the thing -/
theorem fset_chg {F B H F1 H1 : Hp} {l dx : Addr} {o : HO} {fl fp fr fq : List Addr} (g : Gw F H F1 H1) (f : Fp F B H (l :: dx :: (fl ++ (fp ++ fr)))) (nd' : fq.Nodup) (q : ∀ a ∈ fq, F1 a = none ∧ H a = none ∧ H1 a ≠ none) :
    Chg F H F1 (upd H1 l o) (l :: dx :: (fl ++ (fp ++ fr))) (l :: dx :: (fl ++ (fq ++ fr))) := by
  have hl := f.off l List.mem_cons_self
  have nd : (([l, dx] ++ fl) ++ (fp ++ fr)).Nodup := by simpa using f.nd
  have hF : ∀ x ∈ l :: dx :: (fl ++ (fp ++ fr)), F1 x = none ∧ H1 x = H x := fun x hx => ⟨g.2.2.2 x (f.off x hx).2.2 (f.off x hx).1, ex_eq g.2.2.1 (f.off x hx).2.2⟩
  have nn : ∀ x, H1 x ≠ none → upd H1 l o x ≠ none := fun x hx => by
    by_cases z : x = l
    · subst z; rw [upd_same]; exact (fun z => nomatch z)
    · rw [upd_ne z]; exact hx
  have out : ∀ x ∈ fq, x ∉ l :: dx :: (fl ++ (fp ++ fr)) := fun x hx z => (f.off x z).2.2 (q x hx).2.1
  refine ⟨g.1, fun b u hb => ?_, fun a h1 h2 => ⟨?_, fun z => g.2.2.2 a h2 z⟩, ?_, fun x hx => ?_⟩
  · rw [upd_ne fun z => by rw [z, (hF l List.mem_cons_self).1] at hb; cases hb]; exact g.2.1 b u hb
  · rw [upd_ne fun (z : a = l) => h1 (by rw [z]; exact List.mem_cons_self)]; exact ex_eq g.2.2.1 h2
  · have := nodup_swap nd nd' fun x hx => .inr ⟨fun z => out x hx (by
      simp only [List.mem_cons, List.mem_append] at z ⊢
      rcases z with (z | z | z) | z
      · exact .inl z
      · exact .inr (.inl z)
      · cases z
      · exact .inr (.inr (.inl z))), fun z => out x hx (by
      simp only [List.mem_cons, List.mem_append]
      exact .inr (.inr (.inr (.inr z))))⟩
    simpa using this
  · by_cases hq : x ∈ fq
    · exact ⟨(q x hq).1, nn x (q x hq).2.2, .inr (q x hq).2.1⟩
    · have hw : x ∈ l :: dx :: (fl ++ (fp ++ fr)) := by
        simp only [List.mem_cons, List.mem_append] at hx ⊢
        rcases hx with z | z | z | z | z
        · exact .inl z
        · exact .inr (.inl z)
        · exact .inr (.inr (.inl z))
        · exact absurd z hq
        · exact .inr (.inr (.inr (.inr z)))
      exact ⟨(hF x hw).1, nn x (by rw [(hF x hw).2]; exact (f.off x hw).2.2), .inl hw⟩
def sFset (pl : Pl) (n : Str) (mv : En → P D) : En → Fl := fun ρ => liftP (mv ρ) ρ fun v => liftP (mPl pl ρ) ρ fun o => match o with
  | .dict kds => if kds.length < 1000 then .nx (pl.set ρ (.dict (putFD n v kds))) else .stuck
  | _ => .stuck
def sFaug (pl : Pl) (n : Str) (mv : En → P D) : En → Fl := fun ρ => liftP (mPl (plF pl n) ρ) ρ fun x => liftP (mv ρ) ρ fun y => match addIO x y with
  | some z => (match pl.get ρ with
    | some (.dict kds) => if kds.length < 1000 then .nx (pl.set ρ (.dict (putFD n z kds))) else .stuck
    | _ => .stuck)
  | none => .stuck
section
variable {X : Cx} {C : Ct} {Δ Δ' : Nat → Sh} {W : WX} {e a b o i value : Expr} {es : List Expr} {pos p apos pos' : Pos} {m ma mb mi mv : En → P D} {r : Rs V D} {ml : En → P (List D)} {s : Sh} {pl : Pl} {cn : Str} {sh : Str → Sh} {n : Str}
theorem g_plDat (h : PE X e (tPl X.K Δ .dat pl)) : PE X e (tG X.K Δ W (rDp X.K) (mPl pl)) := by
  refine pe_mono h fun σ H Q h => ?_
  obtain ⟨F0, B, F, ρ, E, p⟩ := h
  replace p : PostG X.K W (rDp X.K) σ F H (P.ofO (pl.get ρ)) Q := p
  cases e : pl.get ρ with
  | none => rw [e] at p; exact p.elim
  | some d => rw [e] at p; exact ⟨F0, B, F, H, F, ρ, E, .refl E.eF, d, e, fun v fp o f u => p _ F H (.refl E.eF) o.1⟩
theorem own_fields {K : PySem.W.Frag} {F H F1 H1 : Hp} {sh : Str → Sh} {l : Addr} {o : HO} {fl fr : List Addr} (g : Gw F H F1 H1) (hn : ∀ x, x ∈ fl ∨ x ∈ fr → x ≠ l ∧ H x ≠ none) (k : Str) (v : V) (d : D) (fz : List Addr) (hs : ∀ x ∈ fz, x ∈ fl ∨ x ∈ fr) (r : Own K F H (sh k) v d fz) : Own K F1 (upd H1 l o) (sh k) v d fz :=
  Own.stay (sh k) v d fz g.1 (fun x hx => by rw [upd_ne (hn x (hs x hx)).1]; exact ex_eq g.2.2.1 (hn x (hs x hx)).2) r
theorem s_fnew (hK : C.K = X.K) (c : Cls X.K (He.ga X.K cn)) (na : NoAttr X.K (He.ga X.K cn) n) (ho : PE X o (tPl C.K Δ (.obj cn sh) pl)) (hv : PE X value (tG C.K Δ C.W (rNew C.K (sh n)) mv)) (hs : swapsWith value (some (.Attribute o n pos')) pos.line X.env = pure false := by rfl) :
    PS X (.Assign [.Attribute o n pos'] value pos) (tS C Δ Δ (sFset pl n mv)) := by
  refine ps_mono (ps_fld ho hv hs) fun D σ H h => ?_
  obtain ⟨F0, B, F, ρ, E, p⟩ := h
  unfold sFld
  refine stepS (r := rNew C.K (sh n)) E p fun dv y F1 H1 g q E1 p1 => pl_postG E g p1 fun d v fp e0 ow f u p2 => ?_
  obtain ⟨l, dx, fvs, kds, fq, rfl, rfl, hl, hdx, of_, rfl⟩ := ow
  replace p2 : PostS C Δ F0 B D (if kds.length < 1000 then .nx (pl.set ρ (.dict (putFD n dv kds))) else .stuck) := p2
  by_cases hz : kds.length < 1000
  · rw [if_pos hz] at p2
    refine ⟨l, He.ga X.K cn, dx, fvs, rfl, by rw [← hK]; exact g.2.2.1 _ _ hl, c, na, by rw [of_.len]; exact hz, ?_⟩
    obtain ⟨fl, fp0, fr, rfl, h4⟩ := of_.put n
    obtain ⟨fp', ow', nd', q'⟩ := q
    obtain ⟨n1, n2⟩ := List.nodup_cons.mp f.nd
    have hl' := f.off l List.mem_cons_self
    have hn : ∀ x, x ∈ fl ∨ x ∈ fr → x ≠ l ∧ H x ≠ none := fun x hx => by
      have hx2 : x ∈ fl ++ (fp0 ++ fr) := hx.elim (List.mem_append_left _) fun z => List.mem_append_right _ (List.mem_append_right _ z)
      exact ⟨fun z => n1 (z ▸ List.mem_cons_of_mem _ hx2), (f.off x (List.mem_cons_of_mem _ (List.mem_cons_of_mem _ hx2))).2.2⟩
    refine p2 σ F1 _ ⟨u F1 _ _ _ (fset_chg (o := .ins (He.ga X.K cn) dx (putF n y fvs)) g f nd' q') ⟨l, dx, putF n y fvs, _, _, rfl, rfl, by rw [upd_same, hK], ?_, ?_, rfl⟩, E.sh, E.ok⟩
    · rw [upd_ne fun (z : dx = l) => n1 (by rw [z]; exact List.mem_cons_self)]; exact g.2.2.1 _ _ hdx
    · refine h4 (fun k => Own C.K F1 _ (sh k)) y dv fp' (fun k v d fz hs r => own_fields g hn k v d fz hs r) ?_
      exact Own.stay (sh n) y dv fp' (Ex.refl _) (fun x hx => upd_ne fun z => hl'.2.2 (z ▸ (q' x hx).2.1)) ow'
  · rw [if_neg hz] at p2; exact p2.elim
theorem s_fset (hK : C.K = X.K) (c : Cls X.K (He.ga X.K cn)) (na : NoAttr X.K (He.ga X.K cn) n) (ho : PE X o (tPl C.K Δ (.obj cn sh) pl)) (hv : PE X value (tG C.K Δ C.W (rDp C.K) mv)) (hd : sh n = .dat := by rfl) (hs : swapsWith value (some (.Attribute o n pos')) pos.line X.env = pure false := by rfl) :
    PS X (.Assign [.Attribute o n pos'] value pos) (tS C Δ Δ (sFset pl n mv)) :=
  s_fnew hK c na ho (by rw [hd]; exact pe_mono hv (tG_weak fun _ _ _ _ _ q => ⟨[], ⟨q, rfl⟩, List.nodup_nil, fun _ h => (List.not_mem_nil h).elim⟩)) hs
theorem s_faug (hK : C.K = X.K) (c : Cls X.K (He.ga X.K cn)) (na : NoAttr X.K (He.ga X.K cn) n) (ho : PE X o (tPl C.K Δ (.obj cn sh) pl)) (hv : PE X value (tG C.K Δ C.W (rDp C.K) mv)) (hd : sh n = .dat := by rfl) :
    PS X (.AugAssign (.Attribute o n pos') .Add value pos) (tS C Δ Δ (sFaug pl n mv)) := by
  refine ps_mono (ps_fldaug ho hv in_add) fun D σ H h => ?_
  obtain ⟨F0, B, F, ρ, E, p⟩ := h
  unfold sFldAug
  replace p : PostS C Δ F0 B D (liftP (P.ofO ((pl.get ρ).bind (fldO n))) ρ fun x => liftP (mv ρ) ρ fun y => match addIO x y with
    | some z => (match pl.get ρ with
      | some (.dict kds) => if kds.length < 1000 then .nx (pl.set ρ (.dict (putFD n z kds))) else .stuck
      | _ => .stuck)
    | none => .stuck) := p
  cases e0 : pl.get ρ with
  | none => rw [e0] at p; exact p.elim
  | some od =>
    refine ⟨F0, B, F, H, F, ρ, E.e, .refl E.e.eF, od, e0, fun v fp ow f u => ?_⟩
    rw [e0] at p
    obtain ⟨l, dx, fvs, kds, fq, rfl, rfl, hl, hdx, of_, rfl⟩ := ow
    replace p : PostS C Δ F0 B D (liftP (P.ofO (valD kds (.inr n))) ρ fun x => liftP (mv ρ) ρ fun y => match addIO x y with
      | some z => if kds.length < 1000 then .nx (pl.set ρ (.dict (putFD n z kds))) else .stuck
      | none => .stuck) := p
    cases e1 : valD kds (.inr n) with
    | none => rw [e1] at p; exact p.elim
    | some dn =>
      rw [e1] at p
      obtain ⟨vn, _, _, _, h1, h2, _, _⟩ := OwnF.split of_ e1
      rw [hd] at h2
      refine ⟨l, He.ga X.K cn, dx, fvs, vn, rfl, by rw [← hK]; exact hl, c, na, h1, stepS (r := rDp C.K) E p fun dy y F1 H1 g q E1 p1 => ?_⟩
      cases dn <;> try (exact p1.elim)
      rename_i i1
      cases dy <;> try (exact p1.elim)
      rename_i i2
      have ev : vn = .int i1 := by
        have z := h2.1
        cases z
        rfl
      subst ev
      cases q
      refine ⟨i1, i2, rfl, rfl, dx, fvs, by rw [← hK]; exact g.2.2.1 _ _ hl, ?_⟩
      replace p1 : PostS C Δ F0 B D (if kds.length < 1000 then .nx (pl.set ρ (.dict (putFD n (.int (i1 + i2)) kds))) else .stuck) := p1
      by_cases hz : kds.length < 1000
      · rw [if_pos hz] at p1
        refine ⟨by rw [of_.len]; exact hz, ?_⟩
        obtain ⟨fl, fp0, fr, rfl, h4⟩ := of_.put n
        obtain ⟨n1, n2⟩ := List.nodup_cons.mp f.nd
        have hn : ∀ x, x ∈ fl ∨ x ∈ fr → x ≠ l ∧ H x ≠ none := fun x hx => by
          have hx2 : x ∈ fl ++ (fp0 ++ fr) := hx.elim (List.mem_append_left _) fun z => List.mem_append_right _ (List.mem_append_right _ z)
          exact ⟨fun z => n1 (z ▸ List.mem_cons_of_mem _ hx2), (f.off x (List.mem_cons_of_mem _ (List.mem_cons_of_mem _ hx2))).2.2⟩
        refine p1 σ F1 _ ⟨u F1 _ _ _ (fset_chg (o := .ins (He.ga X.K cn) dx (putF n (.int (i1 + i2)) fvs)) (fq := []) g f List.nodup_nil fun _ h => (List.not_mem_nil h).elim) ⟨l, dx, putF n (.int (i1 + i2)) fvs, _, _, rfl, rfl, by rw [upd_same, hK], ?_, ?_, rfl⟩, E.sh, E.ok⟩
        · rw [upd_ne fun (z : dx = l) => n1 (by rw [z]; exact List.mem_cons_self)]; exact g.2.2.1 _ _ hdx
        · refine h4 (fun k => Own C.K F1 _ (sh k)) _ _ [] (fun k v d fz hs r => own_fields g hn k v d fz hs r) ?_
          rw [hd]
          exact ⟨.int _, rfl⟩
      · rw [if_neg hz] at p1; exact p1.elim
end
end Pc

set_option maxRecDepth 100000
set_option maxHeartbeats 1000000
namespace Pc
open PySem PySem.Spec PyProof.Rows L2
open Evl (Ex)
/-! ### defs that are handed a thing and change it -/
inductive RS where
  | ok (d o : D)
  | exc (c : Str) (o : D)
  | stuck
def PostSf (K : PySem.W.Frag) (s : Sh) (v0 : V) (F H : Hp) (fp : List Addr) (Q : VK) (E : XK) : RS → Prop
  | .ok d o => ∀ v F' H' fq, Chg F H F' H' fp fq → Own K F' H' s v0 o fq → Dq K F' v d → Q v H'
  | .exc c o => ∀ F' H' fq, Chg F H F' H' fp fq → Own K F' H' s v0 o fq → E (.ref (He.ga K c)) none H'
  | .stuck => False
def spS (K : PySem.W.Frag) (s : Sh) (n : Nat) (g : D → List D → RS) : Sp := fun vs H Q E => ∃ F o ds v0 us fp, vs = v0 :: us ∧ Ex F H ∧ Own K F H s v0 o fp ∧ fp.Nodup ∧ (∀ a ∈ fp, F a = none ∧ H a ≠ none) ∧ DqAll K F us ds ∧ us.length = n ∧ PostSf K s v0 F H fp Q E (g o ds)
def outS : Fl → RS
  | .rt d ρ => (match getO ρ 0 with
    | some o => .ok d o
    | none => .stuck)
  | .nx ρ => (match getO ρ 0 with
    | some o => .ok .none o
    | none => .stuck)
  | .ex c ρ => (match getO ρ 0 with
    | some o => .exc c o
    | none => .stuck)
  | _ => .stuck
def runS (n : Nat) (m : En → Fl) (o : D) (ds : List D) : RS := outS (m (env0 n (o :: ds)))
def ctS (K : PySem.W.Frag) (E : XK) (v0 : V) (s : Sh) : Ct := ⟨K, fun i => if i = 0 then .fix v0 s else .dat, fun i => i == 0, fun cls d _ H => E cls d H, fun _ => .dat, fun _ => True, fun F v d => Dq K F v d⟩
section
variable {Pr : Program} {w : World} {K : PySem.W.Frag} {mg : Str → Option Value} {base : Heap} {name qual : Str} {st : Stmt} {N ps : List Str} {k : Nat} {m : En → Fl} {s : Sh} {f : Addr} {fd : FuncData}
theorem out_chg {Dx : Nat → Sh} {F F' H H' B : Hp} {σ : L2.St} {ρ : En} {v0 : V} {o : D} {fp : List Addr} (hB : ∀ a, B a = if a ∈ fp then none else H a) (hd : Dx 0 = .fix v0 s) (E : EnvOk K Dx F B F' H' σ ρ) (e : ρ[0]? = some (some o)) : ∃ fq, Chg F H F' H' fp fq ∧ Own K F' H' s v0 o fq := by
  obtain ⟨v, fq, hv, ow, f, _⟩ := E.slot e
  rw [hd] at ow
  obtain ⟨rfl, ow⟩ := ow
  refine ⟨fq, ⟨E.e0, E.eF, fun a h1 h2 => ?_, f.nd, fun a ha => ?_⟩, ow⟩
  · have hb : B a = H a := by rw [hB a, if_neg h1]
    exact ⟨(ex_eq E.eB (by rw [hb]; exact h2)).trans hb, fun z => E.lim a z (by rw [hb]; exact h2)⟩
  · obtain ⟨q1, q2, q3⟩ := f.off a ha
    refine ⟨q1, q3, ?_⟩
    rw [hB a] at q2
    by_cases z : a ∈ fp
    · exact .inl z
    · rw [if_neg z] at q2; exact .inr q2
theorem mask0 {ρ : En} {o : D} (e : getO ρ 0 = some o) : (mask (fun i => i == 0) ρ)[0]? = some (some o) := by
  have := getO_eq e
  unfold mask
  rw [List.getElem?_mapIdx, this]
  rfl
theorem def_ofS {Δ Δ' : V → Nat → Sh} (F : FunD K name qual (defArgs st) (defBody st) (defScope st) [] [] f fd) (S : FnScope N ps (defScope st)) (hp : ps.length = n + 1) (h0 : ∀ v0, Δ v0 0 = .fix v0 s) (hd : ∀ v0 i, i ≠ 0 → i < ps.length → Δ v0 i = .dat)
    (hbody : ∀ (v0 : V) (cdv : Value) (A : Around) (outer : List Env) (s' : Shared) (H : Hp) (E : XK), Room k (A.deeper (envOfC qual (defScope st) s'.heap.objs.size f cdv)) →
      PSs (cxOf (L2.CX Pr w) Pr w K mg base N qual (defScope st) f cdv A outer s' H E) (defBody st) (tS (ctS K E v0 s) (Δ v0) (Δ' v0) m)) : FnOk Pr w K mg base (L2.CX Pr w) (k + 1) f fd ps (spS K s n (runS N.length m)) := by
  have hpl : ps.length ≤ N.length := by have := congrArg List.length S.pre; rw [List.length_take] at this; omega
  refine F.ok S (fun vs H Q E h => ?_) (fun cdv A outer s' H vs Q E hr h => ?_)
  · obtain ⟨F, o, ds, v0, us, fp, rfl, _, _, _, _, _, hl, _⟩ := h
    rw [List.length_cons, hl, hp]
  · obtain ⟨F, o, ds, v0, us, fp, rfl, eF, ow, nd, off, dq, hl, p⟩ := h
    refine ⟨_, hbody v0 cdv A outer s' H E hr, F, (fun a => if a ∈ fp then none else H a), F, env0 N.length (o :: ds), ⟨?_, fun i hi => ?_, trivial⟩, ?_⟩
    · have hlen : (v0 :: us).length ≤ N.length := by rw [List.length_cons, hl]; omega
      refine ⟨by rw [start_len hlen, env0_len (by rw [List.length_cons, ← dq.len]; exact hlen)], Ex.refl _, eF, fun a u hu => ?_, fun _ h _ => h, fun i => if i = 0 then fp else [], fun i d hi => ?_, fun i => ?_, fun i j a hi hj => ?_, fun i a hi => ?_⟩
      · replace hu : (if a ∈ fp then none else H a) = some u := hu
        split at hu
        · cases hu
        · exact hu
      · cases i with
        | zero =>
          cases hi
          refine ⟨v0, rfl, ?_⟩
          rw [h0]
          exact ⟨rfl, ow⟩
        | succ i =>
          have hi' : i < ds.length := by
            unfold env0 at hi
            by_cases z : i + 1 < (o :: ds).length
            · simpa using z
            · rw [List.getElem?_append_right (by simpa using z), List.getElem?_replicate] at hi
              split at hi <;> cases hi
          have hd' : ds[i]? = some d := by
            unfold env0 at hi
            rw [List.getElem?_append_left (by simpa using hi'), List.getElem?_map, List.getElem?_cons_succ] at hi
            cases e : ds[i]? with
            | none => rw [e] at hi; cases hi
            | some z => rw [e] at hi; cases hi; rfl
          obtain ⟨v, hv, q⟩ := dq.get2 hd'
          have hi2 : i < us.length := by rw [dq.len]; exact hi'
          refine ⟨v, ?_, ?_⟩
          · unfold L2.start
            rw [List.getElem?_append_left (by simpa using hi2), List.getElem?_map, List.getElem?_cons_succ, hv]
            rfl
          · rw [hd v0 (i + 1) (by omega) (by omega)]
            exact ⟨q, if_neg (by omega)⟩
      · show (if i = 0 then fp else []).Nodup
        split
        · exact nd
        · exact List.nodup_nil
      · have hi' : a ∈ (if i = 0 then fp else []) := hi
        have hj' : a ∈ (if j = 0 then fp else []) := hj
        split at hi'
        · split at hj'
          · omega
          · cases hj'
        · cases hi'
      · have hi' : a ∈ (if i = 0 then fp else []) := hi
        split at hi'
        · exact ⟨(off a hi').1, if_pos hi', (off a hi').2⟩
        · cases hi'
    · have e : i = 0 := by simpa using (show (i == 0) = true from hi)
      subst e
      rw [h0]
      rfl
    · unfold runS outS at p
      cases e : m (env0 N.length (o :: ds)) with
      | nx ρ =>
        rw [e] at p
        intro σ F' H' E'
        dsimp only at p
        cases e2 : getO ρ 0 with
        | none => rw [e2] at p; exact p.elim
        | some o' =>
          rw [e2] at p
          obtain ⟨fq, c, ow'⟩ := out_chg (s := s) (v0 := v0) (fun _ => rfl) rfl E'.mask (mask0 e2)
          exact p .non F' H' fq c ow' .non
      | rt d ρ =>
        rw [e] at p
        intro v σ F' H' E' q
        dsimp only at p
        cases e2 : getO ρ 0 with
        | none => rw [e2] at p; exact p.elim
        | some o' =>
          rw [e2] at p
          obtain ⟨fq, c, ow'⟩ := out_chg (s := s) (v0 := v0) (fun _ => rfl) rfl E' (mask0 e2)
          exact p v F' H' fq c ow' q
      | ct ρ => rw [e] at p; exact p.elim
      | ex c ρ =>
        rw [e] at p
        intro Δe σ F' H' E'
        dsimp only at p
        cases e2 : getO ρ 0 with
        | none => rw [e2] at p; exact p.elim
        | some o' =>
          rw [e2] at p
          obtain ⟨fq, c, ow'⟩ := out_chg (s := s) (v0 := v0) (fun _ => rfl) rfl E'.mask (mask0 e2)
          exact p F' H' fq c ow'
      | stuck => rw [e] at p; exact p
end
end Pc

set_option maxRecDepth 100000
set_option maxHeartbeats 1000000
namespace Pc
open PySem PySem.Spec PyProof.Rows L2
open Evl (Ex)
/-! ### calls that change a thing -/
/-- a method of a class -/
structure DefM (Pr : Program) (w : World) (K : PySem.W.Frag) (mg : Str → Option Value) (base : Heap) (cn mn : Str) (k n : Nat) (s : Sh) (g : D → List D → RS) : Prop where
  ok : ∃ f fd ps, FnOk Pr w K mg base (L2.CX Pr w) k f fd ps (spS K s n g) ∧ Meth K (He.ga K cn) mn f ∧ Binds K fd ps []
/-- a def whose first parameter is changed -/
structure DefS (Pr : Program) (w : World) (K : PySem.W.Frag) (mg : Str → Option Value) (base : Heap) (x : Str) (k n : Nat) (s : Sh) (g : D → List D → RS) : Prop where
  ok : ∃ f fd ps, FnOk Pr w K mg base (L2.CX Pr w) k f fd ps (spS K s n g) ∧ mg x = some (.ref f) ∧ PySem.W.keepIn K (.ref f) = true ∧ Binds K fd ps []
/-- a class -/
structure DefK (Pr : Program) (w : World) (K : PySem.W.Frag) (mg : Str → Option Value) (base : Heap) (cn : Str) (k n : Nat) (s : Sh) (g : D → List D → RS) : Prop where
  ok : ∃ f fd ps, FnOk Pr w K mg base (L2.CX Pr w) k f fd ps (spS K s n g) ∧ Mk K (He.ga K cn) f ∧ mg cn = some (.ref (He.ga K cn)) ∧ Binds K fd ps []
def xS (pl : Pl) (g : D → List D → RS) (ok : D → Bool) (ml : En → P (List D)) : En → R D := fun ρ => match pl.get ρ with
  | none => .stuck
  | some o => if ok o = true then (match ml ρ with
    | .ok ds => (match g o ds with
      | .ok d o' => .ok d (pl.set ρ o')
      | .exc c o' => .exc c (pl.set ρ o')
      | .stuck => .stuck)
    | .exc c => .exc c ρ
    | .stuck => .stuck) else .stuck
def noF (n : Str) : D → Bool
  | .dict kds => (valD kds (.inr n)).isNone
  | _ => false
def yesF : D → Bool := fun _ => true
section
variable {X : Cx} {C : Ct} {Δ Δ' : Nat → Sh} {W : WX} {e o : Expr} {es : List Expr} {pos p apos : Pos} {ml : En → P (List D)} {s : Sh} {pl : Pl} {cn mn x : Str} {sh : Str → Sh} {n k : Nat} {g : D → List D → RS}
/-- o.m(..), what is let out told by the slots -/
theorem pe_methA {E : L2.St → XK} {CX : CXT} {Cc f : Addr} {fd : FuncData} {ps : List Str} {sp : Sp} {ta : TE} {t : TA} {pl : Sem Bool} (he : PE X o ta) (c : Cls X.K Cc) (hm : Meth X.K Cc mn f) (F : FnOk X.prog X.w X.K X.mg X.base CX k f fd ps sp) (hr : Room k X.A) (hb : Binds X.K fd ps []) (hx : ∀ σ, PassesAt CX X σ (E σ)) (ha : PA X (e :: es) t)
    (hst : starEach (e :: es) X.env = (false, eval e X.env) :: starEach es X.env := by rfl) (hpl : (backTo pos (starEach es X.env)).any (·.1) = false := by rfl)
    (ht : eval (.Call (.Attribute o mn apos) (e :: es) [] pos) X.env = (do
      let ov ← eval o X.env
      standAt apos.atName
      let (f, first) ← holding [ov] (getMethod ov mn pl)
      callWith pos f first (backTo pos (starEach (e :: es) X.env)) (backToKw pos (keywordEach [] X.env))) := by rfl) :
    PE X (.Call (.Attribute o mn apos) (e :: es) [] pos) (fun σ H Q => ta σ H fun x H1 => ∃ a dx fs, x = .ref a ∧ H1 a = some (.ins Cc dx fs) ∧ fs.lookup mn = none ∧ t σ H1 fun vs H2 => sp (x :: vs) H2 Q (E σ)) := ⟨fun pins s σ H Q I h => by
  refine PySem.W.methodCall_KW (pl := pl) (thn (he.run pins s σ H _ I h) fun u s1 ⟨x, H1, I1, rx, a, dx, fs, ex, ea, l, q⟩ => ?_) ht
  subst ex
  have eu : u = Value.ref a := rx
  subst eu
  exact getmeth_ok I1 ea c hm l (PySem.W.callWith_K (first := [.ref a]) (h₀ := X.base) I.ok.mod.kin hm.kp (thn (ha.run pos pins s1 σ H1 _ I1 q) fun us s2 ⟨vs, H2, I2, r, q2⟩ => ⟨I2.kIn, run_fnS (us := .ref a :: us) (vs := .ref a :: vs) F hr hb (hx σ) I2 (.cons rfl r) q2⟩) hst hpl)⟩
theorem pe_methA0 {E : L2.St → XK} {CX : CXT} {Cc f : Addr} {fd : FuncData} {ps : List Str} {sp : Sp} {ta : TE} {pl : Sem Bool} (he : PE X o ta) (c : Cls X.K Cc) (hm : Meth X.K Cc mn f) (F : FnOk X.prog X.w X.K X.mg X.base CX k f fd ps sp) (hr : Room k X.A) (hb : Binds X.K fd ps []) (hx : ∀ σ, PassesAt CX X σ (E σ))
    (ht : eval (.Call (.Attribute o mn apos) [] [] pos) X.env = (do
      let ov ← eval o X.env
      standAt apos.atName
      let (f, first) ← holding [ov] (getMethod ov mn pl)
      callWith pos f first (backTo pos (starEach [] X.env)) (backToKw pos (keywordEach [] X.env))) := by rfl) :
    PE X (.Call (.Attribute o mn apos) [] [] pos) (fun σ H Q => ta σ H fun x H1 => ∃ a dx fs, x = .ref a ∧ H1 a = some (.ins Cc dx fs) ∧ fs.lookup mn = none ∧ sp [x] H1 Q (E σ)) := ⟨fun pins s σ H Q I h => by
  refine PySem.W.methodCall_KW (pl := pl) (thn (he.run pins s σ H _ I h) fun u s1 ⟨x, H1, I1, rx, a, dx, fs, ex, ea, l, q⟩ => ?_) ht
  subst ex
  have eu : u = Value.ref a := rx
  subst eu
  exact getmeth_ok I1 ea c hm l (PySem.W.callWith_K0 (first := [.ref a]) I1.kIn hm.kp (run_fnS (us := [.ref a]) (vs := [.ref a]) F hr hb (hx σ) I1 (.cons rfl .nil) q))⟩
/-- behind the call -/
theorem post_S {K : PySem.W.Frag} {F0 B F1 H1 : Hp} {σ : L2.St} {fp : List Addr} {v0 : V} {gs : D → En} {res : RS} {Q : VK} (u : UpdOk K Δ F0 B F1 H1 σ s v0 fp gs)
    (p : PostX K Δ F0 B W (fDp K) σ Q (match res with | .ok d o' => .ok d (gs o') | .exc c o' => .exc c (gs o') | .stuck => .stuck)) : PostSf K s v0 F1 H1 fp Q (WE W σ) res := by
  cases res with
  | ok d o' => exact fun v F' H' fq c ow q => p v F' H' (u F' H' o' fq c ow) q
  | exc c o' => exact fun F' H' fq cg ow => p F' H' (u F' H' o' fq cg ow)
  | stuck => exact p
theorem x_meth {pm : Sem Bool} (d : DefM X.prog X.w X.K X.mg X.base cn mn k n (.obj cn sh) g) (c : Cls X.K (He.ga X.K cn)) (hr : Room k X.A) (tk : Takes X W) (ho : PE X o (tPl X.K Δ (.obj cn sh) pl)) (ha : PA X (e :: es) (tG X.K Δ W (rDpsN X.K n) ml))
    (hst : starEach (e :: es) X.env = (false, eval e X.env) :: starEach es X.env := by rfl) (hpl : (backTo pos (starEach es X.env)).any (·.1) = false := by rfl)
    (ht : eval (.Call (.Attribute o mn apos) (e :: es) [] pos) X.env = (do
      let ov ← eval o X.env
      standAt apos.atName
      let (f, first) ← holding [ov] (getMethod ov mn pm)
      callWith pos f first (backTo pos (starEach (e :: es) X.env)) (backToKw pos (keywordEach [] X.env))) := by rfl) :
    PE X (.Call (.Attribute o mn apos) (e :: es) [] pos) (tX X.K Δ W (fDp X.K) (xS pl g (noF mn) ml)) := by
  obtain ⟨f, fd, ps, F, hm, hb⟩ := d.ok
  refine pe_mono (pe_methA (E := WE W) ho c hm F hr hb (fun σ => passAt tk σ) ha hst hpl ht) fun σ H Q h => ?_
  obtain ⟨F0, B, F1, ρ, E, p⟩ := h
  unfold xS at p
  cases e0 : pl.get ρ with
  | none => rw [e0] at p; exact p.elim
  | some od =>
    rw [e0] at p
    refine ⟨F0, B, F1, H, F1, ρ, E, .refl E.eF, od, e0, fun v fp ow f u => ?_⟩
    have ow0 := ow
    obtain ⟨l, dx, fvs, kds, fq, rfl, rfl, hl, hdx, of_, rfl⟩ := ow
    replace p : PostX X.K Δ F0 B W (fDp X.K) σ Q (if (valD kds (.inr mn)).isNone = true then _ else R.stuck) := p
    by_cases hn : (valD kds (.inr mn)).isNone = true
    case neg => rw [if_neg hn] at p; exact p.elim
    rw [if_pos hn] at p
    refine ⟨l, dx, fvs, rfl, hl, of_.none (Option.isNone_iff_eq_none.mp hn), F0, B, F1, ρ, E, ?_⟩
    cases e1 : ml ρ with
    | stuck => rw [e1] at p; exact p
    | exc c => rw [e1] at p; exact fun F' H' gw => p F' H' (E.gw gw)
    | ok ds =>
      rw [e1] at p
      intro vs F2 H2 gw q
      have f2 := f.gw gw
      exact ⟨F2, _, ds, _, vs, _, rfl, gw.2.1, own_gw ow0 f gw, f2.nd, fun a ha => ⟨(f2.off a ha).1, (f2.off a ha).2.2⟩, q.1, q.2, post_S (u.gw gw) p⟩
theorem x_meth0 {pm : Sem Bool} (d : DefM X.prog X.w X.K X.mg X.base cn mn k 0 (.obj cn sh) g) (c : Cls X.K (He.ga X.K cn)) (hr : Room k X.A) (tk : Takes X W) (ho : PE X o (tPl X.K Δ (.obj cn sh) pl))
    (ht : eval (.Call (.Attribute o mn apos) [] [] pos) X.env = (do
      let ov ← eval o X.env
      standAt apos.atName
      let (f, first) ← holding [ov] (getMethod ov mn pm)
      callWith pos f first (backTo pos (starEach [] X.env)) (backToKw pos (keywordEach [] X.env))) := by rfl) :
    PE X (.Call (.Attribute o mn apos) [] [] pos) (tX X.K Δ W (fDp X.K) (xS pl g (noF mn) mNil)) := by
  obtain ⟨f, fd, ps, F, hm, hb⟩ := d.ok
  refine pe_mono (pe_methA0 (E := WE W) ho c hm F hr hb (fun σ => passAt tk σ) ht) fun σ H Q h => ?_
  obtain ⟨F0, B, F1, ρ, E, p⟩ := h
  unfold xS at p
  cases e0 : pl.get ρ with
  | none => rw [e0] at p; exact p.elim
  | some od =>
    rw [e0] at p
    refine ⟨F0, B, F1, H, F1, ρ, E, .refl E.eF, od, e0, fun v fp ow f u => ?_⟩
    have ow0 := ow
    obtain ⟨l, dx, fvs, kds, fq, rfl, rfl, hl, hdx, of_, rfl⟩ := ow
    replace p : PostX X.K Δ F0 B W (fDp X.K) σ Q (if (valD kds (.inr mn)).isNone = true then _ else R.stuck) := p
    by_cases hn : (valD kds (.inr mn)).isNone = true
    case neg => rw [if_neg hn] at p; exact p.elim
    rw [if_pos hn] at p
    exact ⟨l, dx, fvs, rfl, hl, of_.none (Option.isNone_iff_eq_none.mp hn), F1, _, [], _, [], _, rfl, E.eF, ow0, f.nd, fun a ha => ⟨(f.off a ha).1, (f.off a ha).2.2⟩, .nil, rfl, post_S u p⟩
/-- f(o, ..) -/
theorem x_fio (d : DefS X.prog X.w X.K X.mg X.base x k n s g) (hr : Room k X.A) (tk : Takes X W) (ho : PE X o (tPl X.K Δ s pl)) (ha : PA X es (tG X.K Δ W (rDpsN X.K n) ml)) (hg : Gl X x := by rfl) (hdb : (x == ("__debug__" : Str)) = false := by decide)
    (he : starEach (o :: es) X.env = (false, eval o X.env) :: starEach es X.env := by rfl) (hpl : (backTo pos (starEach es X.env)).any (·.1) = false := by rfl) :
    PE X (.Call (.Name x p) (o :: es) [] pos) (tX X.K Δ W (fDp X.K) (xS pl g yesF ml)) := by
  obtain ⟨f, fd, ps, F, hm, hk, hb⟩ := d.ok
  refine pe_mono (pe_callS (E := WE W) F hr hg hm hk hb (fun σ => passAt tk σ) (pa_cons ho ha he) hdb he hpl) fun σ H Q h => ?_
  obtain ⟨F0, B, F1, ρ, E, p⟩ := h
  unfold xS at p
  cases e0 : pl.get ρ with
  | none => rw [e0] at p; exact p.elim
  | some od =>
    rw [e0] at p
    refine ⟨F0, B, F1, H, F1, ρ, E, .refl E.eF, od, e0, fun v fp ow f u => ?_⟩
    refine ⟨F0, B, F1, ρ, E, ?_⟩
    replace p : PostX X.K Δ F0 B W (fDp X.K) σ Q (match ml ρ with
      | .ok ds => (match g od ds with
        | .ok d o' => .ok d (pl.set ρ o')
        | .exc c o' => .exc c (pl.set ρ o')
        | .stuck => .stuck)
      | .exc c => .exc c ρ
      | .stuck => .stuck) := p
    cases e1 : ml ρ with
    | stuck => rw [e1] at p; exact p
    | exc c => rw [e1] at p; exact fun F' H' gw => p F' H' (E.gw gw)
    | ok ds =>
      rw [e1] at p
      intro vs F2 H2 gw q
      have f2 := f.gw gw
      exact ⟨F2, _, ds, _, vs, _, rfl, gw.2.1, own_gw ow f gw, f2.nd, fun a ha => ⟨(f2.off a ha).1, (f2.off a ha).2.2⟩, q.1, q.2, post_S (u.gw gw) p⟩
/-- C(..) -/
theorem pe_makeA {E : L2.St → XK} {Cc f : Addr} {fd : FuncData} {ps : List Str} {sp : Sp} {t : TA} (M : Mk X.K Cc f) (F : FnOk X.prog X.w X.K X.mg X.base (L2.CX X.prog X.w) k f fd ps sp) (hr : Room (k + 1) X.A) (hg : Gl X x) (hm : X.mg x = some (.ref Cc)) (hb : Binds X.K fd ps []) (hx : ∀ σ, PassesAt (L2.CX X.prog X.w) X σ (E σ))
    (ha : PA X (e :: es) t) (hdb : (x == ("__debug__" : Str)) = false := by decide) (he : starEach (e :: es) X.env = (false, eval e X.env) :: starEach es X.env := by rfl) (hpl : (backTo pos (starEach es X.env)).any (·.1) = false := by rfl) :
    PE X (.Call (.Name x p) (e :: es) [] pos) (fun σ H Q => t σ H fun vs H1 => ∀ y dx, H1 y = none → H1 dx = none → dx ≠ y → sp (.ref y :: vs) (upd (upd H1 dx (.own y)) y (.ins Cc dx [])) (fun v H2 => v = .non ∧ Q (.ref y) H2) (E σ)) := ⟨fun pins s σ H Q I h => by
  refine wpAny_Call_Name_kw (ld_glob I hg hm (PySem.W.callWith_K (h₀ := X.base) I.ok.mod.kin M.kp (thn (ha.run pos pins s σ H _ I h) fun us s1 ⟨vs, H1, I1, r, q⟩ => ⟨I1.kIn, ?_⟩) he hpl) hdb)
  have hq := q (s1.heap.objs.size + 1) s1.heap.objs.size (I1.hok.fresh (Nat.le_succ _)) (I1.hok.fresh (Nat.le_refl _)) (Nat.ne_of_lt (Nat.lt_succ_self _))
  have I2 := Inv.made (C := Cc) I1
  have hl : (Value.ref (s1.heap.objs.size + 1) :: us).length = ps.length := by rw [List.length_cons, ← r.length]; exact F.len _ _ _ _ hq
  have b := hb _ (Value.ref (s1.heap.objs.size + 1) :: us) I2.kIn (by rw [List.append_nil]; exact hl)
  rw [List.append_nil] at b
  refine wpAny_call (make_map (f := f) I1.kIn M.makes M.init (beq_iff_eq.mp M.fn) (codeAny_mono (F.run _ X.stack _ _ ⟨Value.ref (s1.heap.objs.size + 1) :: us, []⟩ (Value.ref (s1.heap.objs.size + 1) :: us) _ _ (E σ) (hr.make Cc us []) (I2.env0.make Cc us []) b (show Vals (V.ref (s1.heap.objs.size + 1) :: vs) (Value.ref (s1.heap.objs.size + 1) :: us) from .cons rfl r) hq) fun res s' hq' => ?_))
  match res, hq' with
  | .error e, hq' => exact hx σ pins _ _ e s' I2 hq'
  | .ok (.ret u), hq' =>
    obtain ⟨v, H', I3, rv, ev, q3⟩ := I2.after hq'
    subst ev
    exact ⟨rv, ⟨V.ref (s1.heap.objs.size + 1), H', I3, rfl, q3⟩⟩
  | .ok .next, hq' => exact hq'.elim
  | .ok .brk, hq' => exact hq'.elim
  | .ok .cont, hq' => exact hq'.elim⟩
def mMake (g : D → List D → RS) (ml : En → P (List D)) : En → P D := fun ρ => (ml ρ).bind fun ds => match g (.dict []) ds with
  | .ok .none o => .ok o
  | .exc c _ => .exc c
  | _ => .stuck
theorem g_make (d : DefK X.prog X.w X.K X.mg X.base cn k n (.obj cn sh) g) (hr : Room (k + 1) X.A) (tk : Takes X W) (ha : PA X (e :: es) (tG X.K Δ W (rDpsN X.K n) ml)) (hg : Gl X cn := by rfl) (hdb : (cn == ("__debug__" : Str)) = false := by decide)
    (he : starEach (e :: es) X.env = (false, eval e X.env) :: starEach es X.env := by rfl) (hpl : (backTo pos (starEach es X.env)).any (·.1) = false := by rfl) :
    PE X (.Call (.Name cn p) (e :: es) [] pos) (tG X.K Δ W (rNew X.K (.obj cn sh)) (mMake g ml)) := by
  obtain ⟨f, fd, ps, F, M, hm, hb⟩ := d.ok
  refine pe_mono (pe_makeA (E := WE W) M F hr hg hm hb (fun σ => passAt tk σ) ha hdb he hpl) fun σ H Q h => ?_
  obtain ⟨F0, B, F, ρ, E, p⟩ := h
  refine seqG (r1 := rDpsN X.K n) E p fun ds vs F1 H1 g1 q1 E1 p1 => fun y dx hy hdx hne => ?_
  have ey : Ex H1 (upd (upd H1 dx (.own y)) y (.ins (He.ga X.K cn) dx [])) := (Ex.new hdx).trans (Ex.new (by rw [upd_ne (Ne.symm hne)]; exact hy))
  have back : ∀ F' H' fq, Chg F1 (upd (upd H1 dx (.own y)) y (.ins (He.ga X.K cn) dx [])) F' H' [y, dx] fq → Gw F1 H1 F' H' := fun F' H' fq c => by
    have out : ∀ a, H1 a ≠ none → a ∉ [y, dx] ∧ upd (upd H1 dx (.own y)) y (.ins (He.ga X.K cn) dx []) a ≠ none := fun a ha => by
      refine ⟨fun z => ?_, ne_none_of_ex ey ha⟩
      rcases List.mem_cons.mp z with rfl | z
      · exact ha hy
      · rw [List.mem_singleton.mp z] at ha; exact ha hdx
    refine ⟨c.eF, c.eH, fun a u hu => ?_, fun a h1 h2 => ?_⟩
    · obtain ⟨z1, z2⟩ := out a (by rw [hu]; exact (fun z => nomatch z))
      rw [(c.off a z1 z2).1]
      exact ey a u hu
    · obtain ⟨z1, z2⟩ := out a h1
      exact (c.off a z1 z2).2 h2
  have hyn : upd (upd H1 dx (.own y)) y (.ins (He.ga X.K cn) dx []) y ≠ none := by rw [upd_same]; exact (fun z => nomatch z)
  have hdn : upd (upd H1 dx (.own y)) y (.ins (He.ga X.K cn) dx []) dx = some (.own y) := by rw [upd_ne hne, upd_same]
  refine ⟨F1, .dict [], ds, .ref y, vs, [y, dx], rfl, E1.eF.trans ey, ⟨y, dx, [], [], [], rfl, rfl, upd_same, hdn, .nil, rfl⟩, ?_, fun a ha => ?_, q1.1, q1.2, ?_⟩
  · simp [Ne.symm hne]
  · rcases List.mem_cons.mp ha with rfl | ha
    · exact ⟨none_of_ex E1.eF hy, hyn⟩
    · rw [List.mem_singleton.mp ha]
      exact ⟨none_of_ex E1.eF hdx, by rw [hdn]; exact (fun z => nomatch z)⟩
  · cases er : g (.dict []) ds with
    | stuck => rw [er] at p1; exact p1
    | exc c o' => rw [er] at p1; exact fun F' H' fq cg ow => p1 F' H' (back F' H' fq cg)
    | ok d o' =>
      rw [er] at p1
      cases d <;> try (exact p1.elim)
      intro v F' H' fq cg ow dq
      cases dq
      refine ⟨rfl, p1 _ F' H' (back F' H' fq cg) ⟨fq, ow, cg.nd, fun a ha => ?_⟩⟩
      obtain ⟨z1, z2, z3⟩ := cg.new a ha
      refine ⟨z1, ?_, z2⟩
      rcases z3 with z | z
      · rcases List.mem_cons.mp z with rfl | z
        · exact hy
        · rw [List.mem_singleton.mp z]; exact hdx
      · exact none_of_ex ey z
end
end Pc

set_option maxRecDepth 100000
set_option maxHeartbeats 1000000
namespace Pc
open PySem PySem.Spec PyProof.Rows L2
open Evl (Ex)
/-! ### values that are let go -/
def rAny : Rs V D := ⟨fun _ _ _ _ _ => True, fun _ h => h⟩
section
variable {X : Cx} {C : Ct} {Δ Δ' : Nat → Sh} {W : WX} {e a b c : Expr} {es : List Expr} {p pos : Pos} {x : Str} {k n : Nat} {g : List D → P D} {ml : En → P (List D)} {m : En → P D} {r : Rs V D}
theorem g_any (h : PE X e (tG X.K Δ W r m)) : PE X e (tG X.K Δ W rAny m) := pe_mono h (tG_weak fun _ _ _ _ _ _ => True.intro)
theorem s_exprA (he : PE X e (tG C.K Δ C.W r m)) (hs : swapsWith e none pos.line X.env = pure false := by rfl) : PS X (.Expr e pos) (tS C Δ Δ (sExpr m)) := by
  refine ps_mono (ps_expr he hs) fun D σ H h => ?_
  obtain ⟨F0, B, F, ρ, E, p⟩ := h
  exact stepS (r := r) E p fun d v F1 H1 gw q E1 p1 => p1 _ F1 H1 E1
def PostV (K : PySem.W.Frag) (F H : Hp) (Q : VK) (E : XK) : P D → Prop
  | .ok _ => ∀ v F' H', Gw F H F' H' → Q v H'
  | .exc c => ∀ F' H', Gw F H F' H' → E (.ref (He.ga K c)) none H'
  | .stuck => False
def spV (K : PySem.W.Frag) (n : Nat) (g : List D → P D) : Sp := fun vs H Q E => ∃ F ds, Ex F H ∧ DqAll K F vs ds ∧ vs.length = n ∧ PostV K F H Q E (g ds)
structure DefV (Pr : Program) (w : World) (K : PySem.W.Frag) (mg : Str → Option Value) (base : Heap) (x : Str) (k n : Nat) (g : List D → P D) : Prop where
  ok : ∃ f fd ps, FnOk Pr w K mg base (L2.CX Pr w) k f fd ps (spV K n g) ∧ mg x = some (.ref f) ∧ PySem.W.keepIn K (.ref f) = true ∧ Binds K fd ps []
theorem g_callV (d : DefV X.prog X.w X.K X.mg X.base x k n g) (hr : Room k X.A) (tk : Takes X W) (ha : PA X (e :: es) (tG X.K Δ W (rDpsN X.K n) ml)) (hg : Gl X x := by rfl)
    (hdb : (x == ("__debug__" : Str)) = false := by decide) (he : starEach (e :: es) X.env = (false, eval e X.env) :: starEach es X.env := by rfl) (hpl : (backTo pos (starEach es X.env)).any (·.1) = false := by rfl) :
    PE X (.Call (.Name x p) (e :: es) [] pos) (tG X.K Δ W rAny (mF g ml)) := by
  obtain ⟨f, fd, ps, F, hm, hk, hb⟩ := d.ok
  refine pe_mono (pe_callS F hr hg hm hk hb (fun σ => passAt tk σ) ha hdb he hpl) fun σ H Q h => ?_
  obtain ⟨F0, B, F, ρ, E, p⟩ := h
  refine seqG (r1 := rDpsN X.K n) E p fun ds vs F1 H1 g1 q1 E1 p1 => ⟨F1, ds, E1.eF, q1.1, q1.2, ?_⟩
  cases e : g ds with
  | ok d => rw [e] at p1; exact fun v F' H' gw => p1 v F' H' gw True.intro
  | exc c => rw [e] at p1; exact p1
  | stuck => rw [e] at p1; exact p1
end
def ctV (K : PySem.W.Frag) (E : XK) : Ct := ⟨K, fun _ => .dat, fun _ => false, fun cls d _ H => E cls d H, fun _ => .dat, fun _ => True, fun _ _ _ => True⟩
section
variable {Pr : Program} {w : World} {K : PySem.W.Frag} {mg : Str → Option Value} {base : Heap} {name : Str} {st : Stmt} {N ps : List Str} {k : Nat} {Δ Δ' : Nat → Sh} {m : En → Fl}
theorem def_ofV (hF : ∃ fd, FunD K name name (defArgs st) (defBody st) (defScope st) [] [] (He.ga K name) fd) (hg : mg name = some (.ref (He.ga K name))) (S : FnScope N ps (defScope st))
    (hb : ∀ (kV doc pm : Value) (an : Option Addr) (cdv ct : Value) (us : List Value), us.length = ps.length → bindArgs (PySem.W.fnOf name name (defArgs st) (defBody st) (defScope st) .none kV doc pm an cdv ct) ⟨us, []⟩ = pure (ps.zip us))
    (hd : ∀ i, i < ps.length → Δ i = .dat)
    (hbody : ∀ (f : Addr) (cdv : Value) (A : Around) (outer : List Env) (s : Shared) (H : Hp) (E : XK), Room k (A.deeper (envOfC name (defScope st) s.heap.objs.size f cdv)) →
      PSs (cxOf (L2.CX Pr w) Pr w K mg base N name (defScope st) f cdv A outer s H E) (defBody st) (tS (ctV K E) Δ Δ' m)) : DefV Pr w K mg base name (k + 1) ps.length (runF N.length m) := by
  obtain ⟨fd, F⟩ := hF
  have hpl : ps.length ≤ N.length := by have := congrArg List.length S.pre; rw [List.length_take] at this; omega
  refine ⟨He.ga K name, fd, ps, F.ok S (fun vs H Q E h => ?_) (fun cdv A outer s H vs Q E hr h => ⟨_, hbody _ cdv A outer s H E hr, ?_⟩), hg, F.kp, F.bindsN hb⟩
  · obtain ⟨_, _, _, _, h, _⟩ := h
    exact h
  · obtain ⟨F, ds, eF, dq, hl, p⟩ := h
    refine ⟨F, H, F, env0 N.length ds, ⟨start_ok eF dq (by omega) (fun i hi => hd i (by omega)), fun i hi => Bool.noConfusion hi, trivial⟩, ?_⟩
    unfold runF at p
    cases e : m (env0 N.length ds) with
    | nx ρ => rw [e] at p; exact fun σ F' H' E' => p .non F' H' ⟨E'.e.e0, E'.e.eF, E'.e.eB, fun a h1 h2 => E'.e.lim a h2 h1⟩
    | rt d ρ => rw [e] at p; exact fun v σ F' H' E' q => p v F' H' ⟨E'.e0, E'.eF, E'.eB, fun a h1 h2 => E'.lim a h2 h1⟩
    | ct ρ => rw [e] at p; exact p.elim
    | ex c ρ => rw [e] at p; exact fun Δe σ F' H' E' => p F' H' ⟨E'.e.e0, E'.e.eF, E'.e.eB, fun a h1 h2 => E'.e.lim a h2 h1⟩
    | stuck => rw [e] at p; exact p
/-- _law_cell -/
theorem cell_ok (hF : ∃ fd, FunD K "_law_cell" "_law_cell" (defArgs st) (defBody st) (defScope st) [] [] (He.ga K "_law_cell") fd) (hg : mg "_law_cell" = some (.ref (He.ga K "_law_cell"))) (S : FnScope ["script", "k"] ["script", "k"] (defScope st))
    (hb : ∀ (kV doc pm : Value) (an : Option Addr) (cdv ct : Value) (us : List Value), us.length = 2 → bindArgs (PySem.W.fnOf "_law_cell" "_law_cell" (defArgs st) (defBody st) (defScope st) .none kV doc pm an cdv ct) ⟨us, []⟩ = pure ((["script", "k"] : List Str).zip us))
    (hbody : ∀ (f : Addr) (cdv : Value) (A : Around) (outer : List Env) (s : Shared) (H : Hp) (E : XK), Room 0 (A.deeper (envOfC "_law_cell" (defScope st) s.heap.objs.size f cdv)) →
      PSs (cxOf (L2.CX Pr w) Pr w K mg base ["script", "k"] "_law_cell" (defScope st) f cdv A outer s H E) (defBody st) (tSeq (tIfS (tTest (tOp (rI0 fun i j => .bl (decide (i < j))) (tVar 1) (tCB (fun xs H Q => ∃ p ys, xs = [.ref p] ∧ (SqL K H p ys ∨ SqT K H p ys) ∧ Q (.int ys.length) H) (tCons (tVar 0) tNil)))) (tRet (tOp (rIxL K) (tVar 0) (tVar 1))) tNext) (tRet (tC (.int 0))))) : DefC Pr w K mg base := by
  obtain ⟨fd, F⟩ := hF
  refine ⟨He.ga K "_law_cell", fd, ["script", "k"], F.ok S (fun vs H Q E h => ?_) (fun cdv A outer s H vs Q E hr h => ⟨_, hbody _ cdv A outer s H E hr, ?_⟩), hg, F.kp, F.bindsN hb⟩
  · obtain ⟨a, us, k, rfl, _⟩ := h
    rfl
  · obtain ⟨a, us, k, rfl, hk, hS, q⟩ := h
    rw [List.getD_eq_getElem?_getD] at q
    refine ⟨.int k, rfl, .ref a, rfl, a, us, rfl, .inl hS, k, (us.length : Int), rfl, rfl, decide (k < (us.length : Int)), rfl, ?_⟩
    by_cases hlt : k < (us.length : Int)
    · rw [decide_eq_true hlt]
      have hl : k.toNat < us.length := by omega
      rw [List.getElem?_eq_getElem hl] at q
      refine ⟨.ref a, rfl, .int k, rfl, a, us, k, us[k.toNat], rfl, rfl, hS, ?_, q⟩
      unfold atI ixN
      rw [if_pos hk, if_pos hlt]
      exact List.getElem?_eq_getElem hl
    · rw [decide_eq_false hlt]
      rw [List.getElem?_eq_none (by omega)] at q
      exact q
end
/-- the end, by a head's facts -/
theorem walkW {l : PySem.W.OpenLaw} {n k : Nat} {q : Program} {loose : List Str} {XP : (Str → Option Value) → Heap → Prop} {YP : World → Heap → Prop} {d : DefRec} {x : Str}
    (hn : l.most = some n) (hn2 : n ≤ sizeLine) (hdf : d.params.defaults = []) (hr : Room k callerA)
    (F : ∀ (w : World) (mg : Str → Option Value) (fa : Addr) (h : Heap), YP w h → h.Ns mainGlobals mg → mg d.name = some (.ref fa) →
      ∃ (K : PySem.W.Frag) (fd : FuncData) (sp : Sp), K.In h ∧ (∀ (s : Shared) (u : Value), BindsTo s fd ⟨[u], []⟩ [(x, u)]) ∧
        (∀ (H : Hp) (a : Addr) (ns : List Int), ns.length ≤ n → SqL K H a (ns.map V.int) → sp [.ref a] H (fun v _ => v = .bl true) fun _ _ _ => False) ∧
        ∀ base : Heap, K.In base → base.Ns mainGlobals mg → FnOk l.prog w K mg base (L2.CX l.prog w) k fa fd [x] sp) :
    PySem.W.WalkO q loose XP YP l.row.toRowW d [] (fun f vs => PySem.call f vs) := Att.attach_call hn hdf fun w s₀ s₁ mg mb fa o pm cd doc a vs ns G Y ho hd hcd hmg hobj hints hlen hg => by
  obtain ⟨K, fd, sp, KX, hb, hsp, hF⟩ := F w mg fa _ Y G.T.g hmg
  exact law_call KX G.T.g G.T.b G.T.builtins G.T.nolimit hg hobj hints (Nat.le_trans hlen hn2) hr hF hb (fun H _ hS => hsp H a ns hlen hS) fun H e s' ⟨_, _, _, _, _, _, _, _, _, _, _, _, z⟩ => z
end Pc

set_option maxRecDepth 100000
set_option maxHeartbeats 1000000
namespace Pc
open PySem PySem.Spec PyProof.Rows L2
open Evl (Ex)
/-! ### the generator's words -/
def shf (l : List (Str × Sh)) (n : Str) : Sh := match l.lookup n with
  | some s => s
  | none => .dat
section
variable {X : Cx} {C : Ct} {Δ Δ' : Nat → Sh} {W : WX} {e a b o i value : Expr} {es : List Expr} {pos p apos pos' : Pos} {mv : En → P D} {s : Sh} {pl : Pl} {cn : Str} {sh : Str → Sh} {n : Str}
theorem pl_fldS (c : Cls X.K (He.ga X.K cn)) (na : NoAttr X.K (He.ga X.K cn) n) (ho : PE X o (tPl X.K Δ (.obj cn sh) pl)) (hd : sh n = s := by rfl) (hb : attributeBase o n X.env (eval o X.env) = eval o X.env := by rfl) : PE X (.Attribute o n pos) (tPl X.K Δ s (plF pl n)) := hd ▸ pl_fld c na ho hb
theorem s_fnewS (hK : C.K = X.K) (c : Cls X.K (He.ga X.K cn)) (na : NoAttr X.K (He.ga X.K cn) n) (ho : PE X o (tPl C.K Δ (.obj cn sh) pl)) (hv : PE X value (tG C.K Δ C.W (rNew C.K s) mv)) (hd : sh n = s := by rfl) (hs : swapsWith value (some (.Attribute o n pos')) pos.line X.env = pure false := by rfl) :
    PS X (.Assign [.Attribute o n pos'] value pos) (tS C Δ Δ (sFset pl n mv)) := s_fnew hK c na ho (by rw [hd]; exact hv) hs
/-- a list of one's own becomes data -/
theorem EnvOk.thaw {K : PySem.W.Frag} {Δ Δ2 : Nat → Sh} {F0 B F H : Hp} {σ : L2.St} {ρ : En} {i : Nat} (E : EnvOk K Δ F0 B F H σ ρ) (hd : Δ i = .lst .dat) (h2 : Δ2 i = .dat) (hj : ∀ j, j ≠ i → Δ2 j = Δ j) : ∃ F', EnvOk K Δ2 F0 B F' H σ ρ := by
  have base : ∀ {F'}, EnvOk K Δ F0 B F' H σ (ρ.set i none) → EnvOk K Δ2 F0 B F' H σ (ρ.set i none) := fun {F'} ⟨len, e0, eF, eB, lim, φ, h1, k2, k3, k4⟩ => ⟨len, e0, eF, eB, lim, φ, fun j d hjd => by
    by_cases hji : j = i
    · subst hji
      exfalso
      by_cases hl : j < ρ.length
      · rw [List.getElem?_set_self hl] at hjd; cases hjd
      · rw [List.getElem?_eq_none (by rw [List.length_set]; omega)] at hjd; cases hjd
    · rw [hj j hji]; exact h1 j d hjd, k2, k3, k4⟩
  cases e : (ρ[i]?).bind id with
  | none =>
    refine ⟨F, ?_⟩
    have e2 : ρ.set i none = ρ := by
      refine List.ext_getElem? fun j => ?_
      by_cases hji : i = j
      · subst hji
        by_cases hl : i < ρ.length
        · rw [List.getElem?_set_self hl]
          cases z : ρ[i]? with
          | none => rw [List.getElem?_eq_none_iff] at z; omega
          | some q => rw [z] at e; cases q with
            | none => rfl
            | some _ => cases e
        · rw [List.getElem?_eq_none (by rw [List.length_set]; omega), List.getElem?_eq_none (by omega)]
      · rw [List.getElem?_set_ne hji]
    have b := base (F' := F) (by rw [e2]; exact E)
    rw [e2] at b
    exact b
  | some d =>
    have e' : ρ[i]? = some (some d) := getO_eq e
    obtain ⟨v, F', hv, dq, E'⟩ := Fp.frz E hd e'
    have E2 := (base E').setDat (v := v) h2 dq
    refine ⟨F', ?_⟩
    have e1 : σ.set i (some v) = σ := by
      refine List.ext_getElem? fun j => ?_
      by_cases hji : i = j
      · subst hji; rw [List.getElem?_set_self (List.getElem?_eq_some_iff.mp hv).1, hv]
      · rw [List.getElem?_set_ne hji]
    have e2 : (ρ.set i none).set i (some d) = ρ := by
      rw [List.set_set]
      refine List.ext_getElem? fun j => ?_
      by_cases hji : i = j
      · subst hji; rw [List.getElem?_set_self (List.getElem?_eq_some_iff.mp e').1, e']
      · rw [List.getElem?_set_ne hji]
    rw [e1, e2] at E2
    exact E2
theorem shs_but (l : List (Nat × Sh)) {i j : Nat} (h : j ≠ i) : shs (l.filter fun q => q.1 != i) j = shs l j := by
  unfold shs
  have e : (l.filter fun q => q.1 != i).lookup j = l.lookup j := by
    induction l with
    | nil => rfl
    | cons q l ih =>
      obtain ⟨k, s⟩ := q
      by_cases hk : k = i
      · subst hk
        have hb : (j == k) = false := by simpa using h
        rw [List.filter_cons, if_neg (by simp), ih]
        simp only [List.lookup, hb]
      · rw [List.filter_cons, if_pos (by simpa using hk)]
        simp only [List.lookup, ih]
  rw [e]
theorem s_frz {st : Stmt} {m : En → Fl} {l : List (Nat × Sh)} (i : Nat) (h : PS X st (tS C (shs (l.filter fun q => q.1 != i)) Δ' m)) (hd : shs l i = .lst .dat := by rfl) (h2 : shs (l.filter fun q => q.1 != i) i = .dat := by rfl) (hio : C.io i = false := by rfl) (hok : C.okE (shs (l.filter fun q => q.1 != i)) := by trivial) :
    PS X st (tS C (shs l) Δ' m) := by
  refine ps_mono h fun D σ H h => ?_
  obtain ⟨F0, B, F, ρ, E, p⟩ := h
  obtain ⟨F', E'⟩ := E.e.thaw hd h2 fun j hj => shs_but l hj
  exact ⟨F0, B, F', ρ, ⟨E', fun j hj => by
    rw [shs_but l fun z => by rw [z, hio] at hj; cases hj]
    exact E.sh j hj, hok⟩, p⟩
end
end Pc
namespace Pc
open PySem L2
theorem exc_of {K : PySem.W.Frag} {mg : Str → Option Value} {x : Str} (g : mg x = some (.ref (He.ga K x))) (h : PySem.W.excIn K (He.ga K x) He.veBase "ValueError.__new__" = true ∧ PySem.W.keepIn K (.ref (He.ga K x)) = true ∧ PySem.W.subIn K (.ref (He.ga K x)) (.type "BaseException") = some true ∧ PySem.W.typeIn K (.ref (He.ga K x)) = some (.type "type")) : Exc K mg x := ⟨g, h.1, h.2.1, h.2.2.1, h.2.2.2⟩
inductive ExmL (K : PySem.W.Frag) (y : Str) : List Str → Prop
  | nil : ExmL K y []
  | cons {x : Str} {l : List Str} : PySem.W.exmOne K (.ref (He.ga K x)) (.ref (He.ga K y)) = some (x == y) → ExmL K y l → ExmL K y (x :: l)
theorem exmL {K : PySem.W.Frag} {y : Str} {l : List Str} (h : ExmL K y l) : ∀ c, l.contains c = true → PySem.W.exmOne K (.ref (He.ga K c)) (.ref (He.ga K y)) = some (c == y) := fun c hc => by
  induction h with
  | nil => cases hc
  | @cons x l a t ih =>
    rw [List.contains_cons, Bool.or_eq_true] at hc
    rcases hc with z | z
    · rw [beq_iff_eq.mp z]; exact a
    · exact ih z
end Pc

set_option maxRecDepth 100000
set_option maxHeartbeats 1000000
namespace Pc
open PySem L2
/-! ### plain laws of the mirror's words -/
theorem lcG_eq {bd : D → En → Option En} {cond : En → P Bool} {elt : En → P D} {ρ : En} (e : D → En) (c : D → Bool) (f : D → D) : ∀ {xs : List D}, (∀ x ∈ xs, bd x ρ = some (e x) ∧ cond (e x) = .ok (c x) ∧ (c x = true → elt (e x) = .ok (f x))) →
    lcG bd cond elt ρ xs = .ok ((xs.filter c).map f)
  | [], _ => rfl
  | x :: xs, h => by
    obtain ⟨h1, h2, h3⟩ := h x List.mem_cons_self
    have ih := lcG_eq e c f (xs := xs) fun y hy => h y (List.mem_cons_of_mem _ hy)
    unfold lcG
    rw [h1]
    dsimp only
    rw [h2]
    cases hc : c x with
    | true =>
      dsimp only
      rw [h3 hc, ih, List.filter_cons, hc]
      rfl
    | false =>
      dsimp only
      rw [ih, List.filter_cons, hc]
      rfl
/-- a loop whose turns all go on -/
theorem forL_inv {S : Type} {bd : D → En → Option En} {body : En → Fl} (st : S → En → Prop) (step : S → D → S) : ∀ {xs : List D} {s : S} {ρ : En}, (∀ s x ρ, x ∈ xs → st s ρ → ∃ ρ1 ρ2, bd x ρ = some ρ1 ∧ (body ρ1 = .nx ρ2 ∨ body ρ1 = .ct ρ2) ∧ st (step s x) ρ2) → st s ρ →
    ∃ ρ', forL bd body xs ρ = .nx ρ' ∧ st (xs.foldl step s) ρ'
  | [], s, ρ, _, h0 => ⟨ρ, rfl, h0⟩
  | x :: xs, s, ρ, h, h0 => by
    obtain ⟨ρ1, ρ2, h1, h2, h3⟩ := h s x ρ List.mem_cons_self h0
    obtain ⟨ρ', h4, h5⟩ := forL_inv st step (xs := xs) (s := step s x) (ρ := ρ2) (fun s y ρ hy => h s y ρ (List.mem_cons_of_mem _ hy)) h3
    refine ⟨ρ', ?_, h5⟩
    unfold forL
    rw [h1]
    dsimp only
    rcases h2 with h2 | h2 <;> rw [h2] <;> exact h4
/-- a loop that may end the def: none = it returns r -/
theorem forL_opt {S : Type} {bd : D → En → Option En} {body : En → Fl} (st : S → En → Prop) (step : S → D → Option S) (r : D) : ∀ {xs : List D} {s : S} {ρ : En}, (∀ s x ρ, x ∈ xs → st s ρ → ∃ ρ1, bd x ρ = some ρ1 ∧ match step s x with
      | some s' => ∃ ρ2, (body ρ1 = .nx ρ2 ∨ body ρ1 = .ct ρ2) ∧ st s' ρ2
      | none => ∃ ρ2, body ρ1 = .rt r ρ2) → st s ρ →
    match xs.foldlM step s with
      | some s' => ∃ ρ', forL bd body xs ρ = .nx ρ' ∧ st s' ρ'
      | none => ∃ ρ', forL bd body xs ρ = .rt r ρ'
  | [], s, ρ, _, h0 => ⟨ρ, rfl, h0⟩
  | x :: xs, s, ρ, h, h0 => by
    obtain ⟨ρ1, h1, h2⟩ := h s x ρ List.mem_cons_self h0
    rw [List.foldlM_cons]
    cases hs : step s x with
    | none =>
      rw [hs] at h2
      obtain ⟨ρ2, h2⟩ := h2
      refine ⟨ρ2, ?_⟩
      unfold forL
      rw [h1]
      dsimp only
      rw [h2]
    | some s' =>
      rw [hs] at h2
      obtain ⟨ρ2, h2, h3⟩ := h2
      have ih := forL_opt st step r (xs := xs) (s := s') (ρ := ρ2) (fun s y ρ hy => h s y ρ (List.mem_cons_of_mem _ hy)) h3
      have e : forL bd body (x :: xs) ρ = forL bd body xs ρ2 := by
        conv => lhs; unfold forL
        rw [h1]
        dsimp only
        rcases h2 with h2 | h2 <;> rw [h2]
      rw [e]
      exact ih
/-! ### unfolding -/
@[simp] theorem getS_z (d : D) (r : En) : getS (some d :: r) 0 = .ok d := (rfl)
@[simp] theorem getS_s (o : Option D) (r : En) (n : Nat) : getS (o :: r) (n + 1) = getS r n := (rfl)
@[simp] theorem getO_z (d : Option D) (r : En) : getO (d :: r) 0 = d := (rfl)
@[simp] theorem getO_s (o : Option D) (r : En) (n : Nat) : getO (o :: r) (n + 1) = getO r n := (rfl)
section
variable (ρ : En) (i j : Nat) (d : D) (f : D → D → Option D) (ma mb m : En → P D) (fc fd : D → D → Option Bool) (ml : En → P (List D)) (mt ta tb : En → P Bool)
@[simp] theorem w_mVar : mVar i ρ = getS ρ i := (rfl)
@[simp] theorem w_mC : mC d ρ = .ok d := (rfl)
@[simp] theorem w_m2 : m2 f ma mb ρ = (ma ρ).bind fun x => (mb ρ).bind fun y => .ofO (f x y) := (rfl)
@[simp] theorem w_m1 (f : D → Option D) : m1 f ma ρ = (ma ρ).bind fun x => .ofO (f x) := (rfl)
@[simp] theorem w_mCmp : mCmp fc ma mb ρ = (ma ρ).bind fun x => (mb ρ).bind fun y => (P.ofO (fc x y)).bind fun t => .ok (.bool t) := (rfl)
@[simp] theorem w_tCmp : tCmp fc ma mb ρ = (ma ρ).bind fun x => (mb ρ).bind fun y => .ofO (fc x y) := (rfl)
@[simp] theorem w_tTru : tTru m ρ = (m ρ).bind fun d => .ofO (truO d) := (rfl)
@[simp] theorem w_tNot : tNot mt ρ = (mt ρ).bind fun t => .ok (!t) := (rfl)
@[simp] theorem w_mNot : mNot m ρ = (m ρ).bind fun d => (P.ofO (truO d)).bind fun t => .ok (.bool (!t)) := (rfl)
@[simp] theorem w_mNil : mNil ρ = .ok [] := (rfl)
@[simp] theorem w_mTup : mTup ml ρ = (ml ρ).bind fun xs => .ok (.tuple xs) := (rfl)
@[simp] theorem w_mLst : mLst ml ρ = (ml ρ).bind fun xs => .ok (.list xs) := (rfl)
@[simp] theorem w_consM : consM m ml ρ = (m ρ).bind fun x => (ml ρ).bind fun xs => .ok (x :: xs) := (rfl)
@[simp] theorem w_mB (f : List D → Option D) : mB f ml ρ = (ml ρ).bind fun xs => .ofO (f xs) := (rfl)
@[simp] theorem w_mF (g : List D → P D) : mF g ml ρ = (ml ρ).bind g := (rfl)
@[simp] theorem w_oNone : oNone ρ = .ok none := (rfl)
@[simp] theorem w_oSome : oSome m ρ = (m ρ).bind asInt := (rfl)
@[simp] theorem w_mCut (f : D → Option Int → Option Int → Option D) (a b : En → P (Option Int)) : mCut f m a b ρ = (m ρ).bind fun x => (a ρ).bind fun l => (b ρ).bind fun h => .ofO (f x l h) := (rfl)
@[simp] theorem w_mIsi (T : String) : mIsi T m ρ = (m ρ).bind fun d => (P.ofO (isiO T d)).bind fun t => .ok (.bool t) := (rfl)
@[simp] theorem w_mS0 (f : Str → Option D) : mS0 f m ρ = (m ρ).bind fun x => (strD x).bind fun z => .ofO (f z) := (rfl)
@[simp] theorem w_mS1 (f : Str → D → Option D) : mS1 f m ma ρ = (m ρ).bind fun x => (strD x).bind fun z => (ma ρ).bind fun y => .ofO (f z y) := (rfl)
@[simp] theorem w_iL : iL m ρ = (m ρ).bind lstO := (rfl)
@[simp] theorem w_iT : iT m ρ = (m ρ).bind tupO := (rfl)
@[simp] theorem w_iR1 : iR1 ml ρ = (ml ρ).bind fun ds => .ofO (rng1 ds) := (rfl)
@[simp] theorem w_iR2 : iR2 ml ρ = (ml ρ).bind fun ds => .ofO (rng2 ds) := (rfl)
@[simp] theorem w_iS : iS m ρ = (m ρ).bind sgO := (rfl)
@[simp] theorem w_iEn : iEn m ρ = (m ρ).bind fun d => (lstO d).bind fun xs => .ok (enL 0 xs) := (rfl)
@[simp] theorem w_tYes : tYes ρ = .ok true := (rfl)
@[simp] theorem w_andB : andB ta tb ρ = (ta ρ).bind fun t => if t = true then tb ρ else .ok false := (rfl)
@[simp] theorem w_orB : orB ta tb ρ = (ta ρ).bind fun t => if t = true then .ok true else tb ρ := (rfl)
@[simp] theorem w_andV : andV ma mb ρ = (ma ρ).bind fun x => match x with
  | .bool true => mb ρ
  | .bool false => .ok (.bool false)
  | _ => .stuck := (rfl)
@[simp] theorem w_orV : orV ma mb ρ = (ma ρ).bind fun x => match x with
  | .bool false => mb ρ
  | .bool true => .ok (.bool true)
  | _ => .stuck := (rfl)
@[simp] theorem w_ifD {α : Type} (a b : En → P α) : ifD mt a b ρ = (mt ρ).bind fun t => if t = true then a ρ else b ρ := (rfl)
@[simp] theorem w_chainB (mc : En → P D) : chainB fc fd ma mb mc ρ = (ma ρ).bind fun x => (mb ρ).bind fun y => (P.ofO (fc x y)).bind fun t => if t = true then (mc ρ).bind fun z => .ofO (fd y z) else .ok false := (rfl)
@[simp] theorem w_asBool : asBool mt ρ = (mt ρ).bind fun t => .ok (.bool t) := (rfl)
@[simp] theorem w_lcM (src : En → P (List D)) (vs : List Nat) (bd : D → En → Option En) : lcM src vs bd mt m ρ = (src ρ).bind fun xs => if xs.length ≤ LIM then (lcG bd mt m (wipeE ρ vs) xs).bind fun ys => .ok (.list ys) else .stuck := (rfl)
@[simp] theorem w_mPl (pl : Pl) : mPl pl ρ = .ofO (pl.get ρ) := (rfl)
@[simp] theorem w_pNget : (pN i).get ρ = getO ρ i := (rfl)
@[simp] theorem w_pNset : (pN i).set ρ d = ρ.set i (some d) := (rfl)
@[simp] theorem w_sSet : sSet i m ρ = liftP (m ρ) ρ fun d => .nx (ρ.set i (some d)) := (rfl)
@[simp] theorem w_sAsg (bd : D → En → Option En) : sAsg bd m ρ = liftP (m ρ) ρ fun d => bindS bd d ρ := (rfl)
@[simp] theorem w_sPar : sPar i j ml ρ = liftP (ml ρ) ρ (par2 i j ρ) := (rfl)
@[simp] theorem w_par2 (a b : D) : par2 i j ρ [a, b] = .nx ((ρ.set i (some a)).set j (some b)) := (rfl)
@[simp] theorem w_sExpr : sExpr m ρ = liftP (m ρ) ρ fun _ => .nx ρ := (rfl)
@[simp] theorem w_sRet : sRet m ρ = liftP (m ρ) ρ fun d => .rt d ρ := (rfl)
@[simp] theorem w_sEx (c : Str) : sEx c ρ = .ex c ρ := (rfl)
@[simp] theorem w_sNx : sNx ρ = .nx ρ := (rfl)
@[simp] theorem w_sFor (src : En → P (List D)) (bd : D → En → Option En) (b : En → Fl) : sFor src bd b ρ = liftP (src ρ) ρ fun xs => forL bd b xs ρ := (rfl)
@[simp] theorem w_ifS (a b : En → Fl) : ifS mt a b ρ = liftP (mt ρ) ρ fun t => if t = true then a ρ else b ρ := (rfl)
@[simp] theorem w_seqM (a b : En → Fl) : seqM a b ρ = match a ρ with
  | .nx ρ' => b ρ'
  | .rt d ρ' => .rt d ρ'
  | .ct ρ' => .ct ρ'
  | .ex c ρ' => .ex c ρ'
  | .stuck => .stuck := (rfl)
@[simp] theorem w_sM1 (pl : Pl) : sM1 pl f m ρ = liftP (mPl pl ρ) ρ fun d => liftP (m ρ) ρ fun y => match f d y with
  | some d' => .nx (pl.set ρ d')
  | none => .stuck := (rfl)
@[simp] theorem w_sAug : sAug i f m ρ = liftP (getS ρ i) ρ fun x => liftP (m ρ) ρ fun y => match f x y with
  | some d' => .nx (ρ.set i (some d'))
  | none => .stuck := (rfl)
@[simp] theorem w_sPut (pl : Pl) (f : D → D → D → Option D) : sPut pl f ma mb ρ = liftP (mb ρ) ρ fun v => liftP (mPl pl ρ) ρ fun d => liftP (ma ρ) ρ fun k => match f d k v with
  | some d' => .nx (pl.set ρ d')
  | none => .stuck := (rfl)
@[simp] theorem w_bN : bN i d ρ = some (ρ.set i (some d)) := (rfl)
@[simp] theorem w_bNil : bNil [] ρ = some ρ := (rfl)
@[simp] theorem w_bCons (b : D → En → Option En) (bs : List D → En → Option En) (ds : List D) : bCons b bs (d :: ds) ρ = (b d ρ).bind (bs ds) := (rfl)
@[simp] theorem w_bT (n : Nat) (bs : List D → En → Option En) (ds : List D) : bT n bs (.tuple ds) ρ = if ds.length = n then bs ds ρ else none := (rfl)
@[simp] theorem w_bindS (b : D → En → Option En) : bindS b d ρ = match b d ρ with
  | some ρ' => .nx ρ'
  | none => .stuck := (rfl)
@[simp] theorem w_tryM (names : List Str) (mbd : En → Fl) (hs : List (Str × (En → Fl))) : tryM names mbd hs ρ = match mbd ρ with
  | .ex c ρ' => pick names c hs ρ'
  | .nx ρ' => .nx ρ'
  | .rt d ρ' => .rt d ρ'
  | .ct ρ' => .ct ρ'
  | .stuck => .stuck := (rfl)
@[simp] theorem w_wipe0 : wipeE ρ [] = ρ := (rfl)
@[simp] theorem w_wipe1 (v : Nat) (vs : List Nat) : wipeE ρ (v :: vs) = (wipeE ρ vs).set v none := (rfl)
@[simp] theorem w_env0 (n : Nat) (ds : List D) : env0 n ds = ds.map some ++ List.replicate (n - ds.length) none := (rfl)
@[simp] theorem w_cell (xs : List D) (k : Int) : cellO (.list xs) (.int k) = if 0 ≤ k then some (xs.getD k.toNat (.int 0)) else none := (rfl)
end
@[simp] theorem o_rt (d : D) (ρ : En) : outF (.rt d ρ) = .ok d := (rfl)
@[simp] theorem o_nx (ρ : En) : outF (.nx ρ) = .ok .none := (rfl)
@[simp] theorem o_ex (c : Str) (ρ : En) : outF (.ex c ρ) = .exc c := (rfl)
@[simp] theorem a_add (i j : Int) : addO (.int i) (.int j) = some (.int (i + j)) := (rfl)
@[simp] theorem a_sub (i j : Int) : subO (.int i) (.int j) = some (.int (i - j)) := (rfl)
@[simp] theorem a_lt (i j : Int) : ltO (.int i) (.int j) = some (decide (i < j)) := (rfl)
@[simp] theorem a_le (i j : Int) : leO (.int i) (.int j) = some (decide (i ≤ j)) := (rfl)
@[simp] theorem a_gt (i j : Int) : gtO (.int i) (.int j) = some (decide (j < i)) := (rfl)
@[simp] theorem a_ge (i j : Int) : geO (.int i) (.int j) = some (decide (j ≤ i)) := (rfl)
@[simp] theorem a_mod (i j : Int) : modO (.int i) (.int j) = if 0 < j then some (.int (i % j)) else none := (rfl)
@[simp] theorem a_fdiv (i j : Int) : fdivO (.int i) (.int j) = if 0 < j ∧ j < 1073741824 then some (.int (i / j)) else none := (rfl)
@[simp] theorem a_mul (i j : Int) : mulO (.int i) (.int j) = if mulOk i j = true then some (.int (i * j)) else none := (rfl)
@[simp] theorem a_pow (i j : Int) : powO (.int i) (.int j) = if 0 ≤ j ∧ j ≤ 1000000 ∧ i.natAbs < 2 ^ 64 then some (.int (i ^ j.toNat)) else none := (rfl)
@[simp] theorem a_addL (x y : List D) : addO (.list x) (.list y) = if x.length + y.length ≤ LIM then some (.list (x ++ y)) else none := (rfl)
@[simp] theorem a_addT (x y : List D) : addO (.tuple x) (.tuple y) = if x.length + y.length ≤ LIM then some (.tuple (x ++ y)) else none := (rfl)
@[simp] theorem a_truB (b : Bool) : truO (.bool b) = some b := (rfl)
@[simp] theorem a_truL (b : List D) : truO (.list b) = some (!b.isEmpty) := (rfl)
@[simp] theorem a_lstO (b : List D) : lstO (.list b) = .ok b := (rfl)
@[simp] theorem a_tupO (b : List D) : tupO (.tuple b) = .ok b := (rfl)
@[simp] theorem a_lenL (b : List D) : lenO [.list b] = some (.int b.length) := (rfl)
@[simp] theorem a_lenT (b : List D) : lenO [.tuple b] = some (.int b.length) := (rfl)
@[simp] theorem a_app (b : List D) (y : D) : appO (.list b) y = if b.length < LIM then some (.list (b ++ [y])) else none := (rfl)
@[simp] theorem a_ext (b c : List D) : extO (.list b) (.list c) = if b.length + c.length ≤ LIM then some (.list (b ++ c)) else none := (rfl)
@[simp] theorem a_ixL (b : List D) (i : Int) : ixO (.list b) (.int i) = atI b i := (rfl)
@[simp] theorem a_ixT (b : List D) (i : Int) : ixO (.tuple b) (.int i) = atI b i := (rfl)
@[simp] theorem a_rev (b : List D) : revO (.list b) = some (.list b.reverse) := (rfl)
@[simp] theorem a_listL (b : List D) : listO [.list b] = some (.list b) := (rfl)
@[simp] theorem a_cutL (b : List D) (l h : Option Int) : cutO (.list b) l h = some (.list (cutL b l h)) := (rfl)
@[simp] theorem a_cutT (b : List D) (l h : Option Int) : cutO (.tuple b) l h = some (.tuple (cutL b l h)) := (rfl)
@[simp] theorem a_asInt (i : Int) : asInt (.int i) = .ok (some i) := (rfl)
@[simp] theorem a_intB (b : Bool) : intO [.bool b] = some (.int (if b then 1 else 0)) := (rfl)
@[simp] theorem a_sortI (ns : List Int) : sortO [.list (ns.map .int)] = some (.list ((srtI ns).map .int)) := by unfold sortO; simp [intsD_map]
end Pc

set_option maxRecDepth 100000
set_option maxHeartbeats 1000000
namespace Pc
open PySem L2
/-! ### equal things -/
theorem flat_plain : ∀ (n : Nat) (d : D), flat n d = true → d.plain = true
  | 0, _, h => by cases h
  | n + 1, .none, _ => rfl
  | n + 1, .bool _, _ => rfl
  | n + 1, .int _, _ => rfl
  | n + 1, .str _, _ => rfl
  | n + 1, .dict _, h => by cases h
  | n + 1, .list xs, h => by
    have h' : xs.all (flat n) = true := h
    show PyData.plainAll xs = true
    induction xs with
    | nil => rfl
    | cons x xs ih =>
      rw [List.all_cons, Bool.and_eq_true] at h'
      show (x.plain && PyData.plainAll xs) = true
      rw [flat_plain n x h'.1, ih h'.2 h'.2]
      rfl
  | n + 1, .tuple xs, h => by
    have h' : xs.all (flat n) = true := h
    show PyData.plainAll xs = true
    induction xs with
    | nil => rfl
    | cons x xs ih =>
      rw [List.all_cons, Bool.and_eq_true] at h'
      show (x.plain && PyData.plainAll xs) = true
      rw [flat_plain n x h'.1, ih h'.2 h'.2]
      rfl
theorem flat_nodict {n : Nat} {d : D} (h : flat n d = true) : isDict d = false := by
  cases d <;> try rfl
  cases n <;> cases h
theorem eqv_self {n : Nat} {d : D} (h : flat n d = true) : PyData.eqv d d = true := SeqAt.eqv_refl_plain d (flat_plain n d h)
theorem eqO_self {d : D} (h : flat 40 d = true) : eqO d d = some true := by
  unfold eqO shal
  rw [flat_nodict h, h, eqv_self h]
  rfl
theorem neO_self {d : D} (h : flat 40 d = true) : neO d d = some false := by
  unfold neO shal
  rw [flat_nodict h, h, eqv_self h]
  rfl
@[simp] theorem flat_int (n : Nat) (i : Int) : flat (n + 1) (.int i) = true := rfl
@[simp] theorem flat_str (n : Nat) (i : Str) : flat (n + 1) (.str i) = true := rfl
@[simp] theorem flat_bool (n : Nat) (i : Bool) : flat (n + 1) (.bool i) = true := rfl
@[simp] theorem flat_none (n : Nat) : flat (n + 1) .none = true := rfl
theorem flat_list (n : Nat) (xs : List D) : flat (n + 1) (.list xs) = xs.all (flat n) := rfl
theorem flat_tuple (n : Nat) (xs : List D) : flat (n + 1) (.tuple xs) = xs.all (flat n) := rfl
theorem flat_ints (n : Nat) (l : List Int) : (l.map PyData.int).all (flat (n + 1)) = true := by
  rw [List.all_eq_true]; intro x hx; obtain ⟨i, _, rfl⟩ := List.mem_map.mp hx; rfl
theorem flat_strs (n : Nat) (l : List Str) : (l.map PyData.str).all (flat (n + 1)) = true := by
  rw [List.all_eq_true]; intro x hx; obtain ⟨i, _, rfl⟩ := List.mem_map.mp hx; rfl
theorem eqv_int (i j : Int) : PyData.eqv (.int i) (.int j) = decide (i = j) := by rw [PyData.eqv]; exact Bool.beq_eq_decide_eq i j
theorem eqv_str (i j : Str) : PyData.eqv (.str i) (.str j) = decide (i = j) := by rw [PyData.eqv]; exact Bool.beq_eq_decide_eq i j
theorem eqv_bool (i j : Bool) : PyData.eqv (.bool i) (.bool j) = decide (i = j) := by rw [PyData.eqv]; exact Bool.beq_eq_decide_eq i j
theorem eqv_list (xs ys : List D) : PyData.eqv (.list xs) (.list ys) = PyData.eqvAll xs ys := by rw [PyData.eqv]
theorem eqv_tuple (xs ys : List D) : PyData.eqv (.tuple xs) (.tuple ys) = PyData.eqvAll xs ys := by rw [PyData.eqv]
@[simp] theorem e_int (i j : Int) : eqO (.int i) (.int j) = some (decide (i = j)) := by
  show some (PyData.eqv (.int i) (.int j)) = _; rw [eqv_int]
@[simp] theorem n_int (i j : Int) : neO (.int i) (.int j) = some (!decide (i = j)) := by
  show some (!PyData.eqv (.int i) (.int j)) = _; rw [eqv_int]
@[simp] theorem e_str (i j : Str) : eqO (.str i) (.str j) = some (decide (i = j)) := by
  show some (PyData.eqv (.str i) (.str j)) = _; rw [eqv_str]
@[simp] theorem n_str (i j : Str) : neO (.str i) (.str j) = some (!decide (i = j)) := by
  show some (!PyData.eqv (.str i) (.str j)) = _; rw [eqv_str]
@[simp] theorem e_bool (i j : Bool) : eqO (.bool i) (.bool j) = some (decide (i = j)) := by
  show some (PyData.eqv (.bool i) (.bool j)) = _; rw [eqv_bool]
theorem eqvAll_ints : ∀ (l k : List Int), PyData.eqvAll (l.map .int) (k.map .int) = decide (l = k)
  | [], [] => rfl
  | [], _ :: _ => by simp [PyData.eqvAll]
  | _ :: _, [] => by simp [PyData.eqvAll]
  | x :: l, y :: k => by
    rw [List.map_cons, List.map_cons, PyData.eqvAll, eqv_int, eqvAll_ints l k]
    by_cases h : x = y <;> by_cases h2 : l = k <;> simp [h, h2]
theorem e_ints (l k : List Int) : eqO (.list (l.map .int)) (.list (k.map .int)) = some (decide (l = k)) := by
  have hf : shal (.list (l.map .int)) (.list (k.map .int)) = true := by unfold shal; rw [flat_list 39, flat_ints 38]; rfl
  unfold eqO
  rw [hf, eqv_list, eqvAll_ints]
  rfl
theorem n_ints (l k : List Int) : neO (.list (l.map .int)) (.list (k.map .int)) = some (!decide (l = k)) := by
  have hf : shal (.list (l.map .int)) (.list (k.map .int)) = true := by unfold shal; rw [flat_list 39, flat_ints 38]; rfl
  unfold neO
  rw [hf, eqv_list, eqvAll_ints]
  rfl
theorem any_ints (l : List Int) (k : Int) : ((l.map PyData.int).any fun y => PyData.eqv y (.int k)) = decide (k ∈ l) := by
  induction l with
  | nil => simp
  | cons x l ih =>
    rw [List.map_cons, List.any_cons, ih, eqv_int]
    by_cases h : x = k
    · simp [h]
    · have : k ≠ x := fun z => h z.symm
      simp [h, this]
theorem any_strs (l : List Str) (k : Str) : ((l.map PyData.str).any fun y => PyData.eqv y (.str k)) = decide (k ∈ l) := by
  induction l with
  | nil => simp
  | cons x l ih =>
    rw [List.map_cons, List.any_cons, ih, eqv_str]
    by_cases h : x = k
    · simp [h]
    · have : k ≠ x := fun z => h z.symm
      simp [h, this]
theorem in_ints (k : Int) (l : List Int) : inO (.int k) (.list (l.map .int)) = some (decide (k ∈ l)) := by
  show (if isDict (.int k) = true then none else if shal (.int k) (.list (l.map .int)) = true then some ((l.map PyData.int).any fun y => PyData.eqv y (.int k)) else none) = _
  rw [any_ints]
  rfl
theorem notin_ints (k : Int) (l : List Int) : notInO (.int k) (.list (l.map .int)) = some (!decide (k ∈ l)) := by
  unfold notInO
  rw [in_ints]
  rfl
theorem in_strs (k : Str) (l : List Str) : inO (.str k) (.tuple (l.map .str)) = some (decide (k ∈ l)) := by
  show (if isDict (.str k) = true then none else if shal (.str k) (.tuple (l.map .str)) = true then some ((l.map PyData.str).any fun y => PyData.eqv y (.str k)) else none) = _
  rw [any_strs]
  rfl
theorem notin_strs (k : Str) (l : List Str) : notInO (.str k) (.tuple (l.map .str)) = some (!decide (k ∈ l)) := by
  unfold notInO
  rw [in_strs]
  rfl
/-! ### places in a row -/
theorem atI_nat {α : Type} (xs : List α) (i : Int) (h0 : 0 ≤ i) (h1 : i < xs.length) : atI xs i = xs[i.toNat]? := by
  unfold atI ixN
  rw [if_pos h0, if_pos h1]
  rfl
theorem atI_get {α : Type} (xs : List α) (i : Int) (h0 : 0 ≤ i) (h1 : i.toNat < xs.length) : atI xs i = some xs[i.toNat] := by
  rw [atI_nat xs i h0 (by omega), List.getElem?_eq_getElem h1]
theorem atI_map {α β : Type} (f : α → β) (xs : List α) (i : Int) : atI (xs.map f) i = (atI xs i).map f := by
  unfold atI
  rw [List.length_map]
  cases ixN xs.length i with
  | none => rfl
  | some j => show (xs.map f)[j]? = (xs[j]?).map f; rw [List.getElem?_map]
theorem intL_eq (n : Nat) : intL 0 n = ((List.range n).map fun (k : Nat) => PyData.int (k : Int)) := by
  unfold intL
  simp
theorem rng_ok {i : Int} (h : -1000000 ≤ i) (h2 : i ≤ 1000000) : rngOk i = true := by
  unfold rngOk
  simp only [Bool.and_eq_true, decide_eq_true_eq]
  omega
theorem rng1_of {i : Int} (h : -1000000 ≤ i) (h2 : i ≤ 1000000) : rng1 [.int i] = some (intL 0 i.toNat) := by
  show (if rngOk i = true then some (intL 0 i.toNat) else none) = _
  rw [if_pos (rng_ok h h2)]
theorem rng2_of {i j : Int} (h : -1000000 ≤ i) (h2 : i ≤ 1000000) (h3 : -1000000 ≤ j) (h4 : j ≤ 1000000) : rng2 [.int i, .int j] = some (intL i (j - i).toNat) := by
  show (if (rngOk i && rngOk j) = true then some (intL i (j - i).toNat) else none) = _
  rw [rng_ok h h2, rng_ok h3 h4]
  rfl
theorem lcG_map {α : Type} (g : α → D) {bd : D → En → Option En} {cond : En → P Bool} {elt : En → P D} {ρ : En} (e : α → En) (c : α → Bool) (f : α → D) : ∀ {l : List α}, (∀ a ∈ l, bd (g a) ρ = some (e a) ∧ cond (e a) = .ok (c a) ∧ (c a = true → elt (e a) = .ok (f a))) →
    lcG bd cond elt ρ (l.map g) = .ok ((l.filter c).map f)
  | [], _ => rfl
  | x :: xs, h => by
    obtain ⟨h1, h2, h3⟩ := h x List.mem_cons_self
    have ih := lcG_map g e c f (l := xs) fun y hy => h y (List.mem_cons_of_mem _ hy)
    rw [List.map_cons]
    unfold lcG
    rw [h1]
    dsimp only
    rw [h2]
    cases hc : c x with
    | true =>
      dsimp only
      rw [h3 hc, ih, List.filter_cons, hc]
      rfl
    | false =>
      dsimp only
      rw [ih, List.filter_cons, hc]
      rfl
/-- all of them -/
theorem lcG_all {α : Type} (g : α → D) {bd : D → En → Option En} {cond : En → P Bool} {elt : En → P D} {ρ : En} (e : α → En) (f : α → D) {l : List α} (h : ∀ a ∈ l, bd (g a) ρ = some (e a) ∧ cond (e a) = .ok true ∧ elt (e a) = .ok (f a)) :
    lcG bd cond elt ρ (l.map g) = .ok (l.map f) := by
  have := lcG_map g e (fun _ => true) f (l := l) (bd := bd) (cond := cond) (elt := elt) (ρ := ρ) fun a ha => ⟨(h a ha).1, (h a ha).2.1, fun _ => (h a ha).2.2⟩
  rwa [List.filter_eq_self.mpr (by simp)] at this
theorem forL_map {α S : Type} (g : α → D) {bd : D → En → Option En} {body : En → Fl} (st : S → En → Prop) (step : S → α → S) {l : List α} {s : S} {ρ : En} (h : ∀ s a ρ, a ∈ l → st s ρ → ∃ ρ1 ρ2, bd (g a) ρ = some ρ1 ∧ (body ρ1 = .nx ρ2 ∨ body ρ1 = .ct ρ2) ∧ st (step s a) ρ2) (h0 : st s ρ) :
    ∃ ρ', forL bd body (l.map g) ρ = .nx ρ' ∧ st (l.foldl step s) ρ' := by
  induction l generalizing s ρ with
  | nil => exact ⟨ρ, rfl, h0⟩
  | cons x xs ih =>
    obtain ⟨ρ1, ρ2, h1, h2, h3⟩ := h s x ρ List.mem_cons_self h0
    obtain ⟨ρ', h4, h5⟩ := ih (fun s y ρ hy => h s y ρ (List.mem_cons_of_mem _ hy)) h3
    refine ⟨ρ', ?_, h5⟩
    rw [List.map_cons]
    unfold forL
    rw [h1]
    dsimp only
    rcases h2 with h2 | h2 <;> rw [h2] <;> exact h4
theorem map_inj {α β : Type} {f : α → β} (hf : ∀ a b, f a = f b → a = b) : ∀ {l k : List α}, l.map f = k.map f → l = k
  | [], [], _ => rfl
  | [], _ :: _, h => by cases h
  | _ :: _, [], h => by cases h
  | x :: l, y :: k, h => by
    rw [List.map_cons, List.map_cons] at h
    injection h with h1 h2
    rw [hf x y h1, map_inj hf h2]
@[simp] theorem ofS_inj (a b : String) : (Str.ofString a = Str.ofString b) ↔ a = b := by
  refine ⟨fun h => ?_, fun h => by rw [h]⟩
  rw [Str.ofString_eq_toList, Str.ofString_eq_toList] at h
  have h1 : (a.toList.map Char.toNat).toArray = (b.toList.map Char.toNat).toArray := congrArg Str.cps h
  have h2 : a.toList.map Char.toNat = b.toList.map Char.toNat := by simpa using h1
  have h3 : a.toList = b.toList := map_inj (fun x y e => Char.ext (UInt32.toNat_inj.mp e)) h2
  exact String.toList_inj.mp h3
@[simp] theorem ofS_beq (a b : String) : (Str.ofString a == Str.ofString b) = (a == b) := by
  by_cases h : a = b
  · subst h; simp
  · have h1 : ¬ Str.ofString a = Str.ofString b := fun z => h ((ofS_inj a b).mp z)
    rw [beq_eq_false_iff_ne.mpr h1, beq_eq_false_iff_ne.mpr h]
/-- a loop, its turns counted -/
theorem forL_ix {α S : Type} (g : α → D) {bd : D → En → Option En} {body : En → Fl} (st : Nat → S → En → Prop) (step : S → α → S) {l : List α} : ∀ {s : S} {ρ : En} {j : Nat}, (∀ i s a ρ, l[i]? = some a → st (j + i) s ρ → ∃ ρ1 ρ2, bd (g a) ρ = some ρ1 ∧ (body ρ1 = .nx ρ2 ∨ body ρ1 = .ct ρ2) ∧ st (j + i + 1) (step s a) ρ2) → st j s ρ →
    ∃ ρ', forL bd body (l.map g) ρ = .nx ρ' ∧ st (j + l.length) (l.foldl step s) ρ' := by
  induction l with
  | nil => intro s ρ j h h0; exact ⟨ρ, rfl, h0⟩
  | cons x xs ih =>
    intro s ρ j h h0
    obtain ⟨ρ1, ρ2, h1, h2, h3⟩ := h 0 s x ρ rfl h0
    obtain ⟨ρ', h4, h5⟩ := ih (j := j + 1) (s := step s x) (ρ := ρ2) (fun i s a ρ ha hs => by
      have := h (i + 1) s a ρ ha (by rw [show j + (i + 1) = j + 1 + i by omega]; exact hs)
      rw [show j + (i + 1) + 1 = j + 1 + i + 1 by omega] at this
      exact this) h3
    refine ⟨ρ', ?_, ?_⟩
    · rw [List.map_cons]
      unfold forL
      rw [h1]
      dsimp only
      rcases h2 with h2 | h2 <;> rw [h2] <;> exact h4
    · rw [List.length_cons, show j + (xs.length + 1) = j + 1 + xs.length by omega]
      exact h5
theorem foldl_app {α β : Type} (f : α → List β) : ∀ (l : List α) (acc : List β), l.foldl (fun a x => a ++ f x) acc = acc ++ l.flatMap f
  | [], acc => by simp
  | x :: l, acc => by rw [List.foldl_cons, foldl_app f l, List.flatMap_cons, List.append_assoc]
theorem cut_from {α : Type} (xs : List α) (k : Nat) : cutL xs (some (k : Int)) none = xs.drop k := by
  unfold cutL
  rw [HT.sIx_nat, HT.sIx_none]
  by_cases h : k ≤ xs.length
  · rw [Nat.min_eq_left h, List.take_of_length_le (by rw [List.length_drop]; exact Nat.le_refl _)]
  · rw [Nat.min_eq_right (by omega), List.drop_eq_nil_of_le (Nat.le_refl _), List.drop_eq_nil_of_le (by omega)]
    simp
theorem cut_to {α : Type} (xs : List α) (k : Nat) : cutL xs none (some (k : Int)) = xs.take k := by
  unfold cutL
  rw [HT.sIx_nat, HT.sIx_none, List.drop_zero, Nat.sub_zero]
  by_cases h : k ≤ xs.length
  · rw [Nat.min_eq_left h]
  · rw [Nat.min_eq_right (by omega), List.take_of_length_le (Nat.le_refl _), List.take_of_length_le (by omega)]
theorem cut_both {α : Type} (xs : List α) (k j : Nat) (h : k ≤ xs.length) (h2 : j ≤ xs.length) : cutL xs (some (k : Int)) (some (j : Int)) = (xs.drop k).take (j - k) := by
  unfold cutL
  rw [HT.sIx_nat, HT.sIx_nat, Nat.min_eq_left h, Nat.min_eq_left h2]
theorem cut_neg {α : Type} (xs : List α) (k : Nat) (h : k ≤ xs.length) (h1 : 1 ≤ xs.length) : cutL xs (some (k : Int)) (some (-1)) = (xs.drop k).take (xs.length - 1 - k) := by
  unfold cutL
  rw [HT.sIx_nat, Nat.min_eq_left h]
  have : HT.sIx xs.length xs.length (some (-1)) = xs.length - 1 := by
    show (if (-1 : Int) < 0 then ((-1 : Int) + (xs.length : Int)).toNat else min (-1 : Int).toNat xs.length) = _
    rw [if_pos (by decide)]
    omega
  rw [this]
theorem seq_nx {a b : En → Fl} {ρ ρ' : En} (h : a ρ = .nx ρ') : seqM a b ρ = b ρ' := by unfold seqM; rw [h]
theorem seq_rt {a b : En → Fl} {ρ ρ' : En} {d : D} (h : a ρ = .rt d ρ') : seqM a b ρ = .rt d ρ' := by unfold seqM; rw [h]
theorem seq_ex {a b : En → Fl} {ρ ρ' : En} {c : Str} (h : a ρ = .ex c ρ') : seqM a b ρ = .ex c ρ' := by unfold seqM; rw [h]
theorem out_rt {m : Fl} {ρ : En} {d : D} (h : m = .rt d ρ) : outF m = .ok d := by rw [h]; rfl
end Pc

set_option maxRecDepth 100000
set_option maxHeartbeats 1000000
namespace Pc
open PySem L2
open Evl (Ex)
/-! ### names set two at once; own lists made by a comprehension -/
section
variable {X : Cx} {C : Ct} {Δ Δ' : Nat → Sh} {W : WX} {e a b c o i tg iter elt : Expr} {es : List Expr} {pos p p2 q0 apos : Pos} {m ma mb mi : En → P D} {ml : En → P (List D)}
theorem g_dat {K : PySem.W.Frag} {W : WX} (h : PE X e (tG K Δ W (rDp K) m)) : PE X e (tG K Δ W (rNew K .dat) m) :=
  pe_mono h (tG_weak fun _ _ _ _ _ q => ⟨[], ⟨q, rfl⟩, List.nodup_nil, fun _ h => nomatch h⟩)
theorem s_parO {i j : Nat} {x y : Str} {px py pt : Pos} {kt k2 pt2} (hK : C.K = X.K) (ha : PE X a (tG C.K Δ C.W (rNew C.K (Δ i)) ma)) (hb : PE X b (tG C.K Δ C.W (rNew C.K (Δ j)) mb)) (hc : X.calm = true) (hN : X.N.Nodup) (hi : X.N[i]? = some x := by rfl) (hj : X.N[j]? = some y := by rfl) (hij : i ≠ j := by decide)
    (hx : X.env.scope.names.lookup x = some .local := by rfl) (hy : X.env.scope.names.lookup y = some .local := by rfl)
    (hw : swappedStores [.Tuple [.Name x px, .Name y py] kt pt] (.Tuple [a, b] k2 pt2) X.env = pure (some [x, y]) := by rfl)
    (hs : swapsWithSole [.Tuple [.Name x px, .Name y py] kt pt] (.Tuple [a, b] k2 pt2) pos.line X.env = pure false := by rfl)
    (h1 : starEach [a, b] X.env = (false, eval a X.env) :: starEach [b] X.env := by rfl) (h2 : starEach [b] X.env = (false, eval b X.env) :: starEach [] X.env := by rfl) :
    PS X (.Assign [.Tuple [.Name x px, .Name y py] kt pt] (.Tuple [a, b] k2 pt2) pos) (tS C Δ Δ (sPar i j (consM ma (consM mb mNil)))) := by
  refine ps_mono (ps_par hc hN hi hj hij hx hy (pa_cons ha (pa_cons hb pa_nil h2) h1) hw hs) fun D σ H h => ?_
  obtain ⟨F0, B, F, ρ, E, p⟩ := h
  have e : ∀ k : List PyData → Fl, liftP ((consM ma (consM mb mNil)) ρ) ρ k = liftP (ma ρ) ρ fun x => liftP (mb ρ) ρ fun y => k [x, y] := by
    intro k
    show liftP ((ma ρ).bind fun x => ((mb ρ).bind fun y => (mNil ρ).bind fun xs => .ok (y :: xs)).bind fun xs => .ok (x :: xs)) ρ k = _
    cases ma ρ with
    | ok a => cases mb ρ <;> rfl
    | exc c => rfl
    | stuck => rfl
  have p' : PostS C Δ F0 B D (liftP (ma ρ) ρ fun x => liftP (mb ρ) ρ fun y => par2 i j ρ [x, y]) := by rw [← e]; exact p
  refine stepS (r := rNew C.K (Δ i)) E p' fun d v F1 H1 g q E1 p1 => ?_
  refine stepS (r := rNew C.K (Δ j)) E1 p1 fun d2 v2 F2 H2 g2 q2 E2 p2 => ?_
  exact ⟨_, _, rfl, p2 _ F2 H2 ⟨(E.e.setNew g q).setNew g2 q2, E2.sh, E2.ok⟩⟩
theorem s_newLc {i : Nat} {y : Str} {py spos : Pos} {ifs : List Expr} {scope : Scope} {src : En → P (List D)} {bd : D → En → Option En} {cond : En → P Bool} {me : En → P D} (own : List (Str × Nat)) (hK : C.K = X.K) (hc : X.calm = true) (hN : X.N.Nodup) (hi : PI X tg iter (tG X.K Δ C.W (rWV X.K) src)) (ok : BlkOk X.N X.env.scope scope own)
    (hg : ∀ (s : Shared) (H : Hp) (Cc : Addr) (cl : List (Str × Addr)) (fp : List Addr), PG (X.blk s H scope (compEnvC scope cl Cc X.env) fp) tg (tB X.K Δ (own.map (·.2)) bd)) (ht : ∀ (s : Shared) (H : Hp) (Cc : Addr) (cl : List (Str × Addr)) (fp : List Addr), PTs (X.blk s H scope (compEnvC scope cl Cc X.env) fp) ifs (tG X.K Δ noW rBl cond))
    (he : ∀ (s : Shared) (H : Hp) (Cc : Addr) (cl : List (Str × Addr)) (fp : List Addr), PE (X.blk s H scope (compEnvC scope cl Cc X.env) fp) elt (tG X.K Δ noW (rDp X.K) me))
    (hsw : swapsWith (.ListComp elt [⟨tg, iter, ifs, 0⟩] scope pos) (some (.Name y py)) spos.line X.env = pure true)
    (hd : Δ i = .lst .dat := by rfl) (hy : X.N[i]? = some y := by rfl) (hyl : X.env.scope.names.lookup y = some .local := by rfl) (hs : ∀ x, foldedSetIterable iter X.env x = pure x := by intro _; rfl) :
    PS X (.Assign [.Name y py] (.ListComp elt [⟨tg, iter, ifs, 0⟩] scope pos) spos) (tS C Δ Δ (sSet i (lcM src (own.map (·.2)) bd cond me))) := by
  refine ps_mono (ps_setLc hc hN hy hyl hsw hi ok hg ht he hs) fun D σ H h => ?_
  obtain ⟨F0, B, F, ρ, E, p⟩ := h
  refine lc_of (W := C.W) σ H _ ?_
  have z := stepS (r := rNew C.K (.lst .dat)) (Q1 := fun x H1 => D.nx (σ.set i (some x)) H1) E p fun d v F1 H1 g q E1 p1 => p1 _ F1 H1 ⟨E.e.setNew (i := i) g (by rw [hd]; exact q), E1.sh, E1.ok⟩
  rw [← hK]
  exact z
/-- x is True -/
def isBO : PyData → PyData → Option Bool
  | .bool a, .bool b => some (decide (a = b))
  | _, _ => none
theorem o_isB : OpR X (compareOp .Is) (r2b X.K isBO) := by
  intro pins s σ H x y v u Q I rx ry h
  obtain ⟨F, dx, dy, d, eF, vx, vy, hf, q⟩ := h
  cases dx <;> cases dy <;> try (cases hf; done)
  rename_i i j
  cases hf
  exact op_is_bl pins s σ H _ _ v u Q I rx ry ⟨i, j, vx.bl, vy.bl, q⟩
end
end Pc

set_option maxRecDepth 100000
set_option maxHeartbeats 4000000
namespace Pc
open PySem PySem.Spec PyProof.Rows L2
open Evl (Ex)
/-! ### set(xs), xs a list of whole numbers; sorted(set(xs)) -/
abbrev sO (w : World) : Obj := { cls := .type "set", dict := none, data := .set #[] 0 (.fresh 0 0 (!w.params.followText "set-order")) }
section
variable {P : Program} {w : World} {A : Around} {E : Value → Shared → Prop} {s : Shared}
theorem set_of_list {l : Addr} {items : Array Value} (ns : List Int) {Q : Value → Shared → Prop} (hh : A.handled = none) (hl : s.heap.IsList l items) (hit : IntsAre items.toList ns) (hb : ns.length + 1 < scanBound)
    (h : ∀ (h' : Heap) (tk c : Nat), SetR w h' s.heap.objs.size (fun j => decide (j ∈ ns)) c → c ≤ ns.length → (∀ b o, s.heap.get? b = some o → h'.get? b = some o) → Q (.ref s.heap.objs.size) { s with heap := h', toks := tk }) : wpAny (model P w) A (call (.type "set") [.ref l]) Q E s := by
  have hisz : items.size = ns.length := by have q := IntsAre.length hit; rw [Array.length_toList] at q; exact q
  obtain ⟨c, tl, hmro⟩ := F.called_set.mro
  have hmade := F.called_set.made; have hsub := F.called_set.sub
  refine wpAny_call (codeAny_of_tree ?_); show wpAny _ _ (callAny (.type "set") _) _ _ _
  refine wpAny_pure ⟨Code.quiet_builtin _ (by decide +kernel), codeAny_builtin F.entry_type_call ?_⟩; rw [Around.under_plain (weight_type_call_type "set" [.ref l] []) rfl]
  have h1 := F.called_set.notType; have h2 := F.called_set.canCreate; have hct := F.typeCall_set_1 (.ref l)
  repeat (any_goals (first | assumption | wp_step))
  refine codeAny_mono (code_set_led1 (.ref l) (E := E) (Q₁ := fun obj s₁ => obj = .ref s.heap.objs.size ∧ s₁ = { s with heap := s.heap.push (sO w) }) ⟨rfl, rfl⟩) fun r s₁ hr => ?_
  cases r with
  | error e => exact hr
  | ok fl =>
    cases fl with
    | ret obj =>
      obtain ⟨rfl, rfl⟩ := hr
      have hS : (s.heap.push (sO w)).get? s.heap.objs.size = some (sO w) := Heap.get?_push_size _ rfl
      have hT : Shared.TypeIs { s with heap := s.heap.push (sO w) } (.ref s.heap.objs.size) "set" := ⟨_, hS, rfl⟩
      have hli := F.called_set.init.lookup; have hbi := F.called_set.init.bind (.ref s.heap.objs.size)
      repeat (any_goals (first | assumption | wp_step))
      refine codeAny_mono (codeAny_call_builtin (R := wants (fun r s₂ => r = .none ∧ ∃ h' tk c, s₂ = { s with heap := h', toks := tk } ∧ SetR w h' s.heap.objs.size (fun j => decide (j ∈ ns)) c ∧ c ≤ ns.length ∧ (∀ b o, s.heap.get? b = some o → h'.get? b = some o)) E) F.called_set.init.plain F.entry_set_init (check_set_init_1 hT ?_)) fun r₂ s₂ hr₂ => ?_
      · obtain ⟨ol, hol, hcl, nl, hdl⟩ := hl; obtain ⟨ocls, odict, odata, oslots⟩ := ol
        simp only at hcl hdl
        subst hcl; subst hdl
        have hol' : (s.heap.push (sO w)).get? l = some { cls := .type "list", dict := odict, data := .seq items nl, slots := oslots } := Heap.get?_push_of_some _ hol
        have hsls := F.sub_list_set; have hslf := F.sub_list_frozenset; have hne : (Value.type "list" == Value.type "dict") = false := by decide
        have hl1 : (s.heap.push (sO w)).IsList l items := ⟨_, hol', rfl, nl, rfl⟩
        unfold Builtin.«set.__init__» noKeywords; unfold Builtin.Frozenset.updateFrom
        generalize hPI : pyIter = PI
        wp_walk
        subst hPI
        refine wpAny_pyIter_list hl1 ?_; refine wpAny_bind (wpAny_runValue ?_)
        have hlS : l < s.heap.objs.size := Heap.lt_size hol; have hh3 : A.in1.in1.in1.handled = none := by simp [hh]
        have hneI : l ≠ (s.heap.push (sO w)).objs.size := by rw [Heap.size_push]; exact Nat.ne_of_lt (Nat.lt_succ_of_lt hlS)
        have hSf : s.heap.objs.size ∉ [(s.heap.push (sO w)).objs.size, l] := by rw [Heap.size_push]; simp only [List.mem_cons, List.not_mem_nil, or_false, not_or]; exact ⟨Nat.ne_of_lt (Nat.lt_succ_self _), Nat.ne_of_gt hlS⟩
        have hval : ∀ (i : Nat) (v : Value), items[i]? = some v → ∃ k t, ns[i]? = some k ∧ v = .int k t := fun i v hv => by
          have hi : i < ns.length := by rw [← hisz]; exact (Array.getElem?_eq_some_iff.mp hv).1
          obtain ⟨t, e⟩ := PyProof.Rows.IntsAre.int_at hit i v (by rw [Array.getElem?_toList]; exact hv)
          exact ⟨ns[i], t, List.getElem?_eq_getElem hi, by rw [e, List.getD_eq_getElem?_getD, List.getElem?_eq_getElem hi] <;> rfl⟩
        refine set_update_ints ((Walks.list hh3 _ l hneI items).toS) s.heap.objs.size hSf ns hisz hb hval (items.size - 0) 0 _ (by omega) (Nat.zero_le _) ⟨⟨_, Heap.get?_push_size _ rfl, rfl, rfl⟩, (hl1.push _)⟩ ?hS0 ?hR
        case hS0 =>
          exact ⟨0, Nat.le_refl 0, setR_new_at (Heap.get?_push_of_some _ hS)⟩
        case hR =>
          intro s' c' hm hc' hS'
          obtain ⟨h', g2, d', tk', os'⟩ := s'
          have eg : g2 = s.gens := hm.gens; have ed : d' = s.drawn := hm.drawn; have eo : os' = s.os := hm.os
          subst eg; subst ed; subst eo
          show wpAny _ _ _ _ _ _
          refine wpAny_pure ?_; show wpAny _ _ (ret Value.none) _ _ _
          rw [hisz] at hc'
          refine wpAny_pure ⟨rfl, h', tk', c', rfl, hS', hc', fun b o e => ?_⟩
          have hb0 : b < s.heap.objs.size := Heap.lt_size e; have hb1 : b ≠ s.heap.objs.size := Nat.ne_of_lt hb0
          have hb2 : b ≠ (s.heap.push (sO w)).objs.size := by rw [Heap.size_push]; exact Nat.ne_of_lt (Nat.lt_succ_of_lt hb0)
          exact hm.heap b o (by simp only [List.mem_cons, List.not_mem_nil, or_false, not_or]; exact ⟨hb1, hb2⟩) (Heap.get?_push_of_some _ (Heap.get?_push_of_some _ e))
      · cases r₂ with
        | error e => exact hr₂
        | ok fl₂ =>
          cases fl₂ with
          | ret r =>
            obtain ⟨rfl, h', tk, c', rfl, hS', hc', hk'⟩ := hr₂
            repeat (any_goals (first | assumption | wp_step))
            exact h _ _ _ hS' hc' hk'
          | _ => exact hr₂.elim
    | _ => exact hr.elim
end
end Pc

set_option maxRecDepth 100000
set_option maxHeartbeats 4000000
namespace Pc
open PySem PySem.Spec PyProof.Rows L2
open Evl (Ex)
section
variable {X : Cx} {C : Ct} {Δ Δ' : Nat → Sh} {W : WX} {e a b c o i : Expr} {es : List Expr} {pos p p2 q0 apos : Pos} {m ma mb mi : En → Pc.P PyData}
/-- the numbers of a list, rising, each once -/
def ddI (ns : List Int) : List Int := srtI (dedI [] ns)
def ssetO : PyData → Option PyData
  | .list ds => (intsD ds).bind fun ns => if (dedI [] ns).length < 64 ∧ ns.length ≤ 4000 then some (.list ((ddI ns).map .int)) else none
  | _ => none
theorem dedI_mem : ∀ (l acc : List Int) (k : Int), k ∈ dedI acc l ↔ k ∈ acc ∨ k ∈ l
  | [], acc, k => by simp [dedI]
  | x :: l, acc, k => by
    unfold dedI
    by_cases h : acc.any (· == x) = true
    · rw [if_pos h, dedI_mem l acc k]
      obtain ⟨y, hy, e⟩ := List.any_eq_true.mp h
      have : x = y := (beq_iff_eq.mp e).symm
      subst this
      simp only [List.mem_cons]
      constructor
      · rintro (q | q)
        · exact .inl q
        · exact .inr (.inr q)
      · rintro (q | q | q)
        · exact .inl q
        · subst q; exact .inl hy
        · exact .inr q
    · rw [if_neg h, dedI_mem l _ k]
      simp only [List.mem_append, List.mem_cons, List.mem_singleton, List.not_mem_nil, or_false]
      constructor
      · rintro ((q | q) | q)
        · exact .inl q
        · exact .inr (.inl q)
        · exact .inr (.inr q)
      · rintro (q | q | q)
        · exact .inl (.inl q)
        · exact .inl (.inr q)
        · exact .inr q
theorem dedI_nodup : ∀ (l acc : List Int), acc.Nodup → (dedI acc l).Nodup
  | [], acc, h => by simpa [dedI] using h
  | x :: l, acc, h => by
    unfold dedI
    by_cases hx : acc.any (· == x) = true
    · rw [if_pos hx]; exact dedI_nodup l acc h
    · rw [if_neg hx]
      refine dedI_nodup l _ ?_
      rw [List.nodup_append]
      refine ⟨h, by simp, fun y hy z hz e => ?_⟩
      rw [List.mem_singleton] at hz
      subst hz; subst e
      exact hx (List.any_eq_true.mpr ⟨y, hy, by simp⟩)
theorem dd_of {ns ks : List Int} (h1 : ks.Pairwise (· < ·)) (h2 : ∀ k : Int, k ∈ ks ↔ k ∈ ns) : ks = ddI ns := by
  refine srt_of ?_ (h1.imp fun h => Int.le_of_lt h)
  refine (List.perm_ext_iff_of_nodup (h1.imp fun h => Int.ne_of_lt h) (dedI_nodup ns [] List.nodup_nil)).mpr fun k => ?_
  rw [h2 k, dedI_mem]
  simp
theorem set_count {w : World} {h : Heap} {q : Addr} {ns : List Int} {n : Nat} (R : SetR w h q (fun j => decide (j ∈ ns)) n) : n = (dedI [] ns).length := by
  obtain ⟨o, es, ep, t, ho, hex, hd, g, nd, hm, hb, hf, hn, hr, hl⟩ := R
  have pm : (es.toList.map L2.keyOf).Perm (dedI [] ns) := (List.perm_ext_iff_of_nodup nd (dedI_nodup ns [] List.nodup_nil)).mpr fun k => by
    rw [← hm k, dedI_mem]
    simp
  rw [← pm.length_eq, List.length_map, Array.length_toList]
  exact hn.symm
theorem g_sset (hm : X.mg "sorted" = none) (hm2 : X.mg "set" = none) (h : PE X a (tG X.K Δ W (rVw X.K) m)) (hc : X.calm = true := by rfl) (hg : Gl X "sorted" := by rfl) (hg2 : Gl X "set" := by rfl) (na : starEach [a] X.env = (false, eval a X.env) :: starEach [] X.env := by rfl) (na2 : starEach [.Call (.Name "set" p2) [a] [] q0] X.env = (false, eval (.Call (.Name "set" p2) [a] [] q0) X.env) :: starEach [] X.env := by rfl) :
    PE X (.Call (.Name "sorted" p) [.Call (.Name "set" p2) [a] [] q0] [] pos) (tG X.K Δ W (rNew X.K (.lst .dat)) (m1 ssetO m)) := by
  have hset : PE X (.Call (.Name "set" p2) [a] [] q0) (fun σ H Q => tG X.K Δ W (rVw X.K) m σ H fun x H1 => ∃ (l : Addr) (ns : List Int), x = V.ref l ∧ SqL X.K H1 l (ns.map V.int) ∧ ns.length ≤ 4000 ∧ ∀ p, H1 p = none → Q (.ref p) (upd H1 p (SetO X.w p (fun j => decide (j ∈ ns)) (dedI [] ns).length))) := by
    refine ⟨fun pins s σ H Q I hh => ?_⟩
    refine Call_ (ld_blt I hg2 hm2 PyProof.Rows.boot_set ?_)
    have run := h.run pins s σ H _ I hh
    refine PyProof.Rows.callWith_type1 (PyProof.Rows.args_cons (thn run fun v s1 ⟨x, H1, I1, r1, l, ns, ex, hq, hl, q1⟩ => PyProof.Rows.args_nil ?_) na) na rfl
    subst ex
    cases r1
    obtain ⟨its, r, pl, hz⟩ := I1.list hq
    refine set_of_list ns (I1.ok.hd hc) pl.isList (by simpa using r.ints) (by unfold scanBound; omega) fun h' tk c hS hc' hk => ?_
    have hn : H1 s1.heap.objs.size = none := I1.hok.fresh (Nat.le_refl _)
    have ec := set_count hS
    subst ec
    exact ⟨.ref s1.heap.objs.size, _, I1.laid (t' := tk) hk (Nat.le_refl _) (setO_new hS), rfl, q1 _ hn⟩
  refine pe_mono (pe_callB (cr_sortedSet hc) hg hm (by decide +kernel) (pa_cons hset pa_nil na2) (by decide) (by decide) na2 (by rfl)) fun σ H Q hh => ?_
  obtain ⟨F0, B, F, ρ, E, p⟩ := hh
  refine seqG (r1 := rVw X.K) E p fun dx x F1 H1 g1 q1 E1 p1 => ?_
  cases dx <;> try (exact p1.elim)
  rename_i ds
  obtain ⟨l, ws, rfl, s1, dq⟩ := Vw.lst E1.eF q1
  replace p1 : PostG X.K W (rNew X.K (.lst .dat)) σ F1 H1 (P.ofO ((intsD ds).bind fun ns => if (dedI [] ns).length < 64 ∧ ns.length ≤ 4000 then some (.list ((ddI ns).map .int)) else none)) Q := p1
  cases e1 : intsD ds with
  | none => rw [e1] at p1; exact p1.elim
  | some ns =>
    rw [e1] at p1
    have ev := intsD_dq dq e1
    subst ev
    replace p1 : PostG X.K W (rNew X.K (.lst .dat)) σ F1 H1 (P.ofO (if (dedI [] ns).length < 64 ∧ ns.length ≤ 4000 then some (.list ((ddI ns).map .int)) else none)) Q := p1
    by_cases hl : (dedI [] ns).length < 64 ∧ ns.length ≤ 4000
    · rw [if_pos hl] at p1
      refine ⟨l, ns, rfl, SqL.of s1, hl.2, fun p hp => ⟨p, _, _, rfl, upd_same, hl.1, fun ks p' k1 k2 k3 hp' => ?_⟩⟩
      have ek : ks = ddI ns := dd_of k1 fun k => by rw [k2 k]; simp
      subst ek
      have ga := Gw.own (o := SetO X.w p (fun j => decide (j ∈ ns)) (dedI [] ns).length) E1.eF hp
      have gb := Gw.own (o := .lst ((ddI ns).map V.int)) ga.2.1 hp'
      exact p1 _ F1 _ (ga.trans gb) ((rNew X.K (.lst .dat)).anti ga.2.2.1 (new_lst ga.2.1 hp' (dqs_int _)))
    · rw [if_neg hl] at p1; exact p1.elim
end
end Pc

set_option maxRecDepth 100000
set_option maxHeartbeats 4000000
namespace Pc
open PySem L2
open Evl (Ex)
/-! ### three names at once -/
def par3 (i j l : Nat) (ρ : En) : List PyData → Fl
  | [d, d', d2] => .nx (((ρ.set i (some d)).set j (some d')).set l (some d2))
  | _ => .stuck
def sPar3 (i j l : Nat) (ml : En → P (List PyData)) : En → Fl := fun ρ => liftP (ml ρ) ρ (par3 i j l ρ)
section
variable {X : Cx} {C : Ct} {Δ Δ' : Nat → Sh} {W : WX} {e a b c o : Expr} {es : List Expr} {pos p p2 q0 apos : Pos} {m ma mb mc mi : En → P PyData}
theorem s_par3O {i j l : Nat} {x y z : Str} {px py pz pt : Pos} {kt k2 pt2} (hK : C.K = X.K) (ha : PE X a (tG C.K Δ C.W (rNew C.K (Δ i)) ma)) (hb : PE X b (tG C.K Δ C.W (rNew C.K (Δ j)) mb)) (hcc : PE X c (tG C.K Δ C.W (rNew C.K (Δ l)) mc)) (hc : X.calm = true) (hN : X.N.Nodup) (hi : X.N[i]? = some x := by rfl) (hj : X.N[j]? = some y := by rfl) (hl : X.N[l]? = some z := by rfl) (hij : i ≠ j := by decide) (hil : i ≠ l := by decide) (hjl : j ≠ l := by decide)
    (hx : X.env.scope.names.lookup x = some .local := by rfl) (hy : X.env.scope.names.lookup y = some .local := by rfl) (hz : X.env.scope.names.lookup z = some .local := by rfl)
    (hw : swappedStores [.Tuple [.Name x px, .Name y py, .Name z pz] kt pt] (.Tuple [a, b, c] k2 pt2) X.env = pure (some [x, y, z]) := by rfl)
    (hs : swapsWithSole [.Tuple [.Name x px, .Name y py, .Name z pz] kt pt] (.Tuple [a, b, c] k2 pt2) pos.line X.env = pure false := by rfl)
    (h1 : starEach [a, b, c] X.env = (false, eval a X.env) :: starEach [b, c] X.env := by rfl) (h2 : starEach [b, c] X.env = (false, eval b X.env) :: starEach [c] X.env := by rfl) (h3 : starEach [c] X.env = (false, eval c X.env) :: starEach [] X.env := by rfl) :
    PS X (.Assign [.Tuple [.Name x px, .Name y py, .Name z pz] kt pt] (.Tuple [a, b, c] k2 pt2) pos) (tS C Δ Δ (sPar3 i j l (consM ma (consM mb (consM mc mNil))))) := by
  refine ps_mono (ps_par3 hc hN hi hj hl hij hil hjl hx hy hz (pa_cons ha (pa_cons hb (pa_cons hcc pa_nil h3) h2) h1) hw hs) fun D σ H h => ?_
  obtain ⟨F0, B, F, ρ, E, p⟩ := h
  have e : ∀ k : List PyData → Fl, liftP ((consM ma (consM mb (consM mc mNil))) ρ) ρ k = liftP (ma ρ) ρ fun x => liftP (mb ρ) ρ fun y => liftP (mc ρ) ρ fun z => k [x, y, z] := by
    intro k
    show liftP ((ma ρ).bind fun x => ((mb ρ).bind fun y => ((mc ρ).bind fun z => (mNil ρ).bind fun xs => .ok (z :: xs)).bind fun xs => .ok (y :: xs)).bind fun xs => .ok (x :: xs)) ρ k = _
    cases ma ρ with
    | ok a =>
      cases mb ρ with
      | ok b => cases mc ρ <;> rfl
      | exc c => rfl
      | stuck => rfl
    | exc c => rfl
    | stuck => rfl
  have p' : PostS C Δ F0 B D (liftP (ma ρ) ρ fun x => liftP (mb ρ) ρ fun y => liftP (mc ρ) ρ fun z => par3 i j l ρ [x, y, z]) := by rw [← e]; exact p
  refine stepS (r := rNew C.K (Δ i)) E p' fun d v F1 H1 g q E1 p1 => ?_
  refine stepS (r := rNew C.K (Δ j)) E1 p1 fun d2 v2 F2 H2 g2 q2 E2 p2 => ?_
  refine stepS (r := rNew C.K (Δ l)) E2 p2 fun d3 v3 F3 H3 g3 q3 E3 p3 => ?_
  exact ⟨_, _, _, rfl, p3 _ F3 H3 ⟨((E.e.setNew g q).setNew g2 q2).setNew g3 q3, E3.sh, E3.ok⟩⟩
end
end Pc

set_option maxRecDepth 100000
set_option maxHeartbeats 4000000
namespace Pc
open PySem L2
open Evl (Ex)
/-! ### sorted(xs) of tuples that are alike -/
def isTup1 : PyData → Bool
  | .tuple (_ :: _) => true
  | _ => false
def okSort (ds : List PyData) : Bool := ds.all fun d => isTup1 d && flat 40 d && ds.all (PySem.W.alike d)
def srtD (ds : List PyData) : List PyData := ds.mergeSort (PySem.W.dataLe false id)
def sortTO : List PyData → Option PyData
  | [.list ds] => if okSort ds = true then some (.list (srtD ds)) else none
  | _ => none
section
variable {X : Cx}
theorem each_dq {K : PySem.W.Frag} {F : Hp} : ∀ {xs : List V} {ds : List PyData} {vs : List Value}, DqAll K F xs ds → Vals xs vs → PySem.W.EachIs (fun v d => ∃ x, RelV x v ∧ Dq K F x d) vs ds
  | _, _, _, .nil, .nil => .nil
  | _, _, _, .cons a t, .cons r rs => .cons ⟨_, r, a⟩ (each_dq t rs)
theorem dq_each {K : PySem.W.Frag} {F : Hp} : ∀ {vs : List Value} {ds : List PyData}, PySem.W.EachIs (fun v d => ∃ x, RelV x v ∧ Dq K F x d) vs ds → ∃ xs, Vals xs vs ∧ DqAll K F xs ds
  | _, _, .nil => ⟨[], .nil, .nil⟩
  | _, _, .cons ⟨x, r, a⟩ t => by
    obtain ⟨xs, rs, as⟩ := dq_each t
    exact ⟨x :: xs, .cons r rs, .cons a as⟩
theorem o_sortT (hu : X.A.units + 64 < cLine) : CallR X (.builtin "sorted") (rN X.K (rNew X.K (.lst .dat)) sortTO) := by
  intro pins s σ H xs us Q I r h
  obtain ⟨F, ds, d, eF, vs, hf, q⟩ := h
  match ds, hf with
  | [.list ds], hf =>
    obtain ⟨x, rfl, vx⟩ := vws1 vs
    obtain ⟨l, ws, rfl, s1, dq⟩ := vx.lst eF
    replace hf : (if okSort ds = true then some (PyData.list (srtD ds)) else none) = some d := hf
    by_cases hk : okSort ds = true
    · rw [if_pos hk] at hf
      cases hf
      unfold okSort at hk
      rw [List.all_eq_true] at hk
      have hk1 : ∀ e ∈ ds, isTup1 e = true ∧ flat 40 e = true ∧ ∀ e' ∈ ds, PySem.W.alike e e' = true := fun e he => by
        have := hk e he
        simp only [Bool.and_eq_true, List.all_eq_true] at this
        exact ⟨this.1.1, this.1.2, this.2⟩
      obtain ⟨its, rv, hl, hz⟩ := I.list (SqL.of s1)
      rw [Vals.ref1 r]
      have eR := each_dq dq rv
      have er : PySem.W.EachIs (fun v b => ∃ as, Reads s.heap v (id b) as) its ds := eR.mono fun v b ⟨y, ry, dy⟩ => Dp.reads I b y v (Dq.dp _ _ (dy.mn eF)) ry
      refine PySem.W.sorted_data (enc := id) hl.isList eR er ?_ ?_ ?_ ?_ fun out ho he => ?_
      · intro e he e' he'
        rw [List.map_id] at he he'
        exact (hk1 e he).2.2 e' he'
      · left
        intro e he
        rw [List.map_id] at he
        have := (hk1 e he).1
        cases e with
        | tuple l => cases l with
          | nil => cases this
          | cons x l => exact ⟨x, l, rfl⟩
        | _ => cases this
      · rw [← dq.len]; exact hz
      · intro e he
        have := flat_depth 40 e (hk1 e he).2.1
        show X.A.units + 2 + e.depth < cLine
        omega
      · obtain ⟨ys, ry, dy⟩ := dq_each he
        obtain ⟨ep, he'⟩ := PyProof.Rows.sortedAll_at s.heap its (List.toArray out)
        have hlen : ys.length ≤ sizeLine := by
          rw [dy.len, List.length_mergeSort, ← dq.len]; exact hz
        have hn : H (s.heap.objs.size + 1) = none := I.hok.fresh (Nat.le_succ _)
        exact ⟨.ref _, upd H (s.heap.objs.size + 1) (.lst ys), I.laid (t' := s.toks) (fun _ _ => PyProof.Rows.sortedAll_old) (Nat.le_succ _) ⟨hlen, out, ep, ry, he'⟩, rfl, q _ _ _ (.own eF hn) (new_lst eF hn dy)⟩
    · rw [if_neg hk] at hf; cases hf
end
end Pc

set_option maxRecDepth 100000
set_option maxHeartbeats 4000000
namespace Pc
open PySem PySem.Spec PyProof.Rows L2
open Evl (Ex)
/-! ### defs whose last parameter is a thing of the caller's own -/
abbrev DD := PyData
def outI (j : Nat) : Fl → RS
  | .rt d ρ => (match getO ρ j with
    | some o => .ok d o
    | none => .stuck)
  | .nx ρ => (match getO ρ j with
    | some o => .ok .none o
    | none => .stuck)
  | .ex c ρ => (match getO ρ j with
    | some o => .exc c o
    | none => .stuck)
  | _ => .stuck
def runL (n : Nat) (m : En → Fl) (o : DD) (ds : List DD) : RS := outI ds.length (m (env0 n (ds ++ [o])))
def spL (K : PySem.W.Frag) (s : Sh) (n : Nat) (g : DD → List DD → RS) : Sp := fun vs H Q E => ∃ F o ds v0 us fp, vs = us ++ [v0] ∧ Ex F H ∧ Own K F H s v0 o fp ∧ fp.Nodup ∧ (∀ a ∈ fp, F a = none ∧ H a ≠ none) ∧ DqAll K F us ds ∧ us.length = n ∧ PostSf K s v0 F H fp Q E (g o ds)
def ctL (K : PySem.W.Frag) (E : XK) (v0 : V) (s : Sh) (j : Nat) : Ct := ⟨K, fun i => if i = j then .fix v0 s else .dat, fun i => i == j, fun cls d _ H => E cls d H, fun _ => .dat, fun _ => True, fun F v d => Dq K F v d⟩
section
variable {Pr : Program} {w : World} {K : PySem.W.Frag} {mg : Str → Option Value} {base : Heap} {name qual : Str} {st : Stmt} {N ps : List Str} {k n : Nat} {m : En → Fl} {s : Sh} {f : Addr} {fd : FuncData}
theorem out_chgL {Dx : Nat → Sh} {F F' H H' B : Hp} {σ : L2.St} {ρ : En} {v0 : V} {o : DD} {fp : List Addr} {j : Nat} (hB : ∀ a, B a = if a ∈ fp then none else H a) (hd : Dx j = .fix v0 s) (E : EnvOk K Dx F B F' H' σ ρ) (e : ρ[j]? = some (some o)) : ∃ fq, Chg F H F' H' fp fq ∧ Own K F' H' s v0 o fq := by
  obtain ⟨v, fq, hv, ow, f, _⟩ := E.slot e
  rw [hd] at ow
  obtain ⟨rfl, ow⟩ := ow
  refine ⟨fq, ⟨E.e0, E.eF, fun a h1 h2 => ?_, f.nd, fun a ha => ?_⟩, ow⟩
  · have hb : B a = H a := by rw [hB a, if_neg h1]
    exact ⟨(ex_eq E.eB (by rw [hb]; exact h2)).trans hb, fun z => E.lim a z (by rw [hb]; exact h2)⟩
  · obtain ⟨q1, q2, q3⟩ := f.off a ha
    refine ⟨q1, q3, ?_⟩
    rw [hB a] at q2
    by_cases z : a ∈ fp
    · exact .inl z
    · rw [if_neg z] at q2; exact .inr q2
theorem maskL {ρ : En} {o : DD} {j : Nat} (e : getO ρ j = some o) : (mask (fun i => i == j) ρ)[j]? = some (some o) := by
  have := getO_eq e
  unfold mask
  rw [List.getElem?_mapIdx, this]
  simp
theorem def_ofL {Δ Δ' : V → Nat → Sh} (F : FunD K name qual (defArgs st) (defBody st) (defScope st) [] [] f fd) (S : FnScope N ps (defScope st)) (hp : ps.length = n + 1) (h0 : ∀ v0, Δ v0 n = .fix v0 s) (hd : ∀ v0 i, i < n → Δ v0 i = .dat)
    (hbody : ∀ (v0 : V) (cdv : Value) (A : Around) (outer : List Env) (s' : Shared) (H : Hp) (E : XK), Room k (A.deeper (envOfC qual (defScope st) s'.heap.objs.size f cdv)) →
      PSs (cxOf (L2.CX Pr w) Pr w K mg base N qual (defScope st) f cdv A outer s' H E) (defBody st) (tS (ctL K E v0 s n) (Δ v0) (Δ' v0) m)) : FnOk Pr w K mg base (L2.CX Pr w) (k + 1) f fd ps (spL K s n (runL N.length m)) := by
  have hpl : ps.length ≤ N.length := by have := congrArg List.length S.pre; rw [List.length_take] at this; omega
  refine F.ok S (fun vs H Q E h => ?_) (fun cdv A outer s' H vs Q E hr h => ?_)
  · obtain ⟨F, o, ds, v0, us, fp, rfl, _, _, _, _, _, hl, _⟩ := h
    rw [List.length_append, hl, hp]; rfl
  · obtain ⟨F, o, ds, v0, us, fp, rfl, eF, ow, nd, off, dq, hl, p⟩ := h
    have hdl : ds.length = n := by rw [← dq.len]; exact hl
    refine ⟨_, hbody v0 cdv A outer s' H E hr, F, (fun a => if a ∈ fp then none else H a), F, env0 N.length (ds ++ [o]), ⟨?_, fun i hi => ?_, trivial⟩, ?_⟩
    · have hlen : (us ++ [v0]).length ≤ N.length := by rw [List.length_append, hl]; simp; omega
      have hlen2 : (ds ++ [o]).length ≤ N.length := by rw [List.length_append, hdl]; simp; omega
      refine ⟨by rw [start_len hlen, env0_len hlen2], Ex.refl _, eF, fun a u hu => ?_, fun _ h _ => h, fun i => if i = n then fp else [], fun i d hi => ?_, fun i => ?_, fun i j a hi hj => ?_, fun i a hi => ?_⟩
      · replace hu : (if a ∈ fp then none else H a) = some u := hu
        split at hu
        · cases hu
        · exact hu
      · have hil : i < (ds ++ [o]).length := by
          unfold env0 at hi
          by_cases z : i < (ds ++ [o]).length
          · exact z
          · rw [List.getElem?_append_right (by simpa using z), List.getElem?_replicate] at hi
            split at hi <;> cases hi
        have hid : (ds ++ [o])[i]? = some d := by
          unfold env0 at hi
          rw [List.getElem?_append_left (by simpa using hil), List.getElem?_map] at hi
          cases e : (ds ++ [o])[i]? with
          | none => rw [e] at hi; cases hi
          | some z => rw [e] at hi; cases hi; rfl
        have hst : ∀ v, (us ++ [v0])[i]? = some v → (L2.start N (us ++ [v0]))[i]? = some (some v) := fun v hv => by
          unfold L2.start
          have hiu : i < (us ++ [v0]).length := (List.getElem?_eq_some_iff.mp hv).1
          rw [List.getElem?_append_left (by simpa using hiu), List.getElem?_map, hv]
          rfl
        by_cases hin : i = n
        · subst hin
          have ed : d = o := by
            rw [List.getElem?_append_right (by omega), show i - ds.length = 0 by omega] at hid
            exact (Option.some.inj hid).symm
          subst ed
          refine ⟨v0, hst v0 (by rw [List.getElem?_append_right (by omega), show i - us.length = 0 by omega]; rfl), ?_⟩
          rw [h0]
          simp only [if_true]
          exact ⟨rfl, ow⟩
        · have hi3 : i < ds.length := by rw [List.length_append] at hil; simp at hil; omega
          rw [List.getElem?_append_left hi3] at hid
          obtain ⟨v, hv, q⟩ := dq.get2 hid
          refine ⟨v, hst v (by rw [List.getElem?_append_left (by rw [hl]; omega)]; exact hv), ?_⟩
          rw [hd v0 i (by omega)]
          exact ⟨q, if_neg hin⟩
      · show (if i = n then fp else []).Nodup
        split
        · exact nd
        · exact List.nodup_nil
      · have hi' : a ∈ (if i = n then fp else []) := hi
        have hj' : a ∈ (if j = n then fp else []) := hj
        split at hi'
        · split at hj'
          · omega
          · cases hj'
        · cases hi'
      · have hi' : a ∈ (if i = n then fp else []) := hi
        split at hi'
        · exact ⟨(off a hi').1, if_pos hi', (off a hi').2⟩
        · cases hi'
    · have e : i = n := by simpa using (show (i == n) = true from hi)
      subst e
      rw [h0]
      show Sh.fix v0 s = if i = i then Sh.fix v0 s else Sh.dat
      rw [if_pos rfl]
    · unfold runL outI at p
      rw [hdl] at p
      have hfix : (ctL K E v0 s n).Dx n = .fix v0 s := if_pos rfl
      cases e : m (env0 N.length (ds ++ [o])) with
      | nx ρ =>
        rw [e] at p
        intro σ F' H' E'
        dsimp only at p
        cases e2 : getO ρ n with
        | none => rw [e2] at p; exact p.elim
        | some o' =>
          rw [e2] at p
          obtain ⟨fq, c, ow'⟩ := out_chgL (s := s) (v0 := v0) (j := n) (fun _ => rfl) hfix E'.mask (maskL e2)
          exact p .non F' H' fq c ow' .non
      | rt d ρ =>
        rw [e] at p
        intro v σ F' H' E' q
        dsimp only at p
        cases e2 : getO ρ n with
        | none => rw [e2] at p; exact p.elim
        | some o' =>
          rw [e2] at p
          obtain ⟨fq, c, ow'⟩ := out_chgL (s := s) (v0 := v0) (j := n) (fun _ => rfl) hfix E' (maskL e2)
          exact p v F' H' fq c ow' q
      | ct ρ => rw [e] at p; exact p.elim
      | ex c ρ =>
        rw [e] at p
        intro Δe σ F' H' E'
        dsimp only at p
        cases e2 : getO ρ n with
        | none => rw [e2] at p; exact p.elim
        | some o' =>
          rw [e2] at p
          obtain ⟨fq, c, ow'⟩ := out_chgL (s := s) (v0 := v0) (j := n) (fun _ => rfl) hfix E'.mask (maskL e2)
          exact p F' H' fq c ow'
      | stuck => rw [e] at p; exact p
end
end Pc

set_option maxRecDepth 100000
set_option maxHeartbeats 4000000
namespace Pc
open PySem PySem.Spec PyProof.Rows L2
open Evl (Ex)
/-- a def whose last parameter is a thing of the caller's own -/
structure DefL (Pr : Program) (w : World) (K : PySem.W.Frag) (mg : Str → Option Value) (base : Heap) (x : Str) (k n : Nat) (s : Sh) (g : DD → List DD → RS) : Prop where
  ok : ∃ f fd ps, FnOk Pr w K mg base (L2.CX Pr w) k f fd ps (spL K s n g) ∧ mg x = some (.ref f) ∧ PySem.W.keepIn K (.ref f) = true ∧ Binds K fd ps []
def xL (pl : Pl) (g : DD → List DD → RS) (ml : En → P (List DD)) : En → R DD := fun ρ => match ml ρ with
  | .ok ds => (match pl.get ρ with
    | some o => (match g o ds with
      | .ok d o' => .ok d (pl.set ρ o')
      | .exc c o' => .exc c (pl.set ρ o')
      | .stuck => .stuck)
    | none => .stuck)
  | .exc c => .exc c ρ
  | .stuck => .stuck
section
variable {X : Cx} {C : Ct} {Δ Δ' : Nat → Sh} {W : WX} {e e1 e2 o : Expr} {es : List Expr} {pos p apos : Pos} {m1 m2 : En → P DD} {s : Sh} {pl : Pl} {x : Str} {k : Nat} {g : DD → List DD → RS}
theorem x_fl1 (d : DefL X.prog X.w X.K X.mg X.base x k 1 s g) (hr : Room k X.A) (tk : Takes X W) (ha : PE X e1 (tG X.K Δ W (rDp X.K) m1)) (ho : PE X o (tPl X.K Δ s pl)) (hg : Gl X x := by rfl) (hdb : (x == ("__debug__" : Str)) = false := by decide)
    (he : starEach [e1, o] X.env = (false, eval e1 X.env) :: starEach [o] X.env := by rfl) (he2 : starEach [o] X.env = (false, eval o X.env) :: starEach [] X.env := by rfl) (hpl : (backTo pos (starEach [o] X.env)).any (·.1) = false := by rfl) :
    PE X (.Call (.Name x p) [e1, o] [] pos) (tX X.K Δ W (fDp X.K) (xL pl g (consM m1 mNil))) := by
  obtain ⟨f, fd, ps, F, hm, hk, hb⟩ := d.ok
  refine pe_mono (pe_callS (E := WE W) F hr hg hm hk hb (fun σ => passAt tk σ) (pa_cons ha (pa_cons ho pa_nil he2) he) hdb he hpl) fun σ H Q h => ?_
  obtain ⟨F0, B, F1, ρ, E, p⟩ := h
  refine ⟨F0, B, F1, ρ, E, ?_⟩
  cases z1 : m1 ρ with
  | stuck =>
    have e : xL pl g (consM m1 mNil) ρ = .stuck := by unfold xL consM; rw [z1]; rfl
    rw [e] at p; exact p.elim
  | exc c =>
    have e : xL pl g (consM m1 mNil) ρ = .exc c ρ := by unfold xL consM; rw [z1]; rfl
    rw [e] at p
    exact fun F' H' gw => p F' H' (E.gw gw)
  | ok d1 =>
    intro v1 F2 H2 gw q1
    have e : xL pl g (consM m1 mNil) ρ = (match pl.get ρ with
      | some o => (match g o [d1] with
        | .ok d o' => .ok d (pl.set ρ o')
        | .exc c o' => .exc c (pl.set ρ o')
        | .stuck => .stuck)
      | none => .stuck) := by unfold xL consM; rw [z1]; rfl
    rw [e] at p
    cases e0 : pl.get ρ with
    | none => rw [e0] at p; exact p.elim
    | some od =>
      rw [e0] at p
      have E2 := E.gw gw
      refine ⟨F0, B, F2, H2, F2, ρ, E2, .refl E2.eF, od, e0, fun v fp ow f u => ?_⟩
      exact ⟨F2, od, [d1], v, [v1], fp, rfl, E2.eF, ow, f.nd, fun a ha => ⟨(f.off a ha).1, (f.off a ha).2.2⟩, .cons q1 .nil, rfl, post_S u p⟩
theorem x_fl2 (d : DefL X.prog X.w X.K X.mg X.base x k 2 s g) (hr : Room k X.A) (tk : Takes X W) (ha : PE X e1 (tG X.K Δ W (rDp X.K) m1)) (hb2 : PE X e2 (tG X.K Δ W (rDp X.K) m2)) (ho : PE X o (tPl X.K Δ s pl)) (hg : Gl X x := by rfl) (hdb : (x == ("__debug__" : Str)) = false := by decide)
    (he : starEach [e1, e2, o] X.env = (false, eval e1 X.env) :: starEach [e2, o] X.env := by rfl) (he1 : starEach [e2, o] X.env = (false, eval e2 X.env) :: starEach [o] X.env := by rfl) (he2 : starEach [o] X.env = (false, eval o X.env) :: starEach [] X.env := by rfl) (hpl : (backTo pos (starEach [e2, o] X.env)).any (·.1) = false := by rfl) :
    PE X (.Call (.Name x p) [e1, e2, o] [] pos) (tX X.K Δ W (fDp X.K) (xL pl g (consM m1 (consM m2 mNil)))) := by
  obtain ⟨f, fd, ps, F, hm, hk, hb⟩ := d.ok
  refine pe_mono (pe_callS (E := WE W) F hr hg hm hk hb (fun σ => passAt tk σ) (pa_cons ha (pa_cons hb2 (pa_cons ho pa_nil he2) he1) he) hdb he hpl) fun σ H Q h => ?_
  obtain ⟨F0, B, F1, ρ, E, p⟩ := h
  refine ⟨F0, B, F1, ρ, E, ?_⟩
  cases z1 : m1 ρ with
  | stuck =>
    have e : xL pl g (consM m1 (consM m2 mNil)) ρ = .stuck := by unfold xL consM; rw [z1]; rfl
    rw [e] at p; exact p.elim
  | exc c =>
    have e : xL pl g (consM m1 (consM m2 mNil)) ρ = .exc c ρ := by unfold xL consM; rw [z1]; rfl
    rw [e] at p
    exact fun F' H' gw => p F' H' (E.gw gw)
  | ok d1 =>
    intro v1 F2 H2 gw q1
    have E2 := E.gw gw
    refine ⟨F0, B, F2, ρ, E2, ?_⟩
    cases z2 : m2 ρ with
    | stuck =>
      have e : xL pl g (consM m1 (consM m2 mNil)) ρ = .stuck := by unfold xL consM; rw [z1, bind_ok, z2]; rfl
      rw [e] at p; exact p.elim
    | exc c =>
      have e : xL pl g (consM m1 (consM m2 mNil)) ρ = .exc c ρ := by unfold xL consM; rw [z1, bind_ok, z2]; rfl
      rw [e] at p
      exact fun F' H' gw2 => p F' H' (E2.gw gw2)
    | ok d2 =>
      intro v2 F3 H3 gw2 q2
      have e : xL pl g (consM m1 (consM m2 mNil)) ρ = (match pl.get ρ with
        | some o => (match g o [d1, d2] with
          | .ok d o' => .ok d (pl.set ρ o')
          | .exc c o' => .exc c (pl.set ρ o')
          | .stuck => .stuck)
        | none => .stuck) := by unfold xL consM; rw [z1, bind_ok, z2]; rfl
      rw [e] at p
      cases e0 : pl.get ρ with
      | none => rw [e0] at p; exact p.elim
      | some od =>
        rw [e0] at p
        have E3 := E2.gw gw2
        refine ⟨F0, B, F3, H3, F3, ρ, E3, .refl E3.eF, od, e0, fun v fp ow f u => ?_⟩
        exact ⟨F3, od, [d1, d2], v, [v1, v2], fp, rfl, E3.eF, ow, f.nd, fun a ha => ⟨(f.off a ha).1, (f.off a ha).2.2⟩, .cons (Dq.mn q1 gw2.1) (.cons q2 .nil), rfl, post_S u p⟩
/-! ### sorted(d): the keys of a dict, rising -/
def keysI : List (DD × DD) → Option (List Int)
  | [] => some []
  | (.int i, _) :: r => (keysI r).map (i :: ·)
  | _ :: _ => none
def sortKO : List DD → Option DD
  | [.dict kds] => (keysI kds).bind fun ks => if ks.length < 64 then some (.list ((srtI ks).map .int)) else none
  | _ => none
theorem keysI_k {K : PySem.W.Frag} {F : Hp} : ∀ {kvs : List (Key × V)} {kds : List (DD × DD)} {ks : List Int}, KDp K F kvs kds → keysI kds = some ks → kvs.map (·.1) = ks.map Sum.inl
  | _, _, ks, .nil, h => by cases h; rfl
  | (k, v) :: kvs, _, ks, .cons (kds := kds) a t, h => by
    cases k with
    | inr x => cases h
    | inl i =>
      replace h : (keysI kds).map (i :: ·) = some ks := h
      cases e : keysI kds with
      | none => rw [e] at h; cases h
      | some l =>
        rw [e] at h
        cases h
        rw [List.map_cons, List.map_cons, keysI_k t e]
theorem o_sortK (hc : X.calm = true) : CallR X (.builtin "sorted") (rN X.K (rNew X.K (.lst .dat)) sortKO) := by
  intro pins s σ H xs us Q I r h
  obtain ⟨F, ds, d, eF, vs, hf, q⟩ := h
  match ds, hf with
  | [.dict kds], hf =>
    obtain ⟨x, rfl, vx⟩ := vws1 vs
    obtain ⟨a, kvs, rfl, ha, kd⟩ := vx.dct
    replace hf : ((keysI kds).bind fun ks => if ks.length < 64 then some (PyData.list ((srtI ks).map .int)) else none) = some d := hf
    cases e : keysI kds with
    | none => rw [e] at hf; cases hf
    | some ks =>
      rw [e, Option.bind_some] at hf
      by_cases hl : ks.length < 64
      · rw [if_pos hl] at hf
        cases hf
        refine call_sortedDI hc pins s σ H _ us Q I r ⟨a, kvs, ks, rfl, .inl ha, keysI_k kd e, hl, fun ys p h1 h2 hp => ?_⟩
        rw [srt_of h1 h2]
        exact q _ _ _ (.own eF hp) (new_lst eF hp (dqs_int _))
      · rw [if_neg hl] at hf; cases hf
end
end Pc

set_option maxRecDepth 100000
set_option maxHeartbeats 4000000
namespace Pc
open PySem PySem.Spec PyProof.Rows L2
open Evl (Ex)
section
variable {X : Cx} {C : Ct} {Δ Δ' : Nat → Sh} {W : WX} {e a b o i value : Expr} {es : List Expr} {pos p apos pos' : Pos} {m ma mb mi mv : En → P DD} {ml : En → P (List DD)} {s : Sh} {pl : Pl} {cn : Str} {sh : Str → Sh} {n : Str}
/-! ### an effect's value stored in a field -/
def sFsetX (pl : Pl) (n : Str) (x : En → R DD) : En → Fl := fun ρ => liftX (x ρ) fun v ρ => liftP (mPl pl ρ) ρ fun o => match o with
  | .dict kds => if kds.length < 1000 then .nx (pl.set ρ (.dict (putFD n v kds))) else .stuck
  | _ => .stuck
theorem sx_fset {x : En → R DD} (hK : C.K = X.K) (c : Cls X.K (He.ga X.K cn)) (na : NoAttr X.K (He.ga X.K cn) n) (ho : PE X o (tPl C.K Δ (.obj cn sh) pl)) (hv : PE X value (tX C.K Δ C.W (fDp C.K) x)) (hd : sh n = .dat := by rfl) (hs : swapsWith value (some (.Attribute o n pos')) pos.line X.env = pure false := by rfl) :
    PS X (.Assign [.Attribute o n pos'] value pos) (tS C Δ Δ (sFsetX pl n x)) := by
  refine ps_mono (ps_fld ho hv hs) fun D σ H h => ?_
  obtain ⟨F0, B, F, ρ, E, p⟩ := h
  unfold sFld
  refine stepX (r1 := fDp C.K) E p fun dv y F1 H1 ρ1 E1 q p1 => ?_
  have g : Gw F1 H1 F1 H1 := .refl E1.e.eF
  refine pl_postG E1 g p1 fun d v fp e0 ow f u p2 => ?_
  obtain ⟨l, dx, fvs, kds, fq, rfl, rfl, hl, hdx, of_, rfl⟩ := ow
  replace p2 : PostS C Δ F B D (if kds.length < 1000 then .nx (pl.set ρ1 (.dict (putFD n dv kds))) else .stuck) := p2
  by_cases hz : kds.length < 1000
  · rw [if_pos hz] at p2
    refine ⟨l, He.ga X.K cn, dx, fvs, rfl, by rw [← hK]; exact hl, c, na, by rw [of_.len]; exact hz, ?_⟩
    obtain ⟨fl, fp0, fr, rfl, h4⟩ := of_.put n
    obtain ⟨n1, n2⟩ := List.nodup_cons.mp f.nd
    have hl' := f.off l List.mem_cons_self
    have hn : ∀ x, x ∈ fl ∨ x ∈ fr → x ≠ l ∧ H1 x ≠ none := fun x hx => by
      have hx2 : x ∈ fl ++ (fp0 ++ fr) := hx.elim (List.mem_append_left _) fun z => List.mem_append_right _ (List.mem_append_right _ z)
      exact ⟨fun z => n1 (z ▸ List.mem_cons_of_mem _ hx2), (f.off x (List.mem_cons_of_mem _ (List.mem_cons_of_mem _ hx2))).2.2⟩
    have q' : ∀ a ∈ ([] : List Addr), F1 a = none ∧ H1 a = none ∧ H1 a ≠ none := fun a ha => nomatch ha
    refine p2 σ F1 _ ⟨u F1 _ _ _ (fset_chg (o := .ins (He.ga X.K cn) dx (putF n y fvs)) (fq := []) g f List.nodup_nil q') ⟨l, dx, putF n y fvs, _, _, rfl, rfl, by rw [upd_same, hK], ?_, ?_, rfl⟩, E1.sh, E1.ok⟩
    · rw [upd_ne fun (z : dx = l) => n1 (by rw [z]; exact List.mem_cons_self)]; exact hdx
    · refine h4 (fun k => Own C.K F1 _ (sh k)) y dv [] (fun k v d fz hs r => own_fields g hn k v d fz hs r) ?_
      show Own C.K F1 _ (sh n) y dv []
      rw [hd]
      exact ⟨q, rfl⟩
  · rw [if_neg hz] at p2; exact p2.elim
/-! ### xs.remove(k), numbers -/
def remO : DD → DD → Option DD
  | .list ds, .int k => (intsD ds).bind fun ns => if k ∈ ns then some (.list ((ns.erase k).map .int)) else none
  | _, _ => none
theorem erase_at : ∀ (ns : List Int) (k : Int), k ∈ ns → ∃ j : Nat, ns[j]? = some k ∧ (∀ m : Nat, m < j → ns[m]? ≠ some k) ∧ ns.eraseIdx j = ns.erase k
  | [], k, h => by cases h
  | x :: ns, k, h => by
    by_cases hx : x = k
    · subst hx
      exact ⟨0, rfl, fun m hm => by omega, by simp⟩
    · have hm : k ∈ ns := by
        rcases List.mem_cons.mp h with rfl | h
        · exact absurd rfl hx
        · exact h
      obtain ⟨j, h1, h2, h3⟩ := erase_at ns k hm
      refine ⟨j + 1, h1, fun m hm' => ?_, ?_⟩
      · cases m with
        | zero => intro z; exact hx (Option.some.inj z)
        | succ m => exact h2 m (by omega)
      · rw [List.eraseIdx_cons_succ, h3, List.erase_cons_tail (by simpa using hx)]
theorem s_remove (hK : C.K = X.K) (ho : PE X o (tPl C.K Δ (.lst .dat) pl)) (he : PE X e (tG C.K Δ C.W (rDp C.K) m)) (hbase : attributeBase o "remove" X.env (eval o X.env) = eval o X.env := by rfl)
    (hline : (apos.endLine == p.line) = true := by rfl) (hs : starEach [e] X.env = (false, eval e X.env) :: starEach [] X.env := by rfl) (hsw : swapsWith (.Call (.Attribute o "remove" apos) [e] [] p) none pos.line X.env = pure false := by rfl)
    (hfew : ((backTo p (starEach [e] X.env)).all (fun x => !x.1) && (backToKw p (keywordEach [] X.env)).all (fun x => x.1.isSome) && decide (([e] : List Expr).length + ([] : List Keyword).length + (if ([] : List Keyword).isEmpty then 0 else 1) < 30)) = true := by rfl) :
    PS X (.Expr (.Call (.Attribute o "remove" apos) [e] [] p) pos) (tS C Δ Δ (sM1 pl remO m)) := by
  refine ps_mono (ps_expr (pe_bm PySem.F.plainAttrs_list PySem.F.slot_list_remove PySem.F.type_list_remove mt_remove ho (pa_cons he pa_nil hs) hbase hfew hline hs rfl) hsw) fun D σ H h => ?_
  obtain ⟨F0, B, F, ρ, E, p⟩ := h
  unfold tDrop tBM
  refine pl_postS E p fun d v fp e0 ow f u p0 => ?_
  obtain ⟨l, vs, ds, fq, rfl, rfl, hl, ol, rfl⟩ := ow
  obtain ⟨dq, _⟩ := dat_ownL ol
  refine ⟨.inl ⟨rfl, _, SqL.of hl⟩, stepS (r := rDp C.K) E p0 fun y w F1 H1 g q E1 p1 => ?_⟩
  cases y with
  | int k =>
    cases e1 : intsD ds with
    | none =>
      replace p1 : PostS C Δ F0 B D (match ((intsD ds).bind fun ns => if k ∈ ns then some (PyData.list ((ns.erase k).map .int)) else none) with | some d' => .nx (pl.set ρ d') | none => .stuck) := p1
      rw [e1] at p1; exact p1.elim
    | some ns =>
      replace p1 : PostS C Δ F0 B D (match ((intsD ds).bind fun ns => if k ∈ ns then some (PyData.list ((ns.erase k).map .int)) else none) with | some d' => .nx (pl.set ρ d') | none => .stuck) := p1
      rw [e1, Option.bind_some] at p1
      have ev := intsD_dq dq e1
      subst ev
      have hw : w = V.int k := by cases q; rfl
      subst hw
      by_cases hm : k ∈ ns
      · rw [if_pos hm] at p1
        obtain ⟨j, h1, h2, h3⟩ := erase_at ns k hm
        refine ⟨l, ns, k, j, rfl, rfl, g.2.2.1 _ _ hl, h1, h2, ?_⟩
        rw [h3]
        exact p1 σ F1 _ ⟨up_lst E1.e.eF (f.gw g) (u.gw g) (dqs_int _), E1.sh, E1.ok⟩
      · rw [if_neg hm] at p1; exact p1.elim
  | _ => exact p1.elim
end
end Pc

set_option maxRecDepth 100000
set_option maxHeartbeats 4000000
namespace Pc
open PySem PySem.Spec PyProof.Rows L2
open Evl (Ex)
/-! ### lists made one by one from a source with an effect -/
theorem lc_core {K : PySem.W.Frag} {Δ : Nat → Sh} {W : WX} {vs : List Nat} {bd : DD → En → Option En} {cond : En → P Bool} {elt : En → P DD} {F0 B F1 H1 : Hp} {σ : L2.St} {ρ : En} {J : It} {ds : List DD} {Q : VK} (E1 : EnvOk K Δ F0 B F1 H1 σ ρ) (wk : WalkV K F1 H1 J ds)
    (p1 : PostG K W (rNew K (.lst .dat)) σ F1 H1 (if ds.length ≤ LIM then (lcG bd cond elt (wipeE ρ vs) ds).bind fun ys => .ok (.list ys) else .stuck) Q) :
    tLc (fun _ H R => R J H) (tB K Δ vs bd) (tG K Δ noW rBl cond) (tG K Δ noW (rDp K) elt) vs σ H1 Q := by
  intro Dd hD
  by_cases hlim : ds.length ≤ LIM
  case neg => rw [if_neg hlim] at p1; exact p1.elim
  rw [if_pos hlim] at p1
  cases et : lcG bd cond elt (wipeE ρ vs) ds with
  | exc c =>
    exfalso
    have : ∀ xs : List DD, lcG bd cond elt (wipeE ρ vs) xs ≠ .exc c := fun xs => by
      induction xs with
      | nil => intro z; cases z
      | cons x xs ih =>
        intro z
        unfold lcG at z
        split at z
        · cases z
        · split at z
          · split at z
            · cases q : lcG bd cond elt (wipeE ρ vs) xs with
              | ok _ => rw [q] at z; cases z
              | exc _ => rw [q] at z; cases z; exact ih q
              | stuck => rw [q] at z; cases z
            · cases z
          · exact ih z
          · cases z
    exact this ds et
  | stuck => rw [et] at p1; exact p1.elim
  | ok tot =>
    rw [et] at p1
    refine ⟨fun i m H' => m = ds.length - i ∧ i ≤ ds.length ∧ ∃ F' accV accD rest, Gw F1 H1 F' H' ∧ F' Dd = none ∧ H' Dd = some (.lst accV) ∧ DqAll K F' accV accD ∧ lcG bd cond elt (wipeE ρ vs) (ds.drop i) = .ok rest ∧ tot = accD ++ rest ∧ accD.length ≤ i,
      ⟨_, rfl, Nat.zero_le _, F1, [], [], tot, .own E1.eF hD, none_of_ex E1.eF hD, upd_same, .nil, et, rfl, Nat.le_refl _⟩, ?_⟩
    rintro i m H' ⟨rfl, hi, F', accV, accD, rest, g', hF, hH, dq, eR, eT, hacc⟩
    by_cases hlt : i < ds.length
    · refine .inr ?_
      obtain ⟨wi, _⟩ := wk i F' H' g'
      have hdi : ds[i]? = some ds[i] := List.getElem?_eq_getElem hlt
      obtain ⟨go, yl⟩ := wi _ hdi
      refine ⟨go, _, fun H2 z => ⟨ds.length - (i + 1), by omega, rfl, hlt, z⟩, fun x H2 y => ?_⟩
      obtain ⟨F2, g2, dx⟩ := yl x H2 y
      have gA := g'.trans g2
      have hF2 : F2 Dd = none := g2.2.2.2 Dd (by rw [hH]; exact fun z => nomatch z) hF
      have hH2 : H2 Dd = some (.lst accV) := g2.2.2.1 _ _ hH
      rw [drop_get hdi] at eR
      unfold lcG at eR
      cases eb : bd ds[i] (wipeE ρ vs) with
      | none => rw [eb] at eR; cases eR
      | some ρ1 =>
        rw [eb] at eR
        dsimp only at eR
        refine ⟨F0, B, F2, wipeE ρ vs, ds[i], ρ1, (E1.gw gA).wipe vs, dx, eb, fun σ2 S2 E2 => ⟨wipe_same S2, F0, B, F2, ρ1, E2, ?_⟩⟩
        cases ec : cond ρ1 with
        | exc c => rw [ec] at eR; cases eR
        | stuck => rw [ec] at eR; cases eR
        | ok t =>
          rw [ec] at eR
          intro t' F3 H3 g3 ht
          cases ht
          have hF3 : F3 Dd = none := g3.2.2.2 Dd (by rw [hH2]; exact fun z => nomatch z) hF2
          have hH3 : H3 Dd = some (.lst accV) := g3.2.2.1 _ _ hH2
          cases t with
          | false => exact ⟨F3, accV, accD, rest, gA.trans g3, hF3, hH3, dq.mn (g2.1.trans g3.1), eR, eT, by omega⟩
          | true =>
            show tG K Δ noW (rDp K) elt σ2 H3 _
            refine ⟨F0, B, F3, ρ1, E2.gw g3, ?_⟩
            dsimp only at eR
            cases ee : elt ρ1 with
            | exc c => rw [ee] at eR; cases eR
            | stuck => rw [ee] at eR; cases eR
            | ok yd =>
              rw [ee] at eR
              dsimp only at eR
              intro y4 F4 H4 g4 dy
              have hF4 : F4 Dd = none := g4.2.2.2 Dd (by rw [hH3]; exact fun z => nomatch z) hF3
              have hH4 : H4 Dd = some (.lst accV) := g4.2.2.1 _ _ hH3
              refine ⟨accV, hH4, by rw [lim_eq, dq.len]; omega, ?_⟩
              have gB := (gA.trans g3).trans g4
              cases er : lcG bd cond elt (wipeE ρ vs) (ds.drop (i + 1)) with
              | exc c => rw [er] at eR; cases eR
              | stuck => rw [er] at eR; cases eR
              | ok ys =>
                rw [er] at eR
                cases eR
                refine ⟨F4, accV ++ [y4], accD ++ [yd], ys, ⟨gB.1, fun b u hb => ?_, fun b u hb => ?_, gB.2.2.2⟩, hF4, upd_same, (dq.mn ((g2.1.trans g3.1).trans g4.1)).app (.one dy), rfl, by rw [eT]; simp, by simp; omega⟩
                · rw [upd_ne (fun z => by rw [z, hF4] at hb; cases hb)]; exact gB.2.1 b u hb
                · rw [upd_ne (fun z => by rw [z, hD] at hb; cases hb)]; exact gB.2.2.1 b u hb
    · have hi' : i = ds.length := by omega
      subst hi'
      refine .inl ⟨(wk ds.length F' H' g').2 (Nat.le_refl _), ?_⟩
      rw [List.drop_length] at eR
      cases eR
      rw [List.append_nil] at eT
      subst eT
      refine p1 _ F' H' g' ⟨[Dd], ⟨Dd, accV, tot, [], rfl, rfl, hH, ownL_dat dq, rfl⟩, by simp, fun a ha => ?_⟩
      have ea : a = Dd := by simpa using ha
      subst ea
      exact ⟨hF, hD, by rw [hH]; exact fun z => nomatch z⟩
def fWF (K : PySem.W.Frag) : Rf It (List DD) := ⟨fun F J ds => WalkF K F J ds, fun e h => by
  intro i F' H' e1 e2
  exact h i F' H' (e.trans e1) e2⟩
def lcX (src : En → R (List DD)) (vs : List Nat) (bd : DD → En → Option En) (cond : En → P Bool) (elt : En → P DD) : En → R DD := fun ρ => (src ρ).bind fun xs ρ => if xs.length ≤ LIM then (match lcG bd cond elt (wipeE ρ vs) xs with
  | .ok ys => .ok (.list ys) ρ
  | _ => .stuck) else .stuck
def iLX (x : En → R DD) : En → R (List DD) := fun ρ => (x ρ).bind fun d ρ => match d with
  | .list xs => .ok xs ρ
  | _ => .stuck
section
variable {X : Cx} {C : Ct} {Δ : Nat → Sh} {W : WX} {e elt tg iter : Expr} {ifs : List Expr} {scope : Scope} {pos : Pos} {src : En → R (List DD)} {x : En → R DD} {vs : List Nat} {bd : DD → En → Option En} {cond : En → P Bool} {me : En → P DD}
theorem di_listX (h : PE X e (tX X.K Δ W (fDp X.K) x)) : PI X tg e (tX X.K Δ W (fWF X.K) (iLX x)) := by
  refine pi_mono (pi_list h) fun σ H Q h => ?_
  obtain ⟨F0, B, F, ρ, E, p⟩ := h
  refine ⟨F0, B, F, ρ, E, ?_⟩
  unfold iLX at p
  cases z : x ρ with
  | stuck => rw [z] at p; exact p
  | exc c ρ1 => rw [z] at p; exact p
  | ok d ρ1 =>
    rw [z, rbind_ok] at p
    intro v F1 H1 E1 q
    cases d with
    | list ds =>
      cases q with
      | lst s t => exact ⟨_, rfl, ⟨_, SqL.of (E1.eF _ _ s)⟩, p _ F1 H1 E1 (walk_lst (H := H1) s t)⟩
    | _ => exact p.elim
theorem lcX_of (σ : L2.St) (H : Hp) (Q : VK) (h : tX X.K Δ W (fDp X.K) (lcX src vs bd cond me) σ H Q) : tLc (tX X.K Δ W (fWF X.K) src) (tB X.K Δ vs bd) (tG X.K Δ noW rBl cond) (tG X.K Δ noW (rDp X.K) me) vs σ H Q := by
  obtain ⟨F0, B, F, ρ, E, p⟩ := h
  refine ⟨F0, B, F, ρ, E, ?_⟩
  unfold lcX at p
  cases z : src ρ with
  | stuck => rw [z] at p; exact p
  | exc c ρ1 => rw [z] at p; exact p
  | ok ds ρ1 =>
    rw [z, rbind_ok] at p
    intro J F1 H1 E1 wk
    refine lc_core (W := W) E1 (WalkF.v wk) ?_
    by_cases hlim : ds.length ≤ LIM
    · rw [if_pos hlim] at p ⊢
      cases z2 : lcG bd cond me (wipeE ρ1 vs) ds with
      | stuck => rw [z2] at p; exact p
      | exc c => rw [z2] at p; exact p.elim
      | ok ys =>
        rw [z2] at p
        intro v F2 H2 g q
        obtain ⟨F3, g3, dq⟩ := frz_lst g q
        exact p v F3 H2 (E1.gw g3) dq
    · rw [if_neg hlim] at p; exact p.elim
/-- [.. for .. in f()], as data -/
theorem x_lc (own : List (Str × Nat)) (hc : X.calm = true) (hN : X.N.Nodup) (hi : PI X tg iter (tX X.K Δ W (fWF X.K) src)) (ok : BlkOk X.N X.env.scope scope own)
    (hg : ∀ (s : Shared) (H : Hp) (Cc : Addr) (cl : List (Str × Addr)) (fp : List Addr), PG (X.blk s H scope (compEnvC scope cl Cc X.env) fp) tg (tB X.K Δ (own.map (·.2)) bd)) (ht : ∀ (s : Shared) (H : Hp) (Cc : Addr) (cl : List (Str × Addr)) (fp : List Addr), PTs (X.blk s H scope (compEnvC scope cl Cc X.env) fp) ifs (tG X.K Δ noW rBl cond))
    (he : ∀ (s : Shared) (H : Hp) (Cc : Addr) (cl : List (Str × Addr)) (fp : List Addr), PE (X.blk s H scope (compEnvC scope cl Cc X.env) fp) elt (tG X.K Δ noW (rDp X.K) me)) (hs : ∀ x, foldedSetIterable iter X.env x = pure x := by intro _; rfl) :
    PE X (.ListComp elt [⟨tg, iter, ifs, 0⟩] scope pos) (tX X.K Δ W (fDp X.K) (lcX src (own.map (·.2)) bd cond me)) := pe_mono (pe_lc hc hN hi ok hg ht he hs) lcX_of
/-- y = [.. for .. in f()], y a list of one's own -/
theorem s_newLcX {i : Nat} {y : Str} {py spos : Pos} (own : List (Str × Nat)) (hK : C.K = X.K) (hc : X.calm = true) (hN : X.N.Nodup) (hi : PI X tg iter (tX X.K Δ C.W (fWF X.K) src)) (ok : BlkOk X.N X.env.scope scope own)
    (hg : ∀ (s : Shared) (H : Hp) (Cc : Addr) (cl : List (Str × Addr)) (fp : List Addr), PG (X.blk s H scope (compEnvC scope cl Cc X.env) fp) tg (tB X.K Δ (own.map (·.2)) bd)) (ht : ∀ (s : Shared) (H : Hp) (Cc : Addr) (cl : List (Str × Addr)) (fp : List Addr), PTs (X.blk s H scope (compEnvC scope cl Cc X.env) fp) ifs (tG X.K Δ noW rBl cond))
    (he : ∀ (s : Shared) (H : Hp) (Cc : Addr) (cl : List (Str × Addr)) (fp : List Addr), PE (X.blk s H scope (compEnvC scope cl Cc X.env) fp) elt (tG X.K Δ noW (rDp X.K) me))
    (hsw : swapsWith (.ListComp elt [⟨tg, iter, ifs, 0⟩] scope pos) (some (.Name y py)) spos.line X.env = pure true)
    (hd : Δ i = .lst .dat := by rfl) (hy : X.N[i]? = some y := by rfl) (hyl : X.env.scope.names.lookup y = some .local := by rfl) (hs : ∀ x, foldedSetIterable iter X.env x = pure x := by intro _; rfl) :
    PS X (.Assign [.Name y py] (.ListComp elt [⟨tg, iter, ifs, 0⟩] scope pos) spos) (tS C Δ Δ (sSetX i (lcX src (own.map (·.2)) bd cond me))) := by
  refine ps_mono (ps_setLc hc hN hy hyl hsw hi ok hg ht he hs) fun D σ H h => ?_
  obtain ⟨F0, B, F, ρ, E, p⟩ := h
  have p := p.up E.e.e0 E.e.lim
  show tLc (tX X.K Δ C.W (fWF X.K) src) _ _ _ _ σ H _
  rw [← hK]
  refine ⟨F, B, F, ρ, E.e.base, ?_⟩
  replace p : PostS C Δ F B D (liftX ((src ρ).bind fun xs ρ => if xs.length ≤ LIM then (match lcG bd cond me (wipeE ρ (own.map (·.2))) xs with
    | .ok ys => .ok (.list ys) ρ
    | _ => .stuck) else .stuck) fun d ρ => .nx (ρ.set i (some d))) := p
  cases z : src ρ with
  | stuck => rw [z] at p; exact p
  | exc c ρ1 => rw [z] at p; exact fun F1 H1 E1 => p Δ σ F1 H1 ⟨E1, E.sh, E.ok⟩
  | ok ds ρ1 =>
    rw [z, rbind_ok] at p
    intro J F1 H1 E1 wk
    refine (show tLc (fun _ H R => R J H) (tB C.K Δ (own.map (·.2)) bd) (tG C.K Δ noW rBl cond) (tG C.K Δ noW (rDp C.K) me) (own.map (·.2)) σ H1 (fun x H1 => D.nx (σ.set i (some x)) H1) from lc_core (W := C.W) E1 (WalkF.v wk) ?_)
    by_cases hlim : ds.length ≤ LIM
    · rw [if_pos hlim] at p ⊢
      cases z2 : lcG bd cond me (wipeE ρ1 (own.map (·.2))) ds with
      | stuck => rw [z2] at p; exact p
      | exc c => rw [z2] at p; exact p.elim
      | ok ys =>
        rw [z2] at p
        intro v F2 H2 g q
        exact p _ F2 H2 ⟨E1.setNew (i := i) g (by rw [hd]; exact q), E.sh, E.ok⟩
    · rw [if_neg hlim] at p; exact p.elim
end
end Pc

set_option maxRecDepth 100000
set_option maxHeartbeats 4000000
namespace Pc
open PySem PySem.Spec PyProof.Rows L2
open Evl (Ex)
/-! ### records: dicts of one's own with texts as keys -/
theorem mid_chg {F B H F' H' : Hp} {a b fp fq : List Addr} (c : Chg F H F' H' fp fq) (f : Fp F B H (a ++ (fp ++ b))) :
    Chg F H F' H' (a ++ (fp ++ b)) (a ++ (fq ++ b)) ∧ ∀ x, x ∉ fp → x ∈ a ++ (fp ++ b) → H' x = H x := by
  have stay : ∀ x, x ∉ fp → x ∈ a ++ (fp ++ b) → H' x = H x ∧ F' x = none := fun x h1 h2 => by
    obtain ⟨q1, _, q3⟩ := f.off x h2
    obtain ⟨z1, z2⟩ := c.off x h1 q3
    exact ⟨z1, z2 q1⟩
  have inn : ∀ x ∈ fp, x ∈ a ++ (fp ++ b) := fun x hx => List.mem_append_right _ (List.mem_append_left _ hx)
  have fresh : ∀ x ∈ fq, x ∈ fp ∨ (x ∉ a ∧ x ∉ b) := fun x hx => by
    rcases (c.new x hx).2.2 with z | z
    · exact .inl z
    · exact .inr ⟨fun y => (f.off x (List.mem_append_left _ y)).2.2 z, fun y => (f.off x (List.mem_append_right _ (List.mem_append_right _ y))).2.2 z⟩
  have nd2 := nodup_swap f.nd c.nd fresh
  have hm := (nodup_mid f.nd).2
  refine ⟨⟨c.eF, c.eH, fun x h1 h2 => c.off x (fun z => h1 (inn x z)) h2, nd2, fun x hx => ?_⟩, fun x h1 h2 => (stay x h1 h2).1⟩
  by_cases hq : x ∈ fq
  · obtain ⟨z1, z2, z3⟩ := c.new x hq
    exact ⟨z1, z2, z3.imp (inn x) id⟩
  · have hx2 : x ∈ a ∨ x ∈ b := by
      rcases List.mem_append.mp hx with z | z
      · exact .inl z
      · rcases List.mem_append.mp z with z | z
        · exact absurd z hq
        · exact .inr z
    have hf : x ∉ fp := fun z => hx2.elim (fun y => (hm x z).1 y) fun y => (hm x z).2 y
    have hw : x ∈ a ++ (fp ++ b) := hx2.elim (List.mem_append_left _) fun z => List.mem_append_right _ (List.mem_append_right _ z)
    obtain ⟨z1, z2⟩ := stay x hf hw
    exact ⟨z2, by rw [z1]; exact (f.off x hw).2.2, .inl hw⟩
theorem kset_chg {F B H F1 H1 : Hp} {l : Addr} {o : HO} {fl fp fr fq : List Addr} (g : Gw F H F1 H1) (f : Fp F B H (l :: (fl ++ (fp ++ fr)))) (nd' : fq.Nodup) (q : ∀ a ∈ fq, F1 a = none ∧ H a = none ∧ H1 a ≠ none) :
    Chg F H F1 (upd H1 l o) (l :: (fl ++ (fp ++ fr))) (l :: (fl ++ (fq ++ fr))) := by
  have hl := f.off l List.mem_cons_self
  have nd : ((l :: fl) ++ (fp ++ fr)).Nodup := f.nd
  have hF : ∀ x ∈ l :: (fl ++ (fp ++ fr)), F1 x = none ∧ H1 x = H x := fun x hx => ⟨g.2.2.2 x (f.off x hx).2.2 (f.off x hx).1, ex_eq g.2.2.1 (f.off x hx).2.2⟩
  have nn : ∀ x, H1 x ≠ none → upd H1 l o x ≠ none := fun x hx => by
    by_cases z : x = l
    · subst z; rw [upd_same]; exact (fun z => nomatch z)
    · rw [upd_ne z]; exact hx
  have out : ∀ x ∈ fq, x ∉ l :: (fl ++ (fp ++ fr)) := fun x hx z => (f.off x z).2.2 (q x hx).2.1
  refine ⟨g.1, fun b u hb => ?_, fun a h1 h2 => ⟨?_, fun z => g.2.2.2 a h2 z⟩, ?_, fun x hx => ?_⟩
  · rw [upd_ne fun z => by rw [z, (hF l List.mem_cons_self).1] at hb; cases hb]; exact g.2.1 b u hb
  · rw [upd_ne fun (z : a = l) => h1 (by rw [z]; exact List.mem_cons_self)]; exact ex_eq g.2.2.1 h2
  · exact nodup_swap nd nd' fun x hx => .inr ⟨fun z => out x hx (List.mem_append_left (fp ++ fr) z), fun z => out x hx (List.mem_append_right (l :: fl) (List.mem_append_right fp z))⟩
  · by_cases hq : x ∈ fq
    · exact ⟨(q x hq).1, nn x (q x hq).2.2, .inr (q x hq).2.1⟩
    · have hw : x ∈ l :: (fl ++ (fp ++ fr)) := by
        simp only [List.mem_cons, List.mem_append] at hx ⊢
        rcases hx with z | z | z | z
        · exact .inl z
        · exact .inr (.inl z)
        · exact absurd z hq
        · exact .inr (.inr (.inr z))
      exact ⟨(hF x hw).1, nn x (by rw [(hF x hw).2]; exact (f.off x hw).2.2), .inl hw⟩
def kvF (fvs : List (Str × V)) : List (Key × V) := fvs.map fun q => (Sum.inr q.1, q.2)
theorem kvF_val (n : Str) : ∀ fvs : List (Str × V), valV (kvF fvs) (.inr n) = fvs.lookup n
  | [] => rfl
  | (k, v) :: r => by
    show valV ((Sum.inr k, v) :: kvF r) (.inr n) = _
    by_cases h : k = n
    · subst h; rw [valV_pos rfl, lookup_pos]
    · rw [valV_neg (fun z => h (Sum.inr.inj z)), lookup_neg h, kvF_val n r]
theorem kvF_len (fvs : List (Str × V)) : (kvF fvs).length = fvs.length := List.length_map _
theorem kvF_none {n : Str} {v : V} : ∀ {fvs : List (Str × V)}, (fvs.filter fun q => decide (q.1 = n)).length = 0 → (kvF fvs).map (fun kv => if kv.1 = .inr n then (kv.1, v) else kv) = kvF fvs ∧ ((kvF fvs).any fun kv => decide (kv.1 = .inr n)) = false ∧ putF n v fvs = fvs ++ [(n, v)]
  | [], _ => ⟨rfl, rfl, rfl⟩
  | (k, x) :: r, h => by
    by_cases e : k = n
    · subst e
      rw [List.filter_cons, if_pos (by simp)] at h
      cases h
    · rw [List.filter_cons, if_neg (by simp [e])] at h
      obtain ⟨h1, h2, h3⟩ := kvF_none (v := v) h
      have ne : ¬ ((Sum.inr k : Key) = .inr n) := fun z => e (Sum.inr.inj z)
      refine ⟨?_, ?_, ?_⟩
      · show (if (Sum.inr k : Key) = .inr n then _ else _) :: _ = _
        rw [if_neg ne]
        exact congrArg _ h1
      · show (decide ((Sum.inr k : Key) = .inr n) || _) = false
        rw [decide_eq_false ne]
        exact h2
      · show (if k = n then _ else _) = _
        rw [if_neg e, h3]
        rfl
theorem kvF_put {n : Str} {v : V} : ∀ {fvs : List (Str × V)}, (fvs.filter fun q => decide (q.1 = n)).length ≤ 1 → putK (kvF fvs) (.inr n) v = kvF (putF n v fvs)
  | [], _ => rfl
  | (k, x) :: r, h => by
    by_cases e : k = n
    · subst e
      rw [List.filter_cons, if_pos (by simp), List.length_cons] at h
      obtain ⟨h1, _, _⟩ := kvF_none (v := v) (fvs := r) (n := k) (by omega)
      show (if ((kvF ((k, x) :: r)).any fun kv => decide (kv.1 = .inr k)) = true then (kvF ((k, x) :: r)).map (fun kv => if kv.1 = .inr k then (kv.1, v) else kv) else _) = _
      rw [if_pos (by show (decide ((Sum.inr k : Key) = .inr k) || _) = true; rw [decide_eq_true rfl]; rfl)]
      show (if (Sum.inr k : Key) = .inr k then _ else _) :: _ = kvF (if k = k then _ else _)
      rw [if_pos rfl, if_pos rfl]
      exact congrArg _ h1
    · rw [List.filter_cons, if_neg (by simp [e])] at h
      have ih := kvF_put (v := v) h
      have ne : ¬ ((Sum.inr k : Key) = .inr n) := fun z => e (Sum.inr.inj z)
      have e2 : kvF (putF n v ((k, x) :: r)) = (Sum.inr k, x) :: kvF (putF n v r) := by
        show kvF (if k = n then _ else _) = _
        rw [if_neg e]; rfl
      rw [e2, ← ih]
      unfold putK
      have e3 : ((kvF ((k, x) :: r)).any fun kv => decide (kv.1 = .inr n)) = ((kvF r).any fun kv => decide (kv.1 = .inr n)) := by
        show (decide ((Sum.inr k : Key) = .inr n) || _) = _
        rw [decide_eq_false ne]; rfl
      rw [e3]
      split
      · show (if (Sum.inr k : Key) = .inr n then _ else _) :: _ = _
        rw [if_neg ne]; rfl
      · rfl
def okR (n : Str) (kds : List (DD × DD)) : Bool := decide ((kds.filter fun q => kIs q.1 (.inr n)).length ≤ 1) && decide (kds.length < 1000)
theorem OwnF.cnt {R : Str → V → DD → List Addr → Prop} {fvs : List (Str × V)} {kds : List (DD × DD)} {fq : List Addr} (n : Str) (h : OwnF R fvs kds fq) : (fvs.filter fun q => decide (q.1 = n)).length = (kds.filter fun q => kIs q.1 (.inr n)).length := by
  induction h with
  | nil => rfl
  | @cons k v d fp vs ds fq a t ih =>
    rw [List.filter_cons, List.filter_cons]
    show (if decide (k = n) = true then _ else _ : List (Str × V)).length = (if decide (k = n) = true then _ else _ : List (DD × DD)).length
    split
    · rw [List.length_cons, List.length_cons, ih]
    · exact ih
/-- one entry set -/
theorem kset_step {K : PySem.W.Frag} {Δ : Nat → Sh} {F0 B F H F1 H1 : Hp} {σ : L2.St} {sh : Str → Sh} {n : Str} {v y : V} {dv d : DD} {fp : List Addr} {g : DD → En} (ow : Own K F H (.rcd sh) v d fp) (f : Fp F B H fp) (u : UpdOk K Δ F0 B F H σ (.rcd sh) v fp g) (w : Gw F H F1 H1) (q : (rNew K (sh n)).r H F1 H1 y dv) {kds : List (DD × DD)} (hd : d = .dict kds) (hz : okR n kds = true) :
    ∃ l kvs, v = .ref l ∧ H1 l = some (.dK kvs) ∧ kvs.length < sizeLine ∧ EnvOk K Δ F0 B F1 (upd H1 l (.dK (putK kvs (.inr n) y))) σ (g (.dict (putFD n dv kds))) ∧ H l ≠ none ∧ F l = none := by
  obtain ⟨l, fvs, kds', fq, rfl, rfl, hl, of_, rfl⟩ := ow
  cases hd
  obtain ⟨z1, z2⟩ := Bool.and_eq_true_iff.mp hz
  have z1 := of_decide_eq_true z1
  have z2 := of_decide_eq_true z2
  refine ⟨l, kvF fvs, rfl, w.2.2.1 _ _ hl, by rw [kvF_len, of_.len, sizeLine_eq]; omega, ?_, (f.off l List.mem_cons_self).2.2, (f.off l List.mem_cons_self).1⟩
  rw [kvF_put (by rw [of_.cnt n]; exact z1)]
  obtain ⟨fl, fp0, fr, rfl, h4⟩ := of_.put n
  obtain ⟨fp', ow', nd', q'⟩ := q
  obtain ⟨n1, n2⟩ := List.nodup_cons.mp f.nd
  have hl' := f.off l List.mem_cons_self
  have hn : ∀ x, x ∈ fl ∨ x ∈ fr → x ≠ l ∧ H x ≠ none := fun x hx => by
    have hx2 : x ∈ fl ++ (fp0 ++ fr) := hx.elim (List.mem_append_left _) fun z => List.mem_append_right _ (List.mem_append_right _ z)
    exact ⟨fun z => n1 (z ▸ hx2), (f.off x (List.mem_cons_of_mem _ hx2)).2.2⟩
  refine u F1 _ _ _ (kset_chg (o := .dK (kvF (putF n y fvs))) w f nd' q') ⟨l, putF n y fvs, _, _, rfl, rfl, by rw [upd_same]; rfl, ?_, rfl⟩
  refine h4 (fun k => Own K F1 _ (sh k)) y dv fp' (fun k v d fz hs r => own_fields w hn k v d fz hs r) ?_
  exact Own.stay (sh n) y dv fp' (Ex.refl _) (fun x hx => upd_ne fun z => hl'.2.2 (z ▸ (q' x hx).2.1)) ow'
def sKset (pl : Pl) (n : Str) (mv : En → P DD) : En → Fl := fun ρ => liftP (mv ρ) ρ fun v => liftP (mPl pl ρ) ρ fun o => match o with
  | .dict kds => if okR n kds = true then .nx (pl.set ρ (.dict (putFD n v kds))) else .stuck
  | _ => .stuck
def sKsetX (pl : Pl) (n : Str) (x : En → R DD) : En → Fl := fun ρ => liftX (x ρ) fun v ρ => liftP (mPl pl ρ) ρ fun o => match o with
  | .dict kds => if okR n kds = true then .nx (pl.set ρ (.dict (putFD n v kds))) else .stuck
  | _ => .stuck
def sKaug (pl : Pl) (n : Str) (mv : En → P DD) : En → Fl := fun ρ => liftP (mPl (plF pl n) ρ) ρ fun x => liftP (mv ρ) ρ fun y => match addIO x y with
  | some z => (match pl.get ρ with
    | some (.dict kds) => if okR n kds = true then .nx (pl.set ρ (.dict (putFD n z kds))) else .stuck
    | _ => .stuck)
  | none => .stuck
theorem new_dat {K : PySem.W.Frag} {H F H' : Hp} {v : V} {d : DD} (q : Dq K F v d) : (rNew K .dat).r H F H' v d := ⟨[], ⟨q, rfl⟩, List.nodup_nil, fun _ h => (List.not_mem_nil h).elim⟩
section
variable {X : Cx} {C : Ct} {Δ Δ' : Nat → Sh} {W : WX} {e a b c o i value : Expr} {es : List Expr} {pos p p2 apos pos' : Pos} {m ma mb mi mv : En → P DD} {r : Rs V DD} {ml : En → P (List DD)} {s : Sh} {pl : Pl} {sh : Str → Sh} {n : Str} {j : Nat}
/-- o["n"], a place within a place -/
theorem pl_key (hu : X.A.units + 64 < cLine) (ho : PE X o (tPl X.K Δ (.rcd sh) pl)) (hd : sh n = s := by rfl) (hs : NoSl (.Constant (.str n) j p2) := by exact fun _ _ => rfl) : PE X (.Subscript o (.Constant (.str n) j p2) pos) (tPl X.K Δ s (plF pl n)) := by
  subst hd
  refine pe_mono (pe_dget (by omega) ho pe_str hs) fun σ H Q h => ?_
  obtain ⟨F0, B, F1, H1, F, ρ, E, gw, d, e, q⟩ := h
  obtain ⟨od, e1, e2⟩ := Option.bind_eq_some_iff.mp (show (pl.get ρ).bind (fldO n) = some d from e)
  refine ⟨F0, B, F1, H1, F, ρ, E, gw, od, e1, fun v fp ow f u => ?_⟩
  obtain ⟨l, fvs, kds, fq, rfl, rfl, hl, of_, rfl⟩ := ow
  obtain ⟨v, fl, fp, fr, h1, h2, rfl, h4⟩ := OwnF.split of_ e2
  have nd : ((l :: fl) ++ (fp ++ fr)).Nodup := f.nd
  obtain ⟨n5, n6⟩ := nodup_mid nd
  have hin : ∀ x ∈ fp, x ∈ l :: (fl ++ (fp ++ fr)) := fun x hx => List.mem_cons_of_mem _ (List.mem_append_right _ (List.mem_append_left _ hx))
  refine ⟨l, v, rfl, ?_, q v fp h2 ⟨n5, fun x hx => f.off x (hin x hx)⟩ fun F' H' d' fq c o' => ?_⟩
  · have z := DGet.k (H := H) (a := l) (kvs := kvF fvs) (k := .inr n) (gw.2.2.1 _ _ hl)
    rw [kvF_val, h1] at z
    exact z
  have hset : (plF pl n).set ρ d' = pl.set ρ (.dict (putFD n d' kds)) := by
    show (match pl.get ρ with | some o => pl.set ρ (fputO n o d') | none => ρ) = _
    rw [e1]
    rfl
  rw [hset]
  have hlfp : l ∉ fp := fun z => (n6 l z).1 List.mem_cons_self
  obtain ⟨w1, w2⟩ := mid_chg (a := l :: fl) (b := fr) c f
  exact u F' H' _ _ w1 ⟨l, fvs, _, _, rfl, rfl, (w2 l hlfp List.mem_cons_self).trans hl,
    h4 (fun k => Own X.K F' H' (sh k)) d' fq (fun k v d fz hs r => Own.stay (sh k) v d fz c.eF (fun x hx => w2 x (fun z => by
      rcases hs x hx with y | y
      · exact (n6 x z).1 (List.mem_cons_of_mem _ y)
      · exact (n6 x z).2 y) (by
      rcases hs x hx with y | y
      · exact List.mem_append_left _ (List.mem_cons_of_mem _ y)
      · exact List.mem_append_right _ (List.mem_append_right _ y))) r) o', rfl⟩
/-- o["n"] = something new -/
theorem s_knew (hK : C.K = X.K) (hu : X.A.units + 64 < cLine) (ho : PE X o (tPl C.K Δ (.rcd sh) pl)) (hv : PE X value (tG C.K Δ C.W (rNew C.K s) mv)) (hd : sh n = s := by rfl) (hs : swapsWith value (some (.Subscript o (.Constant (.str n) j p2) pos')) pos.line X.env = pure false := by rfl) :
    PS X (.Assign [.Subscript o (.Constant (.str n) j p2) pos'] value pos) (tS C Δ Δ (sKset pl n mv)) := by
  subst hd
  refine ps_mono (ps_dput (by omega) ho pe_str hv hs) fun D σ H h => ?_
  obtain ⟨F0, B, F, ρ, E, p⟩ := h
  refine stepS (r := rNew C.K (sh n)) E p fun dv y F1 H1 g q E1 p1 => pl_postG E g p1 fun d v fp e0 ow f u p2 => ?_
  have ow0 := ow
  obtain ⟨l, fvs, kds, fq, rfl, rfl, hl, of_, rfl⟩ := ow
  replace p2 : PostS C Δ F0 B D (if okR n kds = true then .nx (pl.set ρ (.dict (putFD n dv kds))) else .stuck) := p2
  by_cases hz : okR n kds = true
  · rw [if_pos hz] at p2
    obtain ⟨l', kvs, el, h1, h2, h3, _⟩ := kset_step ow0 f u g q rfl hz
    cases el
    exact ⟨l, _, rfl, DPut.k (k := .inr n) h1 h2, p2 σ F1 _ ⟨h3, E.sh, E.ok⟩⟩
  · rw [if_neg hz] at p2; exact p2.elim
theorem s_kset (hK : C.K = X.K) (hu : X.A.units + 64 < cLine) (ho : PE X o (tPl C.K Δ (.rcd sh) pl)) (hv : PE X value (tG C.K Δ C.W (rDp C.K) mv)) (hd : sh n = .dat := by rfl) (hs : swapsWith value (some (.Subscript o (.Constant (.str n) j p2) pos')) pos.line X.env = pure false := by rfl) :
    PS X (.Assign [.Subscript o (.Constant (.str n) j p2) pos'] value pos) (tS C Δ Δ (sKset pl n mv)) :=
  s_knew hK hu ho (pe_mono hv (tG_weak fun _ _ _ _ _ q => new_dat q)) hd hs
/-- o["n"] = what an effect tells -/
theorem sx_kset {x : En → R DD} (hK : C.K = X.K) (hu : X.A.units + 64 < cLine) (ho : PE X o (tPl C.K Δ (.rcd sh) pl)) (hv : PE X value (tX C.K Δ C.W (fDp C.K) x)) (hd : sh n = .dat := by rfl) (hs : swapsWith value (some (.Subscript o (.Constant (.str n) j p2) pos')) pos.line X.env = pure false := by rfl) :
    PS X (.Assign [.Subscript o (.Constant (.str n) j p2) pos'] value pos) (tS C Δ Δ (sKsetX pl n x)) := by
  refine ps_mono (ps_dput (by omega) ho pe_str hv hs) fun D σ H h => ?_
  obtain ⟨F0, B, F, ρ, E, p⟩ := h
  refine stepX (r1 := fDp C.K) E p fun dv y F1 H1 ρ1 E1 q p1 => ?_
  have g : Gw F1 H1 F1 H1 := .refl E1.e.eF
  refine pl_postG E1 g p1 fun d v fp e0 ow f u p2 => ?_
  have ow0 := ow
  obtain ⟨l, fvs, kds, fq, rfl, rfl, hl, of_, rfl⟩ := ow
  replace p2 : PostS C Δ F B D (if okR n kds = true then .nx (pl.set ρ1 (.dict (putFD n dv kds))) else .stuck) := p2
  by_cases hz : okR n kds = true
  · rw [if_pos hz] at p2
    obtain ⟨l', kvs, el, h1, h2, h3, _⟩ := kset_step (n := n) ow0 f u g (by rw [hd]; exact new_dat q) rfl hz
    cases el
    exact ⟨l, _, rfl, DPut.k (k := .inr n) h1 h2, p2 σ F1 _ ⟨h3, E1.sh, E1.ok⟩⟩
  · rw [if_neg hz] at p2; exact p2.elim
/-- o["n"] += e -/
theorem s_kaug {tpos : Pos} (hK : C.K = X.K) (hu : X.A.units + 64 < cLine) (ho : PE X o (tPl C.K Δ (.rcd sh) pl)) (hv : PE X value (tG C.K Δ C.W (rDp C.K) mv)) (hd : sh n = .dat := by rfl)
    (ha : ∀ ov iv new, augStore (.Constant (.str n) j p2) ov iv new = (do holding [new, ov, iv] (setItem ov iv new); release [new, ov, iv] []; pure .next) := by intro _ _ _; rfl) :
    PS X (.AugAssign (.Subscript o (.Constant (.str n) j p2) tpos) .Add value pos) (tS C Δ Δ (sKaug pl n mv)) := by
  refine ps_mono (ps_daug (by omega) ho pe_str hv in_add ha) fun D σ H h => ?_
  obtain ⟨F0, B, F, ρ, E, p⟩ := h
  replace p : PostS C Δ F0 B D (liftP (P.ofO ((pl.get ρ).bind (fldO n))) ρ fun x => liftP (mv ρ) ρ fun y => match addIO x y with
    | some z => (match pl.get ρ with
      | some (.dict kds) => if okR n kds = true then .nx (pl.set ρ (.dict (putFD n z kds))) else .stuck
      | _ => .stuck)
    | none => .stuck) := p
  cases e0 : pl.get ρ with
  | none => rw [e0] at p; exact p.elim
  | some od =>
    refine ⟨F0, B, F, H, F, ρ, E.e, .refl E.e.eF, od, e0, fun v fp ow f u => ?_⟩
    rw [e0] at p
    have ow0 := ow
    obtain ⟨l, fvs, kds, fq, rfl, rfl, hl, of_, rfl⟩ := ow
    replace p : PostS C Δ F0 B D (liftP (P.ofO (valD kds (.inr n))) ρ fun x => liftP (mv ρ) ρ fun y => match addIO x y with
      | some z => if okR n kds = true then .nx (pl.set ρ (.dict (putFD n z kds))) else .stuck
      | none => .stuck) := p
    cases e1 : valD kds (.inr n) with
    | none => rw [e1] at p; exact p.elim
    | some dn =>
      rw [e1] at p
      obtain ⟨vn, _, _, _, h1, h2, _, _⟩ := OwnF.split of_ e1
      rw [hd] at h2
      have z := DGet.k (H := H) (a := l) (kvs := kvF fvs) (k := .inr n) hl
      rw [kvF_val, h1] at z
      refine ⟨l, vn, rfl, z, stepS (r := rDp C.K) E p fun dy y F1 H1 g q E1 p1 => ?_⟩
      cases dn <;> try (exact p1.elim)
      rename_i i1
      cases dy <;> try (exact p1.elim)
      rename_i i2
      have ev : vn = .int i1 := by
        have z := h2.1
        cases z
        rfl
      subst ev
      cases q
      replace p1 : PostS C Δ F0 B D (if okR n kds = true then .nx (pl.set ρ (.dict (putFD n (.int (i1 + i2)) kds))) else .stuck) := p1
      by_cases hz : okR n kds = true
      · rw [if_pos hz] at p1
        obtain ⟨l', kvs, el, k1, k2, k3, _⟩ := kset_step (n := n) (y := .int (i1 + i2)) (dv := .int (i1 + i2)) ow0 f u g (by rw [hd]; exact new_dat (.int _)) rfl hz
        cases el
        exact ⟨i1, i2, rfl, rfl, _, DPut.k (k := .inr n) k1 k2, p1 σ F1 _ ⟨k3, E1.sh, E1.ok⟩⟩
      · rw [if_neg hz] at p1; exact p1.elim
end
end Pc

set_option maxRecDepth 100000
set_option maxHeartbeats 4000000
namespace Pc
open PySem PySem.Spec PyProof.Rows L2
open Evl (Ex)
/-! ### entries set two and three at once -/
def kput (pl : Pl) (n : Str) (d : DD) (ρ : En) (k : En → Fl) : Fl := match pl.get ρ with
  | some (.dict kds) => if okR n kds = true then k (pl.set ρ (.dict (putFD n d kds))) else .stuck
  | _ => .stuck
def sKpar2 (pl : Pl) (n1 n2 : Str) (ma mb : En → P DD) : En → Fl := fun ρ => liftP (ma ρ) ρ fun a => liftP (mb ρ) ρ fun b => kput pl n1 a ρ fun ρ => kput pl n2 b ρ .nx
def sKpar3 (pl : Pl) (n1 n2 n3 : Str) (ma mb : En → P DD) : En → Fl := fun ρ => liftP (ma ρ) ρ fun a => liftP (mb ρ) ρ fun b => kput pl n1 a ρ fun ρ => kput pl n2 b ρ fun ρ => kput pl n3 (.dict []) ρ .nx
theorem kput_ok {C : Ct} {Δ : Nat → Sh} {F0 B : Hp} {D : Ends} {pl : Pl} {n : Str} {d : DD} {ρ : En} {k : En → Fl} (p : PostS C Δ F0 B D (kput pl n d ρ k)) : ∃ kds, pl.get ρ = some (.dict kds) ∧ okR n kds = true ∧ PostS C Δ F0 B D (k (pl.set ρ (.dict (putFD n d kds)))) := by
  unfold kput at p
  split at p
  · rename_i kds e
    by_cases hz : okR n kds = true
    · rw [if_pos hz] at p; exact ⟨kds, e, hz, p⟩
    · rw [if_neg hz] at p; exact p.elim
  · exact p.elim
theorem gw_upd {F H H' : Hp} {l : Addr} {o : HO} (g : Gw F H F H') (h : H l ≠ none) (f : F l = none) : Gw F (upd H l o) F (upd H' l o) := by
  refine ⟨g.1, fun b u hb => ?_, fun b u hb => ?_, fun a h1 h2 => h2⟩
  · rw [upd_ne (fun z => by rw [z, f] at hb; cases hb)]; exact g.2.1 b u hb
  · by_cases z : b = l
    · subst z; rw [upd_same] at hb ⊢; exact hb
    · rw [upd_ne z] at hb ⊢; exact g.2.2.1 b u hb
/-- one entry set, the heap having grown beside -/
theorem ksub {K : PySem.W.Frag} {Δ : Nat → Sh} {F0 B F Hw H : Hp} {σ : L2.St} {ρ : En} {sh : Str → Sh} {pl : Pl} {n : Str} {y : V} {dv : DD} {kds : List (DD × DD)} {Q : L2.St → Hp → Prop} (E : EnvOk K Δ F0 B F Hw σ ρ) (w : Gw F Hw F H) (hd : sh n = .dat) (q : Dq K F y dv) (e0 : pl.get ρ = some (.dict kds)) (hz : okR n kds = true)
    (k : ∀ l o, EnvOk K Δ F0 B F (upd Hw l o) σ (pl.set ρ (.dict (putFD n dv kds))) → Gw F (upd Hw l o) F (upd H l o) → Hw l ≠ none → Q σ (upd H l o)) : gSub (tPl K Δ (.rcd sh) pl) (tC (.str n)) rSetD y σ H Q := by
  refine ⟨F0, B, F, Hw, F, ρ, E, w, _, e0, fun v fp ow f u => ?_⟩
  have qn : ∀ Ha Hb, (rNew K (sh n)).r Ha F Hb y dv := fun _ _ => by rw [hd]; exact new_dat q
  obtain ⟨l, kvs, rfl, h1, h2, h3, h4, h5⟩ := kset_step (n := n) (dv := dv) ow f u w (qn _ _) rfl hz
  obtain ⟨l', kvs', el, h1', _, h3', _, _⟩ := kset_step (n := n) (dv := dv) ow f u (.refl E.eF) (qn _ _) rfl hz
  cases el
  have ek : kvs' = kvs := by
    have := w.2.2.1 _ _ h1'
    rw [h1] at this
    cases this
    rfl
  subst ek
  exact ⟨l, _, rfl, DPut.k (k := .inr n) h1 h2, k l _ h3' (gw_upd w h4 h5) h4⟩
theorem pl_any {K : PySem.W.Frag} {Δ : Nat → Sh} {s : Sh} {pl : Pl} {e : Expr} {X : Cx} (h : PE X e (tPl K Δ s pl)) : PE X e (tPl K Δ s pl) := h
section
variable {X : Cx} {C : Ct} {Δ Δ' : Nat → Sh} {W : WX} {e a b c o o2 o3 i value : Expr} {es : List Expr} {pos p p1 p2 p3 q1 q2 q3 pt pt2 pd : Pos} {m ma mb mi mv : En → P DD} {pl : Pl} {sh : Str → Sh} {n1 n2 n3 : Str} {j1 j2 j3 : Nat} {kt k2}
theorem s_kpar2 (hK : C.K = X.K) (hc : X.calm = true) (hu : X.A.units + 64 < cLine) (ho : PE X o (tPl C.K Δ (.rcd sh) pl)) (ho2 : PE X o2 (tPl C.K Δ (.rcd sh) pl)) (ha : PE X a (tG C.K Δ C.W (rDp C.K) ma)) (hb : PE X b (tG C.K Δ C.W (rDp C.K) mb)) (hd1 : sh n1 = .dat := by rfl) (hd2 : sh n2 = .dat := by rfl)
    (hs : swapsWithSole [.Tuple [.Subscript o (.Constant (.str n1) j1 p1) q1, .Subscript o2 (.Constant (.str n2) j2 p2) q2] kt pt] (.Tuple [a, b] k2 pt2) pos.line X.env = pure false := by rfl) (hw : swappedStores [.Tuple [.Subscript o (.Constant (.str n1) j1 p1) q1, .Subscript o2 (.Constant (.str n2) j2 p2) q2] kt pt] (.Tuple [a, b] k2 pt2) X.env = pure none := by rfl)
    (h1 : (assignEach [.Tuple [.Subscript o (.Constant (.str n1) j1 p1) q1, .Subscript o2 (.Constant (.str n2) j2 p2) q2] kt pt] X.env).map (·.2) = [assign (.Tuple [.Subscript o (.Constant (.str n1) j1 p1) q1, .Subscript o2 (.Constant (.str n2) j2 p2) q2] kt pt) X.env] := by rfl)
    (ga : ∀ v, assign (.Subscript o (.Constant (.str n1) j1 p1) q1) X.env v = (do
      let ov ← holding [v] (eval o X.env)
      let iv ← holding [v, ov] (eval (.Constant (.str n1) j1 p1) X.env)
      standAt q1
      holding [v, ov, iv] (setItem ov iv v)
      release [v, ov, iv] []) := by intro _; rfl)
    (gb : ∀ v, assign (.Subscript o2 (.Constant (.str n2) j2 p2) q2) X.env v = (do
      let ov ← holding [v] (eval o2 X.env)
      let iv ← holding [v, ov] (eval (.Constant (.str n2) j2 p2) X.env)
      standAt q2
      holding [v, ov, iv] (setItem ov iv v)
      release [v, ov, iv] []) := by intro _; rfl)
    (ge1 : (assignEach [.Subscript o (.Constant (.str n1) j1 p1) q1, .Subscript o2 (.Constant (.str n2) j2 p2) q2] X.env).map (·.2) = assign (.Subscript o (.Constant (.str n1) j1 p1) q1) X.env :: (assignEach [.Subscript o2 (.Constant (.str n2) j2 p2) q2] X.env).map (·.2) := by rfl)
    (ge2 : (assignEach [.Subscript o2 (.Constant (.str n2) j2 p2) q2] X.env).map (·.2) = assign (.Subscript o2 (.Constant (.str n2) j2 p2) q2) X.env :: (assignEach [] X.env).map (·.2) := by rfl)
    (gn : (assignEach [.Subscript o (.Constant (.str n1) j1 p1) q1, .Subscript o2 (.Constant (.str n2) j2 p2) q2] X.env).length = 2 := by rfl) (gst : (assignEach [.Subscript o (.Constant (.str n1) j1 p1) q1, .Subscript o2 (.Constant (.str n2) j2 p2) q2] X.env).findIdx? (·.1) = none := by rfl)
    (s1 : starEach [a, b] X.env = (false, eval a X.env) :: starEach [b] X.env := by rfl) (s2 : starEach [b] X.env = (false, eval b X.env) :: starEach [] X.env := by rfl) :
    PS X (.Assign [.Tuple [.Subscript o (.Constant (.str n1) j1 p1) q1, .Subscript o2 (.Constant (.str n2) j2 p2) q2] kt pt] (.Tuple [a, b] k2 pt2) pos) (tS C Δ Δ (sKpar2 pl n1 n2 ma mb)) := by
  refine ps_mono (ps_asg (pe_tup (pa_cons ha (pa_cons hb pa_nil s2) s1)) (pg_tup hc (pgs_cons (pg_sub ho pe_str (set_dict (by omega)) ga) (pgs_cons (pg_sub ho2 pe_str (set_dict (by omega)) gb) pgs_nil ge2) ge1) gn gst) hs hw h1) fun D σ H h => ?_
  obtain ⟨F0, B, F, ρ, E, p⟩ := h
  refine stepS (r := rDp C.K) E p fun da va F1 H1 g1 q1 E1 p1 => ?_
  refine stepS (r := rDp C.K) E1 p1 fun db vb F2 H2 g2 q2 E2 p2 => ⟨by rw [sizeLine_eq]; exact (by simp), fun t ht => ?_⟩
  obtain ⟨kds, e0, hz, p3⟩ := kput_ok p2
  have w : Gw F2 H2 F2 (upd H2 t (.tup [va, vb])) := .own E2.e.eF ht
  refine ⟨t, [va, vb], rfl, SqT.of upd_same, rfl, va, [vb], rfl, ksub E2.e w hd1 (Dq.mn q1 g2.1) e0 hz fun l o E3 w3 h3 => ?_⟩
  obtain ⟨kds2, e2, hz2, p4⟩ := kput_ok p3
  refine ⟨vb, [], rfl, ksub E3 w3 hd2 q2 e2 hz2 fun l' o' E4 w4 h4 => ⟨rfl, ?_⟩⟩
  exact p4 σ F2 _ ⟨E4.gw w4, E2.sh, E2.ok⟩
theorem s_kpar3 (hK : C.K = X.K) (hc : X.calm = true) (hu : X.A.units + 64 < cLine) (ho : PE X o (tPl C.K Δ (.rcd sh) pl)) (ho2 : PE X o2 (tPl C.K Δ (.rcd sh) pl)) (ho3 : PE X o3 (tPl C.K Δ (.rcd sh) pl)) (ha : PE X a (tG C.K Δ C.W (rDp C.K) ma)) (hb : PE X b (tG C.K Δ C.W (rDp C.K) mb)) (hd1 : sh n1 = .dat := by rfl) (hd2 : sh n2 = .dat := by rfl) (hd3 : sh n3 = .dct .dat := by rfl)
    (hs : swapsWithSole [.Tuple [.Subscript o (.Constant (.str n1) j1 p1) q1, .Subscript o2 (.Constant (.str n2) j2 p2) q2, .Subscript o3 (.Constant (.str n3) j3 p3) q3] kt pt] (.Tuple [a, b, .Dict [] [] pd] k2 pt2) pos.line X.env = pure false := by rfl) (hw : swappedStores [.Tuple [.Subscript o (.Constant (.str n1) j1 p1) q1, .Subscript o2 (.Constant (.str n2) j2 p2) q2, .Subscript o3 (.Constant (.str n3) j3 p3) q3] kt pt] (.Tuple [a, b, .Dict [] [] pd] k2 pt2) X.env = pure none := by rfl)
    (h1 : (assignEach [.Tuple [.Subscript o (.Constant (.str n1) j1 p1) q1, .Subscript o2 (.Constant (.str n2) j2 p2) q2, .Subscript o3 (.Constant (.str n3) j3 p3) q3] kt pt] X.env).map (·.2) = [assign (.Tuple [.Subscript o (.Constant (.str n1) j1 p1) q1, .Subscript o2 (.Constant (.str n2) j2 p2) q2, .Subscript o3 (.Constant (.str n3) j3 p3) q3] kt pt) X.env] := by rfl)
    (ga : ∀ v, assign (.Subscript o (.Constant (.str n1) j1 p1) q1) X.env v = (do
      let ov ← holding [v] (eval o X.env)
      let iv ← holding [v, ov] (eval (.Constant (.str n1) j1 p1) X.env)
      standAt q1
      holding [v, ov, iv] (setItem ov iv v)
      release [v, ov, iv] []) := by intro _; rfl)
    (gb : ∀ v, assign (.Subscript o2 (.Constant (.str n2) j2 p2) q2) X.env v = (do
      let ov ← holding [v] (eval o2 X.env)
      let iv ← holding [v, ov] (eval (.Constant (.str n2) j2 p2) X.env)
      standAt q2
      holding [v, ov, iv] (setItem ov iv v)
      release [v, ov, iv] []) := by intro _; rfl)
    (gc : ∀ v, assign (.Subscript o3 (.Constant (.str n3) j3 p3) q3) X.env v = (do
      let ov ← holding [v] (eval o3 X.env)
      let iv ← holding [v, ov] (eval (.Constant (.str n3) j3 p3) X.env)
      standAt q3
      holding [v, ov, iv] (setItem ov iv v)
      release [v, ov, iv] []) := by intro _; rfl)
    (ge1 : (assignEach [.Subscript o (.Constant (.str n1) j1 p1) q1, .Subscript o2 (.Constant (.str n2) j2 p2) q2, .Subscript o3 (.Constant (.str n3) j3 p3) q3] X.env).map (·.2) = assign (.Subscript o (.Constant (.str n1) j1 p1) q1) X.env :: (assignEach [.Subscript o2 (.Constant (.str n2) j2 p2) q2, .Subscript o3 (.Constant (.str n3) j3 p3) q3] X.env).map (·.2) := by rfl)
    (ge2 : (assignEach [.Subscript o2 (.Constant (.str n2) j2 p2) q2, .Subscript o3 (.Constant (.str n3) j3 p3) q3] X.env).map (·.2) = assign (.Subscript o2 (.Constant (.str n2) j2 p2) q2) X.env :: (assignEach [.Subscript o3 (.Constant (.str n3) j3 p3) q3] X.env).map (·.2) := by rfl)
    (ge3 : (assignEach [.Subscript o3 (.Constant (.str n3) j3 p3) q3] X.env).map (·.2) = assign (.Subscript o3 (.Constant (.str n3) j3 p3) q3) X.env :: (assignEach [] X.env).map (·.2) := by rfl)
    (gn : (assignEach [.Subscript o (.Constant (.str n1) j1 p1) q1, .Subscript o2 (.Constant (.str n2) j2 p2) q2, .Subscript o3 (.Constant (.str n3) j3 p3) q3] X.env).length = 3 := by rfl) (gst : (assignEach [.Subscript o (.Constant (.str n1) j1 p1) q1, .Subscript o2 (.Constant (.str n2) j2 p2) q2, .Subscript o3 (.Constant (.str n3) j3 p3) q3] X.env).findIdx? (·.1) = none := by rfl)
    (s1 : starEach [a, b, .Dict [] [] pd] X.env = (false, eval a X.env) :: starEach [b, .Dict [] [] pd] X.env := by rfl) (s2 : starEach [b, .Dict [] [] pd] X.env = (false, eval b X.env) :: starEach [.Dict [] [] pd] X.env := by rfl) (s3 : starEach [.Dict [] [] pd] X.env = (false, eval (.Dict [] [] pd) X.env) :: starEach [] X.env := by rfl) :
    PS X (.Assign [.Tuple [.Subscript o (.Constant (.str n1) j1 p1) q1, .Subscript o2 (.Constant (.str n2) j2 p2) q2, .Subscript o3 (.Constant (.str n3) j3 p3) q3] kt pt] (.Tuple [a, b, .Dict [] [] pd] k2 pt2) pos) (tS C Δ Δ (sKpar3 pl n1 n2 n3 ma mb)) := by
  refine ps_mono (ps_asg (pe_tup (pa_cons ha (pa_cons hb (pa_cons pe_dnewK pa_nil s3) s2) s1)) (pg_tup hc (pgs_cons (pg_sub ho pe_str (set_dict (by omega)) ga) (pgs_cons (pg_sub ho2 pe_str (set_dict (by omega)) gb) (pgs_cons (pg_sub ho3 pe_str (set_dict (by omega)) gc) pgs_nil ge3) ge2) ge1) gn gst) hs hw h1) fun D σ H h => ?_
  obtain ⟨F0, B, F, ρ, E, p⟩ := h
  refine stepS (r := rDp C.K) E p fun da va F1 H1 g1 q1 E1 p1 => ?_
  refine stepS (r := rDp C.K) E1 p1 fun db vb F2 H2 g2 q2 E2 p2 => fun d hd => ⟨by rw [sizeLine_eq]; exact (by simp), fun t ht => ?_⟩
  obtain ⟨kds, e0, hz, p3⟩ := kput_ok p2
  have htd : t ≠ d := fun z => by rw [z, upd_same] at ht; cases ht
  have w : Gw F2 H2 F2 (upd (upd H2 d (.dK [])) t (.tup [va, vb, .ref d])) := (Gw.own (o := .dK []) E2.e.eF hd).trans (.own (E2.e.eF.trans (Ex.new hd)) ht)
  refine ⟨t, [va, vb, .ref d], rfl, SqT.of upd_same, rfl, va, [vb, .ref d], rfl, ksub E2.e w hd1 (Dq.mn q1 g2.1) e0 hz fun l o E3 w3 h3 => ?_⟩
  obtain ⟨kds2, e2, hz2, p4⟩ := kput_ok p3
  refine ⟨vb, [.ref d], rfl, ksub E3 w3 hd2 q2 e2 hz2 fun l' o' E4 w4 h4 => ?_⟩
  obtain ⟨kds3, e3, hz3, p5⟩ := kput_ok p4
  have dl : d ≠ l := fun z => h3 (by rw [← z]; exact hd)
  have dl' : d ≠ l' := fun z => h4 (by rw [← z, upd_ne dl]; exact hd)
  refine ⟨.ref d, [], rfl, F0, B, F2, _, F2, _, E4, w4, _, e3, fun v fp ow f u => ?_⟩
  have hq : (upd (upd (upd (upd H2 d (.dK [])) t (.tup [va, vb, .ref d])) l o) l' o') d = some (.dK []) := by rw [upd_ne dl', upd_ne dl, upd_ne htd.symm, upd_same]
  have qn : (rNew C.K (sh n3)).r (upd (upd H2 l o) l' o') F2 (upd (upd (upd (upd H2 d (.dK [])) t (.tup [va, vb, .ref d])) l o) l' o') (.ref d) (.dict []) := by
    rw [hd3]
    refine ⟨[d], ⟨d, [], [], [], rfl, rfl, hq, .nil, rfl⟩, by simp, fun a ha => ?_⟩
    have ea : a = d := by simpa using ha
    subst ea
    exact ⟨none_of_ex E2.e.eF hd, by rw [upd_ne dl', upd_ne dl]; exact hd, by rw [hq]; exact fun z => nomatch z⟩
  obtain ⟨l2, kvs, rfl, k1, k2, k3, k4, k5⟩ := kset_step (n := n3) ow f u w4 qn rfl hz3
  exact ⟨l2, _, rfl, DPut.k (k := .inr n3) k1 k2, rfl, p5 σ F2 _ ⟨k3, E2.sh, E2.ok⟩⟩
end
end Pc

set_option maxRecDepth 100000
set_option maxHeartbeats 4000000
namespace Pc
open PySem PySem.Spec PyProof.Rows L2
open Evl (Ex)
/-! ### a record written out -/
def rRc (K : PySem.W.Frag) (sh : Str → Sh) (ns : List Str) : Rs (List (V × V)) (List (DD × DD)) := ⟨fun H F' H' ps kds => ∃ fvs fq, ps = (fvs : List (Str × V)).map (fun q => (V.str q.1, q.2)) ∧ fvs.map (·.1) = ns ∧ OwnF (fun k => Own K F' H' (sh k)) fvs kds fq ∧ fq.Nodup ∧ ∀ a ∈ fq, F' a = none ∧ H a = none ∧ H' a ≠ none,
  fun e ⟨fvs, fq, h1, h2, h3, h4, q⟩ => ⟨fvs, fq, h1, h2, h3, h4, fun a ha => ⟨(q a ha).1, none_of_ex e (q a ha).2.1, (q a ha).2.2⟩⟩⟩
def rcNil : En → P (List (DD × DD)) := fun _ => .ok []
def rcCons (n : Str) (m : En → P DD) (r : En → P (List (DD × DD))) : En → P (List (DD × DD)) := fun ρ => (m ρ).bind fun d => (r ρ).bind fun l => .ok ((.str n, d) :: l)
def mRcd (r : En → P (List (DD × DD))) : En → P DD := fun ρ => (r ρ).bind fun l => .ok (.dict l)
structure PRc (X : Cx) (pos : Pos) (Δ : Nat → Sh) (W : WX) (sh : Str → Sh) (ks : List (Option Expr)) (vs : List Expr) (ns : List Str) (m : En → P (List (DD × DD))) : Prop where
  ok : ∃ trs, PPs X pos ks vs trs ∧ ∀ (σ : L2.St) (H : Hp) (Q : List (V × V) → Hp → Prop), tG X.K Δ W (rRc X.K sh ns) m σ H Q → tPairs trs σ H Q
section
variable {X : Cx} {C : Ct} {Δ Δ' : Nat → Sh} {W : WX} {e a b c o i value : Expr} {es vs : List Expr} {ks : List (Option Expr)} {pos p p2 : Pos} {m mv : En → P DD} {mr : En → P (List (DD × DD))} {sh : Str → Sh} {n : Str} {ns : List Str} {j : Nat} {s : Sh}
theorem rc_nil : PRc X pos Δ W sh [] [] [] rcNil := ⟨[], pps_nil, fun σ H Q h => by
  obtain ⟨F0, B, F, ρ, E, p⟩ := h
  exact p [] F H (.refl E.eF) ⟨[], [], rfl, rfl, .nil, List.nodup_nil, fun _ h => nomatch h⟩⟩
theorem rc_cons (hv : PE X value (tG X.K Δ W (rNew X.K s) mv)) (hr : PRc X pos Δ W sh ks vs ns mr) (hd : sh n = s := by rfl) : PRc X pos Δ W sh (some (.Constant (.str n) j p2) :: ks) (value :: vs) (n :: ns) (rcCons n mv mr) := by
  subst hd
  obtain ⟨trs, hp, hq⟩ := hr.ok
  refine ⟨_, pps_cons pe_str hv hp, fun σ H Q h => ?_⟩
  obtain ⟨F0, B, F, ρ, E, p⟩ := h
  show tG X.K Δ W (rNew X.K (sh n)) mv σ H _
  refine ⟨F0, B, F, ρ, E, ?_⟩
  replace p : PostG X.K W (rRc X.K sh (n :: ns)) σ F H ((mv ρ).bind fun d => (mr ρ).bind fun l => .ok ((.str n, d) :: l)) Q := p
  cases e1 : mv ρ with
  | stuck => rw [e1] at p; exact p
  | exc c => rw [e1] at p; exact p
  | ok d =>
    rw [e1, bind_ok] at p
    intro v F1 H1 g1 q1
    refine hq σ H1 _ ⟨F0, B, F1, ρ, E.gw g1, ?_⟩
    cases e2 : mr ρ with
    | stuck => rw [e2] at p; exact p
    | exc c => rw [e2] at p; exact fun F' H' g => p F' H' (g1.trans g)
    | ok l =>
      rw [e2, bind_ok] at p
      intro ps F2 H2 g2 q2
      obtain ⟨fp, ow, nd, off⟩ := q1
      obtain ⟨fvs, fq, rfl, e2, of_, nd2, off2⟩ := q2
      refine p _ F2 H2 (g1.trans g2) ?_
      have hne : ∀ a ∈ fp, H1 a ≠ none := fun a ha => (off a ha).2.2
      refine ⟨(n, v) :: fvs, fp ++ fq, rfl, by rw [List.map_cons, e2], .cons (Own.stay (sh n) v d fp g2.1 (fun a ha => ex_eq g2.2.2.1 (hne a ha)) ow) of_, ?_, fun a ha => ?_⟩
      · refine List.nodup_append.mpr ⟨nd, nd2, fun x hx y hy z => ?_⟩
        subst z
        exact hne x hx (off2 x hy).2.1
      · rcases List.mem_append.mp ha with ha | ha
        · obtain ⟨z1, z2, z3⟩ := off a ha
          exact ⟨g2.2.2.2 a z3 z1, z2, ne_none_of_ex g2.2.2.1 z3⟩
        · obtain ⟨z1, z2, z3⟩ := off2 a ha
          exact ⟨z1, none_of_ex g1.2.2.1 z2, z3⟩
theorem merge_new : ∀ (kvs acc : List (Key × V)), (kvs.map (·.1)).Nodup → (∀ k ∈ kvs.map (·.1), k ∉ acc.map (·.1)) → mergeK acc kvs = acc ++ kvs
  | [], acc, _, _ => (List.append_nil acc).symm
  | (k, v) :: r, acc, h1, h2 => by
    show mergeK (putK acc k v) r = _
    rw [List.map_cons] at h1
    obtain ⟨n1, n2⟩ := List.nodup_cons.mp h1
    have hk : ¬ ((acc.any fun kv => decide (kv.1 = k)) = true) := fun z => by
      obtain ⟨x, hx, ex⟩ := List.any_eq_true.mp z
      exact h2 k (by simp) (List.mem_map.mpr ⟨x, hx, of_decide_eq_true ex⟩)
    have ep : putK acc k v = acc ++ [(k, v)] := by unfold putK; rw [if_neg hk]
    rw [ep, merge_new r (acc ++ [(k, v)]) n2 (fun k' hk' z => ?_)]
    · simp
    · rw [List.map_append, List.mem_append] at z
      rcases z with z | z
      · exact h2 k' (by simp only [List.map_cons]; exact List.mem_cons_of_mem _ hk') z
      · simp at z
        subst z
        exact n1 hk'
/-- {"n": .., ..} -/
theorem g_rcd (h : PRc X pos Δ W sh ks vs ns mr) (hall : ks.all (·.isSome) = true := by rfl) (hl : ks.length = vs.length := by rfl) (h0 : ks ≠ [] := by exact fun z => nomatch z) (h15 : ks.length ≤ 15 := by decide) (hn : ns.Nodup := by decide) (hln : ns.length ≤ 15 := by decide) :
    PE X (.Dict ks vs pos) (tG X.K Δ W (rNew X.K (.rcd sh)) (mRcd mr)) := by
  obtain ⟨trs, hp, hq⟩ := h.ok
  refine pe_mono (pe_disp hp hall hl h0 h15) fun σ H Q h => ?_
  obtain ⟨F0, B, F, ρ, E, p⟩ := h
  intro d hd
  have g0 : Gw F H F (upd H d (.dK [])) := .own E.eF hd
  refine hq σ _ _ ⟨F0, B, F, ρ, E.gw g0, ?_⟩
  replace p : PostG X.K W (rNew X.K (.rcd sh)) σ F H ((mr ρ).bind fun l => .ok (.dict l)) Q := p
  cases e1 : mr ρ with
  | stuck => rw [e1] at p; exact p
  | exc c => rw [e1] at p; exact fun F' H' g => p F' H' (g0.trans g)
  | ok l =>
    rw [e1, bind_ok] at p
    intro ps F2 H2 g2 q2
    obtain ⟨fvs, fq, rfl, e2, of_, nd2, off2⟩ := q2
    have hd2 : H2 d = some (.dK []) := g2.2.2.1 _ _ upd_same
    have hF2 : F2 d = none := g2.2.2.2 d (by rw [upd_same]; exact fun z => nomatch z) (none_of_ex E.eF hd)
    have hdq : d ∉ fq := fun z => by have := (off2 d z).2.1; rw [upd_same] at this; cases this
    refine ⟨hd2, kvF fvs, ?_, ?_, ?_⟩
    · unfold kvF; rw [List.map_map]; rfl
    · have := congrArg List.length e2; rw [List.length_map] at this; rw [kvF_len, this]; exact hln
    have em : mergeK [] (kvF fvs) = kvF fvs := by
      rw [merge_new (kvF fvs) [] ?_ (fun _ _ z => nomatch z)]
      · rfl
      · have : (kvF fvs).map (·.1) = ns.map Sum.inr := by unfold kvF; rw [← e2, List.map_map, List.map_map]; rfl
        rw [this]
        exact List.Pairwise.map _ (fun a b h z => h (Sum.inr.inj z)) hn
    rw [em]
    refine p (.ref d) F2 _ ⟨g0.1.trans g2.1, fun b u hb => ?_, fun b u hb => ?_, fun a h1 h2 => ?_⟩ ⟨d :: fq, ⟨d, fvs, l, fq, rfl, rfl, by rw [upd_same]; rfl, ?_, rfl⟩, List.nodup_cons.mpr ⟨hdq, nd2⟩, fun a ha => ?_⟩
    · rw [upd_ne (fun z => by rw [z, hF2] at hb; cases hb)]; exact g2.2.1 b u hb
    · have hbd : b ≠ d := fun z => by rw [z, hd] at hb; cases hb
      rw [upd_ne hbd]
      exact g2.2.2.1 b u (by rw [upd_ne hbd]; exact hb)
    · exact g2.2.2.2 a (by rw [upd_ne (fun z => h1 (by rw [z]; exact hd))]; exact h1) h2
    · exact of_.imp (A := fq) (fun _ q => q) fun k v d' fz hs r => Own.stay (sh k) v d' fz (Ex.refl _) (fun x hx => upd_ne fun z => hdq (z ▸ hs x hx)) r
    · rcases List.mem_cons.mp ha with rfl | ha
      · exact ⟨hF2, hd, by rw [upd_same]; exact fun z => nomatch z⟩
      · obtain ⟨z1, z2, z3⟩ := off2 a ha
        have had : a ≠ d := fun z => hdq (z ▸ ha)
        rw [upd_ne had] at z2 ⊢
        exact ⟨z1, z2, z3⟩
end
end Pc

set_option maxRecDepth 100000
set_option maxHeartbeats 4000000
namespace Pc
open PySem PySem.Spec PyProof.Rows L2
open Evl (Ex)
/-! ### a def that makes something new and hands it out -/
def PostN (K : PySem.W.Frag) (s : Sh) (F H : Hp) (Q : VK) (E : XK) : P DD → Prop
  | .ok d => ∀ v F' H', Gw F H F' H' → (rNew K s).r H F' H' v d → Q v H'
  | .exc c => ∀ F' H', Gw F H F' H' → E (.ref (He.ga K c)) none H'
  | .stuck => False
def spN (K : PySem.W.Frag) (s : Sh) (n : Nat) (g : List DD → P DD) : Sp := fun vs H Q E => ∃ F ds, Ex F H ∧ DqAll K F vs ds ∧ vs.length = n ∧ PostN K s F H Q E (g ds)
structure DefN (Pr : Program) (w : World) (K : PySem.W.Frag) (mg : Str → Option Value) (base : Heap) (x : Str) (k n : Nat) (s : Sh) (g : List DD → P DD) : Prop where
  ok : ∃ f fd ps, FnOk Pr w K mg base (L2.CX Pr w) k f fd ps (spN K s n g) ∧ mg x = some (.ref f) ∧ PySem.W.keepIn K (.ref f) = true ∧ Binds K fd ps []
section
variable {X : Cx} {C : Ct} {Δ Δ' : Nat → Sh} {W : WX} {e a b c : Expr} {es : List Expr} {p pos : Pos} {x : Str} {k n : Nat} {g : List DD → P DD} {ml : En → P (List DD)} {m : En → P DD} {s : Sh}
theorem g_callN (d : DefN X.prog X.w X.K X.mg X.base x k n s g) (hr : Room k X.A) (tk : Takes X W) (ha : PA X (e :: es) (tG X.K Δ W (rDpsN X.K n) ml)) (hg : Gl X x := by rfl)
    (hdb : (x == ("__debug__" : Str)) = false := by decide) (he : starEach (e :: es) X.env = (false, eval e X.env) :: starEach es X.env := by rfl) (hpl : (backTo pos (starEach es X.env)).any (·.1) = false := by rfl) :
    PE X (.Call (.Name x p) (e :: es) [] pos) (tG X.K Δ W (rNew X.K s) (mF g ml)) := by
  obtain ⟨f, fd, ps, F, hm, hk, hb⟩ := d.ok
  refine pe_mono (pe_callS F hr hg hm hk hb (fun σ => passAt tk σ) ha hdb he hpl) fun σ H Q h => ?_
  obtain ⟨F0, B, F, ρ, E, p⟩ := h
  refine ⟨F0, B, F, ρ, E, ?_⟩
  replace p : PostG X.K W (rNew X.K s) σ F H ((ml ρ).bind g) Q := p
  cases e1 : ml ρ with
  | stuck => rw [e1] at p; exact p
  | exc c => rw [e1] at p; exact p
  | ok ds =>
    rw [e1, bind_ok] at p
    intro vs F1 H1 g1 q1
    refine ⟨F1, ds, (E.gw g1).eF, q1.1, q1.2, ?_⟩
    cases e : g ds with
    | ok d => rw [e] at p; exact fun v F' H' gw q => p v F' H' (g1.trans gw) ((rNew X.K s).anti g1.2.2.1 q)
    | exc c => rw [e] at p; exact fun F' H' gw => p F' H' (g1.trans gw)
    | stuck => rw [e] at p; exact p
end
section
variable {Pr : Program} {w : World} {K : PySem.W.Frag} {mg : Str → Option Value} {base : Heap} {name : Str} {st : Stmt} {N ps : List Str} {k : Nat} {Δ : Nat → Sh} {m : En → P DD} {s : Sh}
/-- x = something new; return x -/
theorem def_ofN {x : Str} {i : Nat} {e : Expr} {p1 p2 p3 p4 : Pos} (hF : ∃ fd, FunD K name name (defArgs st) (defBody st) (defScope st) [] [] (He.ga K name) fd) (hg : mg name = some (.ref (He.ga K name))) (S : FnScope N ps (defScope st))
    (hb : ∀ (kV doc pm : Value) (an : Option Addr) (cdv ct : Value) (us : List Value), us.length = ps.length → bindArgs (PySem.W.fnOf name name (defArgs st) (defBody st) (defScope st) .none kV doc pm an cdv ct) ⟨us, []⟩ = pure (ps.zip us))
    (hd : ∀ i, i < ps.length → Δ i = .dat) (hst : defBody st = [.Assign [.Name x p1] e p2, .Return (some (.Name x p3)) p4])
    (hbody : ∀ (f : Addr) (cdv : Value) (A : Around) (outer : List Env) (s' : Shared) (H : Hp) (E : XK), Room k (A.deeper (envOfC name (defScope st) s'.heap.objs.size f cdv)) →
      PE (cxOf (L2.CX Pr w) Pr w K mg base N name (defScope st) f cdv A outer s' H E) e (tG K Δ (fun cls d _ H => E cls d H) (rNew K s) m) ∧
      PS (cxOf (L2.CX Pr w) Pr w K mg base N name (defScope st) f cdv A outer s' H E) (.Assign [.Name x p1] e p2) (tAsg (tG K Δ (fun cls d _ H => E cls d H) (rNew K s) m) (gName i)) ∧
      PS (cxOf (L2.CX Pr w) Pr w K mg base N name (defScope st) f cdv A outer s' H E) (.Return (some (.Name x p3)) p4) (tRet (tVar i))) (hi : i < N.length) :
    DefN Pr w K mg base name (k + 1) ps.length s (fun ds => m (env0 N.length ds)) := by
  obtain ⟨fd, F⟩ := hF
  have hpl : ps.length ≤ N.length := by have := congrArg List.length S.pre; rw [List.length_take] at this; omega
  refine ⟨He.ga K name, fd, ps, F.ok S (fun vs H Q E h => ?_) (fun cdv A outer s' H vs Q E hr h => ?_), hg, F.kp, F.bindsN hb⟩
  · obtain ⟨_, _, _, _, h, _⟩ := h
    exact h
  · obtain ⟨F, ds, eF, dq, hl, p⟩ := h
    obtain ⟨h1, h2, h3⟩ := hbody _ cdv A outer s' H E hr
    refine ⟨_, by rw [hst]; exact pss_cons h2 (pss_one h3), ?_⟩
    refine ⟨F, H, F, env0 N.length ds, start_ok eF dq (by omega) (fun i hi => hd i (by omega)), ?_⟩
    replace p : PostN K s F H Q E (m (env0 N.length ds)) := p
    cases e : m (env0 N.length ds) with
    | stuck => rw [e] at p; exact p
    | exc c => rw [e] at p; exact p
    | ok d =>
      rw [e] at p
      intro v F' H' g q
      exact ⟨v, by rw [List.getElem?_set_self (by rw [start_len (by omega)]; exact hi)], p v F' H' g q⟩
end
end Pc

set_option maxRecDepth 100000
set_option maxHeartbeats 4000000
namespace Pc
open PySem PySem.Spec PyProof.Rows L2
open Evl (Ex)
/-! ### [(k, o.d[k]) for k in o.d if o.d[k] > o.n] -/
def beyL (kds : List (DD × DD)) (n : Int) : List (DD × DD) → Option (List DD)
  | [] => some []
  | (kd, _) :: r => match kOf kd with
    | some k => (match valD kds k with
      | some (.int v) => (beyL kds n r).map fun l => if n < v then .tuple [kd, .int v] :: l else l
      | _ => none)
    | none => none
def beyO (e n : DD) : Option DD := match e, n with
  | .dict kds, .int n => if kds.length ≤ LIM then (beyL kds n kds).map .list else none
  | _, _ => none
def mBey (pl : Pl) (it : Nat) (nE nN : Str) : En → P DD := fun ρ => if it < ρ.length then (mPl (plF pl nE) ρ).bind fun e => (mPl (plF pl nN) ρ).bind fun n => .ofO (beyO e n) else .stuck
abbrev tEn (K : PySem.W.Frag) (i : Nat) (nE : Str) : TE := tFld K (tVar i) nE
abbrev tGe (K : PySem.W.Frag) (i j : Nat) (nE : Str) : TE := tDGet (tEn K i nE) (tVar j)
theorem kOf_key (k : Key) : kOf (keyD k) = some k := by cases k <;> rfl
theorem kdp_get {K : PySem.W.Frag} {F : Hp} : ∀ {kvs : List (Key × V)} {kds : List (DD × DD)} {i : Nat} {k : Key} {v : V}, KDp K F kvs kds → kvs[i]? = some (k, v) → ∃ d, kds[i]? = some (keyD k, d) ∧ Dq K F v d
  | _, _, _, _, _, .nil, e => by simp at e
  | _, _, 0, _, _, .cons a _, e => by simp at e; obtain ⟨rfl, rfl⟩ := e; exact ⟨_, rfl, a⟩
  | _, _, i + 1, k, v, .cons _ t, e => by
    obtain ⟨d, h1, h2⟩ := kdp_get (i := i) (k := k) (v := v) t (by simpa using e)
    exact ⟨d, by simpa using h1, h2⟩
theorem bey_lim {kds : List (DD × DD)} {n : Int} : ∀ {l : List (DD × DD)} {ys : List DD}, beyL kds n l = some ys → ys.length ≤ l.length
  | [], ys, h => by cases h; exact Nat.le_refl _
  | (kd, x) :: r, ys, h => by
    unfold beyL at h
    split at h
    · split at h
      · cases e : beyL kds n r with
        | none => rw [e] at h; cases h
        | some l =>
          rw [e] at h
          have ih := bey_lim e
          have h' : (if n < _ then _ else _ : List DD) = ys := Option.some.inj h
          rw [← h', List.length_cons]
          split
          · rw [List.length_cons]; omega
          · omega
      · cases h
    · cases h
section
variable {X : Cx} {Δ : Nat → Sh} {W : WX} {e elt tg iter : Expr} {ifs : List Expr} {scope : Scope} {pos : Pos} {i0 it : Nat} {t slf nE nN cn : Str} {sh : Str → Sh} {u : V}
theorem bey_of (c : Cls X.K (He.ga X.K cn)) (naE : NoAttr X.K (He.ga X.K cn) nE) (naN : NoAttr X.K (He.ga X.K cn) nN) (hΔ : Δ i0 = .fix u (.obj cn sh)) (hE : sh nE = .dct .dat) (hN : sh nN = .dat) (hne : i0 ≠ it) (σ : L2.St) (H : Hp) (Q : VK)
    (h : tG X.K Δ W (rNew X.K (.lst .dat)) (mBey (pN i0) it nE nN) σ H Q) :
    tLockE (tLc (iKeys (tEn X.K i0 nE)) (gName it) (tTest (tOp (rI0 fun i j => .bl (decide (j < i))) (tGe X.K i0 it nE) (tFld X.K (tVar i0) nN))) (tTup (tCons (tVar it) (tCons (tGe X.K i0 it nE) (fun _ H Q => Q [] H)))) [it]) σ H Q := by
  obtain ⟨F0, B, F, ρ, E, p⟩ := h
  replace p : PostG X.K W (rNew X.K (.lst .dat)) σ F H (if it < ρ.length then (mPl (plF (pN i0) nE) ρ).bind fun e => (mPl (plF (pN i0) nN) ρ).bind fun n => .ofO (beyO e n) else .stuck) Q := p
  by_cases hlt0 : it < ρ.length
  case neg => rw [if_neg hlt0] at p; exact p.elim
  rw [if_pos hlt0] at p
  have hl0 : it < σ.length := by rw [E.len]; exact hlt0
  replace p : PostG X.K W (rNew X.K (.lst .dat)) σ F H ((P.ofO ((getO ρ i0).bind (fldO nE))).bind fun e => (P.ofO ((getO ρ i0).bind (fldO nN))).bind fun n => .ofO (beyO e n)) Q := p
  cases e0 : getO ρ i0 with
  | none => rw [e0] at p; exact p.elim
  | some od =>
    rw [e0, Option.bind_some, Option.bind_some] at p
    obtain ⟨v0, fp, hv0, ow, f, _⟩ := E.slot (getO_eq e0)
    rw [hΔ] at ow
    obtain ⟨_, l, dx, fvs, kds0, fq, rfl, rfl, hl, hdx, of_, rfl⟩ := ow
    replace p : PostG X.K W (rNew X.K (.lst .dat)) σ F H ((P.ofO (valD kds0 (.inr nE))).bind fun e => (P.ofO (valD kds0 (.inr nN))).bind fun n => .ofO (beyO e n)) Q := p
    cases e1 : valD kds0 (.inr nE) with
    | none => rw [e1] at p; exact p.elim
    | some dE =>
      cases e2 : valD kds0 (.inr nN) with
      | none => rw [e1, e2] at p; exact p.elim
      | some dN =>
        rw [e1, e2, ofO_some, ofO_some, bind_ok, bind_ok] at p
        obtain ⟨vE, flE, fpE, frE, lE, owE, eqE, _⟩ := OwnF.split of_ e1
        obtain ⟨vN, _, _, _, lN, owN, _, _⟩ := OwnF.split of_ e2
        rw [hE] at owE
        rw [hN] at owN
        obtain ⟨d, kvs, kds, fqE, rfl, rfl, hd, ok, rfl⟩ := owE
        obtain ⟨kd, _⟩ := ownK_dat ok
        cases dN <;> try (exact p.elim)
        rename_i n
        have eN : vN = .int n := by have := owN.1; cases this; rfl
        subst eN
        replace p : PostG X.K W (rNew X.K (.lst .dat)) σ F H (.ofO (if kds.length ≤ LIM then (beyL kds n kds).map .list else none)) Q := p
        by_cases hz : kds.length ≤ LIM
        case neg => rw [if_neg hz] at p; exact p.elim
        rw [if_pos hz] at p
        cases eb : beyL kds n kds with
        | none => rw [eb] at p; exact p.elim
        | some tot =>
          rw [eb] at p
          have hld : l ≠ d := fun z => by rw [z, hd] at hl; cases hl
          have fd : F d = none ∧ H d ≠ none := ⟨(f.off d (by rw [eqE]; simp)).1, by rw [hd]; exact fun z => nomatch z⟩
          have hkl := kd.len
          refine ⟨d, .dK kvs, hd, True.intro, fun od => ?_⟩
          refine ⟨.ref l, hv0, l, He.ga X.K cn, dx, fvs, .ref d, rfl, by rw [upd_ne hld]; exact hl, c, naE, lE, d, od, rfl, .inl ⟨kvs, upd_same, fun Dd hD => ?_⟩⟩
          have hDd : Dd ≠ d := fun z => by rw [z, upd_same] at hD; cases hD
          have hDH : H Dd = none := by rw [upd_ne hDd] at hD; exact hD
          refine ⟨fun i m H' => m = kds.length - i ∧ i ≤ kds.length ∧ H' d = some (.frz od (.dK kvs)) ∧ ∃ F' accV accD rest, Gw F H F' (upd H' d (.dK kvs)) ∧ F' Dd = none ∧ H' Dd = some (.lst accV) ∧ DqAll X.K F' accV accD ∧ beyL kds n (kds.drop i) = some rest ∧ tot = accD ++ rest ∧ accD.length ≤ i,
            ⟨_, rfl, Nat.zero_le _, by rw [upd_ne hDd.symm, upd_same], F, [], [], tot, ?_, none_of_ex E.eF hDH, upd_same, .nil, eb, rfl, Nat.le_refl _⟩, ?_⟩
          · have e : upd (upd (upd H d (.frz od (.dK kvs))) Dd (.lst [])) d (.dK kvs) = upd H Dd (.lst []) := by
              funext x
              by_cases hx : x = d
              · subst hx; rw [upd_same, upd_ne hDd.symm]; exact hd.symm
              · rw [upd_ne hx]
                by_cases hx2 : x = Dd
                · subst hx2; rw [upd_same, upd_same]
                · rw [upd_ne hx2, upd_ne hx, upd_ne hx2]
            rw [e]
            exact .own E.eF hDH
          rintro i m H' ⟨rfl, hi, hfd, F', accV, accD, rest, g', hF, hH, dq, eR, eT, hacc⟩
          have at' : ∀ a o, H a = some o → a ≠ d → H' a = some o := fun a o h1 h2 => by
            have := g'.2.2.1 a o h1
            rw [upd_ne h2] at this
            exact this
          by_cases hlt : i < kds.length
          · refine .inr ⟨⟨hfd, by omega⟩, _, fun H2 z => ⟨kds.length - (i + 1), by omega, rfl, hlt, z⟩, fun x H2 y => ?_⟩
            obtain ⟨ey, k, v, hk, rfl⟩ := y
            have ey := ey.symm
            subst ey
            -- the pair at i
            have hdi : kds[i]? = some kds[i] := List.getElem?_eq_getElem hlt
            have hpair : kds[i] = (keyD k, (kds[i]).2) := by
              have := kdp_get kd hk
              obtain ⟨dd, h1, _⟩ := this
              rw [hdi] at h1
              have h1 := Option.some.inj h1
              rw [h1]
            rw [drop_get hdi, hpair] at eR
            unfold beyL at eR
            rw [kOf_key] at eR
            dsimp only at eR
            rcases kd.val k with ⟨vv, dv, ev1, ev2, dqv⟩ | ⟨_, ev2⟩
            case inr => rw [ev2] at eR; cases eR
            rw [ev2] at eR
            cases dv <;> try (cases eR; done)
            rename_i iv
            cases dqv
            dsimp only at eR
            cases er : beyL kds n (kds.drop (i + 1)) with
            | none => rw [er] at eR; cases eR
            | some ys =>
              rw [er, Option.map_some] at eR
              have eR := Option.some.inj eR
              have g0 : (wipe σ [it])[i0]? = some (some (.ref l)) := by rw [wipe_get (by simpa using hne)]; exact hv0
              have gi : ((wipe σ [it]).set it (some (kV k)))[i0]? = some (some (.ref l)) := by rw [List.getElem?_set_ne (Ne.symm hne)]; exact g0
              have gt : ((wipe σ [it]).set it (some (kV k)))[it]? = some (some (kV k)) := by rw [List.getElem?_set_self (by rw [wipe_length]; exact hl0)]
              have hlH : H' l = some (.ins (He.ga X.K cn) dx fvs) := at' _ _ hl hld
              have dg : DGet H' d (kV k) (some (.int iv)) := by
                have : DGet H' d (kV k) (valV kvs k) := .inl ⟨kvs, k, .inr ⟨od, hfd⟩, rfl, rfl⟩
                rw [ev1] at this
                exact this
              have dget : ∀ R : VK, R (.int iv) H' → tGe X.K i0 it nE ((wipe σ [it]).set it (some (kV k))) H' R := fun R hR =>
                ⟨.ref l, gi, l, He.ga X.K cn, dx, fvs, .ref d, rfl, hlH, c, naE, lE, kV k, gt, d, .int iv, rfl, dg, hR⟩
              refine ⟨wipe_same (.set (by simp)), ?_⟩
              refine dget _ ⟨.ref l, gi, l, He.ga X.K cn, dx, fvs, .int n, rfl, hlH, c, naN, lN, iv, n, rfl, rfl, _, rfl, ?_⟩
              by_cases hb : n < iv
              · rw [if_pos hb] at eR
                rw [if_pos (decide_eq_true hb)]
                refine ⟨kV k, gt, dget _ ⟨by rw [sizeLine_eq]; exact (by simp), fun t ht => ?_⟩⟩
                have htd : t ≠ d := fun z => by rw [z, hfd] at ht; cases ht
                have htD : t ≠ Dd := fun z => by rw [z, hH] at ht; cases ht
                refine ⟨accV, by rw [upd_ne htD.symm]; exact hH, by rw [lim_eq, dq.len]; omega, ?_⟩
                refine ⟨by rw [upd_ne hDd.symm, upd_ne htd.symm]; exact hfd, upd F' t (.tup [kV k, .int iv]), accV ++ [.ref t], accD ++ [.tuple [keyD k, .int iv]], ys, ?_, by rw [upd_ne htD.symm]; exact hF, upd_same, ?_, rfl, by rw [eT, ← eR]; simp, by rw [List.length_append]; simp; omega⟩
                · have ht2 : (upd H' d (.dK kvs)) t = none := by rw [upd_ne htd]; exact ht
                  have gt1 : Gw F' (upd H' d (.dK kvs)) (upd F' t (.tup [kV k, .int iv])) (upd (upd H' d (.dK kvs)) t (.tup [kV k, .int iv])) := .frz g'.2.1 ht2
                  have gA := g'.trans gt1
                  refine ⟨gA.1, fun b o hb => ?_, fun b o hb => ?_, gA.2.2.2⟩
                  · have hbD : b ≠ Dd := fun z => by rw [z, upd_ne htD.symm, hF] at hb; cases hb
                    have := gA.2.1 b o hb
                    by_cases hbd : b = d
                    · subst hbd; rw [upd_ne htd.symm, upd_same] at this; rw [upd_same]; exact this
                    · rw [upd_ne hbd, upd_ne hbD]
                      by_cases hbt : b = t
                      · subst hbt; rw [upd_same] at this ⊢; exact this
                      · rw [upd_ne hbt, upd_ne hbd] at this; rw [upd_ne hbt]; exact this
                  · have hbD : b ≠ Dd := fun z => by rw [z, hDH] at hb; cases hb
                    have := gA.2.2.1 b o hb
                    by_cases hbd : b = d
                    · subst hbd; rw [upd_ne htd.symm, upd_same] at this; rw [upd_same]; exact this
                    · rw [upd_ne hbd, upd_ne hbD]
                      by_cases hbt : b = t
                      · subst hbt; rw [upd_same] at this ⊢; exact this
                      · rw [upd_ne hbt, upd_ne hbd] at this; rw [upd_ne hbt]; exact this
                · refine (dq.mn (Ex.new (none_of_ex g'.2.1 (by rw [upd_ne htd]; exact ht)))).app (.one (.tup (SqT.of upd_same) (.cons ?_ (.cons (.int iv) .nil))))
                  cases k with
                  | inl j => exact .int j
                  | inr j => exact .str j
              · rw [if_neg hb] at eR
                rw [if_neg (by simpa using hb)]
                exact ⟨hfd, F', accV, accD, rest, g', hF, hH, dq, congrArg some eR, eT, by omega⟩
          · have hi' : i = kds.length := by omega
            refine .inl ⟨⟨hfd, by omega⟩, hfd, ?_⟩
            subst hi'
            rw [List.drop_length] at eR
            cases eR
            rw [List.append_nil] at eT
            subst eT
            refine p _ F' _ g' ⟨[Dd], ⟨Dd, accV, tot, [], rfl, rfl, by rw [upd_ne hDd]; exact hH, ownL_dat dq, rfl⟩, by simp, fun a ha => ?_⟩
            have ea : a = Dd := by simpa using ha
            subst ea
            exact ⟨hF, hDH, by rw [upd_ne hDd, hH]; exact fun z => nomatch z⟩
end
end Pc

set_option maxRecDepth 100000
set_option maxHeartbeats 4000000
namespace Pc
open PySem PySem.Spec PyProof.Rows L2
open Evl (Ex)
/-! ### dict(list of pairs) -/
def pairD (d : DD) : Option (Key × DD) := match d with
  | .tuple ds => (match ds with
    | [k, v] => (kOf k).map fun k => (k, v)
    | _ => none)
  | _ => none
def dictL : List DD → List (DD × DD) → Option (List (DD × DD))
  | [], acc => some acc
  | d :: r, acc => (pairD d).bind fun q => dictL r (putD acc q.1 q.2)
def dictO : List DD → Option DD
  | [.list ds] => (dictL ds []).map .dict
  | _ => none
theorem kOf_dq {K : PySem.W.Frag} {F : Hp} {v : V} {d : DD} {k : Key} (h : Dq K F v d) (e : kOf d = some k) : v = kV k := by
  cases d with
  | int i => cases e; cases h; rfl
  | str x => cases e; cases h; rfl
  | none => cases e
  | bool b => cases e
  | list _ => cases e
  | tuple _ => cases e
  | dict _ => cases e
theorem pairD_tup {ds : List DD} {k : Key} {x : DD} (e : pairD (.tuple ds) = some (k, x)) : ∃ kd, ds = [kd, x] ∧ kOf kd = some k := by
  match ds with
  | [kd, v] =>
    replace e : (kOf kd).map (fun k => (k, v)) = some (k, x) := e
    cases z : kOf kd with
    | none => rw [z] at e; exact absurd e (by simp)
    | some k' =>
      rw [z] at e
      simp only [Option.map_some, Option.some.injEq, Prod.mk.injEq] at e
      obtain ⟨rfl, rfl⟩ := e
      exact ⟨kd, rfl, z⟩
  | [] => exact absurd e (by simp [pairD])
  | [_] => exact absurd e (by simp [pairD])
  | _ :: _ :: _ :: _ => exact absurd e (by simp [pairD])
theorem dq_tup {K : PySem.W.Frag} {F : Hp} {v : V} {ds : List DD} (h : Dq K F v (.tuple ds)) : ∃ a xs, v = .ref a ∧ SqT K F a xs ∧ DqAll K F xs ds := by
  cases h with
  | tup s q => exact ⟨_, _, rfl, s, q⟩
theorem dqs2 {K : PySem.W.Frag} {F : Hp} {xs : List V} {d e : DD} (h : DqAll K F xs [d, e]) : ∃ u w, xs = [u, w] ∧ Dq K F u d ∧ Dq K F w e := by
  cases h with
  | cons a t => cases t with
    | cons b t => cases t; exact ⟨_, _, rfl, a, b⟩
theorem pairD_ok {K : PySem.W.Frag} {F : Hp} {v : V} {d : DD} {k : Key} {x : DD} (h : Dq K F v d) (e : pairD d = some (k, x)) : ∃ a u, v = .ref a ∧ SqT K F a [kV k, u] ∧ Dq K F u x := by
  cases d with
  | tuple ds =>
    obtain ⟨kd, rfl, hk⟩ := pairD_tup e
    obtain ⟨a, xs, rfl, st, al⟩ := dq_tup h
    obtain ⟨u, w, rfl, h1, h2⟩ := dqs2 al
    have := kOf_dq h1 hk
    subst this
    exact ⟨a, w, rfl, st, h2⟩
  | int i => cases e
  | str x => cases e
  | none => cases e
  | bool b => cases e
  | list _ => cases e
  | dict _ => cases e
section
variable {X : Cx}
theorem dictL_ok {K : PySem.W.Frag} {F : Hp} : ∀ (ds : List DD) (vs : List V) (acc kds : List (DD × DD)) (kvs0 : List (Key × V)), DqAll K F vs ds → dictL ds acc = some kds → KDp K F kvs0 acc →
    ∃ (ps : List Addr) (kvs : List (Key × V)), vs = ps.map V.ref ∧ Paired (fun p kv => SqT K F p [kV kv.1, kv.2]) ps kvs ∧ KDp K F (mergeK kvs0 kvs) kds := by
  intro ds
  induction ds with
  | nil =>
    intro vs acc kds kvs0 h e k0
    cases h
    cases e
    exact ⟨[], [], rfl, .nil, k0⟩
  | cons d r ih =>
    intro vs acc kds kvs0 h e k0
    cases h with
    | cons hv ht =>
      replace e : ((pairD d).bind fun q => dictL r (putD acc q.1 q.2)) = some kds := e
      cases z : pairD d with
      | none => rw [z] at e; exact absurd e (by simp)
      | some q =>
        obtain ⟨k, x⟩ := q
        rw [z, Option.bind_some] at e
        obtain ⟨a, u, rfl, st, hu⟩ := pairD_ok hv z
        obtain ⟨ps, kvs, rfl, hp, km⟩ := ih _ _ _ _ ht e (k0.put k hu)
        exact ⟨a :: ps, (k, u) :: kvs, rfl, .cons st hp, km⟩
theorem paired_ex {K : PySem.W.Frag} {F H : Hp} (e : Ex F H) {ps : List Addr} {kvs : List (Key × V)} (h : Paired (fun p kv => SqT K F p [kV kv.1, kv.2]) ps kvs) : Paired (fun p (kv : Key × V) => SqT K H p [kV kv.1, kv.2]) ps kvs := by
  induction h with
  | nil => exact .nil
  | cons a _ ih => exact .cons (Evl.ex_t e a) ih
theorem o_dict (hc : X.calm = true) : CallR X (.type "dict") (rN X.K (rNew X.K (.dct .dat)) dictO) := by
  intro pins s σ H xs us Q I r h
  obtain ⟨F, ds, d, eF, vs, hf, q⟩ := h
  match ds, hf with
  | [.list es], hf =>
    obtain ⟨x, rfl, vx⟩ := vws1 vs
    obtain ⟨a, ws, rfl, ha, al⟩ := vx.lst eF
    replace hf : (dictL es []).map PyData.dict = some d := hf
    cases e : dictL es [] with
    | none => rw [e] at hf; cases hf
    | some kds =>
      rw [e] at hf
      cases hf
      obtain ⟨ps, kvs, rfl, hp, km⟩ := dictL_ok _ _ _ _ _ al e .nil
      refine call_dictP hc pins s σ H _ us Q I r ⟨a, ps, kvs, rfl, SqL.of ha, paired_ex eF hp, fun p hp0 => ?_⟩
      exact q _ _ _ (.own eF hp0) (new_dct eF hp0 km)
end
/-! ### and, or of values with effects -/
def xAndV (xa xb : En → R DD) : En → R DD := fun ρ => (xa ρ).bind fun x ρ => match x with
  | .bool k => if k = true then xb ρ else .ok (.bool false) ρ
  | _ => .stuck
def xOrV (xa xb : En → R DD) : En → R DD := fun ρ => (xa ρ).bind fun x ρ => match x with
  | .bool k => if k = true then .ok (.bool true) ρ else xb ρ
  | _ => .stuck
section
variable {X : Cx} {Δ : Nat → Sh} {W : WX} {a b : Expr} {es : List Expr} {pos : Pos} {xa xb : En → R DD}
theorem x_one {op : BoolOp} (ha : PE X a (tX X.K Δ W (fDp X.K) xa)) : PE X (.BoolOp op [a] pos) (tX X.K Δ W (fDp X.K) xa) := pe_one ha
theorem x_and (ha : PE X a (tX X.K Δ W (fDp X.K) xa)) (hb : PE X (.BoolOp .And (b :: es) pos) (tX X.K Δ W (fDp X.K) xb)) : PE X (.BoolOp .And (a :: b :: es) pos) (tX X.K Δ W (fDp X.K) (xAndV xa xb)) := by
  refine pe_mono (pe_and ha hb) fun σ H Q h => ?_
  obtain ⟨F0, B, F, ρ, E, p⟩ := h
  refine seqX (r1 := fDp X.K) E p fun t t' F1 H1 ρ1 E1 q1 p1 => ?_
  cases t with
  | bool k =>
    refine ⟨k, by cases q1; rfl, ?_⟩
    cases k with
    | true => exact ⟨F, B, F1, ρ1, E1, p1⟩
    | false => exact p1 _ F1 H1 E1 (.bl false)
  | _ => exact p1.elim
theorem x_or (ha : PE X a (tX X.K Δ W (fDp X.K) xa)) (hb : PE X (.BoolOp .Or (b :: es) pos) (tX X.K Δ W (fDp X.K) xb)) : PE X (.BoolOp .Or (a :: b :: es) pos) (tX X.K Δ W (fDp X.K) (xOrV xa xb)) := by
  refine pe_mono (pe_or ha hb) fun σ H Q h => ?_
  obtain ⟨F0, B, F, ρ, E, p⟩ := h
  refine seqX (r1 := fDp X.K) E p fun t t' F1 H1 ρ1 E1 q1 p1 => ?_
  cases t with
  | bool k =>
    refine ⟨k, by cases q1; rfl, ?_⟩
    cases k with
    | false => exact ⟨F, B, F1, ρ1, E1, p1⟩
    | true => exact p1 _ F1 H1 E1 (.bl true)
  | _ => exact p1.elim
end
end Pc

set_option maxRecDepth 100000
set_option maxHeartbeats 4000000
namespace Pc
open PySem PySem.Spec PyProof.Rows L2
open Evl (Ex)
theorem hu1 {a c : Nat} (h : a + 64 < c) : a + 1 < c := by omega
section
variable {X : Cx} {C : Ct} {Δ Δ' : Nat → Sh} {W : WX} {e : Expr} {pos p apos : Pos} {x : En → R DD}
theorem sx_extend {j : Nat} {y : Str} {pn : Pos} (hK : C.K = X.K) (he : PE X e (tX C.K Δ C.W (fDp C.K) x)) (hd : Δ j = .lst .dat := by rfl) (hN : X.N[j]? = some y := by rfl) (hv : Vis X.env.scope y := by first | exact Or.inl rfl | exact Or.inr (Or.inl rfl) | exact Or.inr (Or.inr rfl))
    (h1 : (y == ("__debug__" : Str)) = false := by decide) (h2 : (y == ("__classdict__" : Str)) = false := by decide) (hbase : attributeBase (.Name y pn) "extend" X.env (eval (.Name y pn) X.env) = eval (.Name y pn) X.env := by rfl)
    (hline : (apos.endLine == p.line) = true := by rfl) (hs : starEach [e] X.env = (false, eval e X.env) :: starEach [] X.env := by rfl) (hsw : swapsWith (.Call (.Attribute (.Name y pn) "extend" apos) [e] [] p) none pos.line X.env = pure false := by rfl)
    (hfew : ((backTo p (starEach [e] X.env)).all (fun x => !x.1) && (backToKw p (keywordEach [] X.env)).all (fun x => x.1.isSome) && decide (([e] : List Expr).length + ([] : List Keyword).length + (if ([] : List Keyword).isEmpty then 0 else 1) < 30)) = true := by rfl) :
    PS X (.Expr (.Call (.Attribute (.Name y pn) "extend" apos) [e] [] p) pos) (tS C Δ Δ (sM1X j extO x)) := by
  refine ps_mono (ps_expr (pe_bm PySem.F.plainAttrs_list PySem.F.slot_list_extend PySem.F.type_list_extend mt_extend (pe_var hN hv h1 h2) (pa_cons he pa_nil hs) hbase hfew hline hs rfl) hsw) fun D σ H h => ?_
  obtain ⟨F0, B, F, ρ, E, p⟩ := h
  unfold sM1X at p
  cases e0 : getO ρ j with
  | none => rw [e0] at p; exact p.elim
  | some d0 =>
    rw [e0] at p
    obtain ⟨v0, fp0, hv0, ow0, _, _⟩ := E.e.slot (getO_eq e0)
    rw [hd] at ow0
    obtain ⟨l0, vs0, ds0, fq0, rfl, rfl, hl0, _, _⟩ := ow0
    refine ⟨_, hv0, .inl ⟨rfl, _, SqL.of hl0⟩, stepX (r1 := fDp C.K) E p fun y w F1 H1 ρ1 E1 q p1 => ?_⟩
    cases e1 : getO ρ1 j with
    | none => rw [e1] at p1; exact p1.elim
    | some d1 =>
      rw [e1] at p1
      obtain ⟨v, fp, hv, ow, f, u⟩ := E1.e.slot (getO_eq e1)
      rw [hv0] at hv
      cases hv
      rw [hd] at ow u
      obtain ⟨l, vs, ds, fq, el, rfl, hl, ol, rfl⟩ := ow
      cases el
      obtain ⟨dq, _⟩ := dat_ownL ol
      cases y with
      | list es =>
        replace p1 : PostS C Δ F B D (match (if ds.length + es.length ≤ LIM then some (PyData.list (ds ++ es)) else none) with | some d' => .nx (ρ1.set j (some d')) | none => .stuck) := p1
        obtain ⟨b, ws, rfl, hb, dq2⟩ := Vw.lst E1.e.eF (.inl q)
        by_cases hz : ds.length + es.length ≤ LIM
        · rw [if_pos hz] at p1
          exact ⟨l0, b, vs, ws, rfl, rfl, hl, hb, by rw [lim_eq, dq.len, dq2.len]; exact hz, p1 σ F1 _ ⟨up_lst E1.e.eF f u (dq.app dq2), E1.sh, E1.ok⟩⟩
        · rw [if_neg hz] at p1; exact p1.elim
      | _ => exact p1.elim
end
end Pc

set_option maxRecDepth 100000
set_option maxHeartbeats 4000000
namespace Pc
open PySem PySem.Spec PyProof.Rows L2
open Evl (Ex)
/-! ### min(xs) -/
def minI : List Int → Int
  | [] => 0
  | [x] => x
  | x :: y :: r => if minI (y :: r) ≤ x then minI (y :: r) else x
theorem minI_spec : ∀ l : List Int, l ≠ [] → minI l ∈ l ∧ ∀ z ∈ l, minI l ≤ z := by
  intro l
  induction l with
  | nil => intro z; exact absurd rfl z
  | cons a t ih =>
    intro _
    cases t with
    | nil => exact ⟨by unfold minI; exact List.mem_cons_self, fun z hz => by unfold minI; rw [List.mem_singleton.mp hz]; exact Int.le_refl _⟩
    | cons b t =>
      obtain ⟨h1, h2⟩ := ih (by simp)
      unfold minI
      split
      · rename_i hle
        exact ⟨List.mem_cons_of_mem _ h1, fun z hz => by rcases List.mem_cons.mp hz with rfl | hz; exact hle; exact h2 z hz⟩
      · rename_i hle
        exact ⟨List.mem_cons_self, fun z hz => by rcases List.mem_cons.mp hz with rfl | hz; exact Int.le_refl _; exact Int.le_of_lt (Int.lt_of_lt_of_le (by omega) (h2 z hz))⟩
theorem minI_of {ns : List Int} {m : Int} (h : m ∈ ns) (g : ∀ y ∈ ns, m ≤ y) : m = minI ns := by
  obtain ⟨h1, h2⟩ := minI_spec ns (List.ne_nil_of_mem h)
  have := g _ h1
  have := h2 m h
  omega
def minLO : List DD → Option DD
  | [.list ds] => (intsD ds).bind fun ns => if ns.isEmpty = true then none else some (.int (minI ns))
  | _ => none
section
variable {X : Cx}
theorem o_minL (hc : X.calm = true) : CallR X (.builtin "min") (rN X.K (rDp X.K) minLO) := by
  intro pins s σ H xs us Q I r h
  obtain ⟨F, ds, d, eF, vs, hf, q⟩ := h
  match ds, hf with
  | [.list ds], hf =>
    obtain ⟨x, rfl, vx⟩ := vws1 vs
    obtain ⟨l, ws, rfl, s1, dq⟩ := vx.lst eF
    obtain ⟨ns, e1, e2⟩ := Option.bind_eq_some_iff.mp hf
    have ev := intsD_dq dq e1
    subst ev
    split at e2
    · cases e2
    · rename_i hne
      cases e2
      refine cr_min hc pins s σ H _ us Q I r ⟨l, ns, rfl, SqL.of s1, ?_, fun m h1 h2 => ?_⟩
      · cases ns with
        | nil => exact absurd rfl hne
        | cons _ _ => exact Nat.succ_pos _
      · rw [minI_of h1 h2]
        exact q _ F H (.refl eF) (.int _)
end
end Pc

set_option maxRecDepth 100000
set_option maxHeartbeats 4000000
namespace Pc
open PySem PySem.Spec PyProof.Rows L2
open Evl (Ex)
/-! ### lists made one by one, by things that change what one owns -/
def Bd (B : Hp) (l : Addr) (u : HO) : Hp := fun a => if a = l then some u else B a
theorem Bd_same {B : Hp} {l : Addr} {u : HO} : Bd B l u l = some u := if_pos rfl
theorem Bd_ne {B : Hp} {l a : Addr} {u : HO} (h : a ≠ l) : Bd B l u a = B a := if_neg h
section
variable {K : PySem.W.Frag} {Δ : Nat → Sh} {F0 B B1 F H : Hp} {σ : L2.St} {ρ : En} {l : Addr} {u : HO}
theorem EnvOk.setB (E : EnvOk K Δ F0 B1 F H σ ρ) (hF : F l = none) (hb : ∀ a, a ≠ l → Bd B l u a = B1 a) (hn : H l = none ∨ B1 l ≠ none) : EnvOk K Δ F0 (Bd B l u) F (upd H l u) σ ρ := by
  obtain ⟨len, e0, eF, eB, lim, φ, h1, h2, h3, h4⟩ := E
  have off : ∀ i a, a ∈ φ i → a ≠ l := fun i a ha z => by
    obtain ⟨_, q2, q3⟩ := h4 i a ha
    subst z
    rcases hn with hn | hn
    · exact q3 hn
    · exact hn q2
  refine ⟨len, e0, fun a o h => ?_, fun a o h => ?_, fun a q1 q2 => ?_, φ, fun i d hd => ?_, h2, h3, fun i a ha => ?_⟩
  · rw [upd_ne (fun z => by rw [z, hF] at h; cases h)]; exact eF a o h
  · by_cases z : a = l
    · subst z; rw [Bd_same] at h; rw [upd_same]; exact h
    · rw [hb a z] at h; rw [upd_ne z]; exact eB a o h
  · by_cases z : a = l
    · subst z; exact hF
    · rw [hb a z] at q2; exact lim a q1 q2
  · obtain ⟨v, e, o⟩ := h1 i d hd
    exact ⟨v, e, Own.stay _ v d _ (Ex.refl F) (fun a ha => upd_ne (off i a ha)) o⟩
  · obtain ⟨q1, q2, q3⟩ := h4 i a ha
    exact ⟨q1, by rw [hb a (off i a ha)]; exact q2, by rw [upd_ne (off i a ha)]; exact q3⟩
theorem EnvOk.frzB (E : EnvOk K Δ F0 (Bd B l u) F H σ ρ) (hF : F l = none) (hB : B l = none) : EnvOk K Δ F0 B (upd F l u) H σ ρ := by
  have hH : H l = some u := E.eB l u Bd_same
  obtain ⟨len, e0, eF, eB, lim, φ, h1, h2, h3, h4⟩ := E
  have off : ∀ i a, a ∈ φ i → a ≠ l := fun i a ha z => by
    obtain ⟨_, q2, q3⟩ := h4 i a ha
    subst z
    rw [Bd_same] at q2; cases q2
  refine ⟨len, fun a o h => ?_, fun a o h => ?_, fun a o h => ?_, fun a q1 q2 => ?_, φ, fun i d hd => ?_, h2, h3, fun i a ha => ?_⟩
  · have := e0 a o h
    rw [upd_ne (fun z => by rw [z, hF] at this; cases this)]; exact this
  · by_cases z : a = l
    · subst z; rw [upd_same] at h; rw [hH]; exact h
    · rw [upd_ne z] at h; exact eF a o h
  · have z : a ≠ l := fun z => by rw [z, hB] at h; cases h
    exact eB a o (by rw [Bd_ne z]; exact h)
  · have z : a ≠ l := fun z => by rw [z] at q2; exact q2 hB
    rw [upd_ne z]
    exact lim a q1 (by rw [Bd_ne z]; exact q2)
  · obtain ⟨v, e, o⟩ := h1 i d hd
    exact ⟨v, e, Own.stay _ v d _ (Ex.new hF) (fun a _ => rfl) o⟩
  · obtain ⟨q1, q2, q3⟩ := h4 i a ha
    have z := off i a ha
    exact ⟨by rw [upd_ne z]; exact q1, by rw [Bd_ne z] at q2; exact q2, q3⟩
theorem EnvOk.slots {σ' : L2.St} {vs : List Nat} (E : EnvOk K Δ F0 B F H (L2.wipe σ vs) ρ) (hl : σ.length = ρ.length) (hw : ∀ j ∈ vs, ∀ d, ρ[j]? ≠ some (some d)) : EnvOk K Δ F0 B F H σ ρ := by
  obtain ⟨len, e0, eF, eB, lim, φ, h1, h2, h3, h4⟩ := E
  refine ⟨hl, e0, eF, eB, lim, φ, fun i d hd => ?_, h2, h3, h4⟩
  obtain ⟨v, e, o⟩ := h1 i d hd
  have hi : i ∉ vs := fun z => hw i z d hd
  rw [wipe_get hi] at e
  exact ⟨v, e, o⟩
end
theorem wipeE_len (ρ : En) : ∀ vs : List Nat, (wipeE ρ vs).length = ρ.length
  | [] => rfl
  | v :: vs => by
    show ((wipeE ρ vs).set v none).length = _
    rw [List.length_set]; exact wipeE_len ρ vs
theorem wipeE_in (ρ : En) : ∀ (vs : List Nat) (j : Nat), j ∈ vs → ∀ d, (wipeE ρ vs)[j]? ≠ some (some d)
  | [], j, h, d => nomatch h
  | v :: vs, j, h, d => by
    intro z
    replace z : ((wipeE ρ vs).set v none)[j]? = some (some d) := z
    by_cases e : v = j
    · subst e
      rw [List.getElem?_set] at z
      simp at z
    · rw [List.getElem?_set_ne e] at z
      rcases List.mem_cons.mp h with h | h
      · exact e h.symm
      · exact wipeE_in ρ vs j h d z
def lcEg (bd : DD → En → Option En) (xe : En → R DD) (vs : List Nat) : List DD → En → R (List DD)
  | [], ρ => .ok [] ρ
  | x :: xs, ρ => match bd x ρ with
    | none => .stuck
    | some ρ1 => match xe ρ1 with
      | .ok y ρ2 => match lcEg bd xe vs xs (wipeE ρ2 vs) with
        | .ok ys ρ3 => .ok (y :: ys) ρ3
        | _ => .stuck
      | _ => .stuck
def lcE (src : En → P (List DD)) (vs : List Nat) (bd : DD → En → Option En) (xe : En → R DD) : En → R DD := fun ρ => match src ρ with
  | .ok xs => if xs.length ≤ LIM then (match lcEg bd xe vs xs (wipeE ρ vs) with
    | .ok ys ρ' => .ok (.list ys) ρ'
    | _ => .stuck) else .stuck
  | _ => .stuck
section
variable {X : Cx} {C : Ct} {Δ : Nat → Sh} {W : WX} {e elt tg iter : Expr} {ifs : List Expr} {scope : Scope} {pos : Pos} {src : En → P (List DD)} {x xe : En → R DD} {vs : List Nat} {bd : DD → En → Option En} {cond : En → P Bool} {me : En → P DD}
theorem lcE_of (σ : L2.St) (H : Hp) (Q : VK) (h : tX X.K Δ W (fDp X.K) (lcE src vs bd xe) σ H Q) : tLc (tG X.K Δ W (rWF X.K) src) (tB X.K Δ vs bd) (tG X.K Δ noW rBl tYes) (tX X.K Δ noW (fDp X.K) xe) vs σ H Q := by
  obtain ⟨F0, B, F, ρ, E, p⟩ := h
  unfold lcE at p
  cases z : src ρ with
  | stuck => rw [z] at p; exact p.elim
  | exc c => rw [z] at p; exact p.elim
  | ok ds =>
    rw [z] at p
    dsimp only at p
    by_cases hlim : ds.length ≤ LIM
    case neg => rw [if_neg hlim] at p; exact p.elim
    rw [if_pos hlim] at p
    cases et : lcEg bd xe vs ds (wipeE ρ vs) with
    | stuck => rw [et] at p; exact p.elim
    | exc c ρ' => rw [et] at p; exact p.elim
    | ok tot ρe =>
      rw [et] at p
      dsimp only at p
      refine ⟨F0, B, F, ρ, E, ?_⟩
      rw [z]
      intro J F1 H1 g wk Dd hD
      have E1 := E.gw g
      have hBD : B Dd = none := none_of_ex E1.eB hD
      have hF1 : F1 Dd = none := none_of_ex E1.eF hD
      have hlen : σ.length = ρ.length := E.len
      refine ⟨fun i m H' => m = ds.length - i ∧ i ≤ ds.length ∧ ∃ F' ρ' accV accD rest, EnvOk X.K Δ F0 (Bd B Dd (.lst accV)) F' H' (wipe σ vs) ρ' ∧ Ex F1 F' ∧ F' Dd = none ∧ DqAll X.K F' accV accD ∧ lcEg bd xe vs (ds.drop i) ρ' = .ok rest ρe ∧ tot = accD ++ rest ∧ accD.length ≤ i ∧ ρ'.length = ρ.length ∧ ∀ j ∈ vs, ∀ d, ρ'[j]? ≠ some (some d),
        ⟨_, rfl, Nat.zero_le _, F1, wipeE ρ vs, [], [], tot, EnvOk.setB (B := B) (B1 := B) (E1.wipe vs) hF1 (fun a ha => Bd_ne ha) (.inl hD), Ex.refl _, hF1, .nil, et, rfl, Nat.le_refl _, wipeE_len ρ vs, wipeE_in ρ vs⟩, ?_⟩
      rintro i m H' ⟨rfl, hi, F', ρ', accV, accD, rest, E', x1, hF, dq, eR, eT, hacc, hl', hw'⟩
      obtain ⟨w1, w2⟩ := wk i F' H' x1 E'.eF
      by_cases hlt : i < ds.length
      · refine .inr ?_
        have hdi : ds[i]? = some ds[i] := List.getElem?_eq_getElem hlt
        obtain ⟨go, yl⟩ := w1 _ hdi
        refine ⟨go, _, fun H2 z => ⟨ds.length - (i + 1), by omega, rfl, hlt, z⟩, fun x H2 y => ?_⟩
        obtain ⟨F2, g2, dx⟩ := yl x H2 y
        rw [drop_get hdi] at eR
        unfold lcEg at eR
        cases eb : bd ds[i] ρ' with
        | none => rw [eb] at eR; cases eR
        | some ρ1 =>
          rw [eb] at eR
          dsimp only at eR
          have E2 := E'.gw g2
          have hHd : H' Dd = some (.lst accV) := E'.eB _ _ Bd_same
          have hF2 : F2 Dd = none := g2.2.2.2 Dd (by rw [hHd]; exact fun z => nomatch z) hF
          refine ⟨F2, Bd B Dd (.lst accV), F2, ρ', ds[i], ρ1, E2.base, dx, eb, fun σ2 S2 E3 => ⟨wipe_same S2, F2, Bd B Dd (.lst accV), F2, ρ1, E3, ?_⟩⟩
          intro t F3 H3 g3 ht
          cases ht
          show tX X.K Δ noW (fDp X.K) xe σ2 H3 _
          have E4 := E3.gw g3
          have hH2 : H2 Dd = some (.lst accV) := E2.eB _ _ Bd_same
          have hF3 : F3 Dd = none := g3.2.2.2 Dd (by rw [hH2]; exact fun z => nomatch z) hF2
          refine ⟨F3, Bd B Dd (.lst accV), F3, ρ1, E4.base, ?_⟩
          cases ex : xe ρ1 with
          | stuck => rw [ex] at eR; cases eR
          | exc c ρ2 => rw [ex] at eR; cases eR
          | ok yd ρ2 =>
            rw [ex] at eR
            dsimp only at eR
            cases er : lcEg bd xe vs (ds.drop (i + 1)) (wipeE ρ2 vs) with
            | stuck => rw [er] at eR; cases eR
            | exc c ρ3 => rw [er] at eR; cases eR
            | ok ys ρ3 =>
              rw [er] at eR
              cases eR
              intro y5 F5 H5 E5 dy
              have hH5 : H5 Dd = some (.lst accV) := E5.eB _ _ Bd_same
              have hF5 : F5 Dd = none := E5.lim Dd hF3 (by rw [Bd_same]; exact fun z => nomatch z)
              refine ⟨accV, hH5, by rw [lim_eq, dq.len]; omega, ?_⟩
              have x5 : Ex F1 F5 := ((x1.trans g2.1).trans g3.1).trans E5.e0
              have E6 : EnvOk X.K Δ F0 (Bd B Dd (.lst accV)) F5 H5 σ2 ρ2 := E5.down ((E1.e0.trans x1).trans (g2.1.trans g3.1)) fun a q1 q2 => g3.2.2.2 a (ne_none_of_ex E3.eB q2) (g2.2.2.2 a (ne_none_of_ex E'.eB q2) (E'.lim a q1 q2))
              have E7 := E6.wipe vs
              rw [wipe_same S2] at E7
              have hl2 : ρ2.length = ρ.length := by rw [← E6.len, ← hlen, S2.1]; exact (E'.len.trans hl').trans hlen.symm
              refine ⟨F5, wipeE ρ2 vs, accV ++ [y5], accD ++ [yd], ys, EnvOk.setB (B := B) E7 hF5 (fun a ha => by rw [Bd_ne ha, Bd_ne ha]) (.inr (by rw [Bd_same]; exact fun z => nomatch z)), x5, hF5, (dq.mn ((g2.1.trans g3.1).trans E5.e0)).app (.one dy), er, by rw [eT]; simp, by simp; omega, by rw [wipeE_len]; exact hl2, wipeE_in ρ2 vs⟩
      · have hi' : i = ds.length := by omega
        subst hi'
        refine .inl ⟨w2 (Nat.le_refl _), ?_⟩
        rw [List.drop_length] at eR
        cases eR
        rw [List.append_nil] at eT
        subst eT
        have E8 := (E'.frzB hF hBD).slots (σ' := σ) (by rw [hlen, hl']) hw'
        exact p _ _ H' E8 (.lst upd_same (dq.mn (Ex.new hF)))
/-- [f() for .. in ..], as data -/
theorem x_lcE (own : List (Str × Nat)) (hc : X.calm = true) (hN : X.N.Nodup) (hi : PI X tg iter (tG X.K Δ W (rWF X.K) src)) (ok : BlkOk X.N X.env.scope scope own)
    (hg : ∀ (s : Shared) (H : Hp) (Cc : Addr) (cl : List (Str × Addr)) (fp : List Addr), PG (X.blk s H scope (compEnvC scope cl Cc X.env) fp) tg (tB X.K Δ (own.map (·.2)) bd))
    (he : ∀ (s : Shared) (H : Hp) (Cc : Addr) (cl : List (Str × Addr)) (fp : List Addr), PE (X.blk s H scope (compEnvC scope cl Cc X.env) fp) elt (tX X.K Δ noW (fDp X.K) xe)) (hs : ∀ x, foldedSetIterable iter X.env x = pure x := by intro _; rfl) :
    PE X (.ListComp elt [⟨tg, iter, [], 0⟩] scope pos) (tX X.K Δ W (fDp X.K) (lcE src (own.map (·.2)) bd xe)) := pe_mono (pe_lc hc hN hi ok hg (fun _ _ _ _ _ => ts_nil) he hs) lcE_of
/-! ### for .. in f() -/
def sForX (src : En → R (List DD)) (bd : DD → En → Option En) (body : En → Fl) : En → Fl := fun ρ => liftX (src ρ) fun xs ρ => forL bd body xs ρ
theorem s_forX {vs : List Nat} {src : En → R (List DD)} {mbody : En → Fl} {body : List Stmt} (hp : PassesOwn (model X.prog X.w) X.A X.env X.xe) (hc : X.calm = true) (hi : PI X tg iter (tX C.K Δ C.W (fWF C.K) src)) (hg : PG X tg (tB C.K Δ vs bd)) (hb : PSs X body (tS (C.lp Δ) Δ Δ mbody))
    (hs : ∀ x, foldedSetIterable iter X.env x = pure x := by intro _; rfl) : PS X (.For tg iter body [] pos) (tS C Δ Δ (sForX src bd mbody)) := by
  refine ps_mono (ps_for hp hc hi hg hb hs) fun D σ H h => ?_
  obtain ⟨F0, B, F, ρ, E, p⟩ := h
  refine stepX (r1 := fWF C.K) E p fun ds J F1 H1 ρ1 E1 wk p1 => ?_
  refine ⟨fun i n σ' H' => n = ds.length - i ∧ i ≤ ds.length ∧ ∃ F' ρ', EnvS C Δ F1 B F' H' σ' ρ' ∧ PostS C Δ F1 B D (forL bd mbody (ds.drop i) ρ'), ⟨_, rfl, Nat.zero_le _, F1, ρ1, E1.base, p1.up E1.e.e0 E1.e.lim⟩, ?_⟩
  rintro i n σ' H' ⟨rfl, hi, F', ρ', E', p'⟩
  obtain ⟨w1, w2⟩ := wk i F' H' E'.e.e0 E'.e.eF
  by_cases hlt : i < ds.length
  · refine .inr ?_
    have hd : ds[i]? = some ds[i] := List.getElem?_eq_getElem hlt
    obtain ⟨go, yl⟩ := w1 _ hd
    refine ⟨go, _, fun σ2 H2 z => ⟨ds.length - (i + 1), by omega, rfl, hlt, z⟩, fun x H2 y => ?_⟩
    obtain ⟨F2, g2, dq⟩ := yl x H2 y
    rw [drop_get hd] at p'
    exact turn_ok (E'.gw g2) dq p' fun σ3 F3 H3 ρ3 E3 p3 => ⟨F3, ρ3, E3, p3⟩
  · have e : i = ds.length := by omega
    subst e
    rw [List.drop_length] at p'
    exact .inl ⟨w2 (Nat.le_refl _), p' σ' F' H' E'⟩
end
end Pc

set_option maxRecDepth 100000
set_option maxHeartbeats 4000000
namespace Pc
open PySem PySem.Spec PyProof.Rows L2
open Evl (Ex)
section
variable {X : Cx} {C : Ct} {Δ Δ' : Nat → Sh} {W : WX} {e a b c o o2 i1 i2 value : Expr} {es : List Expr} {pos p p1 p2 p3 q1 q2 q3 pt pt2 pd : Pos} {m ma mb m1' m2' mv : En → P DD} {pl pl2 : Pl} {kt k2}
/-- x, y = a, b, where a name is a cell -/
theorem s_parC {i j : Nat} {x y : Str} {px py : Pos} (hK : C.K = X.K) (ha : PE X a (tG C.K Δ C.W (rNew C.K (Δ i)) ma)) (hb : PE X b (tG C.K Δ C.W (rNew C.K (Δ j)) mb)) (hc : X.calm = true) (hN : X.N.Nodup) (hi : X.N[i]? = some x := by rfl) (hj : X.N[j]? = some y := by rfl)
    (hx : Loc X.env.scope x := by first | exact Or.inl rfl | exact Or.inr rfl) (hfx : X.fn x = true ∨ X.env.scope.names.lookup x = some .local := by first | exact .inl rfl | exact .inr rfl) (hy : Loc X.env.scope y := by first | exact Or.inl rfl | exact Or.inr rfl) (hfy : X.fn y = true ∨ X.env.scope.names.lookup y = some .local := by first | exact .inl rfl | exact .inr rfl)
    (hw : swappedStores [.Tuple [.Name x px, .Name y py] kt pt] (.Tuple [a, b] k2 pt2) X.env = pure none := by rfl)
    (hs : swapsWithSole [.Tuple [.Name x px, .Name y py] kt pt] (.Tuple [a, b] k2 pt2) pos.line X.env = pure false := by rfl)
    (h0 : (assignEach [.Tuple [.Name x px, .Name y py] kt pt] X.env).map (·.2) = [assign (.Tuple [.Name x px, .Name y py] kt pt) X.env] := by rfl)
    (ge1 : (assignEach [.Name x px, .Name y py] X.env).map (·.2) = assign (.Name x px) X.env :: (assignEach [.Name y py] X.env).map (·.2) := by rfl)
    (ge2 : (assignEach [.Name y py] X.env).map (·.2) = assign (.Name y py) X.env :: (assignEach [] X.env).map (·.2) := by rfl)
    (gn : (assignEach [.Name x px, .Name y py] X.env).length = 2 := by rfl) (gst : (assignEach [.Name x px, .Name y py] X.env).findIdx? (·.1) = none := by rfl)
    (h1 : starEach [a, b] X.env = (false, eval a X.env) :: starEach [b] X.env := by rfl) (h2 : starEach [b] X.env = (false, eval b X.env) :: starEach [] X.env := by rfl) :
    PS X (.Assign [.Tuple [.Name x px, .Name y py] kt pt] (.Tuple [a, b] k2 pt2) pos) (tS C Δ Δ (sPar i j (consM ma (consM mb mNil)))) := by
  refine ps_mono (ps_asg (pe_tup (pa_cons ha (pa_cons hb pa_nil h2) h1)) (pg_tup hc (pgs_cons (pg_name (i := i) hN hi hx hfx) (pgs_cons (pg_name (i := j) hN hj hy hfy) pgs_nil ge2) ge1) gn gst) hs hw h0) fun D σ H h => ?_
  obtain ⟨F0, B, F, ρ, E, p⟩ := h
  have e : ∀ k : List PyData → Fl, liftP ((consM ma (consM mb mNil)) ρ) ρ k = liftP (ma ρ) ρ fun x => liftP (mb ρ) ρ fun y => k [x, y] := by
    intro k
    show liftP ((ma ρ).bind fun x => ((mb ρ).bind fun y => (mNil ρ).bind fun xs => .ok (y :: xs)).bind fun xs => .ok (x :: xs)) ρ k = _
    cases ma ρ with
    | ok a => cases mb ρ <;> rfl
    | exc c => rfl
    | stuck => rfl
  have p' : PostS C Δ F0 B D (liftP (ma ρ) ρ fun x => liftP (mb ρ) ρ fun y => par2 i j ρ [x, y]) := by rw [← e]; exact p
  refine stepS (r := rNew C.K (Δ i)) E p' fun d v F1 H1 g q E1 p1 => ?_
  refine stepS (r := rNew C.K (Δ j)) E1 p1 fun d2 v2 F2 H2 g2 q2 E2 p2 => ⟨by rw [sizeLine_eq]; exact (by simp), fun t ht => ?_⟩
  refine ⟨t, [v, v2], rfl, SqT.of upd_same, rfl, v, [v2], rfl, v2, [], rfl, rfl, ?_⟩
  exact p2 _ F2 _ ⟨((E.e.setNew g q).setNew g2 q2).gw (.own E2.e.eF ht), E2.sh, E2.ok⟩
/-! ### d[k], e[l] = a, b -/
def dput1 (pl : Pl) (mk : En → P DD) (v : DD) (ρ : En) (k : En → Fl) : Fl := liftP (mPl pl ρ) ρ fun d => liftP (mk ρ) ρ fun y => match dputO d y v with
  | some d' => k (pl.set ρ d')
  | none => .stuck
def sDpar2 (pl pl2 : Pl) (mk1 mk2 ma mb : En → P DD) : En → Fl := fun ρ => liftP (ma ρ) ρ fun a => liftP (mb ρ) ρ fun b => dput1 pl mk1 a ρ fun ρ => dput1 pl2 mk2 b ρ .nx
theorem dput1_ok {F0 B F H : Hp} {σ : L2.St} {ρ : En} {mk : En → P DD} {v : V} {dv : DD} {k : En → Fl} {D : Ends} {Q : L2.St → Hp → Prop} (hK : C.K = X.K) (E : EnvS C Δ F0 B F H σ ρ) (hv : Dq C.K F v dv) (p : PostS C Δ F0 B D (dput1 pl mk dv ρ k))
    (n : ∀ F1 H1 d', EnvS C Δ F0 B F1 H1 σ (pl.set ρ d') → Ex F F1 → PostS C Δ F0 B D (k (pl.set ρ d')) → Q σ H1) : gSub (tPl C.K Δ (.dct .dat) pl) (tG C.K Δ C.W (rVw C.K) mk) rSetD v σ H Q := by
  refine pl_postS E p fun d x fp e0 ow f u p2 => stepS (r := rVw C.K) E p2 fun dy y F2 H2 g2 q2 E2 p3 => ?_
  obtain ⟨l, kvs, kds, fq, rfl, rfl, hl, ol, rfl⟩ := ow
  obtain ⟨kd, _⟩ := ownK_dat ol
  replace p3 : PostS C Δ F0 B D (match ((kOf dy).bind fun k => if kds.length < LIM then some (PyData.dict (putD kds k dv)) else none) with | some d' => k (pl.set ρ d') | none => .stuck) := p3
  cases ek : kOf dy with
  | none => rw [ek] at p3; exact p3.elim
  | some kk =>
    rw [ek] at p3
    replace p3 : PostS C Δ F0 B D (match (if kds.length < LIM then some (PyData.dict (putD kds kk dv)) else none) with | some d' => k (pl.set ρ d') | none => .stuck) := p3
    have ey := kOf_v q2 ek
    subst ey
    by_cases hz : kds.length < LIM
    · rw [if_pos hz] at p3
      refine ⟨l, _, rfl, DPut.k (g2.2.2.1 _ _ hl) (by rw [lim_eq, kd.len]; exact hz), ?_⟩
      exact n F2 _ _ ⟨up_dct E2.e.eF (f.gw g2) (u.gw g2) ((kd.mn g2.1).put kk (Dq.mn hv g2.1)), E2.sh, E2.ok⟩ g2.1 p3
    · rw [if_neg hz] at p3; exact p3.elim
theorem s_dpar2 (hK : C.K = X.K) (hc : X.calm = true) (hu : X.A.units + 64 < cLine) (ho : PE X o (tPl C.K Δ (.dct .dat) pl)) (ho2 : PE X o2 (tPl C.K Δ (.dct .dat) pl2)) (hi1 : PE X i1 (tG C.K Δ C.W (rVw C.K) m1')) (hi2 : PE X i2 (tG C.K Δ C.W (rVw C.K) m2')) (ha : PE X a (tG C.K Δ C.W (rDp C.K) ma)) (hb : PE X b (tG C.K Δ C.W (rDp C.K) mb))
    (hs : swapsWithSole [.Tuple [.Subscript o i1 q1, .Subscript o2 i2 q2] kt pt] (.Tuple [a, b] k2 pt2) pos.line X.env = pure false := by rfl) (hw : swappedStores [.Tuple [.Subscript o i1 q1, .Subscript o2 i2 q2] kt pt] (.Tuple [a, b] k2 pt2) X.env = pure none := by rfl)
    (h1 : (assignEach [.Tuple [.Subscript o i1 q1, .Subscript o2 i2 q2] kt pt] X.env).map (·.2) = [assign (.Tuple [.Subscript o i1 q1, .Subscript o2 i2 q2] kt pt) X.env] := by rfl)
    (ga : ∀ v, assign (.Subscript o i1 q1) X.env v = (do
      let ov ← holding [v] (eval o X.env)
      let iv ← holding [v, ov] (eval i1 X.env)
      standAt q1
      holding [v, ov, iv] (setItem ov iv v)
      release [v, ov, iv] []) := by intro _; rfl)
    (gb : ∀ v, assign (.Subscript o2 i2 q2) X.env v = (do
      let ov ← holding [v] (eval o2 X.env)
      let iv ← holding [v, ov] (eval i2 X.env)
      standAt q2
      holding [v, ov, iv] (setItem ov iv v)
      release [v, ov, iv] []) := by intro _; rfl)
    (ge1 : (assignEach [.Subscript o i1 q1, .Subscript o2 i2 q2] X.env).map (·.2) = assign (.Subscript o i1 q1) X.env :: (assignEach [.Subscript o2 i2 q2] X.env).map (·.2) := by rfl)
    (ge2 : (assignEach [.Subscript o2 i2 q2] X.env).map (·.2) = assign (.Subscript o2 i2 q2) X.env :: (assignEach [] X.env).map (·.2) := by rfl)
    (gn : (assignEach [.Subscript o i1 q1, .Subscript o2 i2 q2] X.env).length = 2 := by rfl) (gst : (assignEach [.Subscript o i1 q1, .Subscript o2 i2 q2] X.env).findIdx? (·.1) = none := by rfl)
    (s1 : starEach [a, b] X.env = (false, eval a X.env) :: starEach [b] X.env := by rfl) (s2 : starEach [b] X.env = (false, eval b X.env) :: starEach [] X.env := by rfl) :
    PS X (.Assign [.Tuple [.Subscript o i1 q1, .Subscript o2 i2 q2] kt pt] (.Tuple [a, b] k2 pt2) pos) (tS C Δ Δ (sDpar2 pl pl2 m1' m2' ma mb)) := by
  refine ps_mono (ps_asg (pe_tup (pa_cons ha (pa_cons hb pa_nil s2) s1)) (pg_tup hc (pgs_cons (pg_sub ho hi1 (set_dict (by omega)) ga) (pgs_cons (pg_sub ho2 hi2 (set_dict (by omega)) gb) pgs_nil ge2) ge1) gn gst) hs hw h1) fun D σ H h => ?_
  obtain ⟨F0, B, F, ρ, E, p⟩ := h
  refine stepS (r := rDp C.K) E p fun da va F1 H1 g1 q1 E1 p1 => ?_
  refine stepS (r := rDp C.K) E1 p1 fun db vb F2 H2 g2 q2 E2 p2 => ⟨by rw [sizeLine_eq]; exact (by simp), fun t ht => ?_⟩
  refine ⟨t, [va, vb], rfl, SqT.of upd_same, rfl, va, [vb], rfl, dput1_ok (X := X) hK (E2.gw (.own E2.e.eF ht)) (Dq.mn q1 g2.1) p2 fun F3 H3 d' E3 x3 p3 => ?_⟩
  refine ⟨vb, [], rfl, dput1_ok (X := X) hK E3 (Dq.mn q2 x3) p3 fun F4 H4 d2 E4 x4 p4 => ⟨rfl, ?_⟩⟩
  exact p4 σ F4 H4 E4
end
end Pc

set_option maxRecDepth 100000
set_option maxHeartbeats 4000000
namespace Pc
open PySem PySem.Spec PyProof.Rows L2
open Evl (Ex)
/-! ### sorted(d.items()), numbers to numbers -/
def pairsI : List (DD × DD) → Option (List (Int × Int))
  | [] => some []
  | (.int i, .int j) :: r => (pairsI r).map ((i, j) :: ·)
  | _ :: _ => none
def encII (q : Int × Int) : DD := .tuple [.int q.1, .int q.2]
def srtII (l : List (Int × Int)) : List (Int × Int) := l.mergeSort (PySem.W.dataLe false encII)
def sitemsO : DD → Option DD
  | .dict kds => (pairsI kds).bind fun l => if l.length < 60000 then some (.list ((srtII l).map encII)) else none
  | _ => none
theorem pairs_at {P : Program} {w : World} {K : PySem.W.Frag} {F : Hp} : ∀ {es : List DictEntry} {vs : List (Key × Value)} {kvs : List (Key × V)} {kds : List (DD × DD)} {l : List (Int × Int)}, Pairs (mixKind P w) es vs → KV kvs vs → KDp K F kvs kds → pairsI kds = some l →
    es.length = l.length ∧ ∀ (j : Nat) (e : DictEntry), es[j]? = some e → ∃ q t1 t2, l[j]? = some q ∧ e.key = Value.int q.1 t1 ∧ e.val = Value.int q.2 t2
  | _, _, _, _, _, .nil, kv, kd, h => by
    cases kv
    cases kd
    cases h
    exact ⟨rfl, fun j e q => by simp at q⟩
  | _, _, _, _, _, .cons (e := e0) (kv := kv0) hk hv r, kv, kd, h => by
    cases kv with
    | cons a t =>
      rename_i p0 kvs0
      cases kd with
      | cons d0 dr =>
        rename_i k v0 d kds0
        obtain ⟨a1, a2⟩ := a
        cases k with
        | inr x => cases h
        | inl i =>
          cases d with
          | int jv =>
            replace h : (pairsI kds0).map ((i, jv) :: ·) = some _ := h
            obtain ⟨l0, e1, rfl⟩ := Option.map_eq_some_iff.mp h
            obtain ⟨ih1, ih2⟩ := pairs_at r t dr e1
            refine ⟨by rw [List.length_cons, List.length_cons, ih1], fun j e q => ?_⟩
            cases j with
            | zero =>
              cases q
              have hk' : keyIs kv0.1 e0.key = true := hk
              rw [← a1] at hk'
              rcases keyIs_shape hk' with ⟨i', t1, z1, z2⟩ | ⟨x, t1, z1, z2⟩
              · cases z1
                cases d0
                obtain ⟨t2, z3⟩ := a2
                exact ⟨(i, jv), t1, t2, rfl, z2, by rw [hv, z3]⟩
              · cases z1
            | succ j => exact ih2 j e q
          | _ => cases h
theorem each_ix {R : Value → Int × Int → Prop} : ∀ {vs : List Value} {bs : List (Int × Int)}, vs.length = bs.length → (∀ (j : Nat) (v : Value) (q : Int × Int), vs[j]? = some v → bs[j]? = some q → R v q) → PySem.W.EachIs R vs bs
  | [], [], _, _ => .nil
  | [], _ :: _, h, _ => by cases h
  | _ :: _, [], h, _ => by cases h
  | v :: vs, q :: bs, h, f => .cons (f 0 v q rfl rfl) (each_ix (Nat.succ.inj h) fun j v q h1 h2 => f (j + 1) v q h1 h2)
theorem each_refs {as : List Addr} {l : List (Int × Int)} : ∀ {out : List Value} {bs : List (Int × Int)}, PySem.W.EachIs (fun v q => ∃ (t : Addr) (j : Nat), v = Value.ref t ∧ as[j]? = some t ∧ l[j]? = some q) out bs →
    ∃ ts : List Addr, out = ts.map Value.ref ∧ ts.length = bs.length ∧ ∀ (i : Nat) (t : Addr), ts[i]? = some t → ∃ (j : Nat) (q : Int × Int), bs[i]? = some q ∧ as[j]? = some t ∧ l[j]? = some q
  | _, _, .nil => ⟨[], rfl, rfl, fun i t h => by simp at h⟩
  | _, _, .cons ⟨t, j, e1, e2, e3⟩ r => by
    obtain ⟨ts, h1, h2, h3⟩ := each_refs r
    refine ⟨t :: ts, by rw [e1, h1]; rfl, by rw [List.length_cons, List.length_cons, h2], fun i u hu => ?_⟩
    cases i with
    | zero => cases hu; exact ⟨j, _, rfl, e2, e3⟩
    | succ i => exact h3 i u hu
theorem dqs_refs {K : PySem.W.Frag} {F : Hp} : ∀ {ts : List Addr} {bs : List (Int × Int)}, ts.length = bs.length → (∀ (i : Nat) (t : Addr) (q : Int × Int), ts[i]? = some t → bs[i]? = some q → SqT K F t [.int q.1, .int q.2]) → DqAll K F (ts.map V.ref) (bs.map encII)
  | [], [], _, _ => .nil
  | [], _ :: _, h, _ => by cases h
  | _ :: _, [], h, _ => by cases h
  | t :: ts, q :: bs, h, f => .cons (.tup (f 0 t q rfl rfl) (.cons (.int _) (.cons (.int _) .nil))) (dqs_refs (Nat.succ.inj h) fun i t q h1 h2 => f (i + 1) t q h1 h2)
section
variable {X : Cx} {Δ : Nat → Sh} {W : WX} {o : Expr} {pl : Pl} {apos cpos pos p : Pos}
def rItK : V → List V → Hp → VK → Prop := fun x xs H Q => ∃ (a : Addr) (kvs : List (Key × V)), x = .ref a ∧ xs = [] ∧ H a = some (.dK kvs) ∧ ∀ p, H p = none → Q (.ref p) (upd H p (L2.DX.itemsO p a))
theorem mt_itK : MtR X "dict.items" rItK := by
  intro pins s σ H x xs v us Q I rx rxs h
  obtain ⟨a, kvs, rfl, rfl, ha, q⟩ := h
  cases rx
  cases rxs
  obtain ⟨hz, hs0, vs, kv, o, es, ep, ho, hx, hdat, _⟩ := I.hok a _ ha
  have hf : H s.heap.objs.size = none := I.hok.fresh (Nat.le_refl _)
  refine DT.callItems (es := es) (ep := ep) hs0 ⟨o, ho, hx, hdat⟩ ⟨.ref s.heap.objs.size, upd H s.heap.objs.size (L2.DX.itemsO s.heap.objs.size a), ?_, rfl, q _ hf⟩
  exact I.laid (t' := s.toks) (fun b u e => Heap.get?_push_of_some _ e) (Nat.le_refl _) (L2.DX.itemsO_ok (Heap.get?_push_size _ rfl))
def rSitK (K : PySem.W.Frag) : List V → Hp → VK → Prop := fun vs H Q => ∃ (F : Hp) (p a : Addr) (kvs : List (Key × V)) (kds : List (DD × DD)) (l : List (Int × Int)), vs = [.ref p] ∧ Ex F H ∧ H p = some (L2.DX.itemsO p a) ∧ H a = some (.dK kvs) ∧ KDp K F kvs kds ∧ pairsI kds = some l ∧ l.length < 60000 ∧
  ∀ z F' H', Gw F H F' H' → (rNew K (.lst .dat)).r H F' H' z (.list ((srtII l).map encII)) → Q z H'
theorem cr_sitK (hc : X.calm = true) (hu : X.A.units + 64 < cLine) : CallR X (.builtin "sorted") (rSitK X.K) := by
  intro pins s σ H xs us Q I r h
  obtain ⟨F, pv, a, kvs, kds, l, rfl, eF, hp, ha, kd, el, hl6, q⟩ := h
  obtain rfl := Vals.ref1 r
  have view : s.heap.IsItemsView pv a := (I.hok pv _ hp).1
  obtain ⟨hz, hs0, vs, kv, o, es, ep, ho, hx, hdat, hks, hpr, hnd⟩ := I.hok a _ ha
  obtain ⟨le, pat⟩ := pairs_at hpr kv kd el
  have hsz : es.size = l.length := by rw [← le, Array.length_toList]
  have hh : X.A.handled = none := I.ok.hd hc
  have hsl : es.size ≤ sizeLine := by rw [sizeLine_eq, hsz]; omega
  refine DT.sortedI (es := es) (ep := ep) hh view ⟨o, ho, hx, hdat⟩ hsl fun h' tk as hk hlt hl hG => ?_
  have nd : as.Nodup := List.Pairwise.imp (fun h => Nat.ne_of_lt h) hG.rise
  have lal : as.length = l.length := by rw [hl, hsz]
  have pr : ∀ (j : Nat) (b : Addr), as[j]? = some b → ∃ q t1 t2, l[j]? = some q ∧ h'.get? b = some { cls := .type "tuple", data := .seq #[Value.int q.1 t1, Value.int q.2 t2] } := fun j b hj => by
    obtain ⟨e, he, hg⟩ := hG.pairs j b hj
    rw [← Array.getElem?_toList] at he
    obtain ⟨q, t1, t2, z1, z2, z3⟩ := pat j e he
    exact ⟨q, t1, t2, z1, by rw [hg, z2, z3]⟩
  have hob : (h'.push { cls := .type "list", data := .seq (as.map Value.ref).toArray }).get? h'.objs.size = some (seqObj "list" (as.map Value.ref).toArray 0) := Heap.get?_push_size _ rfl
  have kb : ∀ b o, s.heap.get? b = some o → (h'.push { cls := .type "list", data := .seq (as.map Value.ref).toArray }).get? b = some o := fun b o e => Heap.get?_push_of_some _ (hk b o e)
  have ka : ∀ b o, h'.get? b = some o → (h'.push { cls := .type "list", data := .seq (as.map Value.ref).toArray }).get? b = some o := fun b o e => Heap.get?_push_of_some _ e
  have ne0 : ∀ b o, h'.get? b = some o → b ≠ h'.objs.size := fun b o e => Nat.ne_of_lt (Heap.lt_size e)
  generalize h'.push { cls := .type "list", data := .seq (as.map Value.ref).toArray } = h2 at hob kb ka ⊢
  have hR : PySem.W.EachIs (fun v q => ∃ (t : Addr) (j : Nat), v = Value.ref t ∧ as[j]? = some t ∧ l[j]? = some q) (as.map Value.ref) l := each_ix (by rw [List.length_map, lal]) fun j v q h1 h2 => by
    rw [List.getElem?_map] at h1
    obtain ⟨t, e1, e2⟩ := Option.map_eq_some_iff.mp h1
    exact ⟨t, j, e2.symm, e1, h2⟩
  have hE : PySem.W.EachIs (fun v q => ∃ bs, Reads h2 v (encII q) bs ∧ h'.objs.size ∉ bs) (as.map Value.ref) l := hR.mono fun v q ⟨t, j, e1, e2, e3⟩ => by
    obtain ⟨q', t1, t2, z1, z2⟩ := pr j t e2
    rw [e3] at z1
    cases z1
    subst e1
    exact ⟨_, .tuple (ka _ _ z2) rfl rfl (.cons (.int _ _) (.cons (.int _ _) .nil)), by simp⟩
  refine PySem.W.list_sort_data (A := X.A.in1) (s := { s with heap := h2, toks := tk }) (enc := encII) hob hR hE ?_ ?_ (by rw [sizeLine_eq]; omega) ?_ fun out ho2 he2 => ?_
  · exact PySem.W.AllAlike.of fun b b' => rfl
  · exact PySem.W.Sortable.tuples fun b => ⟨_, _, rfl⟩
  · intro b _
    show X.A.units + 1 + 1 + 1 < cLine
    omega
  · obtain ⟨ts, eo, lt, tat⟩ := each_refs he2
    have kF : ∀ b o, b ≠ h'.objs.size → h2.get? b = some o → (sortedHeap h2 h'.objs.size (as.map Value.ref) (List.toArray out)).get? b = some o := fun b o hb e => (PyProof.Rows.sortedHeap_old hb (Heap.lt_size e)).trans e
    have kS : ∀ b o, s.heap.get? b = some o → (sortedHeap h2 h'.objs.size (as.map Value.ref) (List.toArray out)).get? b = some o := fun b o e => kF b o (ne0 _ _ (hk b o e)) (kb b o e)
    obtain ⟨eS, heS⟩ := PyProof.Rows.sortedHeap_at (vs := as.map Value.ref) (out := List.toArray out) hob
    have I1 : Inv X pins σ H { s with heap := sortedHeap h2 h'.objs.size (as.map Value.ref) (List.toArray out), toks := tk } := I.kept (t' := tk) kS
    have hn0 : H h'.objs.size = none := I.hok.fresh (Nat.le_of_lt hlt)
    have lts : ts.length = l.length := by rw [lt]; exact List.length_mergeSort _
    have I2 : Inv X pins σ (upd H h'.objs.size (.lst (ts.map V.ref))) { s with heap := sortedHeap h2 h'.objs.size (as.map Value.ref) (List.toArray out), toks := tk } :=
      I1.take (h' := sortedHeap h2 h'.objs.size (as.map Value.ref) (List.toArray out)) (t' := tk) (fun b ob _ e => e) (I.fpOk (Nat.le_of_lt hlt) hn0) ⟨by rw [List.length_map, sizeLine_eq]; omega, out, eS, by rw [eo]; exact LiI.vals_refs ts, heS⟩
    have new : ∀ t ∈ as, H t = none := fun t ht => I.hok.fresh (Nat.le_of_lt (hG.above t ht))
    have offL : ∀ t ∈ as, t ≠ h'.objs.size := fun t ht => by
      obtain ⟨j, hj⟩ := List.mem_iff_getElem?.mp ht
      obtain ⟨_, _, _, _, z2⟩ := pr j t hj
      exact ne0 _ _ z2
    obtain ⟨H2, I3, g, qt⟩ := L2.DX.takeT (P := fun b vs => ∃ (j : Nat) (q : Int × Int), as[j]? = some b ∧ l[j]? = some q ∧ vs = [V.int q.1, V.int q.2]) I as _ I2 nd fun b hb => by
      obtain ⟨j, hj⟩ := List.mem_iff_getElem?.mp hb
      obtain ⟨q', t1, t2, z1, z2⟩ := pr j b hj
      refine ⟨Nat.le_of_lt (hG.above b hb), by rw [upd_ne (offL b hb)]; exact new b hb, _, ⟨j, q', hj, z1, rfl⟩, fun H2 => ⟨by show 2 ≤ sizeLine; decide, [Value.int q'.1 t1, Value.int q'.2 t2], .cons ⟨_, rfl⟩ (.cons ⟨_, rfl⟩ .nil), ⟨_, kF b _ (offL b hb) (ka _ _ z2), rfl, _, rfl⟩⟩⟩
    refine ⟨.ref h'.objs.size, H2, I3, rfl, ?_⟩
    have hD : H2 h'.objs.size = some (.lst (ts.map V.ref)) := g _ _ upd_same
    have kH : Ex H H2 := fun b u e => g b u (by rw [upd_ne (fun z => by rw [z, hn0] at e; cases e)]; exact e)
    have xF : ∀ b, (if b ∈ as then H2 b else F b) = if b ∈ as then H2 b else F b := fun _ => rfl
    have eF1 : Ex F (fun b => if b ∈ as then H2 b else F b) := fun b u e => by
      show (if b ∈ as then H2 b else F b) = some u
      rw [if_neg (fun z => by have := none_of_ex eF (new b z); rw [this] at e; cases e)]
      exact e
    have eF2 : Ex (fun b => if b ∈ as then H2 b else F b) H2 := fun b u e => by
      replace e : (if b ∈ as then H2 b else F b) = some u := e
      split at e
      · exact e
      · exact kH b u (eF b u e)
    have nF : (fun b => if b ∈ as then H2 b else F b) h'.objs.size = none := by
      show (if h'.objs.size ∈ as then H2 h'.objs.size else F h'.objs.size) = none
      rw [if_neg (fun z => offL _ z rfl)]
      exact none_of_ex eF hn0
    refine q _ (fun b => if b ∈ as then H2 b else F b) H2 ⟨eF1, eF2, kH, fun b h1 h2 => ?_⟩ ⟨[h'.objs.size], ⟨_, _, _, [], rfl, rfl, hD, ownL_dat (dqs_refs lt fun i t q h1 h2 => ?_), rfl⟩, by simp, fun b hb => ?_⟩
    · show (if b ∈ as then H2 b else F b) = none
      rw [if_neg (fun z => h1 (new b z))]
      exact h2
    · obtain ⟨j, q', z1, z2, z3⟩ := tat i t h1
      replace h2 : (l.mergeSort (PySem.W.dataLe false encII))[i]? = some q := h2
      rw [h2] at z1
      cases z1
      obtain ⟨us, ⟨j2, q2, y1, y2, y3⟩, y4⟩ := qt t (List.mem_of_getElem? z2)
      have ej : j2 = j := by
        have a1 := (List.getElem?_eq_some_iff.mp y1)
        have a2 := (List.getElem?_eq_some_iff.mp z2)
        obtain ⟨b1, c1⟩ := a1
        obtain ⟨b2, c2⟩ := a2
        have rr := List.pairwise_iff_getElem.mp hG.rise
        rcases Nat.lt_trichotomy j2 j with z | z | z
        · have := rr j2 j b1 b2 z
          rw [c1, c2] at this
          exact absurd this (Nat.lt_irrefl _)
        · exact z
        · have := rr j j2 b2 b1 z
          rw [c1, c2] at this
          exact absurd this (Nat.lt_irrefl _)
      subst ej
      rw [z3] at y2
      cases y2
      subst y3
      refine SqT.of ?_
      show (if t ∈ as then H2 t else F t) = _
      rw [if_pos (List.mem_of_getElem? z2)]
      exact y4
    · have eb : b = h'.objs.size := by simpa using hb
      subst eb
      exact ⟨nF, hn0, by rw [hD]; exact fun z => nomatch z⟩
end
end Pc

set_option maxRecDepth 100000
set_option maxHeartbeats 4000000
namespace Pc
open PySem PySem.Spec PyProof.Rows L2
open Evl (Ex)
def mL1 (f : List DD → DD → Option DD) (m ma : En → P DD) : En → P DD := fun ρ => (m ρ).bind fun x => (lstO x).bind fun ds => (ma ρ).bind fun y => .ofO (f ds y)
def idxO (ds : List DD) : DD → Option DD
  | .int k => (intsD ds).bind fun ns => if k ∈ ns then some (.int (ns.idxOf k : Nat)) else none
  | _ => none
def cntO (ds : List DD) : DD → Option DD
  | .int k => (intsD ds).bind fun ns => some (.int (ns.count k : Nat))
  | _ => none
section
variable {X : Cx} {Δ : Nat → Sh} {W : WX} {o e : Expr} {pl : Pl} {apos cpos pos p : Pos} {m ma : En → P DD}
theorem g_sitems (hc : X.calm = true) (hu : X.A.units + 64 < cLine) (hm : X.mg "sorted" = none) (ho : PE X o (tPl X.K Δ (.dct .dat) pl)) (hg : Gl X "sorted" := by rfl) (hbase : attributeBase o "items" X.env (eval o X.env) = eval o X.env := by rfl) (hline : (apos.endLine == cpos.line) = true := by rfl)
    (hs : starEach [.Call (.Attribute o "items" apos) [] [] cpos] X.env = (false, eval (.Call (.Attribute o "items" apos) [] [] cpos) X.env) :: starEach [] X.env := by rfl) :
    PE X (.Call (.Name "sorted" p) [.Call (.Attribute o "items" apos) [] [] cpos] [] pos) (tG X.K Δ W (rNew X.K (.lst .dat)) (m1 sitemsO (mPl pl))) := by
  refine pe_mono (pe_callB (cr_sitK hc hu) hg hm (by decide +kernel) (pa_cons (pe_bm0 PySem.F.plainAttrs_dict PySem.F.slot_dict_items PySem.F.type_dict_items mt_itK ho hbase hline) pa_nil hs)) fun σ H Q h => ?_
  obtain ⟨F0, B, F, ρ, E, p⟩ := h
  unfold tCB tCons tBM0 tNil
  refine pl_post (m := .ok .none) E p fun d v fp e0 ow f u p0 => ?_
  obtain ⟨l, kvs, kds, fq, rfl, rfl, hl, ol, rfl⟩ := ow
  obtain ⟨kd, _⟩ := ownK_dat ol
  refine ⟨.inr (.inr (.inl ⟨rfl, .inl ⟨_, hl⟩⟩)), l, kvs, rfl, rfl, hl, fun q hq => ?_⟩
  cases e1 : pairsI kds with
  | none =>
    replace p0 : PostG X.K W (rNew X.K (.lst .dat)) σ F H (.ofO ((pairsI kds).bind fun l => if l.length < 60000 then some (PyData.list ((srtII l).map encII)) else none)) Q := p0
    rw [e1] at p0; exact p0.elim
  | some ls =>
    replace p0 : PostG X.K W (rNew X.K (.lst .dat)) σ F H (.ofO ((pairsI kds).bind fun l => if l.length < 60000 then some (PyData.list ((srtII l).map encII)) else none)) Q := p0
    rw [e1, Option.bind_some] at p0
    by_cases hz : ls.length < 60000
    · rw [if_pos hz] at p0
      have w : Gw F H F (upd H q (L2.DX.itemsO q l)) := .own E.eF hq
      refine ⟨F, q, l, kvs, kds, ls, rfl, w.2.1, upd_same, w.2.2.1 _ _ hl, kd, e1, hz, fun z F' H' g r => ?_⟩
      exact p0 z F' H' (w.trans g) ((rNew X.K (.lst .dat)).anti w.2.2.1 r)
    · rw [if_neg hz] at p0; exact p0.elim
def rIdxI (K : PySem.W.Frag) : V → List V → Hp → VK → Prop := fun x xs H Q => ∃ (p : Addr) (ns : List Int) (k : Int), x = .ref p ∧ xs = [.int k] ∧ SqL K H p (ns.map V.int) ∧ k ∈ ns ∧ Q (.int (ns.idxOf k : Nat)) H
theorem mt_idx : MtR X "list.index" (rIdxI X.K) := by
  intro pins s σ H x xs v us Q I rx rxs h
  obtain ⟨p, ns, k, rfl, rfl, hs, hk, q⟩ := h
  cases rx
  obtain ⟨u, rfl, ru⟩ := rxs.one
  obtain ⟨t, rfl⟩ := ru
  obtain ⟨its, rv, hl, hlen⟩ := I.list hs
  exact PySem.SeqAt.list_index_ints hl.isList (ints_of_vals rv) (by rw [List.length_map] at hlen; exact hlen) hk ⟨.int (ns.idxOf k : Nat), H, I.tok _, ⟨s.toks, rfl⟩, q⟩
theorem g_lidx (ho : PE X o (tG X.K Δ W (rVw X.K) m)) (he : PE X e (tG X.K Δ W (rVw X.K) ma)) (hbase : attributeBase o "index" X.env (eval o X.env) = eval o X.env := by rfl)
    (hline : (apos.endLine == pos.line) = true := by rfl) (hs : starEach [e] X.env = (false, eval e X.env) :: starEach [] X.env := by rfl)
    (hfew : ((backTo pos (starEach [e] X.env)).all (fun x => !x.1) && (backToKw pos (keywordEach [] X.env)).all (fun x => x.1.isSome) && decide (([e] : List Expr).length + ([] : List Keyword).length + (if ([] : List Keyword).isEmpty then 0 else 1) < 30)) = true := by rfl) :
    PE X (.Call (.Attribute o "index" apos) [e] [] pos) (tG X.K Δ W (rDp X.K) (mL1 idxO m ma)) := by
  refine pe_mono (pe_bm PySem.F.plainAttrs_list PySem.F.slot_list_index PySem.F.type_list_index mt_idx ho (pa_cons he pa_nil hs) hbase hfew hline hs rfl) fun σ H Q h => ?_
  obtain ⟨F0, B, F, ρ, E, p⟩ := h
  refine seqG (r1 := rVw X.K) E p fun dx x F1 H1 g1 q1 E1 p1 => ?_
  cases dx with
  | list ds =>
    obtain ⟨a, vs, rfl, s1, d1⟩ := q1.lst E1.eF
    replace p1 : PostG X.K W (rDp X.K) σ F1 H1 ((ma ρ).bind fun y => .ofO (idxO ds y)) Q := p1
    refine ⟨.inl ⟨rfl, _, SqL.of s1⟩, seqG (r1 := rVw X.K) E1 p1 fun dy y F2 H2 g2 q2 E2 p2 => ?_⟩
    cases dy with
    | int k =>
      have ey := q2.int
      subst ey
      replace p2 : PostG X.K W (rDp X.K) σ F2 H2 (.ofO ((intsD ds).bind fun ns => if k ∈ ns then some (PyData.int (ns.idxOf k : Nat)) else none)) Q := p2
      cases e1 : intsD ds with
      | none => rw [e1] at p2; exact p2.elim
      | some ns =>
        rw [e1, Option.bind_some] at p2
        have ev := intsD_dq d1 e1
        subst ev
        by_cases hk : k ∈ ns
        · rw [if_pos hk] at p2
          exact ⟨a, ns, k, rfl, rfl, SqL.of (g2.2.2.1 _ _ s1), hk, p2 _ F2 H2 (.refl E2.eF) (.int _)⟩
        · rw [if_neg hk] at p2; exact p2.elim
    | _ => exact p2.elim
  | _ => exact p1.elim
theorem g_lcnt (ho : PE X o (tG X.K Δ W (rVw X.K) m)) (he : PE X e (tG X.K Δ W (rVw X.K) ma)) (hbase : attributeBase o "count" X.env (eval o X.env) = eval o X.env := by rfl)
    (hline : (apos.endLine == pos.line) = true := by rfl) (hs : starEach [e] X.env = (false, eval e X.env) :: starEach [] X.env := by rfl)
    (hfew : ((backTo pos (starEach [e] X.env)).all (fun x => !x.1) && (backToKw pos (keywordEach [] X.env)).all (fun x => x.1.isSome) && decide (([e] : List Expr).length + ([] : List Keyword).length + (if ([] : List Keyword).isEmpty then 0 else 1) < 30)) = true := by rfl) :
    PE X (.Call (.Attribute o "count" apos) [e] [] pos) (tG X.K Δ W (rDp X.K) (mL1 cntO m ma)) := by
  refine pe_mono (pe_bm PySem.F.plainAttrs_list PySem.F.slot_list_count PySem.F.type_list_count mt_lcount ho (pa_cons he pa_nil hs) hbase hfew hline hs rfl) fun σ H Q h => ?_
  obtain ⟨F0, B, F, ρ, E, p⟩ := h
  refine seqG (r1 := rVw X.K) E p fun dx x F1 H1 g1 q1 E1 p1 => ?_
  cases dx with
  | list ds =>
    obtain ⟨a, vs, rfl, s1, d1⟩ := q1.lst E1.eF
    replace p1 : PostG X.K W (rDp X.K) σ F1 H1 ((ma ρ).bind fun y => .ofO (cntO ds y)) Q := p1
    refine ⟨.inl ⟨rfl, _, SqL.of s1⟩, seqG (r1 := rVw X.K) E1 p1 fun dy y F2 H2 g2 q2 E2 p2 => ?_⟩
    cases dy with
    | int k =>
      have ey := q2.int
      subst ey
      replace p2 : PostG X.K W (rDp X.K) σ F2 H2 (.ofO ((intsD ds).bind fun ns => some (PyData.int (ns.count k : Nat)))) Q := p2
      cases e1 : intsD ds with
      | none => rw [e1] at p2; exact p2.elim
      | some ns =>
        rw [e1, Option.bind_some] at p2
        have ev := intsD_dq d1 e1
        subst ev
        exact ⟨a, ns, k, rfl, rfl, SqL.of (g2.2.2.1 _ _ s1), p2 _ F2 H2 (.refl E2.eF) (.int _)⟩
    | _ => exact p2.elim
  | _ => exact p1.elim
end
end Pc

set_option maxRecDepth 100000
set_option maxHeartbeats 4000000
namespace Pc
open PySem PySem.Spec PyProof.Rows L2
open Evl (Ex)
/-! ### zip(xs, ys) -/
def zpL : List DD → List DD → List DD
  | x :: xs, y :: ys => .tuple [x, y] :: zpL xs ys
  | _, _ => []
theorem zpL_get : ∀ {xs ys : List DD} {i : Nat} {t : DD}, (zpL xs ys)[i]? = some t → ∃ x y, xs[i]? = some x ∧ ys[i]? = some y ∧ t = .tuple [x, y]
  | [], ys, i, t, h => by simp [zpL] at h
  | x :: xs, [], i, t, h => by simp [zpL] at h
  | x :: xs, y :: ys, 0, t, h => by cases h; exact ⟨x, y, rfl, rfl, rfl⟩
  | x :: xs, y :: ys, i + 1, t, h => zpL_get (xs := xs) (ys := ys) (i := i) h
theorem zpL_len : ∀ (xs ys : List DD), (zpL xs ys).length = min xs.length ys.length
  | [], ys => by simp [zpL]
  | x :: xs, [] => by simp [zpL]
  | x :: xs, y :: ys => by
    show (zpL xs ys).length + 1 = _
    rw [zpL_len xs ys, List.length_cons, List.length_cons]
    omega
def iZp (ma mb : En → P DD) : En → P (List DD) := fun ρ => (ma ρ).bind fun x => (mb ρ).bind fun y => (lstO x).bind fun xs => (lstO y).bind fun ys => .ok (zpL xs ys)
def iR3 (ml : En → P (List DD)) : En → P (List DD) := fun ρ => (ml ρ).bind fun ds => .ofO (match ds with
  | [.int i, .int j, .int c] => if c ≠ 0 ∧ c.natAbs < 1073741824 ∧ Builtin.Range.small i j c = true then some ((List.range (Builtin.Range.rangeSize i j c).toNat).map fun k => .int (i + (k : Nat) * c)) else none
  | _ => none)
section
variable {X : Cx} {Δ : Nat → Sh} {W : WX} {o e e2 tg : Expr} {pl : Pl} {apos cpos pos p : Pos} {m ma mb : En → P DD}
theorem walk_zp {K : PySem.W.Frag} {F : Hp} {a b : Addr} {vs ws : List V} {ds es : List DD} (h : F a = some (.lst vs)) (q : DqAll K F vs ds) (h2 : F b = some (.lst ws)) (q2 : DqAll K F ws es) : WalkF K F (Itz K a b) (zpL ds es) := by
  intro i F' H' e1 e2
  have s1 : SqL K H' a vs := SqL.of (e2 _ _ (e1 _ _ h))
  have s2 : SqL K H' b ws := SqL.of (e2 _ _ (e1 _ _ h2))
  refine ⟨fun d hd => ?_, fun hl => ?_⟩
  · obtain ⟨x, y, hx, hy, rfl⟩ := zpL_get hd
    obtain ⟨v, hv, dv⟩ := q.get2 hx
    obtain ⟨w, hw, dw⟩ := q2.get2 hy
    refine ⟨⟨vs, ws, v, w, s1, s2, hv, hw⟩, fun z H'' yl => ?_⟩
    obtain ⟨T, v', w', rfl, hT, rfl, z1, z2⟩ := yl
    have a1 := z1 vs s1
    have a2 := z2 ws s2
    rw [hv] at a1
    rw [hw] at a2
    cases a1
    cases a2
    obtain ⟨g, dt⟩ := frz_tup (K := K) e2 hT (.cons (dv.mn e1) (.one (dw.mn e1)))
    exact ⟨_, g, dt⟩
  · rw [zpL_len] at hl
    refine ⟨vs, ws, s1, s2, ?_⟩
    rw [q.len, q2.len]
    omega
theorem i_zip {p' tpos : Pos} {elts : List Expr} {kk : Nat} (hm : X.mg "zip" = none) (h : PE X e (tG X.K Δ W (rDp X.K) ma)) (h2 : PE X e2 (tG X.K Δ W (rDp X.K) mb)) (hg : Gl X "zip" := by rfl) (hpl : (backTo pos (starEach [e2] X.env)).any (·.1) = false := by rfl) (hs1 : starEach [e, e2] X.env = (false, eval e X.env) :: starEach [e2] X.env := by rfl) (hs2 : starEach [e2] X.env = (false, eval e2 X.env) :: starEach [] X.env := by rfl) :
    PI X (.Tuple elts kk tpos) (.Call (.Name "zip" p') [e, e2] [] pos) (tG X.K Δ W (rWF X.K) (iZp ma mb)) := by
  refine pi_mono (pi_zip hg hm (pa_cons h (pa_cons h2 pa_nil hs2) hs1) hs1 hpl) fun σ H Q h => ?_
  obtain ⟨F0, B, F, ρ, E, p⟩ := h
  refine seqG (r1 := rDp X.K) E p fun d v F1 H1 g q E1 p1 => seqG (r1 := rDp X.K) E1 p1 fun d2 v2 F2 H2 g2 q2 E2 p2 => ?_
  cases d with
  | list ds =>
    cases d2 with
    | list es =>
      cases q.mn g2.1 with
      | lst s t =>
        cases q2 with
        | lst s2 t2 => exact ⟨_, _, _, _, rfl, SqL.of (E2.eF _ _ s), SqL.of (E2.eF _ _ s2), p2 _ F2 H2 (.refl E2.eF) (walk_zp s t s2 t2)⟩
    | _ => exact p2.elim
  | _ => exact p2.elim
theorem walk_rngC {K : PySem.W.Frag} {F : Hp} {lo c : Int} {n : Nat} : WalkF K F (Itc lo c n) ((List.range n).map fun k => .int (lo + (k : Nat) * c)) := by
  intro i F' H' e1 e2
  refine ⟨fun d hd => ?_, fun hl => by rw [List.length_map, List.length_range] at hl; exact hl⟩
  have hi : i < n := by
    have := (List.getElem?_eq_some_iff.mp hd).1
    rwa [List.length_map, List.length_range] at this
  rw [List.getElem?_map, List.getElem?_range hi] at hd
  cases hd
  refine ⟨hi, fun x H'' y => ?_⟩
  obtain ⟨rfl, rfl⟩ := y
  exact ⟨F', .refl e2, .int _⟩
theorem vws_int3 {K : PySem.W.Frag} {F H : Hp} {vs : List V} {i j c : Int} (h : VwAll K F H vs [.int i, .int j, .int c]) : vs = [.int i, .int j, .int c] := by
  cases h with
  | cons a t =>
    cases t with
    | cons b t =>
      cases t with
      | cons d t =>
        cases t
        rw [a.int, b.int, d.int]
theorem i_range3 {ea eb ec : Expr} {p' : Pos} {ml : En → P (List DD)} (hm : X.mg "range" = none) (ha : PA X [ea, eb, ec] (tG X.K Δ W (rVws X.K) ml)) (hg : Gl X "range" := by rfl) (hs : starEach [ea, eb, ec] X.env = (false, eval ea X.env) :: starEach [eb, ec] X.env := by rfl) (hpl : (backTo pos (starEach [eb, ec] X.env)).any (·.1) = false := by rfl) :
    PI X tg (.Call (.Name "range" p') [ea, eb, ec] [] pos) (tG X.K Δ W (rWF X.K) (iR3 ml)) := by
  refine pi_mono (pi_range3 hg hm ha hs hpl) fun σ H Q h => ?_
  obtain ⟨F0, B, F, ρ, E, p⟩ := h
  refine seqG (r1 := rVws X.K) E p fun ds vs F1 H1 g q E1 p1 => ?_
  match ds, q, p1 with
  | [.int i, .int j, .int c], q, p1 =>
    replace p1 : PostG X.K W (rWF X.K) σ F1 H1 (.ofO (if c ≠ 0 ∧ c.natAbs < 1073741824 ∧ Builtin.Range.small i j c = true then some ((List.range (Builtin.Range.rangeSize i j c).toNat).map fun k => PyData.int (i + (k : Nat) * c)) else none)) Q := p1
    by_cases hr : c ≠ 0 ∧ c.natAbs < 1073741824 ∧ Builtin.Range.small i j c = true
    · rw [if_pos hr] at p1
      exact ⟨i, j, c, _, vws_int3 q, ⟨hr.1, hr.2.1, hr.2.2, PyProof.Rows.rangeSize_toNat i j c⟩, p1 _ F1 H1 (.refl E1.eF) walk_rngC⟩
    · rw [if_neg hr] at p1; exact p1.elim
/-! ### list(range(a, b)) -/
def lrange2O : DD → DD → Option DD
  | .int i, .int j => if (decide (0 ≤ i) && decide (i ≤ j) && decide (j ≤ 100000)) = true then some (.list (intL i (j - i).toNat)) else none
  | _, _ => none
theorem dq_range2 {K : PySem.W.Frag} {F : Hp} (i j : Int) : DqAll K F (rgV i j) (intL i (j - i).toNat) := by
  have key : ∀ (l : List Nat), DqAll K F (l.map fun k => V.int (i + (k : Nat))) (l.map fun (k : Nat) => PyData.int (i + (k : Int))) := by
    intro l
    induction l with
    | nil => exact .nil
    | cons k l ih => exact .cons (.int _) ih
  have e : rgV i j = (List.range (j - i).toNat).map fun k => V.int (i + (k : Nat)) := by unfold rgV; simp
  rw [e]
  exact key _
theorem g_lrange2 {a b : Expr} {p' pos' : Pos} (hml : X.mg "list" = none) (hmr : X.mg "range" = none) (h : PE X a (tG X.K Δ W (rVw X.K) ma)) (h2 : PE X b (tG X.K Δ W (rVw X.K) mb)) (hc : X.calm = true := by rfl) (hg : Gl X "list" := by rfl) (hg2 : Gl X "range" := by rfl) (na : starEach [a, b] X.env = (false, eval a X.env) :: starEach [b] X.env := by rfl) (nb : starEach [b] X.env = (false, eval b X.env) :: starEach [] X.env := by rfl) (hpl : (backTo pos' (starEach [b] X.env)).any (·.1) = false := by rfl)
    (na2 : starEach [.Call (.Name "range" p') [a, b] [] pos'] X.env = (false, eval (.Call (.Name "range" p') [a, b] [] pos') X.env) :: starEach [] X.env := by rfl) : PE X (.Call (.Name "list" p) [.Call (.Name "range" p') [a, b] [] pos'] [] pos) (tG X.K Δ W (rNew X.K (.lst .dat)) (m2 lrange2O ma mb)) := by
  refine pe_mono (pe_listRg hc hg hml (prg_2 hg2 hmr h h2 na nb hpl) na2) fun σ H Q h => ?_
  obtain ⟨F0, B, F, ρ, E, p⟩ := h
  refine seqG (r1 := rVw X.K) E p fun dx x F1 H1 g1 q1 E1 p1 => seqG (r1 := rVw X.K) E1 p1 fun dy y F2 H2 g2 q2 E2 p2 => ?_
  cases dx <;> try (exact p2.elim)
  rename_i i
  cases dy <;> try (exact p2.elim)
  rename_i j
  replace p2 : PostG X.K W (rNew X.K (.lst .dat)) σ F2 H2 (P.ofO (if (decide (0 ≤ i) && decide (i ≤ j) && decide (j ≤ 100000)) = true then some (.list (intL i (j - i).toNat)) else none)) Q := p2
  by_cases hn : (decide (0 ≤ i) && decide (i ≤ j) && decide (j ≤ 100000)) = true
  · rw [if_pos hn] at p2
    simp only [Bool.and_eq_true, decide_eq_true_eq] at hn
    exact ⟨i, j, Vw.int q1, Vw.int q2, .of_le hn.1.1 (by omega) (by omega) (by omega), fun q hq => p2 _ _ _ (.own E2.eF hq) (new_lst E2.eF hq (dq_range2 i j))⟩
  · rw [if_neg hn] at p2; exact p2.elim
end
end Pc

set_option maxRecDepth 100000
set_option maxHeartbeats 4000000
namespace Pc
open PySem PySem.Spec PyProof.Rows L2
open Evl (Ex)
/-! ### list(range(a, b, c)) -/
def m3' (f : DD → DD → DD → Option DD) (ma mb mc : En → P DD) : En → P DD := fun ρ => (ma ρ).bind fun x => (mb ρ).bind fun y => (mc ρ).bind fun z => .ofO (f x y z)
def lrange3O : DD → DD → DD → Option DD
  | .int i, .int j, .int c => if c ≠ 0 ∧ c.natAbs < 1073741824 ∧ Builtin.Range.small i j c = true ∧ (Builtin.Range.rangeSize i j c).toNat ≤ 100000 then some (.list ((List.range (Builtin.Range.rangeSize i j c).toNat).map fun k => .int (i + (k : Nat) * c))) else none
  | _, _, _ => none
section
variable {X : Cx} {Δ : Nat → Sh} {W : WX} {a b c : Expr} {p p' pos pos' : Pos} {ma mb mc : En → P DD} {ta tb tc : TE}
def tLR3 (ta tb tc : TE) : TE := fun σ H Q => ta σ H fun x H1 => tb σ H1 fun y H2 => tc σ H2 fun z H3 => ∃ i j k : Int, x = .int i ∧ y = .int j ∧ z = .int k ∧ k ≠ 0 ∧ k.natAbs < 1073741824 ∧ Builtin.Range.small i j k = true ∧ (Builtin.Range.rangeSize i j k).toNat ≤ 100000 ∧
  ∀ q, H3 q = none → Q (.ref q) (upd H3 q (.lst ((List.range (Builtin.Range.rangeSize i j k).toNat).map fun n => V.int (i + (n : Nat) * k))))
theorem pe_lr3 (hc : X.calm = true) (hg : Gl X "list") (hm : X.mg "list" = none) (hg2 : Gl X "range") (hm2 : X.mg "range" = none) (ha : PE X a ta) (hb : PE X b tb) (hcc : PE X c tc)
    (na : starEach [a, b, c] X.env = (false, eval a X.env) :: starEach [b, c] X.env := by rfl) (nb : starEach [b, c] X.env = (false, eval b X.env) :: starEach [c] X.env := by rfl) (nc : starEach [c] X.env = (false, eval c X.env) :: starEach [] X.env := by rfl) (hp : (backTo pos' (starEach [b, c] X.env)).any (·.1) = false := by rfl)
    (nr : starEach [.Call (.Name "range" p') [a, b, c] [] pos'] X.env = (false, eval (.Call (.Name "range" p') [a, b, c] [] pos') X.env) :: starEach [] X.env := by rfl) :
    PE X (.Call (.Name "list" p) [.Call (.Name "range" p') [a, b, c] [] pos'] [] pos) (tLR3 ta tb tc) := by
  refine ⟨fun pins s σ H Q I h => ?_⟩
  have inner : wpAny (model X.prog X.w) X.A (eval (.Call (.Name "range" p') [a, b, c] [] pos') X.env) (fun x s' => ∃ r i j k t u v H', x = .ref r ∧ IsRange s'.heap r i j k t u v ∧ L2.Inv X pins σ H' s' ∧ k ≠ 0 ∧ k.natAbs < 1073741824 ∧ Builtin.Range.small i j k = true ∧ (Builtin.Range.rangeSize i j k).toNat ≤ 100000 ∧
      ∀ q, H' q = none → Q (.ref q) (upd H' q (.lst ((List.range (Builtin.Range.rangeSize i j k).toNat).map fun n => V.int (i + (n : Nat) * k))))) X.xe s := by
    refine Call_ (ld_blt I hg2 hm2 boot_range (PyProof.Rows.callWith_type1 (args_cons (thn (ha.run pins s σ H _ I h) fun v s1 ⟨x, H1, I1, r1, q1⟩ => args_cons (thn (hb.run pins s1 σ H1 _ I1 q1) fun v2 s2 ⟨x2, H2, I2, r2, q2⟩ => one_arg hcc I2 q2 (fun v3 s3 x3 H3 I3 r3 q3 => ?_) nc) nb) na) na hp))
    obtain ⟨i, j, k, rfl, rfl, rfl, k1, k2, k3, k4, q⟩ := q3
    obtain ⟨t, rfl⟩ := r1
    obtain ⟨t', rfl⟩ := r2
    obtain ⟨t2, rfl⟩ := r3
    exact call_range_3 k1 ⟨_, i, j, k, _, _, _, H3, rfl, IsRange.new _ _ _ _ _ _ _, I3.kept fun b u e => Heap.get?_push_of_some _ e, k1, k2, k3, k4, q⟩
  refine Call_ (ld_blt I hg hm boot_list (PyProof.Rows.callWith_type1 (args_cons (thn inner fun x s1 ⟨r, i, j, k, t, u, v, H1, ex, hr, I1, k1, k2, k3, k4, q⟩ => args_nil ?_) nr) nr))
  subst ex
  refine call_list_range (n := (Builtin.Range.rangeSize i j k).toNat) (I1.ok.hd hc) hr k3 (PyProof.Rows.rangeSize_toNat i j k) (by omega) fun h' tk acc c' hk e' hi => ?_
  have hlen : acc.toList.length = (Builtin.Range.rangeSize i j k).toNat := by rw [Array.length_toList]; exact hi.1
  refine ⟨.ref s1.heap.objs.size, upd H1 s1.heap.objs.size (.lst ((List.range (Builtin.Range.rangeSize i j k).toNat).map fun n => V.int (i + (n : Nat) * k))), I1.laid hk (Nat.le_refl _) ⟨?_, acc.toList, c', ?_, ?_⟩, rfl, q _ (I1.hok.fresh (Nat.le_refl _))⟩
  · rw [List.length_map, List.length_range, sizeLine_eq]; omega
  · rw [← hlen]
    refine vals_of_get acc.toList _ fun n u hn => ?_
    obtain ⟨t, rfl⟩ := hi.2 n u (by rw [← hn, Array.getElem?_toList])
    exact ⟨t, rfl⟩
  · rw [Array.toArray_toList]; exact e'
theorem dq_r3 {K : PySem.W.Frag} {F : Hp} (i k : Int) : ∀ l : List Nat, DqAll K F (l.map fun n => V.int (i + (n : Nat) * k)) (l.map fun n => PyData.int (i + (n : Nat) * k))
  | [] => .nil
  | _ :: l => .cons (.int _) (dq_r3 i k l)
theorem g_lrange3 (hm : X.mg "list" = none) (hm2 : X.mg "range" = none) (ha : PE X a (tG X.K Δ W (rVw X.K) ma)) (hb : PE X b (tG X.K Δ W (rVw X.K) mb)) (hcc : PE X c (tG X.K Δ W (rVw X.K) mc)) (hc : X.calm = true := by rfl) (hg : Gl X "list" := by rfl) (hg2 : Gl X "range" := by rfl)
    (na : starEach [a, b, c] X.env = (false, eval a X.env) :: starEach [b, c] X.env := by rfl) (nb : starEach [b, c] X.env = (false, eval b X.env) :: starEach [c] X.env := by rfl) (nc : starEach [c] X.env = (false, eval c X.env) :: starEach [] X.env := by rfl) (hp : (backTo pos' (starEach [b, c] X.env)).any (·.1) = false := by rfl)
    (nr : starEach [.Call (.Name "range" p') [a, b, c] [] pos'] X.env = (false, eval (.Call (.Name "range" p') [a, b, c] [] pos') X.env) :: starEach [] X.env := by rfl) :
    PE X (.Call (.Name "list" p) [.Call (.Name "range" p') [a, b, c] [] pos'] [] pos) (tG X.K Δ W (rNew X.K (.lst .dat)) (m3' lrange3O ma mb mc)) := by
  refine pe_mono (pe_lr3 hc hg hm hg2 hm2 ha hb hcc na nb nc hp nr) fun σ H Q h => ?_
  obtain ⟨F0, B, F, ρ, E, p⟩ := h
  refine seqG (r1 := rVw X.K) E p fun dx x F1 H1 g1 q1 E1 p1 => seqG (r1 := rVw X.K) E1 p1 fun dy y F2 H2 g2 q2 E2 p2 => seqG (r1 := rVw X.K) E2 p2 fun dz z F3 H3 g3 q3 E3 p3 => ?_
  cases dx <;> try (exact p3.elim)
  rename_i i
  cases dy <;> try (exact p3.elim)
  rename_i j
  cases dz <;> try (exact p3.elim)
  rename_i k
  replace p3 : PostG X.K W (rNew X.K (.lst .dat)) σ F3 H3 (P.ofO (if k ≠ 0 ∧ k.natAbs < 1073741824 ∧ Builtin.Range.small i j k = true ∧ (Builtin.Range.rangeSize i j k).toNat ≤ 100000 then some (.list ((List.range (Builtin.Range.rangeSize i j k).toNat).map fun n => .int (i + (n : Nat) * k))) else none)) Q := p3
  by_cases hn : k ≠ 0 ∧ k.natAbs < 1073741824 ∧ Builtin.Range.small i j k = true ∧ (Builtin.Range.rangeSize i j k).toNat ≤ 100000
  · rw [if_pos hn] at p3
    exact ⟨i, j, k, Vw.int q1, Vw.int q2, Vw.int q3, hn.1, hn.2.1, hn.2.2.1, hn.2.2.2, fun q hq => p3 _ _ _ (.own E3.eF hq) (new_lst E3.eF hq (dq_r3 i k _))⟩
  · rw [if_neg hn] at p3; exact p3.elim
end
end Pc

set_option maxRecDepth 100000
set_option maxHeartbeats 4000000
namespace Pc
open PySem PySem.Spec PyProof.Rows L2
open Evl (Ex)
section
variable {X : Cx} {C : Ct} {Δ Δ2 : Nat → Sh} {W : WX} {e elt tg iter value : Expr} {ifs : List Expr} {scope : Scope} {pos pos' : Pos} {src : En → P (List DD)} {x xe : En → R DD} {bd : DD → En → Option En} {m : En → P DD}
/-- y = [f() for .. in ..] -/
theorem s_setLcE {i : Nat} {y : Str} {py spos : Pos} (own : List (Str × Nat)) (hK : C.K = X.K) (hc : X.calm = true) (hN : X.N.Nodup) (hi : PI X tg iter (tG X.K Δ C.W (rWF X.K) src)) (ok : BlkOk X.N X.env.scope scope own)
    (hg : ∀ (s : Shared) (H : Hp) (Cc : Addr) (cl : List (Str × Addr)) (fp : List Addr), PG (X.blk s H scope (compEnvC scope cl Cc X.env) fp) tg (tB X.K Δ (own.map (·.2)) bd))
    (he : ∀ (s : Shared) (H : Hp) (Cc : Addr) (cl : List (Str × Addr)) (fp : List Addr), PE (X.blk s H scope (compEnvC scope cl Cc X.env) fp) elt (tX X.K Δ noW (fDp X.K) xe))
    (hsw : swapsWith (.ListComp elt [⟨tg, iter, [], 0⟩] scope pos) (some (.Name y py)) spos.line X.env = pure true)
    (hd : Δ i = .dat := by rfl) (hy : X.N[i]? = some y := by rfl) (hyl : X.env.scope.names.lookup y = some .local := by rfl) (hs : ∀ x, foldedSetIterable iter X.env x = pure x := by intro _; rfl) :
    PS X (.Assign [.Name y py] (.ListComp elt [⟨tg, iter, [], 0⟩] scope pos) spos) (tS C Δ Δ (sSetX i (lcE src (own.map (·.2)) bd xe))) := by
  have ht : ∀ (s : Shared) (H : Hp) (Cc : Addr) (cl : List (Str × Addr)) (fp : List Addr), PTs (X.blk s H scope (compEnvC scope cl Cc X.env) fp) [] (tG X.K Δ noW rBl tYes) := fun _ _ _ _ _ => ts_nil
  refine ps_mono (ps_setLc hc hN hy hyl hsw hi ok hg ht he hs) fun D σ H h => ?_
  obtain ⟨F0, B, F, ρ, E, p⟩ := h
  refine lcE_of (W := C.W) σ H _ ?_
  have z := stepX (r1 := fDp C.K) (Q1 := fun x H1 => D.nx (σ.set i (some x)) H1) E p fun d v F1 H1 ρ1 E1 q p1 => p1 _ F1 H1 ⟨E1.e.setDat hd q, E1.sh, E1.ok⟩
  rw [← hK]
  exact z
/-! ### a name of another shape from here on -/
theorem EnvOk.reshape {K : PySem.W.Frag} {F0 B F H : Hp} {σ : L2.St} {ρ : En} {i : Nat} {o : Option V} (E : EnvOk K Δ F0 B F H σ ρ) (hj : ∀ j, j ≠ i → Δ2 j = Δ j) : EnvOk K Δ2 F0 B F H (σ.set i o) (ρ.set i none) := by
  obtain ⟨len, e0, eF, eB, lim, φ, h1, h2, h3, h4⟩ := E.drop i o
  refine ⟨len, e0, eF, eB, lim, φ, fun j d hd => ?_, h2, h3, h4⟩
  have hji : j ≠ i := fun z => by
    subst z
    have hl : j < ρ.length := by
      have := (List.getElem?_eq_some_iff.mp hd).1
      rwa [List.length_set] at this
    rw [List.getElem?_set_self hl] at hd
    cases hd
  rw [hj j hji]
  exact h1 j d hd
theorem s_newC {i : Nat} {y : Str} {pos' : Pos} (hK : C.K = X.K) (he : PE X e (tG C.K Δ C.W (rNew C.K (Δ2 i)) m)) (hN : X.N.Nodup) (hj : ∀ j, j ≠ i → Δ2 j = Δ j) (hio : C.io i = false := by rfl) (hok : C.okE Δ2 := by exact True.intro) (hi : X.N[i]? = some y := by rfl) (hx : Loc X.env.scope y := by first | exact Or.inl rfl | exact Or.inr rfl)
    (hs : swapsWith e (some (.Name y pos')) pos.line X.env = pure false := by rfl) (hf : X.fn y = true ∨ X.env.scope.names.lookup y = some .local := by first | exact .inl rfl | exact .inr rfl | assumption) :
    PS X (.Assign [.Name y pos'] e pos) (tS C Δ Δ2 (sSet i m)) := by
  refine ps_mono (ps_set hN hi hx he hs hf) fun D σ H h => ?_
  obtain ⟨F0, B, F, ρ, E, p⟩ := h
  refine stepS (r := rNew C.K (Δ2 i)) E p fun d v F1 H1 g q E1 p1 => ?_
  have E2 : EnvOk C.K Δ2 F0 B F H (σ.set i (some v)) (ρ.set i none) := E.e.reshape hj
  have E3 := E2.setNew (i := i) g q
  rw [List.set_set, List.set_set] at E3
  refine p1 _ F1 H1 ⟨E3, fun j hjo => ?_, hok⟩
  rw [hj j (fun z => by rw [z, hio] at hjo; cases hjo)]
  exact E1.sh j hjo
end
theorem shs_oth (l : List (Nat × Sh)) (i : Nat) (s : Sh) (l2 : List (Nat × Sh)) (h1 : (l.filter fun q => q.1 != i) = l2.filter fun q => q.1 != i) : ∀ j, j ≠ i → shs l2 j = shs l j := fun j hj => by
  rw [← shs_but l hj, ← shs_but l2 hj, h1]
end Pc

set_option maxRecDepth 100000
set_option maxHeartbeats 4000000
namespace Pc
open PySem PySem.Spec PyProof.Rows L2
open Evl (Ex)
/-! ### an own list of own things: the place of one of them -/
section
variable {R : V → DD → List Addr → Prop}
/-- one item taken out -/
theorem OwnL.split {vs : List V} {ds : List DD} {fq : List Addr} {k : Nat} {d : DD} (h : OwnL R vs ds fq) (e : ds[k]? = some d) :
    ∃ v fl fp fr, vs[k]? = some v ∧ R v d fp ∧ fq = fl ++ (fp ++ fr) ∧ ∀ (R' : V → DD → List Addr → Prop) d' fp', (∀ v d fz, (∀ a ∈ fz, a ∈ fl ∨ a ∈ fr) → R v d fz → R' v d fz) → R' v d' fp' → OwnL R' vs (ds.set k d') (fl ++ (fp' ++ fr)) := by
  induction h generalizing k with
  | nil => cases e
  | @cons v d0 fp vs ds fq a t ih =>
    cases k with
    | zero =>
      cases e
      refine ⟨v, [], fp, fq, rfl, a, rfl, fun R' d' fp' mono r => ?_⟩
      exact OwnL.cons (fp := fp') (fq := fq) r (t.imp (A := fq) (fun _ q => q) fun v d fz hs r => mono v d fz (fun a ha => .inr (hs a ha)) r)
    | succ k =>
      obtain ⟨v', fl, fp1, fr, h1, h2, h3, h4⟩ := ih (k := k) e
      refine ⟨v', fp ++ fl, fp1, fr, h1, h2, by rw [h3, List.append_assoc], fun R' d' fp' mono r => ?_⟩
      rw [List.set_cons_succ, List.append_assoc]
      exact .cons (mono v d0 fp (fun a ha => .inl (List.mem_append_left _ ha)) a) (h4 R' d' fp' (fun v d fz hs r => mono v d fz (fun a ha => (hs a ha).imp (List.mem_append_right _) id) r) r)
theorem OwnL.len {vs : List V} {ds : List DD} {fq : List Addr} (h : OwnL R vs ds fq) : vs.length = ds.length := by
  induction h with
  | nil => rfl
  | cons _ _ ih => exact congrArg (· + 1) ih
end
/-- an item's change, seen from the list -/
theorem lst_chg {F B H F' H' : Hp} {l : Addr} {fl fp fr fq : List Addr} (c : Chg F H F' H' fp fq) (f : Fp F B H (l :: (fl ++ (fp ++ fr)))) :
    Chg F H F' H' (l :: (fl ++ (fp ++ fr))) (l :: (fl ++ (fq ++ fr))) ∧ ∀ x, x ∉ fp → x ∈ l :: (fl ++ (fp ++ fr)) → H' x = H x := by
  have stay : ∀ x, x ∉ fp → x ∈ l :: (fl ++ (fp ++ fr)) → H' x = H x ∧ F' x = none := fun x h1 h2 => by
    obtain ⟨q1, _, q3⟩ := f.off x h2
    obtain ⟨z1, z2⟩ := c.off x h1 q3
    exact ⟨z1, z2 q1⟩
  have inn : ∀ x ∈ fp, x ∈ l :: (fl ++ (fp ++ fr)) := fun x hx => List.mem_cons_of_mem _ (List.mem_append_right _ (List.mem_append_left _ hx))
  have nd : ((l :: fl) ++ (fp ++ fr)).Nodup := f.nd
  have fresh : ∀ x ∈ fq, x ∈ fp ∨ (x ∉ l :: fl ∧ x ∉ fr) := fun x hx => by
    rcases (c.new x hx).2.2 with z | z
    · exact .inl z
    · refine .inr ⟨fun y => ?_, fun y => ?_⟩
      · refine (f.off x ?_).2.2 z
        rcases List.mem_cons.mp y with y | y
        · exact List.mem_cons.mpr (.inl y)
        · exact List.mem_cons_of_mem _ (List.mem_append_left _ y)
      · exact (f.off x (List.mem_cons_of_mem _ (List.mem_append_right _ (List.mem_append_right _ y)))).2.2 z
  have nd2 := nodup_swap nd c.nd fresh
  have hm := (nodup_mid nd).2
  refine ⟨⟨c.eF, c.eH, fun x h1 h2 => c.off x (fun z => h1 (inn x z)) h2, nd2, fun x hx => ?_⟩, fun x h1 h2 => (stay x h1 h2).1⟩
  by_cases hq : x ∈ fq
  · obtain ⟨z1, z2, z3⟩ := c.new x hq
    exact ⟨z1, z2, z3.imp (inn x) id⟩
  · have hx2 : x ∈ l :: fl ∨ x ∈ fr := by
      rcases List.mem_cons.mp hx with z | z
      · exact .inl (List.mem_cons.mpr (.inl z))
      · rcases List.mem_append.mp z with z | z
        · exact .inl (List.mem_cons_of_mem _ z)
        · rcases List.mem_append.mp z with z | z
          · exact absurd z hq
          · exact .inr z
    have hf : x ∉ fp := fun z => hx2.elim (fun y => (hm x z).1 y) fun y => (hm x z).2 y
    have hw : x ∈ l :: (fl ++ (fp ++ fr)) := by
      rcases hx2 with z | z
      · rcases List.mem_cons.mp z with z | z
        · exact List.mem_cons.mpr (.inl z)
        · exact List.mem_cons_of_mem _ (List.mem_append_left _ z)
      · exact List.mem_cons_of_mem _ (List.mem_append_right _ (List.mem_append_right _ z))
    obtain ⟨z1, z2⟩ := stay x hf hw
    exact ⟨z2, by rw [z1]; exact (f.off x hw).2.2, .inl hw⟩
def itO (n : Int) : DD → Option DD
  | .list ds => atI ds n
  | _ => none
def iputO (n : Int) : DD → DD → DD
  | .list ds, d => match ixN ds.length n with
    | some k => .list (ds.set k d)
    | none => .list ds
  | x, _ => x
/-- pl[i], a place within a place -/
def plX (pl : Pl) (mi : En → Option Int) : Pl := ⟨fun ρ => (pl.get ρ).bind fun o => (mi ρ).bind fun n => itO n o, fun ρ d => match pl.get ρ, mi ρ with
  | some o, some n => pl.set ρ (iputO n o d)
  | _, _ => ρ⟩
def ixV (j : Nat) : En → Option Int := fun ρ => match getO ρ j with
  | some (.int n) => some n
  | _ => none
def ixC (n : Int) : En → Option Int := fun _ => some n
section
variable {X : Cx} {C : Ct} {Δ Δ' : Nat → Sh} {W : WX} {e a b o i value : Expr} {es : List Expr} {pos p apos pos' : Pos} {m ma mb : En → P DD} {s : Sh} {pl : Pl} {mi : En → Option Int} {tb : TE}
/-- an index that leaves the heap as it is -/
def TI (X : Cx) (Δ : Nat → Sh) (mi : En → Option Int) (tb : TE) : Prop := ∀ σ H Q F0 B F1 H1 F ρ n, EnvOk X.K Δ F0 B F1 H1 σ ρ → Gw F1 H1 F H → mi ρ = some n → Q (.int n) H → tb σ H Q
theorem ti_C {n : Int} : TI X Δ (ixC n) (tC (.int n)) := fun σ H Q F0 B F1 H1 F ρ k E g e q => by
  cases e
  exact q
theorem ti_V {j : Nat} : TI X Δ (ixV j) (tPl X.K Δ .dat (pN j)) := fun σ H Q F0 B F1 H1 F ρ k E g e q => by
  unfold ixV at e
  cases z : getO ρ j with
  | none => rw [z] at e; cases e
  | some d =>
    rw [z] at e
    cases d <;> first | (cases e; done) | skip
    cases e
    refine ⟨F0, B, F1, H1, F, ρ, E, g, _, z, fun v fp ow _ _ => ?_⟩
    obtain ⟨ow1, _⟩ := ow
    cases ow1
    exact q
theorem pl_ix (ho : PE X o (tPl X.K Δ (.lst s) pl)) (hb : PE X b tb) (ti : TI X Δ mi tb) (hs : PlainIx b := by first | exact fun _ _ => rfl | (intro o i; rfl)) : PE X (.Subscript o b pos) (tPl X.K Δ s (plX pl mi)) := by
  refine pe_mono (pe_ix ix_list ho hb hs) fun σ H Q h => ?_
  obtain ⟨F0, B, F1, H1, F, ρ, E, gw, d, e, q⟩ := h
  obtain ⟨od, e1, e2⟩ := Option.bind_eq_some_iff.mp (show (pl.get ρ).bind (fun o => (mi ρ).bind fun n => itO n o) = some d from e)
  obtain ⟨n, en, e3⟩ := Option.bind_eq_some_iff.mp e2
  refine ⟨F0, B, F1, H1, F, ρ, E, gw, od, e1, fun v fp ow f u => ?_⟩
  refine ti _ _ _ F0 B F1 H1 F ρ n E gw en ?_
  obtain ⟨l, vs, ds, fq, rfl, rfl, hl, ol, rfl⟩ := ow
  replace e3 : atI ds n = some d := e3
  have e4 := e3
  unfold atI at e4
  cases ek : ixN ds.length n with
  | none => rw [ek] at e4; cases e4
  | some k =>
    rw [ek] at e4
    replace e4 : ds[k]? = some d := e4
    obtain ⟨v, fl, fp, fr, h1, h2, rfl, h4⟩ := OwnL.split ol e4
    obtain ⟨n1, n2⟩ := List.nodup_cons.mp f.nd
    obtain ⟨n5, n6⟩ := nodup_mid n2
    have hin : ∀ x ∈ fp, x ∈ l :: (fl ++ (fp ++ fr)) := fun x hx => List.mem_cons_of_mem _ (List.mem_append_right _ (List.mem_append_left _ hx))
    have hat : atI vs n = some v := by
      unfold atI
      rw [ol.len, ek]
      exact h1
    refine ⟨l, vs, n, v, rfl, rfl, SqL.of (gw.2.2.1 _ _ hl), hat, q v fp h2 ⟨n5, fun x hx => f.off x (hin x hx)⟩ fun F' H' d' fq c o' => ?_⟩
    have hset : (plX pl mi).set ρ d' = pl.set ρ (.list (ds.set k d')) := by
      show (match pl.get ρ, mi ρ with | some o, some n => pl.set ρ (iputO n o d') | _, _ => ρ) = _
      rw [e1, en]
      show pl.set ρ (match ixN ds.length n with | some k => PyData.list (ds.set k d') | none => .list ds) = _
      rw [ek]
    rw [hset]
    have hlfp : l ∉ fp := fun z => n1 (List.mem_append_right _ (List.mem_append_left _ z))
    obtain ⟨w1, w2⟩ := lst_chg c f
    exact u F' H' _ _ w1 ⟨l, vs, _, _, rfl, rfl, (w2 l hlfp List.mem_cons_self).trans hl,
      h4 (Own X.K F' H' s) d' fq (fun v d fz hs r => Own.stay s v d fz c.eF (fun x hx => w2 x (fun z => by
        rcases hs x hx with y | y
        · exact (n6 x z).1 y
        · exact (n6 x z).2 y) (by
        rcases hs x hx with y | y
        · exact List.mem_cons_of_mem _ (List.mem_append_left _ y)
        · exact List.mem_cons_of_mem _ (List.mem_append_right _ (List.mem_append_right _ y)))) r) o', rfl⟩
theorem pl_ixV {j : Nat} (ho : PE X o (tPl X.K Δ (.lst s) pl)) (hb : PE X b (tPl X.K Δ .dat (pN j))) (hs : PlainIx b := by first | exact fun _ _ => rfl | (intro o i; rfl)) : PE X (.Subscript o b pos) (tPl X.K Δ s (plX pl (ixV j))) := pl_ix ho hb ti_V hs
theorem pl_ixC {n : Int} {jj : Nat} (ho : PE X o (tPl X.K Δ (.lst s) pl)) (hs : PlainIx (.Constant (.int n) jj pos') := by first | exact fun _ _ => rfl | (intro o i; rfl)) : PE X (.Subscript o (.Constant (.int n) jj pos') pos) (tPl X.K Δ s (plX pl (ixC n))) := pl_ix ho pe_int ti_C hs
end
end Pc

set_option maxRecDepth 100000
set_option maxHeartbeats 4000000
namespace Pc
open PySem PySem.Spec PyProof.Rows L2
open Evl (Ex)
/-! ### a new list of new things -/
def rNews (K : PySem.W.Frag) (s : Sh) (n : Nat) : Rs (List V) (List DD) := ⟨fun H F' H' vs ds => vs.length = n ∧ ∃ fq, OwnL (Own K F' H' s) vs ds fq ∧ fq.Nodup ∧ ∀ a ∈ fq, F' a = none ∧ H a = none ∧ H' a ≠ none,
  fun e ⟨l, fp, o, n, q⟩ => ⟨l, fp, o, n, fun a ha => ⟨(q a ha).1, none_of_ex e (q a ha).2.1, (q a ha).2.2⟩⟩⟩
section
variable {X : Cx} {C : Ct} {Δ Δ' : Nat → Sh} {W : WX} {e a b o i value : Expr} {es : List Expr} {pos p apos pos' : Pos} {m ma mb : En → P DD} {ml : En → P (List DD)} {s : Sh}
theorem gn_nil : PA X [] (tG X.K Δ W (rNews X.K s 0) mNil) := by
  refine pa_mono pa_nil fun σ H Q h => ?_
  obtain ⟨F0, B, F, ρ, E, p⟩ := h
  exact p [] F H (.refl E.eF) ⟨rfl, [], .nil, List.nodup_nil, fun a ha => nomatch ha⟩
theorem gn_cons {n : Nat} (ha : PE X e (tG X.K Δ W (rNew X.K s) ma)) (hr : PA X es (tG X.K Δ W (rNews X.K s n) ml)) (hs : starEach (e :: es) X.env = (false, eval e X.env) :: starEach es X.env := by rfl) :
    PA X (e :: es) (tG X.K Δ W (rNews X.K s (n + 1)) (consM ma ml)) := by
  refine pa_mono (pa_cons ha hr hs) fun σ H Q h => ?_
  obtain ⟨F0, B, F, ρ, E, p⟩ := h
  refine ⟨F0, B, F, ρ, E, ?_⟩
  replace p : PostG X.K W (rNews X.K s (n + 1)) σ F H ((ma ρ).bind fun x => (ml ρ).bind fun xs => .ok (x :: xs)) Q := p
  cases e1 : ma ρ with
  | stuck => rw [e1] at p; exact p.elim
  | exc c => rw [e1] at p; exact p
  | ok dx =>
    rw [e1] at p
    intro v F1 H1 g1 q1
    refine ⟨F0, B, F1, ρ, E.gw g1, ?_⟩
    cases e2 : ml ρ with
    | stuck =>
      have p' : PostG X.K W (rNews X.K s (n + 1)) σ F H ((ml ρ).bind fun xs => .ok (dx :: xs)) Q := p
      rw [e2] at p'; exact p'.elim
    | exc c =>
      have p' : PostG X.K W (rNews X.K s (n + 1)) σ F H ((ml ρ).bind fun xs => .ok (dx :: xs)) Q := p
      rw [e2] at p'
      exact PostG.gw (r := rNews X.K s (n + 1)) (m := (.exc c : P (List DD))) p' g1
    | ok ds =>
      have p' : PostG X.K W (rNews X.K s (n + 1)) σ F H ((ml ρ).bind fun xs => .ok (dx :: xs)) Q := p
      rw [e2] at p'
      intro vs F2 H2 g2 q2
      obtain ⟨fp, o1, n1, z1⟩ := q1
      obtain ⟨hl, fq, o2, n2, z2⟩ := q2
      refine p' (v :: vs) F2 H2 (g1.trans g2) ⟨congrArg (· + 1) hl, fp ++ fq, OwnL.cons (Own.stay s v dx fp g2.1 (fun a ha => ex_eq g2.2.2.1 (z1 a ha).2.2) o1) o2, List.nodup_append.mpr ⟨n1, n2, fun x hx y hy e => ?_⟩, fun a ha => ?_⟩
      · subst e
        exact (z1 x hx).2.2 (z2 x hy).2.1
      · rcases List.mem_append.mp ha with h | h
        · exact ⟨g2.2.2.2 a (z1 a h).2.2 (z1 a h).1, (z1 a h).2.1, ne_none_of_ex g2.2.2.1 (z1 a h).2.2⟩
        · exact ⟨(z2 a h).1, none_of_ex g1.2.2.1 (z2 a h).2.1, (z2 a h).2.2⟩
theorem g_lstN {n : Nat} (h : PA X es (tG X.K Δ W (rNews X.K s n) ml)) (hn : n ≤ sizeLine := by decide) : PE X (.List es pos) (tG X.K Δ W (rNew X.K (.lst s)) (mLst ml)) := by
  refine pe_mono (pe_lst h) fun σ H Q h => ?_
  obtain ⟨F0, B, F, ρ, E, p⟩ := h
  refine ⟨F0, B, F, ρ, E, ?_⟩
  replace p : PostG X.K W (rNew X.K (.lst s)) σ F H ((ml ρ).bind fun xs => .ok (.list xs)) Q := p
  cases e1 : ml ρ with
  | stuck => rw [e1] at p; exact p.elim
  | exc c => rw [e1] at p; exact p
  | ok ds =>
    rw [e1] at p
    intro vs F1 H1 g1 q1
    obtain ⟨hl, fq, o2, n2, z2⟩ := q1
    refine ⟨by rw [hl]; exact hn, fun q hq => ?_⟩
    have hqf : q ∉ fq := fun z => (z2 q z).2.2 hq
    refine p (.ref q) F1 (upd H1 q (.lst vs)) (g1.trans (.own g1.2.1 hq)) ⟨q :: fq, ⟨q, vs, ds, fq, rfl, rfl, upd_same, o2.imp (A := fq) (fun _ z => z) (fun v d fp hs r => Own.stay s v d fp (Ex.refl _) (fun a ha => upd_ne fun z => hqf (z ▸ hs a ha)) r), rfl⟩, List.nodup_cons.mpr ⟨hqf, n2⟩, fun a ha => ?_⟩
    rcases List.mem_cons.mp ha with h | h
    · subst h
      exact ⟨none_of_ex g1.2.1 hq, none_of_ex g1.2.2.1 hq, by rw [upd_same]; exact fun z => nomatch z⟩
    · refine ⟨(z2 a h).1, (z2 a h).2.1, ?_⟩
      rw [upd_ne (show a ≠ q from fun z => hqf (z ▸ h))]
      exact (z2 a h).2.2
end
end Pc

set_option maxRecDepth 100000
set_option maxHeartbeats 1000000
namespace Pc
open PySem PySem.Spec PyProof.Rows L2
open Evl (Ex)
/-! ### enumerate over a tuple, over a text -/
theorem meets_en1 {v : Value} {o : Obj} {G : Heap → Prop} (B : Begins v o G) : Meets (Builtin.«enumerate.__new__» ⟨[.type "enumerate", v], []⟩) (fun _ R s => G s.heap ∧
      R (.ok (.ret (.ref (s.heap.push o).objs.size))) { s with heap := (s.heap.push o).push { cls := .type "enumerate", data := .fields #[.none, .bool false, .ref s.heap.objs.size, rawInt 0, .none, .none] } }) :=
  .of_wp fun prog w A R s h => by
    obtain ⟨hp, gs, dr, tk, os⟩ := s
    obtain ⟨hG, hR⟩ := h
    have sb := sub_enumerate
    have goes : ∀ {A' : Around} {E : Value → Shared → Prop} {Q : Value → Shared → Prop}, Q (.ref hp.objs.size) ⟨hp.push o, gs, dr, tk, os⟩ → wpAny (model prog w) A' (pyIter v) Q E ⟨hp, gs, dr, tk, os⟩ := fun q => B.iter prog w _ _ ⟨hp, gs, dr, tk, os⟩ _ hG q
    wp_walk using goes
    refine wpAny_stack_any fun st => wpAny_pure ?_
    split
    · rename_i c _ _ _ _ _
      cases (c == Value.type "enumerate") <;> (wp_walk using goes; exact ⟨_, rfl, hR⟩)
    · wp_walk using goes
      exact ⟨_, rfl, hR⟩
section
variable {prog : Program} {w : World} {A : Around} {E : Value → Shared → Prop} {s : Shared}
theorem call_en1 {v : Value} {o : Obj} {G : Heap → Prop} {Q : Value → Shared → Prop} (B : Begins v o G) (hG : G s.heap)
    (h : ∀ h', IsEnum h' (s.heap.objs.size + 1) s.heap.objs.size 0 .none → h'.get? s.heap.objs.size = some o → (∀ b o, s.heap.get? b = some o → h'.get? b = some o) → Q (.ref (s.heap.objs.size + 1)) { s with heap := h' }) :
    wpAny (model prog w) A (call (.type "enumerate") [v]) Q E s := by
  refine callType_new F.called_enumerate (by decide) (F.typeCall_enumerate_1 v) (F.newCall_enumerate_1 v) (fun obj => F.args_object_init_2 obj v) F.entry_enumerate_new (meets_en1 B) ⟨hG, ?_⟩
  have hz : (s.heap.push o).objs.size = s.heap.objs.size + 1 := Heap.size_push ..
  show _ ∧ _
  rw [hz]
  have he := Heap.get?_push_size (s.heap.push o) (o := { cls := .type "enumerate", data := .fields #[.none, .bool false, .ref s.heap.objs.size, rawInt 0, .none, .none] }) rfl
  rw [hz] at he
  exact ⟨⟨_, he, rfl⟩, h _ he (Heap.get?_push_of_some _ (Heap.get?_push_size _ B.free)) fun b o x => Heap.get?_push_of_some _ (Heap.get?_push_of_some _ x)⟩
end
theorem in_two {e it b : Addr} (h : b ∈ [e, it]) : b = e ∨ b = it := by simpa using h
/-- a pair of a number and an item is laid -/
theorem laid_pair {X : Cx} {pins : List (Addr × Obj)} {s : Shared} {σ : L2.St} {H : Hp} {h'' : Heap} {e it : Addr} {i : Nat} {tk tk' : Nat} {u : Value} {x : V} (I : Inv X pins σ H s) (hf : ∀ b ∈ [e, it], FpOk X pins H b) (ru : RelV x u)
    (hT : h''.get? s.heap.objs.size = some { cls := .type "tuple", data := .seq #[.int i tk, u] }) (k : ∀ b o, b ≠ e → b ≠ it → s.heap.get? b = some o → h''.get? b = some o) :
    Inv X pins σ (upd H s.heap.objs.size (.tup [.int (i : Nat), x])) { s with heap := h'', toks := tk' } := by
  have new : ObjOk X.prog X.w (upd H s.heap.objs.size (.tup [.int (i : Nat), x])) h'' s.heap.objs.size (.tup [.int (i : Nat), x]) :=
    ⟨by show 2 ≤ sizeLine; decide, [.int i tk, u], .cons ⟨_, rfl⟩ (.cons ru .nil), ⟨_, hT, rfl, _, rfl⟩⟩
  exact I.turnedNew (ch := [e, it]) (fun b ob hb q => k b ob (fun z => hb (by simp [z])) (fun z => hb (by simp [z])) q) hf (Nat.le_refl _) new
/-- the tuple at a, each item in a new pair -/
def IteT (K : PySem.W.Frag) (a : Addr) (n : Nat) : It :=
  ⟨fun i H => ∃ (xs : List V) (x : V), SqT K H a xs ∧ xs[i]? = some x ∧ xs.length = n, fun i H v H' => ∃ T x, v = .ref T ∧ H T = none ∧ H' = upd H T (.tup [.int (i : Nat), x]) ∧ ∀ xs, SqT K H a xs → xs[i]? = some x, fun i H => (∃ xs : List V, SqT K H a xs ∧ xs.length = n) ∧ n ≤ i⟩
theorem turn_enT {P : Program} {w : World} {K : PySem.W.Frag} {elts : List Expr} {kk : Nat} {tpos : Pos} (a e it : Addr) (n : Nat) :
    Turn P w K (.Tuple elts kk tpos) (IteT K a n) [e, it] e (fun i h => (∃ old, IsEnum h e it ((i : Nat) : Int) old) ∧ h.IsTupleIter it a i ∧ e ≠ it ∧ a ≠ it ∧ a ≠ e ∧ i ≤ n) where
  mem := by simp
  obj := fun i h st b hb => by
    obtain ⟨⟨old, he⟩, ⟨o, ho, hc, hd⟩, _⟩ := st
    rcases in_two hb with z | z
    · rw [z]; exact ⟨_, he, fun v q => nomatch q⟩
    · rw [z]; exact ⟨o, ho, fun v q => by rw [hd] at q; cases q⟩
  keep := fun i h h' st k => let ⟨⟨old, he⟩, hi, hne⟩ := st; ⟨⟨old, k e (by simp) _ he⟩, hi.at fun o q => k it (by simp) o q, hne⟩
  item := by
    intro X hP hw hK hc i pins s σ H E I hf st hg
    subst hP hw hK
    obtain ⟨⟨old, he⟩, hit, hne, hai, hae, hin⟩ := st
    obtain ⟨xs, x, hq, hx, hxn⟩ := hg
    obtain ⟨its, rv, p, hz⟩ := I.tuple hq
    obtain ⟨u, hu, ru⟩ := rv.get hx
    have hel : e < s.heap.objs.size := Heap.lt_size he
    have hil : it < s.heap.objs.size := by obtain ⟨_, q, _⟩ := hit; exact Heap.lt_size q
    have Dr := Draws.tuple (prog := X.prog) (w := X.w) (A := X.A.in1) (I.ok.hd hc) it a hai its.toArray
    have hlt : i < its.toArray.size := by have := (List.getElem?_eq_some_iff.mp hu).1; simpa using this
    refine wpAny_pyNext_enum_itemC Dr he ⟨hit, p⟩ hlt hne (fun hm => by
      rcases in_two hm with z | z
      · exact hne z
      · exact hae z.symm) fun y h' tk hy ho hst' hT hsz hk => ?_
    have ey : y = u := by
      have hy' : its.toArray[i]? = some y := hy
      have hu' : its.toArray[i]? = some u := by simpa using hu
      rw [hu'] at hy'; exact (Option.some.inj hy').symm
    subst ey
    refine ⟨_, rfl, wpAny_letOwnedTupleGo_enum (s := { s with heap := h', toks := tk + 1 }) ho fun h'' he' sb => ?_⟩
    have I1 := laid_pair (h'' := h'') (tk' := tk + 1) I hf ru ((sb.2 _ (Nat.ne_of_gt hel)).trans hT) fun b o hb hb2 q => (sb.2 b hb).trans (hk b o hb hb2 q)
    refine ⟨.ref s.heap.objs.size, _, I1, rfl, ⟨_, x, rfl, I.hok.fresh (Nat.le_refl _), rfl, fun ys hy => by rw [I.tuple_inj hy hq]; exact hx⟩, ⟨⟨y, ?_⟩, hst'.1.at fun o q => (sb.2 it (Ne.symm hne)).trans q, hne, hai, hae, by have := (List.getElem?_eq_some_iff.mp hx).1; omega⟩, fun b hb => ?_⟩
    · have e1 : ((i + 1 : Nat) : Int) = (i : Int) + 1 := by omega
      rw [e1]; exact he'
    · have hb' : b < s.heap.objs.size := by
        rcases in_two hb with z | z
        · rw [z]; exact hel
        · rw [z]; exact hil
      rw [upd_ne (Nat.ne_of_lt hb')]
      exact (hf b hb).1
  done := by
    intro X hP hw hK hc i pins s σ H E I hf st hg
    subst hP hw hK
    obtain ⟨⟨old, he⟩, hit, hne, hai, hae, hin⟩ := st
    obtain ⟨⟨xs, hq, hx⟩, hni⟩ := hg
    obtain ⟨its, rv, p, hz⟩ := I.tuple hq
    obtain ⟨f0, f1, f2, f3, f4, f5⟩ := hf it (by simp)
    have Dr := Draws.tuple (prog := X.prog) (w := X.w) (A := X.A.in1) (I.ok.hd hc) it a hai its.toArray
    have hl : its.toArray.size = i := by have := rv.length; simp; omega
    exact wpAny_pyNext_enum_endD Dr he (by rw [hl]; exact ⟨hit, p⟩) fun h' eb => ⟨rfl, I.turned (t' := s.toks) (fun b o hb q => eb b o hb q) f0 f1 f3 f4 f5⟩
  self := fun A i s Q E st h => let ⟨⟨_, he⟩, _⟩ := st; wpAny_pyIter_enum he h
/-- a text, each sign in a new pair -/
def IteS (z : Str) : It :=
  ⟨fun i H => i < z.cps.size, fun i H v H' => ∃ T c, v = .ref T ∧ H T = none ∧ H' = upd H T (.tup [.int (i : Nat), .str ⟨#[c]⟩]) ∧ z.cps[i]? = some c, fun i H => z.cps.size ≤ i⟩
theorem turn_enS {P : Program} {w : World} {K : PySem.W.Frag} {elts : List Expr} {kk : Nat} {tpos : Pos} (z : Str) (t : Tok) (e it : Addr) :
    Turn P w K (.Tuple elts kk tpos) (IteS z) [e, it] e (fun i h => (∃ old, IsEnum h e it ((i : Nat) : Int) old) ∧ h.IsStrIter it (strIterType z) z t i ∧ e ≠ it ∧ i ≤ z.cps.size) where
  mem := by simp
  obj := fun i h st b hb => by
    obtain ⟨⟨old, he⟩, ⟨o, ho, hc, hd⟩, _⟩ := st
    rcases in_two hb with z | z
    · rw [z]; exact ⟨_, he, fun v q => nomatch q⟩
    · rw [z]; exact ⟨o, ho, fun v q => by rw [hd] at q; cases q⟩
  keep := fun i h h' st k => let ⟨⟨old, he⟩, ⟨o, ho, r⟩, hne⟩ := st; ⟨⟨old, k e (by simp) _ he⟩, ⟨o, k it (by simp) o ho, r⟩, hne⟩
  item := by
    intro X hP hw hK hc i pins s σ H E I hf st hg
    subst hP hw hK
    obtain ⟨⟨old, he⟩, hit, hne, hin⟩ := st
    have hel : e < s.heap.objs.size := Heap.lt_size he
    have hil : it < s.heap.objs.size := by obtain ⟨_, q, _⟩ := hit; exact Heap.lt_size q
    have Dr := Draws.text (prog := X.prog) (w := X.w) (A := X.A.in1) (I.ok.hd hc) it z t
    refine wpAny_pyNext_enum_itemC Dr he hit hg hne (fun hm => hne (by simpa using hm)) fun y h' tk hy ho hst' hT hsz hk => ?_
    obtain ⟨c, u, hcz, rfl⟩ := hy
    refine ⟨_, rfl, wpAny_letOwnedTupleGo_enum (s := { s with heap := h', toks := tk + 1 }) ho fun h'' he' sb => ?_⟩
    have I1 := laid_pair (x := .str ⟨#[c]⟩) (h'' := h'') (tk' := tk + 1) I hf ⟨u, rfl⟩ ((sb.2 _ (Nat.ne_of_gt hel)).trans hT) fun b o hb hb2 q => (sb.2 b hb).trans (hk b o hb hb2 q)
    refine ⟨.ref s.heap.objs.size, _, I1, rfl, ⟨_, c, rfl, I.hok.fresh (Nat.le_refl _), rfl, hcz⟩, ⟨⟨.str ⟨#[c]⟩ u, ?_⟩, (let ⟨o, ho, r⟩ := hst'; ⟨o, (sb.2 it (Ne.symm hne)).trans ho, r⟩), hne, hg⟩, fun b hb => ?_⟩
    · have e1 : ((i + 1 : Nat) : Int) = (i : Int) + 1 := by omega
      rw [e1]; exact he'
    · have hb' : b < s.heap.objs.size := by
        rcases in_two hb with z | z
        · rw [z]; exact hel
        · rw [z]; exact hil
      rw [upd_ne (Nat.ne_of_lt hb')]
      exact (hf b hb).1
  done := by
    intro X hP hw hK hc i pins s σ H E I hf st hg
    subst hP hw hK
    obtain ⟨⟨old, he⟩, hit, hne, hin⟩ := st
    obtain ⟨f0, f1, f2, f3, f4, f5⟩ := hf it (by simp)
    have Dr := Draws.text (prog := X.prog) (w := X.w) (A := X.A.in1) (I.ok.hd hc) it z t
    have hg' : i = z.cps.size := Nat.le_antisymm hin hg
    exact wpAny_pyNext_enum_endD Dr he (by rw [← hg']; exact hit) fun h' eb => ⟨rfl, I.turned (t' := s.toks) (fun b o hb q => eb b o hb q) f0 f1 f3 f4 f5⟩
  self := fun A i s Q E st h => let ⟨⟨_, he⟩, _⟩ := st; wpAny_pyIter_enum he h
def iEnumT (K : PySem.W.Frag) (ta : TA) : L2.TI := fun σ H R => ta σ H fun vs H1 => ∃ a xs, vs = [.ref a] ∧ SqT K H1 a xs ∧ R (IteT K a xs.length) H1
def iEnumS (ta : TA) : L2.TI := fun σ H R => ta σ H fun vs H1 => ∃ z, vs = [.str z] ∧ R (IteS z) H1
section
variable {X : Cx} {e : Expr} {ta : TA} {p pos tpos : Pos} {elts : List Expr} {kk : Nat}
theorem pi_enumT (hg : Gl X "enumerate") (hm : X.mg "enumerate" = none) (ha : PA X [e] ta) (hs : starEach [e] X.env = [(false, eval e X.env)] := by rfl) :
    PI X (.Tuple elts kk tpos) (.Call (.Name "enumerate" p) [e] [] pos) (iEnumT X.K ta) := by
  refine ⟨fun pins s σ H R I h => Call_ (ld_blt I hg hm boot_enumerate (PyProof.Rows.callWith_type1 (thn (ha.run pos pins s σ H _ I h) fun us s1 hu => ?_) hs rfl))⟩
  obtain ⟨vs, H1, I1, r1, a, xs, ex, hq, q⟩ := hu
  subst ex
  cases r1 with
  | cons r rr =>
    cases rr
    cases r
    obtain ⟨its, rv, p', hz⟩ := I1.tuple hq
    have hal : a < s1.heap.objs.size := by obtain ⟨o, ho, _⟩ := p'; exact Heap.lt_size ho
    refine call_en1 (begins_tuple a its.toArray) p' fun h' he hit hk => wpAny_pyIter_enum he ?_
    have I2 : Inv X pins σ H1 { s1 with heap := h' } := I1.kept (t' := s1.toks) hk
    refine ⟨s1.heap.objs.size + 1, [s1.heap.objs.size + 1, s1.heap.objs.size], _, _, H1, rfl, I2, turn_enT a (s1.heap.objs.size + 1) s1.heap.objs.size xs.length, ⟨⟨.none, he⟩, ⟨_, hit, rfl, rfl⟩, Nat.succ_ne_self _, Nat.ne_of_lt hal, Nat.ne_of_lt (Nat.lt_succ_of_lt hal), Nat.zero_le _⟩, fun b hb => ?_, q⟩
    have hle : s1.heap.objs.size ≤ b := by
      rcases in_two hb with z | z
      · rw [z]; exact Nat.le_add_right _ _
      · rw [z]; exact Nat.le_refl _
    exact I1.fpOk hle (I1.hok.fresh hle)
theorem pi_enumS (hg : Gl X "enumerate") (hm : X.mg "enumerate" = none) (ha : PA X [e] ta) (hs : starEach [e] X.env = [(false, eval e X.env)] := by rfl) :
    PI X (.Tuple elts kk tpos) (.Call (.Name "enumerate" p) [e] [] pos) (iEnumS ta) := by
  refine ⟨fun pins s σ H R I h => Call_ (ld_blt I hg hm boot_enumerate (PyProof.Rows.callWith_type1 (thn (ha.run pos pins s σ H _ I h) fun us s1 hu => ?_) hs rfl))⟩
  obtain ⟨vs, H1, I1, r1, z, ex, q⟩ := hu
  subst ex
  cases r1 with
  | cons r rr =>
    cases rr
    obtain ⟨t, rfl⟩ := r
    refine call_en1 (begins_text z t) trivial fun h' he hit hk => wpAny_pyIter_enum he ?_
    have I2 : Inv X pins σ H1 { s1 with heap := h' } := I1.kept (t' := s1.toks) hk
    refine ⟨s1.heap.objs.size + 1, [s1.heap.objs.size + 1, s1.heap.objs.size], _, _, H1, rfl, I2, turn_enS z t (s1.heap.objs.size + 1) s1.heap.objs.size, ⟨⟨.none, he⟩, ⟨_, hit, rfl, rfl⟩, Nat.succ_ne_self _, Nat.zero_le _⟩, fun b hb => ?_, q⟩
    have hle : s1.heap.objs.size ≤ b := by
      rcases in_two hb with z | z
      · rw [z]; exact Nat.le_add_right _ _
      · rw [z]; exact Nat.le_refl _
    exact I1.fpOk hle (I1.hok.fresh hle)
end
/-! as walks of data -/
def iEnT (m : En → P PyData) : En → P (List PyData) := fun ρ => (m ρ).bind fun d => (tupO d).bind fun xs => .ok (enL 0 xs)
def iEnS (m : En → P PyData) : En → P (List PyData) := fun ρ => (m ρ).bind fun d => (sgO d).bind fun xs => .ok (enL 0 xs)
theorem walk_enT {K : PySem.W.Frag} {F : Hp} {a : Addr} {vs : List V} {ds : List PyData} (h : SqT K F a vs) (q : DqAll K F vs ds) : WalkF K F (IteT K a vs.length) (enL 0 ds) := by
  intro i F' H' e1 e2
  have s : SqT K H' a vs := Evl.ex_t e2 (Evl.ex_t e1 h)
  refine ⟨fun t ht => ?_, fun hl => ⟨⟨vs, s, rfl⟩, by rw [q.len, ← enL_len ds 0]; exact hl⟩⟩
  obtain ⟨d, hd, rfl⟩ := enL_get ht
  obtain ⟨v, hv, dq⟩ := q.get2 hd
  refine ⟨⟨vs, v, s, hv, rfl⟩, fun x H'' y => ?_⟩
  obtain ⟨T, x', rfl, hT, rfl, hx⟩ := y
  have h1 := hx vs s
  rw [hv] at h1
  cases h1
  have e0 : ((0 + i : Nat) : Int) = (i : Int) := by simp
  rw [e0]
  obtain ⟨g, dt⟩ := frz_tup (K := K) e2 hT (.cons (.int (i : Int)) (.one (dq.mn e1)))
  exact ⟨_, g, dt⟩
theorem walk_enS {K : PySem.W.Frag} {F : Hp} (z : Str) : WalkF K F (IteS z) (enL 0 (z.cps.toList.map fun c => .str ⟨#[c]⟩)) := by
  intro i F' H' e1 e2
  refine ⟨fun t ht => ?_, fun hl => ?_⟩
  · obtain ⟨d, hd, rfl⟩ := enL_get ht
    rw [List.getElem?_map] at hd
    obtain ⟨c, hc, rfl⟩ := Option.map_eq_some_iff.mp hd
    have hc' : z.cps[i]? = some c := by rw [← hc]; simp
    refine ⟨(Array.getElem?_eq_some_iff.mp hc').1, fun x H'' y => ?_⟩
    obtain ⟨T, c', rfl, hT, rfl, hx⟩ := y
    rw [hc'] at hx
    cases hx
    have e0 : ((0 + i : Nat) : Int) = (i : Int) := by simp
    rw [e0]
    obtain ⟨g, dt⟩ := frz_tup (K := K) e2 hT (.cons (.int (i : Int)) (.one (.str ⟨#[c]⟩)))
    exact ⟨_, g, dt⟩
  · rw [enL_len, List.length_map, Array.length_toList] at hl
    exact hl
section
variable {X : Cx} {Δ : Nat → Sh} {W : WX} {e : Expr} {pos : Pos} {m : En → P PyData}
theorem i_enumT {p' tpos : Pos} {elts : List Expr} {kk : Nat} (hm : X.mg "enumerate" = none) (h : PE X e (tG X.K Δ W (rDp X.K) m)) (hg : Gl X "enumerate" := by rfl) (hs : starEach [e] X.env = [(false, eval e X.env)] := by rfl) (hs2 : starEach [e] X.env = (false, eval e X.env) :: starEach [] X.env := by rfl) :
    PI X (.Tuple elts kk tpos) (.Call (.Name "enumerate" p') [e] [] pos) (tG X.K Δ W (rWF X.K) (iEnT m)) := by
  refine pi_mono (pi_enumT hg hm (pa_cons h pa_nil hs2) hs) fun σ H Q h => ?_
  obtain ⟨F0, B, F, ρ, E, p⟩ := h
  refine seqG (r1 := rDp X.K) E p fun d v F1 H1 g q E1 p1 => ?_
  cases d with
  | tuple ds =>
    cases q with
    | tup s t => exact ⟨_, _, rfl, Evl.ex_t E1.eF s, p1 _ F1 H1 (.refl E1.eF) (walk_enT s t)⟩
  | _ => exact p1.elim
theorem i_enumS {p' tpos : Pos} {elts : List Expr} {kk : Nat} (hm : X.mg "enumerate" = none) (h : PE X e (tG X.K Δ W (rDp X.K) m)) (hg : Gl X "enumerate" := by rfl) (hs : starEach [e] X.env = [(false, eval e X.env)] := by rfl) (hs2 : starEach [e] X.env = (false, eval e X.env) :: starEach [] X.env := by rfl) :
    PI X (.Tuple elts kk tpos) (.Call (.Name "enumerate" p') [e] [] pos) (tG X.K Δ W (rWF X.K) (iEnS m)) := by
  refine pi_mono (pi_enumS hg hm (pa_cons h pa_nil hs2) hs) fun σ H Q h => ?_
  obtain ⟨F0, B, F, ρ, E, p⟩ := h
  refine seqG (r1 := rDp X.K) E p fun d v F1 H1 g q E1 p1 => ?_
  cases d with
  | str z =>
    cases q
    exact ⟨z, rfl, p1 _ F1 H1 (.refl E1.eF) (walk_enS z)⟩
  | _ => exact p1.elim
end
end Pc

set_option maxRecDepth 100000
set_option maxHeartbeats 1000000
namespace Pc
open PySem PySem.Spec PyProof.Rows L2
open Evl (Ex)
/-! ### an exception that leaves a comprehension -/
section
variable {M : Model} {A : Around} {E : Value → Shared → Prop} {s : Shared} {env : Env}
/-- what is wanted behind the block -/
def cPost (M : Model) (A : Around) (E : Value → Shared → Prop) (use : Option (Value → Sem Unit)) (Q : Value → Shared → Prop) (acc : Value) (C : Addr) (fr : Option Addr) (r : Result) (s' : Shared) : Prop := match r with
  | .ok _ => (match use with
    | none => ∃ m, s'.heap.Ns C m ∧ ∀ h', Heap.SameBut C s'.heap h' → Q acc { s' with heap := h' }
    | some u => wpAny M A (u acc) (fun _ s2 => ∃ m, s2.heap.Ns C m ∧ ∀ h', Heap.SameBut C s2.heap h' → Q .none { s2 with heap := h' }) E s')
  | .error x => ∃ m, s'.heap.Ns C m ∧ ∀ h', Heap.SameBut C s'.heap h' → ∀ ce : Env, ce.frame = fr → wpAny M A (PySem.passOn "comprehension.variables-let-go" x ce : Sem Value) (fun _ _ => False) E { s' with heap := h' }
theorem wp_comp {e : Expr} {scope : Scope} {pos : Pos} {mk fst : Sem Value} {g : Comprehension} {gs : List Comprehension} {cl : List (Str × Addr)} {use : Option (Value → Sem Unit)} {Q : Value → Shared → Prop}
    (h1 : clausesOf e = g :: gs) (h2 : ∀ x, foldedSetIterable g.iter env x = pure x) (h3 : closureFor scope env = pure cl) (h4 : scope.kind = .function) (h5 : ∀ x ∈ scope.names, x.2 = .local → scope.names.lookup x.1 = some .local)
    (h : wpAny M A fst (fun x s1 => wpAny M A (pyIter x) (fun it s2 => wpAny M A mk (fun acc s3 => wpAny M A (newFunctionEnv scope env.globals cl [] env.qual none .none (some env)) (fun ce s4 =>
      ce.frame = env.frame ∧ codeAny M A (.compStart e 0 it acc { ce with scope := relabel scope env }) (cPost M A E use Q acc ce.locals env.frame) s4) E s3) E s2) E s1) E s) :
    wpAny M A (comprehension e scope env pos mk false fst use) Q E s := by
  have up : ∀ {α : Type} {t : Sem α} {q q' : α → Shared → Prop} {s0 : Shared}, wpAny M A t q E s0 → (∀ a s1, q a s1 → q' a s1) → wpAny M A t q' E s0 := fun w i => wpAny_mono w i fun _ _ z => z
  unfold comprehension
  rw [h3, h1]
  refine wpAny_bind (up h fun x s1 w1 => wpAny_bind (wpAny_standAt (wpAny_bind (wpAny_of_eq (h2 x) (wpAny_bind (wpAny_holding ?_))))))
  refine up w1 fun it s2 w2 => wpAny_standIf (wpAny_bind (up w2 fun acc s3 w3 => wpAny_bind (wpAny_pure (wpAny_bind (up w3 fun ce s4 w4 => ?_)))))
  obtain ⟨hfr, w4⟩ := w4
  dsimp only
  have vl : ∀ x ∈ (scope.names.filter fun x => (x.2 == .local || x.2 == .cell) && x.1 != (".0" : Str)).reverse, x.2 = .local → Env.kindOf { ce with scope := relabel scope env } x.1 = some .local :=
    fun x hx hl => lookup_relabel_local (h5 x (List.mem_filter.mp (List.mem_reverse.mp hx)).1 hl)
  refine wpAny_holding (wpAny_bind (wpAny_attempt (wpAny_holding (wpAny_run (codeAny_mono w4 fun r s' hr => ?_)))))
  cases r with
  | ok f =>
    cases use with
    | none =>
      obtain ⟨m, hn, hr⟩ := hr
      refine wpAny_bind (wpAny_holding (wpAny_comp_letGo (cenv := { ce with scope := relabel scope env }) h4 _ s' m vl hn fun h' m' _ sb => wpAny_pure ?_))
      exact hr h' sb
    | some u =>
      refine wpAny_bind (wpAny_rule (wpAny_bind (wpAny_holding (up hr fun _ s'' hr' => ?_))))
      obtain ⟨m, hn, hr'⟩ := hr'
      refine wpAny_bind (wpAny_comp_letGo (cenv := { ce with scope := relabel scope env }) h4 _ s'' m (fun x hx hl => ?_) hn fun h' m' _ sb => wpAny_pure (hr' h' sb))
      exact (List.mem_append.mp hx).elim (fun z => vl x (List.mem_of_mem_drop z) hl) fun z => vl x (List.mem_of_mem_take z) hl
  | error x =>
    obtain ⟨m, hn, hr⟩ := hr
    refine wpAny_bind (wpAny_holding (wpAny_comp_letGo (cenv := { ce with scope := relabel scope env }) h4 _ s' m vl hn fun h' m' _ sb => ?_))
    exact wpAny_mono (hr h' sb _ hfr) (fun _ _ z => z.elim) fun _ _ y => y
end
/-- the block with a wish about exceptions -/
abbrev blkX (X : Cx) (s : Shared) (H : Hp) (scope : Scope) (ce : Env) (fp : List Addr) (xe : Value → Shared → Prop) : Cx := { X.blk s H scope ce fp with xe := xe }
section
variable {X : Cx} {s0 s : Shared} {H0 H : Hp} {scope : Scope} {ce : Env} {fp : List Addr} {xe : Value → Shared → Prop} {pins : List (Addr × Obj)} {σ : L2.St}
theorem okX (o : (X.blk s0 H0 scope ce fp).Ok) : (blkX X s0 H0 scope ce fp xe).Ok := ⟨o.mod, o.kind, o.glob, o.blt, o.above, o.inj, o.has, o.cab, o.hd, o.frames, o.stk, o.exf, o.bs, o.bsz, o.noex, o.exfs, o.funs, o.frf⟩
theorem okB (o : (blkX X s0 H0 scope ce fp xe).Ok) : (X.blk s0 H0 scope ce fp).Ok := ⟨o.mod, o.kind, o.glob, o.blt, o.above, o.inj, o.has, o.cab, o.hd, o.frames, o.stk, o.exf, o.bs, o.bsz, o.noex, o.exfs, o.funs, o.frf⟩
theorem inX (I : L2.Inv (X.blk s0 H0 scope ce fp) pins σ H s) : L2.Inv (blkX X s0 H0 scope ce fp xe) pins σ H s := ⟨okX I.ok, I.os, I.bare, I.base, I.loc, I.cell, I.free, I.freeC, I.pin, I.hok, I.len⟩
theorem inB (I : L2.Inv (blkX X s0 H0 scope ce fp xe) pins σ H s) : L2.Inv (X.blk s0 H0 scope ce fp) pins σ H s := ⟨okB I.ok, I.os, I.bare, I.base, I.loc, I.cell, I.free, I.freeC, I.pin, I.hok, I.len⟩
end
theorem frames_but {h h' B : Heap} : ∀ {l : List Env}, (∀ b ∈ frs l, h'.get? b = h.get? b) → h.FunFrames B l → h'.FunFrames B l
  | [], _, _ => trivial
  | env :: l, k, h => by
    obtain ⟨hk, ⟨L, o, hf, hn, ho, hd⟩, hr⟩ := h
    refine ⟨hk, ⟨L, o, hf, hn, (k L (List.mem_filterMap.mpr ⟨env, List.mem_cons_self, hf⟩)).trans ho, hd⟩, frames_but (fun b hb => k b ?_) hr⟩
    obtain ⟨e, he, q⟩ := List.mem_filterMap.mp hb
    exact List.mem_filterMap.mpr ⟨e, List.mem_cons_of_mem _ he, q⟩
/-- what the block may let out -/
def outX (X : Cx) (s0 : Shared) (H0 : Hp) (scope : Scope) (ce : Env) (fp : List Addr) (Wb : XK) : Value → Shared → Prop := fun u s' => ∃ pins σ H s, L2.Inv (X.blk s0 H0 scope ce fp) pins σ H s ∧ L2.CX X.prog X.w X.stack H s Wb u s'
section
variable {X : Cx} {pins : List (Addr × Obj)} {σ : L2.St} {W : WX}
/-- it leaves the block: noted, the block's names let go, passed on -/
theorem leaves_blk {s3 s' : Shared} {H3 : Hp} {scope : Scope} {ce : Env} {fp : List Addr} {C : Addr} {u : Value} {use : Option (Value → Sem Unit)} {Qf : Value → Shared → Prop} {acc : Value} (hs : X.stack = X.env :: X.outer) (hf : X.env.frame = some X.env.locals) (tk : Takes X W)
    (I3 : L2.Inv X pins σ H3 s3) (f3 : ∀ b ∈ fp, FpOk X pins H3 b) (hC : ce.locals = C) (hfr : ce.frame = X.env.frame) (hC3 : s3.heap.objs.size ≤ C) (x : outX X s3 H3 scope ce fp (fun cls d H' => W cls d σ H') u s') :
    notedBy (model X.prog X.w) X.A ce (fun e s1 => cPost (model X.prog X.w) X.A X.xe use Qf acc C X.env.frame (.error e) s1) u s' := by
  obtain ⟨pins9, σ9, H9, s9, I9, a, B, H', cls, d, rfl, fl, hok, ub, na, os, ag, hE⟩ := x
  -- the state without the exception
  obtain ⟨G, g1, g2⟩ := restrict s'.heap fun b => (B.get? b).isSome || decide (b ∈ frs X.stack)
  have st : B.StaysIn s'.heap := fl.1
  have gB : ∀ b o, B.get? b = some o → G.get? b = some o := fun b o e => (g1 b (by simp [e])).trans (st b o e)
  have gF : ∀ b, b ∈ frs X.stack → G.get? b = s'.heap.get? b := fun b hb => g1 b (by simp [hb])
  have og : ∀ b o, G.get? b = some o → s'.heap.get? b = some o ∧ ((B.get? b).isSome = true ∨ b ∈ frs X.stack) := fun b o e => by
    cases q : ((B.get? b).isSome || decide (b ∈ frs X.stack)) with
    | false => rw [g2 b q] at e; cases e
    | true => exact ⟨(g1 b q).symm.trans e, by simpa [Bool.or_eq_true] using q⟩
  have J : L2.Inv (X.blk s3 H3 scope ce fp) pins9 σ9 H' { s9 with heap := G, gens := s'.gens, drawn := s'.drawn, toks := s'.toks } := by
    refine I9.call (ch := []) ⟨fun b o e n hb _ => gB b o (ub.keep b o e n hb), fun b o e n hb _ => ?_, fun b o e n _ => ub.free b o e n, fun b o e _ => ?_, ub.tups, ub.frzs, ub.tbls⟩ (hok.kept gB) ag (fun _ z => nomatch z)
    · obtain ⟨sl, q⟩ := ub.slot b o e hb
      exact ⟨sl, (gF b hb).trans q⟩
    · by_cases hb : b ∈ frs X.stack
      · obtain ⟨sl, q⟩ := ub.slot b o e hb
        exact ⟨_, (gF b hb).trans q⟩
      · obtain ⟨o', q⟩ := ub.there b o e hb
        exact ⟨o', gB b o' q⟩
  have I7 : L2.Inv X pins σ H' { s9 with heap := G, gens := s'.gens, drawn := s'.drawn, toks := s'.toks } :=
    I3.call' (ch := fp) J.os J.base J.hok J.bare fun b hb => ⟨(f3 b hb).2.2.2.1, (f3 b hb).2.1, (f3 b hb).2.2.2.2.1, (f3 b hb).2.2.2.2.2⟩
  have nC : H' C = none := by have z : H' ce.locals = none := J.free; rw [hC] at z; exact z
  obtain ⟨m, hn, _⟩ := J.loc
  have hn : G.Ns C m := by have z : G.Ns ce.locals m := hn; rw [hC] at z; exact z
  have fC := I3.fpOk (H' := H') hC3 nC
  have CnF : C ∉ frs X.stack := fun z => by
    rcases List.mem_cons.mp (I3.stkSub C z) with z | z
    · exact fC.2.1 z
    · exact fC.2.2.1 z
  obtain ⟨oC, es, ep, hoC, hdC, rC⟩ := id hn
  have hCs : s'.heap.get? C = some oC := (og C oC hoC).1
  -- the names of the block are no part of it
  have hide : ∀ {h : Heap} {b : Addr} {o : Obj}, (PySem.W.hideAll h [C]).get? b = some o → h.get? b = some o ∧ b ≠ C := fun {h b o} e => ⟨PySem.W.of_hideAll _ e, fun z => by
    rw [z, PySem.W.hideAll_none [C] (by simp)] at e; cases e⟩
  have keep : ∀ {h : Heap} {b : Addr} {o : Obj}, b ≠ C → h.get? b = some o → (PySem.W.hideAll h [C]).get? b = some o := fun {h b o} hb e => PySem.W.hideAll_get [C] e (by simpa using hb)
  have I8 : L2.Inv X pins σ H' { s9 with heap := PySem.W.hideAll G [C], gens := s'.gens, drawn := s'.drawn, toks := s'.toks } :=
    I7.turned (it := C) (t' := s'.toks) (fun b o hb e => keep hb e) nC fC.2.1 fC.2.2.2.1 fC.2.2.2.2.1 fC.2.2.2.2.2
  have hfrs : X.A.frames = some (X.env :: X.outer) := by rw [I3.ok.frames, hs]
  have hid : ∀ b, B.get? b = none → (PySem.W.hideAll B [C]).get? b = none := fun b e => by
    cases q : (PySem.W.hideAll B [C]).get? b with
    | none => rfl
    | some o => rw [(hide q).1] at e; cases e
  have aC : a ≠ C := fun z => by
    obtain ⟨_, _, _, oe, vs, T, oT, ts, he, hz, hd, _⟩ := fl
    rw [z, hCs] at he
    cases he
    rw [hdC] at hd
    cases hd
  unfold notedBy
  have e0 : noteFrame (.ref a) ce = noteFrame (.ref a) X.env := by
    unfold noteFrame PySem.frameOf
    rw [hfr]
  rw [e0]
  rw [hs] at fl
  refine HandSPX.looks_onZ Zc.steady hfrs hf fl fun h1 hh up1 => ?_
  obtain ⟨k1, k2, k3, k4⟩ := hh
  have hC1 : ∃ sl, h1.get? C = some { oC with slots := sl } := up1 C oC hCs fun vs q => by rw [hdC] at q; cases q
  refine ⟨m, ?_, fun h2 sb cf hcf => ?_⟩
  · obtain ⟨sl, q⟩ := hC1
    exact ⟨_, es, ep, q, hdC, rC⟩
  have tr2 : HandSPX.TracedZ h2 (PySem.W.hideAll B [C]) a (Zc cls d) (rawInt X.env.locals) := by
    obtain ⟨oe, vs, T, oT, ts, he, hz, hd, q1, hnT, hTe, hT, hdT, q3⟩ := k4
    have TC : T ≠ C := fun z => by
      obtain ⟨sl, q⟩ := hC1
      rw [z, q] at hT
      cases hT
      have z2 : oC.data = .fields ts := hdT
      rw [hdC] at z2
      cases z2
    exact ⟨oe, vs, T, oT, ts, (sb.2 a aC).trans he, hz, hd, q1, hid T hnT, hTe, (sb.2 T TC).trans hT, hdT, q3⟩
  have fn : ∀ b ∈ frs (X.env :: X.outer), b ≠ C := fun b hb z => CnF (by rw [hs]; rw [z] at hb; exact hb)
  have ff2 : h2.FunFrames (PySem.W.hideAll B [C]) (X.env :: X.outer) := by
    have z1 : h1.FunFrames (PySem.W.hideAll B [C]) (X.env :: X.outer) := funFrames_none k3 fun b hb => hid b (k3.mem hb).1
    exact frames_but (fun b hb => sb.2 b (fn b hb)) z1
  have st2 : (PySem.W.hideAll B [C]).StaysIn h2 := fun b o e => (sb.2 b (hide e).2).trans (k1 b o (hide e).1)
  have wp : wpAny (model X.prog X.w) X.A (setFlight (.ref a) (some X.env.locals)) (fun _ s4 => wpAny (model X.prog X.w) X.A (throw (.ref a) : Sem Value) (fun _ _ => False) X.xe s4) X.xe { s' with heap := h2 } := by
    refine HandSPX.setFlight_anyZ (fr := some X.env.locals) (s := { s' with heap := h2 }) st2 ff2 tr2 fun h4 q1 q2 q3 q4 => wpAny_throw (tk _ _ ?_)
    refine ⟨a, PySem.W.hideAll B [C], _, pins, σ, H', cls, d, rfl, I8, fun b o e hb => ?_, ?_, .inr (.inr ?_), na, os, ag, hE⟩
    · obtain ⟨e1, e2⟩ := hide e
      obtain ⟨e3, e4⟩ := og b o e1
      rcases e4 with e4 | e4
      · obtain ⟨o', q⟩ := Option.isSome_iff_exists.mp e4
        have z := st b o' q
        rw [e3] at z; cases z
        exact keep e2 q
      · exact absurd e4 hb
    · intro b o e hnf
      obtain ⟨e1, e2⟩ := hide e
      obtain ⟨sl, z1⟩ := up1 b o (og b o e1).1 hnf
      obtain ⟨sl2, z2⟩ := q4 b _ ((sb.2 b e2).trans z1) hnf
      exact ⟨sl2, z2⟩
    · rw [hs]
      exact ⟨q1, hid a fl.2.1, q2, q3⟩
  unfold PySem.passOn
  obtain ⟨oe, vs, T, oT, ts, he, hz, hd, q1, _⟩ := tr2
  refine wpAny_bind (wpAny_field he hd q1 ?_)
  rw [if_neg (show ¬ ((Value.ref T == Value.none) = true) from by simp), hcf, hf]
  first
    | exact wpAny_bind (wpAny_pure (wpAny_bind wp))
    | exact wpAny_bind wp
end
end Pc

set_option maxRecDepth 100000
set_option maxHeartbeats 1000000
namespace Pc
open PySem PySem.Spec PyProof.Rows L2
open Evl (Ex)
/-! ### a comprehension without tests, whose items may raise -/
def tLcX (wi : L2.TI) (g : TG) (te : XK → TE) (vs : List Nat) (W : WX) : TE := fun σ H Q => wi σ H fun J H1 => ∀ D, H1 D = none → ∃ V : Nat → Nat → Hp → Prop, (∃ m, V 0 m (upd H1 D (.lst []))) ∧ ∀ i m H, V i m H →
  (J.stop i H ∧ Q (.ref D) H) ∨ (J.go i H ∧ ∃ Nx : Hp → Prop, (∀ H', Nx H' → ∃ m', m' < m ∧ V (i + 1) m' H') ∧ ∀ x H', J.yld i H x H' → g x (wipe σ vs) H' fun σ2 H2 => wipe σ2 vs = wipe σ vs ∧
    te (fun cls d H' => W cls d σ H') σ2 H2 fun y H4 => ∃ acc, H4 D = some (.lst acc) ∧ acc.length < sizeLine ∧ Nx (upd H4 D (.lst (acc ++ [y]))))
section
variable {X : Cx} {W : WX}
/-- items of the block -/
def EltX (X : Cx) (scope : Scope) (elt : Expr) (te : XK → TE) : Prop := ∀ (Wb : XK) (s : Shared) (H : Hp) (C : Addr) (cl : List (Str × Addr)) (fp : List Addr) (xe : Value → Shared → Prop),
  (∀ u s', outX X s H scope (compEnvC scope cl C X.env) fp Wb u s' → xe u s') → PE (blkX X s H scope (compEnvC scope cl C X.env) fp xe) elt (te Wb)
def TgX (X : Cx) (scope : Scope) (tg : Expr) (g : TG) : Prop := ∀ (s : Shared) (H : Hp) (C : Addr) (cl : List (Str × Addr)) (fp : List Addr) (xe : Value → Shared → Prop), PG (blkX X s H scope (compEnvC scope cl C X.env) fp xe) tg g
theorem lc_coreX {pins : List (Addr × Obj)} {s : Shared} {σ : L2.St} {H : Hp} {Q : VK} {elt tg iter : Expr} {scope : Scope} {own : List (Str × Nat)} {pos pos' : Pos} {wi : L2.TI} {g : TG} {te : XK → TE} {use : Option (Value → Sem Unit)} {Qf : Value → Shared → Prop}
    (hc : X.calm = true) (hN : X.N.Nodup) (hst : X.stack = X.env :: X.outer) (hfr : X.env.frame = some X.env.locals) (tk : Takes X W) (I : L2.Inv X pins σ H s) (hi : PI X tg iter wi) (ok : BlkOk X.N X.env.scope scope own) (hg : TgX X scope tg g) (he : EltX X scope elt te)
    (hs : ∀ x, foldedSetIterable iter X.env x = pure x) (h : tLcX wi g te (own.map (·.2)) W σ H Q)
    (hR : ∀ D C s' m H', L2.Inv X pins σ H' s' → Q (.ref D) H' → s'.heap.Ns C m → FpOk X pins H' C → cPost (model X.prog X.w) X.A X.xe use Qf (.ref D) C X.env.frame (.ok .next) s') :
    wpAny (model X.prog X.w) X.A (comprehension (.ListComp elt [⟨tg, iter, [], 0⟩] scope pos) scope X.env pos' (newList []) false (eval iter X.env) use) Qf X.xe s := by
  have cells : ∀ y ∈ scope.names, y.2 = .free → ∃ c, X.env.cells.lookup y.1 = some c := fun y hy e => (ok.free y hy e).elim (fun k => I.ok.has _ (.inl k)) fun k => I.ok.has _ (.inr k)
  refine wp_comp (use := use) rfl hs (closure_ok cells) ok.kind (fun y hy e => (ok.uniq y hy).trans (congrArg some e)) (thn (hi.run pins s σ H _ I h) fun xv s1 hx => thn hx fun itv s2 h2 => ?_)
  obtain ⟨it, fp, tn, J, H2, e, I2, T, t2, f2, q⟩ := h2
  subst e
  refine wpAny_newObj_type (newEnv_comp ⟨rfl, ?_⟩) (Nat.zero_le _)
  generalize hD : s2.heap.objs.size = D
  obtain ⟨V, ⟨m0, v0⟩, turn⟩ := q D (I2.hok.fresh (Nat.le_of_eq hD))
  generalize es3 : ({ s2 with heap := s2.heap.push { cls := .type "list", data := .seq ([] : List Value).toArray } } : Shared) = s3
  have h3 : s3.heap = s2.heap.push { cls := .type "list", data := .seq ([] : List Value).toArray } := by rw [← es3]
  have I3 : L2.Inv X pins σ (upd H2 D (.lst [])) s3 := by
    rw [← es3]
    refine I2.laid (t' := s2.toks) (fun b o q => Heap.get?_push_of_some _ q) (Nat.le_of_eq hD) ⟨Nat.zero_le _, [], 0, .nil, ?_⟩
    rw [← hD]
    exact Heap.get?_push_size _ rfl
  have below : ∀ b ∈ fp, b < s2.heap.objs.size := fun b hb => by obtain ⟨o, q, _⟩ := T.obj _ _ t2 b hb; exact Heap.lt_size q
  have f3 : ∀ b ∈ fp, FpOk X pins (upd H2 D (.lst [])) b ∧ b < s3.heap.objs.size := fun b hb => by
    refine ⟨⟨?_, (f2 b hb).2⟩, by rw [h3, Heap.size_push]; exact Nat.lt_succ_of_lt (below b hb)⟩
    rw [upd_ne (by rw [← hD]; exact Nat.ne_of_lt (below b hb))]
    exact (f2 b hb).1
  have t3 : tn 0 s3.heap := T.keep _ _ _ t2 fun b _ o q => by rw [h3]; exact Heap.get?_push_of_some _ q
  have I4 := block_start I3 ok hN f3
  generalize hcl : cellsFrom (s3.heap.objs.size + 1) scope.names (cloFrom X.env.cells scope.names []) = cl at I4
  show codeAny _ _ (.compStart (.ListComp elt [⟨tg, iter, [], 0⟩] scope pos) 0 (.ref it) (.ref D) (compEnvC scope cl s3.heap.objs.size X.env)) (cPost (model X.prog X.w) X.A X.xe use Qf (.ref D) s3.heap.objs.size X.env.frame) { s3 with heap := pushCells (s3.heap.push { cls := .type "dict", data := .dict #[] }) scope.names }
  have pg := hg s3 (upd H2 D (.lst [])) s3.heap.objs.size cl fp (outX X s3 (upd H2 D (.lst [])) scope (compEnvC scope cl s3.heap.objs.size X.env) fp (fun cls d H' => W cls d σ H'))
  have pe := he (fun cls d H' => W cls d σ H') s3 (upd H2 D (.lst [])) s3.heap.objs.size cl fp (outX X s3 (upd H2 D (.lst [])) scope (compEnvC scope cl s3.heap.objs.size X.env) fp (fun cls d H' => W cls d σ H')) fun _ _ z => z
  have nfp : ∀ b ∈ fp, (upd H2 D (.lst [])) b = none := fun b hb => (f3 b hb).1.1
  have cF : (compEnvC scope cl s3.heap.objs.size X.env).frame = X.env.frame := rfl
  generalize hce : compEnvC scope cl s3.heap.objs.size X.env = ce at I4 pg pe cF ⊢
  have cL : ce.locals = s3.heap.objs.size := by subst hce; rfl
  generalize hH3 : upd H2 D (.lst []) = H3 at I3 I4 pg pe v0 nfp f3
  generalize hs4 : ({ s3 with heap := pushCells (s3.heap.push { cls := .type "dict", data := .dict #[] }) scope.names } : Shared) = s4 at I4 ⊢
  have t4 : tn 0 s4.heap := T.keep _ _ _ t3 fun b _ o q => by rw [← hs4]; exact pushCells_keeps _ _ _ _ (Heap.get?_push_of_some _ q)
  have stat : ∀ {σ' : L2.St} {H' : Hp} {s' : Shared}, L2.Inv (X.blk s3 H3 scope ce fp) [] σ' H' s' → (∀ b ∈ fp, H' b = none) → ∀ b ∈ fp, FpOk (X.blk s3 H3 scope ce fp) [] H' b := fun {σ' H' s'} I' hn b hb =>
    ⟨hn b hb, (I'.ok.exf b hb).1, I'.ok.exfs b hb, .inl hb, fun x c q => (I'.ok.exf b hb).2 x c q, fun p hp => absurd (show p ∈ ([] : List (Addr × Obj)) ++ [] from hp) (by simp)⟩
  have loop : codeAny (model X.prog X.w) X.A (.compLoop (.ListComp elt [⟨tg, iter, [], 0⟩] scope pos) 0 (.ref it) (.ref D) ce) (cPost (model X.prog X.w) X.A X.xe use Qf (.ref D) s3.heap.objs.size X.env.frame) s4 := by
    refine compLoop_any (fun n s' => ∃ i H', L2.Inv (X.blk s3 H3 scope ce fp) [] (wipe σ (own.map (·.2))) H' s' ∧ tn i s'.heap ∧ (∀ b ∈ fp, H' b = none) ∧ V i n H') ?_ m0 ⟨0, H3, I4, t4, nfp, v0⟩
    rintro n s5 ⟨i, H5, I5, t5, n5, v5⟩
    rcases turn i n H5 v5 with ⟨stop, qq⟩ | ⟨go, Nx, hNx, step⟩
    · refine thnF (T.done (X.blk s3 H3 scope ce fp) rfl rfl rfl hc i [] s5 _ H5 (fun _ _ => False) I5 (stat I5 n5) t5 stop) fun r s6 ⟨hr, I6⟩ => ?_
      subst hr
      have I7 : L2.Inv X pins σ H5 s6 := I3.call' (ch := fp) I6.os I6.base I6.hok I6.bare fun b hb => ⟨(f3 b hb).1.2.2.2.1, (f3 b hb).1.2.1, (f3 b hb).1.2.2.2.2.1, (f3 b hb).1.2.2.2.2.2⟩
      have nC : H5 s3.heap.objs.size = none := by have z : H5 ce.locals = none := I6.free; rw [cL] at z; exact z
      obtain ⟨m, hn, _⟩ := I6.loc
      have hn : s6.heap.Ns s3.heap.objs.size m := by have z : s6.heap.Ns ce.locals m := hn; rw [cL] at z; exact z
      exact hR D s3.heap.objs.size s6 m H5 I7 qq hn (I3.fpOk (Nat.le_refl _) nC)
    · refine thnF (T.item (X.blk s3 H3 scope ce fp) rfl rfl rfl hc i [] s5 _ H5 (fun _ _ => False) I5 (stat I5 n5) t5 go) fun r s6 ⟨u, hr, h6⟩ => ?_
      subst hr
      refine thnF h6 fun _ s7 ⟨x, H7, I7, r7, y7, t7, n7⟩ => ?_
      have out : ∀ u s', outX X s3 H3 scope ce fp (fun cls d H' => W cls d σ H') u s' → notedBy (model X.prog X.w) X.A ce (fun e s1 => cPost (model X.prog X.w) X.A X.xe use Qf (.ref D) s3.heap.objs.size X.env.frame (.error e) s1) u s' := fun u s' x =>
        leaves_blk hst hfr tk I3 (fun b hb => (f3 b hb).1) cL cF (Nat.le_refl _) x
      have I7' : L2.Inv (blkX X s3 H3 scope ce fp (outX X s3 H3 scope ce fp fun cls d H' => W cls d σ H')) ([] ++ pinsAt fp s7.heap) _ H7 s7 := inX (I7.pinned (stat I7 n7) (T.obj _ _ t7))
      refine wpAny_mono (pg.run _ s7 _ H7 x u _ I7' r7 (step x H7 y7)) (fun _ s8 hp => ?_) out
      obtain ⟨σ8, H8, I8, hw8, q8⟩ := hp
      refine wpAny_tests_nil ?_
      rw [if_pos rfl]
      have fin : ∀ {s' : Shared} {H' : Hp}, L2.Inv (blkX X s3 H3 scope ce fp (outX X s3 H3 scope ce fp fun cls d H' => W cls d σ H')) ([] ++ pinsAt fp s7.heap) σ8 H' s' → Nx H' → ∃ m, m < n ∧ ∃ i H', L2.Inv (X.blk s3 H3 scope ce fp) [] (wipe σ (own.map (·.2))) H' s' ∧ tn i s'.heap ∧ (∀ b ∈ fp, H' b = none) ∧ V i m H' := fun {s' H'} I' nx => by
        obtain ⟨m', hm, v'⟩ := hNx H' nx
        have I' := inB I'
        have pinned : ∀ b ∈ fp, ∀ o, s7.heap.get? b = some o → s'.heap.get? b = some o ∧ H' b = none := fun b hb o q =>
          let z := I'.pin (b, o) (List.mem_append_right _ (List.mem_append_right _ (mem_pinsAt hb q)))
          ⟨z.1, z.2.1⟩
        have hl : (wipe σ (own.map (·.2))).length = σ8.length := by rw [← hw8, wipe_length]
        refine ⟨m', hm, i + 1, H', (I'.unpinned (pins := [])).weak hl (fun j v q => ?_), T.keep _ _ _ t7 fun b hb o q => (pinned b hb o q).1, fun b hb => ?_, v'⟩
        · rw [← hw8] at q
          exact (wipe_some q).1
        · obtain ⟨o, q, _⟩ := T.obj _ _ t7 b hb
          exact (pinned b hb o q).2
      refine wpAny_mono (pe.run _ s8 σ8 H8 _ I8 q8) (fun z s10 hz => ?_) out
      obtain ⟨yv, H10, I10, r10, acc, hD10, hz10, nx⟩ := hz
      exact app_ok (X := blkX X s3 H3 scope ce fp (outX X s3 H3 scope ce fp fun cls d H' => W cls d σ H')) I10 hD10 hz10 r10 fun s11 I11 => fin I11 nx
  exact codeAny_compStart_list loop (T.self X.A 0 _ _ _ t4 loop)
theorem pe_lcX {elt tg iter : Expr} {scope : Scope} {own : List (Str × Nat)} {pos : Pos} {wi : L2.TI} {g : TG} {te : XK → TE} (hc : X.calm = true) (hN : X.N.Nodup) (hst : X.stack = X.env :: X.outer) (hfr : X.env.frame = some X.env.locals) (tk : Takes X W) (hi : PI X tg iter wi) (ok : BlkOk X.N X.env.scope scope own) (hg : TgX X scope tg g) (he : EltX X scope elt te)
    (hs : ∀ x, foldedSetIterable iter X.env x = pure x := by intro _; rfl) : PE X (.ListComp elt [⟨tg, iter, [], 0⟩] scope pos) (tLcX wi g te (own.map (·.2)) W) := by
  refine ⟨fun pins s σ H Q I h => ?_⟩
  rw [eval_ListComp]
  refine lc_coreX hc hN hst hfr tk I hi ok hg he hs h fun D C s' m H' I' q hn f => ⟨m, hn, fun h'' sb => ?_⟩
  obtain ⟨f0, f1, f2, f3, f4, f5⟩ := f
  exact ⟨.ref D, H', I'.turned (t' := s'.toks) (fun b o hb e => (sb.2 b hb).trans e) f0 f1 f3 f4 f5, rfl, q⟩
theorem ps_setLcX {i : Nat} {y : Str} {py : Pos} {elt tg iter : Expr} {scope : Scope} {own : List (Str × Nat)} {pos spos : Pos} {wi : L2.TI} {g : TG} {te : XK → TE} (hc : X.calm = true) (hN : X.N.Nodup) (hst : X.stack = X.env :: X.outer) (hfr : X.env.frame = some X.env.locals) (tk : Takes X W) (hy : X.N[i]? = some y) (hyl : X.env.scope.names.lookup y = some .local)
    (hsw : swapsWith (.ListComp elt [⟨tg, iter, [], 0⟩] scope pos) (some (.Name y py)) spos.line X.env = pure true) (hi : PI X tg iter wi) (ok : BlkOk X.N X.env.scope scope own) (hg : TgX X scope tg g) (he : EltX X scope elt te)
    (hs : ∀ x, foldedSetIterable iter X.env x = pure x := by intro _; rfl) : PS X (.Assign [.Name y py] (.ListComp elt [⟨tg, iter, [], 0⟩] scope pos) spos) (tAsg (tLcX wi g te (own.map (·.2)) W) (gName i)) := by
  refine ⟨fun pins s σ H D I h => ?_⟩
  rw [exec_Assign_Name_used _ _ _ _ hsw]
  refine wpAny_bind (wpAny_standAt (wpAny_bind ?_))
  show wpAny _ X.A (do let _ ← comprehension (.ListComp elt [⟨tg, iter, [], 0⟩] scope pos) scope X.env (firstIterPos [⟨tg, iter, [], 0⟩] pos) (newList []) false (eval iter X.env) (some (assign (.Name y py) X.env))) _ _ s
  have h : tLcX wi g te (own.map (·.2)) W σ H (fun x H1 => gName i x σ H1 D.nx) := h
  refine wpAny_bind (thn (lc_coreX (Qf := fun _ s' => SP X pins D .next s') hc hN hst hfr tk I hi ok hg he hs h fun L C s' m H' I' q hn f => ?_) fun _ s' hq => wpAny_pure (wpAny_pure hq))
  show wpAny _ _ (assign (.Name y py) X.env (.ref L)) _ _ _
  refine wpAny_assign_Name (store_ok2 (v := V.ref L) I' hN hy (.inl hyl) rfl (fun s2 I2 ⟨a, sb, ha⟩ => ?_) (.inr hyl))
  obtain ⟨f0, f1, f2, f3, f4, f5⟩ := f
  have haC : C ≠ a := ha.elim (fun z => by rw [z]; exact f1) fun z e => f4 y a z e.symm
  exact ⟨m, hn.sameBut sb haC, fun h3 sb3 => ⟨_, H', I2.turned (t' := s2.toks) (fun b o hb e => (sb3.2 b hb).trans e) f0 f1 f3 f4 f5, q⟩⟩
end
end Pc

set_option maxRecDepth 100000
set_option maxHeartbeats 1000000
namespace Pc
open PySem PySem.Spec PyProof.Rows L2
open Evl (Ex)
/-! ### .. as data -/
def lcGE (bd : PyData → En → Option En) (elt : En → P PyData) (ρ : En) : List PyData → P (List PyData)
  | [] => .ok []
  | x :: xs => match bd x ρ with
    | none => .stuck
    | some ρ1 => (elt ρ1).bind fun y => (lcGE bd elt ρ xs).bind fun ys => .ok (y :: ys)
def lcC (src : En → P (List PyData)) (vs : List Nat) (bd : PyData → En → Option En) (elt : En → P PyData) : En → P PyData := fun ρ => (src ρ).bind fun xs => if xs.length ≤ LIM then (lcGE bd elt (wipeE ρ vs) xs).bind fun ys => .ok (.list ys) else .stuck
abbrev wB (Wb : XK) : WX := fun cls d _ H => Wb cls d H
theorem lcC_of {K : PySem.W.Frag} {Δ : Nat → Sh} {W : WX} {src : En → P (List PyData)} {vs : List Nat} {bd : PyData → En → Option En} {elt : En → P PyData} (σ : L2.St) (H : Hp) (Q : VK) (h : tG K Δ W (rNew K (.lst .dat)) (lcC src vs bd elt) σ H Q) :
    tLcX (tG K Δ W (rWV K) src) (tB K Δ vs bd) (fun Wb => tG K Δ (wB Wb) (rDp K) elt) vs W σ H Q := by
  obtain ⟨F0, B, F, ρ, E, p⟩ := h
  refine seqG (r1 := rWV K) E p fun ds J F1 H1 g1 wk E1 p1 => ?_
  intro Dd hD
  by_cases hlim : ds.length ≤ LIM
  case neg => rw [if_neg hlim] at p1; exact p1.elim
  rw [if_pos hlim] at p1
  obtain ⟨tot, et⟩ : ∃ t, t = lcGE bd elt (wipeE ρ vs) ds := ⟨_, rfl⟩
  rw [← et] at p1
  refine ⟨fun i m H' => m = ds.length - i ∧ i ≤ ds.length ∧ ∃ F' accV accD, Gw F1 H1 F' H' ∧ F' Dd = none ∧ H' Dd = some (.lst accV) ∧ DqAll K F' accV accD ∧ tot = ((lcGE bd elt (wipeE ρ vs) (ds.drop i)).bind fun r => .ok (accD ++ r)) ∧ accD.length ≤ i,
    ⟨_, rfl, Nat.zero_le _, F1, [], [], .own E1.eF hD, none_of_ex E1.eF hD, upd_same, .nil, ?_, Nat.le_refl _⟩, ?_⟩
  · rw [List.drop_zero, ← et]
    cases tot <;> rfl
  rintro i m H' ⟨rfl, hi, F', accV, accD, g', hF, hH, dq, eT, hacc⟩
  by_cases hlt : i < ds.length
  · refine .inr ?_
    obtain ⟨wi, _⟩ := wk i F' H' g'
    have hdi : ds[i]? = some ds[i] := List.getElem?_eq_getElem hlt
    obtain ⟨go, yl⟩ := wi _ hdi
    refine ⟨go, _, fun H2 z => ⟨ds.length - (i + 1), by omega, rfl, hlt, z⟩, fun x H2 y => ?_⟩
    obtain ⟨F2, g2, dx⟩ := yl x H2 y
    have gA := g'.trans g2
    have hF2 : F2 Dd = none := g2.2.2.2 Dd (by rw [hH]; exact fun z => nomatch z) hF
    have hH2 : H2 Dd = some (.lst accV) := g2.2.2.1 _ _ hH
    rw [drop_get hdi] at eT
    unfold lcGE at eT
    cases eb : bd ds[i] (wipeE ρ vs) with
    | none => rw [eb] at eT; rw [eT] at p1; exact p1.elim
    | some ρ1 =>
      rw [eb] at eT
      dsimp only at eT
      refine ⟨F0, B, F2, wipeE ρ vs, ds[i], ρ1, (E1.gw gA).wipe vs, dx, eb, fun σ2 S2 E2 => ⟨wipe_same S2, F0, B, F2, ρ1, E2, ?_⟩⟩
      cases ee : elt ρ1 with
      | stuck => rw [ee] at eT; rw [eT] at p1; exact p1.elim
      | exc c =>
        rw [ee] at eT
        rw [eT] at p1
        intro F4 H4 g4
        exact p1 F4 H4 (gA.trans g4)
      | ok yd =>
        rw [ee, bind_ok] at eT
        intro y4 F4 H4 g4 dy
        have hF4 : F4 Dd = none := g4.2.2.2 Dd (by rw [hH2]; exact fun z => nomatch z) hF2
        have hH4 : H4 Dd = some (.lst accV) := g4.2.2.1 _ _ hH2
        refine ⟨accV, hH4, by rw [lim_eq, dq.len]; omega, ?_⟩
        have gB := gA.trans g4
        refine ⟨F4, accV ++ [y4], accD ++ [yd], ⟨gB.1, fun b u hb => ?_, fun b u hb => ?_, gB.2.2.2⟩, hF4, upd_same, (dq.mn (g2.1.trans g4.1)).app (.one dy), ?_, by simp; omega⟩
        · rw [upd_ne (fun z => by rw [z, hF4] at hb; cases hb)]; exact gB.2.1 b u hb
        · rw [upd_ne (fun z => by rw [z, hD] at hb; cases hb)]; exact gB.2.2.1 b u hb
        · rw [eT]
          cases lcGE bd elt (wipeE ρ vs) (ds.drop (i + 1)) with
          | ok r => show P.ok (accD ++ yd :: r) = P.ok (accD ++ [yd] ++ r); rw [List.append_assoc]; rfl
          | exc c => rfl
          | stuck => rfl
  · have hi' : i = ds.length := by omega
    subst hi'
    refine .inl ⟨(wk ds.length F' H' g').2 (Nat.le_refl _), ?_⟩
    rw [List.drop_length] at eT
    have eT : tot = .ok accD := by rw [eT]; show P.ok (accD ++ []) = _; rw [List.append_nil]
    rw [eT] at p1
    refine p1 _ F' H' g' ⟨[Dd], ⟨Dd, accV, accD, [], rfl, rfl, hH, ownL_dat dq, rfl⟩, by simp, fun a ha => ?_⟩
    have ea : a = Dd := by simpa using ha
    subst ea
    exact ⟨hF, hD, by rw [hH]; exact fun z => nomatch z⟩
section
variable {X : Cx} {C : Ct} {Δ : Nat → Sh} {W : WX} {elt tg iter e : Expr} {es : List Expr} {scope : Scope} {pos p : Pos} {src : En → P (List PyData)} {bd : PyData → En → Option En} {me : En → P PyData} {ml : En → P (List PyData)}
theorem g_lcC (own : List (Str × Nat)) (hc : X.calm = true) (hN : X.N.Nodup) (hst : X.stack = X.env :: X.outer) (hfr : X.env.frame = some X.env.locals) (tk : Takes X W) (hi : PI X tg iter (tG X.K Δ W (rWV X.K) src)) (ok : BlkOk X.N X.env.scope scope own) (hg : TgX X scope tg (tB X.K Δ (own.map (·.2)) bd))
    (he : EltX X scope elt (fun Wb => tG X.K Δ (wB Wb) (rDp X.K) me)) (hs : ∀ x, foldedSetIterable iter X.env x = pure x := by intro _; rfl) : PE X (.ListComp elt [⟨tg, iter, [], 0⟩] scope pos) (tG X.K Δ W (rNew X.K (.lst .dat)) (lcC src (own.map (·.2)) bd me)) :=
  pe_mono (pe_lcX hc hN hst hfr tk hi ok hg he hs) lcC_of
theorem s_setLcC {i : Nat} {y : Str} {py spos : Pos} (own : List (Str × Nat)) (hK : C.K = X.K) (hc : X.calm = true) (hN : X.N.Nodup) (hst : X.stack = X.env :: X.outer) (hfr : X.env.frame = some X.env.locals) (tk : Takes X C.W) (hi : PI X tg iter (tG X.K Δ C.W (rWV X.K) src)) (ok : BlkOk X.N X.env.scope scope own) (hg : TgX X scope tg (tB X.K Δ (own.map (·.2)) bd))
    (he : EltX X scope elt (fun Wb => tG X.K Δ (wB Wb) (rDp X.K) me)) (hsw : swapsWith (.ListComp elt [⟨tg, iter, [], 0⟩] scope pos) (some (.Name y py)) spos.line X.env = pure true) (hd : Δ i = .dat := by rfl) (hy : X.N[i]? = some y := by rfl) (hyl : X.env.scope.names.lookup y = some .local := by rfl)
    (hs : ∀ x, foldedSetIterable iter X.env x = pure x := by intro _; rfl) : PS X (.Assign [.Name y py] (.ListComp elt [⟨tg, iter, [], 0⟩] scope pos) spos) (tS C Δ Δ (sSet i (lcC src (own.map (·.2)) bd me))) := by
  refine ps_mono (ps_setLcX hc hN hst hfr tk hy hyl hsw hi ok hg he hs) fun D σ H h => ?_
  obtain ⟨F0, B, F, ρ, E, p⟩ := h
  refine lcC_of (W := C.W) σ H _ ?_
  have z := stepS (r := rNew C.K (.lst .dat)) (Q1 := fun x H1 => D.nx (σ.set i (some x)) H1) E p fun d v F1 H1 g q E1 p1 => by
    obtain ⟨F2, g2, dq⟩ := frz_lst g q
    exact p1 _ F2 H1 ⟨(E.e.gw g2).setDat hd dq, E.sh, E.ok⟩
  rw [← hK]
  exact z
/-- an item that a def tells -/
theorem e_call {s : Shared} {H : Hp} {ce : Env} {fp : List Addr} {xe : Value → Shared → Prop} {x : Str} {k n : Nat} {g : List PyData → P PyData} {Wb : XK} (d : Def X.prog X.w X.K X.mg X.base x k n g) (hr : Room k X.A) (hx : ∀ u s', outX X s H scope ce fp Wb u s' → xe u s')
    (ha : PA (blkX X s H scope ce fp xe) (e :: es) (tG X.K Δ (wB Wb) (rDpsN X.K n) ml)) (hg : Gl (blkX X s H scope ce fp xe) x := by rfl) (hdb : (x == ("__debug__" : Str)) = false := by decide)
    (he : starEach (e :: es) ce = (false, eval e ce) :: starEach es ce := by rfl) (hpl : (backTo pos (starEach es ce)).any (·.1) = false := by rfl) :
    PE (blkX X s H scope ce fp xe) (.Call (.Name x p) (e :: es) [] pos) (tG X.K Δ (wB Wb) (rDp X.K) (mF g ml)) := by
  obtain ⟨f, fd, ps, F, hm, hk, hb⟩ := d.ok
  refine pe_mono (pe_callS (X := blkX X s H scope ce fp xe) (E := WE (wB Wb)) F hr hg hm hk hb (fun σ pins H' s' e' s2 I c => hx e' s2 ⟨pins, σ, H', s', inB I, c⟩) ha hdb he hpl) fun σ H Q h => ?_
  obtain ⟨F0, B, F, ρ, E, p⟩ := h
  refine seqG (r1 := rDpsN X.K n) E p fun ds vs F1 H1 g1 q1 E1 p1 => ⟨F1, ds, E1.eF, q1.1, q1.2, ?_⟩
  cases e : g ds with
  | ok d => rw [e] at p1; exact p1
  | exc c => rw [e] at p1; exact p1
  | stuck => rw [e] at p1; exact p1
end
end Pc

set_option maxRecDepth 100000
set_option maxHeartbeats 1000000
namespace Pc
open PySem PySem.Spec PyProof.Rows L2
open Evl (Ex)
/-! ### except .. as e; isinstance(e, ..) -/
def tryAs (names : List Str) (i : Nat) (mb mh : En → Fl) : En → Fl := fun ρ => match mb ρ with
  | .ex c ρ' => if names.contains c = true then (match mh (ρ'.set i (some (.str c))) with
    | .nx ρ2 => .nx (ρ2.set i none)
    | _ => .stuck) else .stuck
  | .nx ρ' => .nx ρ'
  | .rt d ρ' => .rt d ρ'
  | .ct ρ' => .ct ρ'
  | .stuck => .stuck
abbrev shE (l : List (Nat × Sh)) (i : Nat) (a : Addr) (c : Str) : Nat → Sh := shs ((i, .is (.ref a) (.str c)) :: l)
theorem shE_ne (l : List (Nat × Sh)) {i j : Nat} (a : Addr) (c : Str) (h : j ≠ i) : shE l i a c j = shs l j := by
  unfold shE shs
  rw [List.lookup_cons]
  have e : (j == i) = false := by simpa using h
  rw [e]
theorem shE_at (l : List (Nat × Sh)) (i : Nat) (a : Addr) (c : Str) : shE l i a c i = .is (.ref a) (.str c) := by
  unfold shE shs
  rw [List.lookup_cons]
  simp
section
variable {X : Cx} {C : Ct} {pos pos' np : Pos} {body suite : List Stmt} {b₀ : Stmt} {x n : Str} {i : Nat} {l : List (Nat × Sh)} {mb mh : En → Fl}
abbrev ctE (C : Ct) : Ct := { C with W := noW, okE := fun _ => True }
theorem s_tryAs {names : List Str} (hK : C.K = X.K) (hs : X.stack = X.env :: X.outer) (hf : X.env.frame = some X.env.locals) (tk : Takes X C.W) (hN : X.N.Nodup) (hm : ∀ c, names.contains c = true → PySem.W.exmOne X.K (.ref (He.ga X.K c)) (.ref (He.ga X.K x)) = some true) (hcx : Names X x (.ref (He.ga X.K x)))
    (hb : ∀ (W : WX) (pn : List (Addr × Obj)) (xe : Value → Shared → Prop), Takes (X.tr pn xe) W → PassesOwn (model X.prog X.w) X.A X.env xe → PSs (X.tr pn xe) body (tS { C with W := W, okE := (· = shs l) } (shs l) (shs l) mb))
    (hsu : ∀ c, names.contains c = true → ∀ (a : Addr) (oe : Obj) (pn : List (Addr × Obj)), Zc (.ref (He.ga X.K c)) none oe → (∃ vs, oe.data = .fields vs) → PSs (X.suite a ((a, oe) :: pn)) (b₀ :: suite) (tS (ctE C) (shE l i a c) (shE l i a c) mh))
    (hi : X.N[i]? = some n := by rfl) (hln : X.env.kindOf n = some .local := by rfl) (hio : C.io i = false := by rfl) : PS X (.Try body [.ExceptHandler (some (.Name x np)) (some n) (b₀ :: suite) pos'] [] [] pos) (tS C (shs l) (shs l) (tryAs names i mb mh)) := by
  refine ps_mono (ps_try_as (tb := fun W => tS { C with W := W, okE := (· = shs l) } (shs l) (shs l) mb)
    (ts := fun a cls d D σ H => ∃ c, names.contains c = true ∧ cls = .ref (He.ga X.K c) ∧ d = none ∧ tS (ctE C) (shE l i a c) (shE l i a c) mh D σ H) hs hf hN hi hln hcx tk hb ?_) fun D σ H h => ?_
  · intro a oe cls d pn hz hfl
    refine ⟨fun pins s σ H D I h => ?_⟩
    obtain ⟨c, hc, rfl, rfl, h⟩ := h
    exact (hsu c hc a oe pn hz hfl).run pins s σ H D I h
  obtain ⟨F0, B, F, ρ, E, p⟩ := h
  refine ⟨F0, B, F, ρ, ⟨E.e, E.sh, rfl⟩, ?_⟩
  replace p : PostS C (shs l) F0 B D (tryAs names i mb mh ρ) := p
  unfold tryAs at p
  cases e : mb ρ with
  | nx ρ' => rw [e] at p; exact fun σ' F' H' E' => p σ' F' H' ⟨E'.e, E'.sh, E.ok⟩
  | rt d ρ' => rw [e] at p; exact p
  | ct ρ' => rw [e] at p; exact fun σ' F' H' E' => p σ' F' H' ⟨E'.e, E'.sh, (show C.Dl = shs l from E'.ok) ▸ E.ok⟩
  | stuck => rw [e] at p; exact p
  | ex c ρ' =>
    rw [e] at p
    intro Δe σ' F' H' E'
    have ed : Δe = shs l := E'.ok
    subst ed
    dsimp only at p
    by_cases hc : names.contains c = true
    case neg => rw [if_neg hc] at p; exact p.elim
    rw [if_pos hc] at p
    rw [hK]
    refine ⟨true, hm c hc, fun _ a ha => ⟨c, hc, rfl, rfl, ?_⟩, fun z => absurd z (by decide)⟩
    have hne : ∀ j, C.io j = true → j ≠ i := fun j hj z => by rw [z, hio] at hj; cases hj
    have E1 : EnvOk C.K (shE l i a c) F0 B F' H' (σ'.set i (some (.ref a))) (ρ'.set i none) := E'.e.reshape fun j hj => shE_ne l a c hj
    have E2 := E1.setNew (i := i) (v := .ref a) (d := .str c) (Gw.refl E1.eF) ⟨[], by rw [shE_at]; exact ⟨rfl, rfl, rfl⟩, List.nodup_nil, fun _ h => (List.not_mem_nil h).elim⟩
    rw [List.set_set, List.set_set] at E2
    refine ⟨F0, B, F', ρ'.set i (some (.str c)), ⟨E2, fun j hj => ?_, trivial⟩, ?_⟩
    · rw [shE_ne l a c (hne j hj)]
      exact E'.sh j hj
    · cases em : mh (ρ'.set i (some (.str c))) with
      | nx ρ2 =>
        rw [em] at p
        intro σ3 F3 H3 E3
        refine p _ F3 H3 ⟨E3.e.reshape (fun j hj => (shE_ne l a c hj).symm), fun j hj => ?_, E.ok⟩
        rw [← shE_ne l a c (hne j hj)]
        exact E3.sh j hj
      | rt d ρ2 => rw [em] at p; exact p.elim
      | ct ρ2 => rw [em] at p; exact p.elim
      | ex c2 ρ2 => rw [em] at p; exact p.elim
      | stuck => rw [em] at p; exact p.elim
end
/-- what isinstance needs of a class of exceptions -/
def exB (K : PySem.W.Frag) (c : Str) : Bool := He.eqO (PySem.W.findIn K (.ref (He.ga K c)) "__getattribute__") (some (some (.builtin "BaseException.__getattribute__"))) && (He.eqO (PySem.W.findIn K (.ref (He.ga K c)) "__getattr__") (some none) && (decide (PySem.W.subIn K (.ref (He.ga K c)) (.type "BaseException") = some true) && (PySem.W.hasDictIn K (He.ga K c) &&
  (He.eqO (PySem.W.findIn K (.ref (He.ga K c)) "__class__") (some (some (.builtin "object.__class__"))) && (He.eqO (PySem.W.specialIn K (.builtin "object.__class__") "__get__") (some (some (.builtin "getset_descriptor.__get__"))) && (decide (PySem.W.takesIn K (.builtin "object.__class__") = some true) && decide (PySem.W.mroIn K (He.ga K c) (.type "object") = some true)))))))
theorem exB_ok {K : PySem.W.Frag} {c : Str} (h : exB K c = true) : ExcC K (He.ga K c) := by
  unfold exB at h
  simp only [Bool.and_eq_true, decide_eq_true_eq] at h
  obtain ⟨h1, h2, h3, h4, h5, h6, h7, h8⟩ := h
  exact ⟨He.eqO_ok h1, He.eqO_ok h2, h3, h4, He.eqO_ok h5, He.eqO_ok h6, h7, h8⟩
def kiB (K : PySem.W.Frag) (names cs : List Str) : Bool := names.all fun c => exB K c && (decide (PySem.W.kitOne K (.ref (He.ga K c)) (.type "ValueError") = some true) && cs.all fun y => decide (PySem.W.kitOne K (.ref (He.ga K c)) (.ref (He.ga K y)) = some (c == y)))
theorem kiB_ok {K : PySem.W.Frag} {names cs : List Str} (h : kiB K names cs = true) {c : Str} (hc : names.contains c = true) : ExcC K (He.ga K c) ∧ PySem.W.kitOne K (.ref (He.ga K c)) (.type "ValueError") = some true ∧ ∀ y, cs.contains y = true → PySem.W.kitOne K (.ref (He.ga K c)) (.ref (He.ga K y)) = some (c == y) := by
  have := List.all_eq_true.mp h c (List.contains_iff_mem.mp hc)
  simp only [Bool.and_eq_true, decide_eq_true_eq] at this
  exact ⟨exB_ok this.1, this.2.1, fun y hy => of_decide_eq_true (List.all_eq_true.mp this.2.2 y (List.contains_iff_mem.mp hy))⟩
def mIsE (names : List Str) (i : Nat) (f : Str → Bool) : En → P PyData := fun ρ => match getO ρ i with
  | some (.str c) => if names.contains c = true then .ok (.bool (f c)) else .stuck
  | _ => .stuck
section
variable {X : Cx} {W : WX} {a : Addr} {c : Str} {oe : Obj} {pn : List (Addr × Obj)} {i : Nat} {x y : Str} {p p1 p2 pos : Pos} {names cs : List Str} {Δ : Nat → Sh}
theorem is_of {cv : V} {cu : Value} {f : Str → Bool} (hc : names.contains c = true) (hΔ : Δ i = .is (.ref a) (.str c)) (h1 : ∀ u, RelV cv u → u = cu) (hk : PySem.W.kitOne X.K (.ref (He.ga X.K c)) cu = some (f c)) (σ : L2.St) (H : Hp) (Q : VK) (h : tG X.K Δ W (rDp X.K) (mIsE names i f) σ H Q) :
    tCB (rIsE X.K (He.ga X.K c) a) (tCons (tVar i) (tCons (tC cv) tNil)) σ H Q := by
  obtain ⟨F0, B, F, ρ, E, p⟩ := h
  replace p : PostG X.K W (rDp X.K) σ F H (mIsE names i f ρ) Q := p
  unfold mIsE at p
  cases e : getO ρ i with
  | none => rw [e] at p; exact p.elim
  | some d =>
    have e2 : ρ[i]? = some (some d) := by
      unfold getO at e
      cases q : ρ[i]? with
      | none => rw [q] at e; cases e
      | some o => rw [q] at e; have e' : o = some d := e; rw [e']
    obtain ⟨φ, g1, _⟩ := E.own
    obtain ⟨v, hv, ow⟩ := g1 i d e2
    rw [hΔ] at ow
    obtain ⟨rfl, rfl, _⟩ := ow
    rw [e] at p
    dsimp only at p
    rw [if_pos hc] at p
    exact ⟨_, hv, cv, cu, f c, rfl, h1, hk, p _ F H (.refl E.eF) (.bl _)⟩
/-- isinstance(e, y), y a class of the program -/
theorem g_isE (hki : kiB X.K names cs = true) (hc : names.contains c = true) (hz : Zc (.ref (He.ga X.K c)) none oe) (hf : ∃ vs, oe.data = .fields vs) (hmi : X.mg "isinstance" = none) (hmy : X.mg y = some (.ref (He.ga X.K y))) (hΔ : Δ i = .is (.ref a) (.str c) := by rfl) (hcy : cs.contains y = true := by decide) (hN : X.N[i]? = some x := by rfl)
    (hv : Vis X.env.scope x := by first | exact Or.inl rfl | exact Or.inr (Or.inl rfl) | exact Or.inr (Or.inr rfl)) (hgi : Gl X "isinstance" := by rfl) (hgy : Gl X y := by rfl) (h1 : (x == ("__debug__" : Str)) = false := by decide) (h2 : (x == ("__classdict__" : Str)) = false := by decide) (h3 : (y == ("__debug__" : Str)) = false := by decide)
    (na1 : starEach [.Name x p1, .Name y p2] X.env = (false, eval (.Name x p1) X.env) :: starEach [.Name y p2] X.env := by rfl) (na2 : starEach [.Name y p2] X.env = (false, eval (.Name y p2) X.env) :: starEach [] X.env := by rfl) (hpl : (backTo pos (starEach [.Name y p2] X.env)).any (·.1) = false := by rfl) :
    PE (X.suite a ((a, oe) :: pn)) (.Call (.Name "isinstance" p) [.Name x p1, .Name y p2] [] pos) (tG X.K Δ W (rDp X.K) (mIsE names i (fun c => c == y))) := by
  obtain ⟨k1, k2, k3⟩ := kiB_ok hki hc
  exact pe_mono (pe_callB (X := X.suite a ((a, oe) :: pn)) (call_isE k1 hz hf) hgi hmi (by decide +kernel) (pa_cons (pe_var (X := X.suite a ((a, oe) :: pn)) hN hv h1 h2) (pa_cons (pe_glob (X := X.suite a ((a, oe) :: pn)) (v := .ref (He.ga X.K y)) hgy hmy rfl h3) pa_nil na2) na1) (he := na1) (hpl := hpl)) (is_of (cv := .ref (He.ga X.K y)) (cu := .ref (He.ga X.K y)) hc hΔ (fun u r => r) (k3 y hcy))
/-- isinstance(e, ValueError) -/
theorem g_isV (hki : kiB X.K names cs = true) (hc : names.contains c = true) (hz : Zc (.ref (He.ga X.K c)) none oe) (hf : ∃ vs, oe.data = .fields vs) (hmi : X.mg "isinstance" = none) (hmy : X.mg "ValueError" = none) (hΔ : Δ i = .is (.ref a) (.str c) := by rfl) (hN : X.N[i]? = some x := by rfl)
    (hv : Vis X.env.scope x := by first | exact Or.inl rfl | exact Or.inr (Or.inl rfl) | exact Or.inr (Or.inr rfl)) (hgi : Gl X "isinstance" := by rfl) (hgy : Gl X "ValueError" := by rfl) (h1 : (x == ("__debug__" : Str)) = false := by decide) (h2 : (x == ("__classdict__" : Str)) = false := by decide)
    (na1 : starEach [.Name x p1, .Name "ValueError" p2] X.env = (false, eval (.Name x p1) X.env) :: starEach [.Name "ValueError" p2] X.env := by rfl) (na2 : starEach [.Name "ValueError" p2] X.env = (false, eval (.Name "ValueError" p2) X.env) :: starEach [] X.env := by rfl) (hpl : (backTo pos (starEach [.Name "ValueError" p2] X.env)).any (·.1) = false := by rfl) :
    PE (X.suite a ((a, oe) :: pn)) (.Call (.Name "isinstance" p) [.Name x p1, .Name "ValueError" p2] [] pos) (tG X.K Δ W (rDp X.K) (mIsE names i (fun _ => true))) := by
  obtain ⟨k1, k2, k3⟩ := kiB_ok hki hc
  exact pe_mono (pe_callB (X := X.suite a ((a, oe) :: pn)) (call_isE k1 hz hf) hgi hmi (by decide +kernel) (pa_cons (pe_var (X := X.suite a ((a, oe) :: pn)) hN hv h1 h2) (pa_cons (pe_bltn (X := X.suite a ((a, oe) :: pn)) (v := .ty "ValueError") (u := .type "ValueError") hgy hmy (by decide +kernel) rfl) pa_nil na2) na1) (he := na1) (hpl := hpl)) (is_of (cv := .ty "ValueError") (cu := .type "ValueError") hc hΔ (fun u r => r) k2)
end
inductive ExaL (K : PySem.W.Frag) (y : Str) : List Str → Prop
  | nil : ExaL K y []
  | cons {c : Str} {l : List Str} (h : PySem.W.exmOne K (.ref (He.ga K c)) (.ref (He.ga K y)) = some true) (r : ExaL K y l) : ExaL K y (c :: l)
theorem exaL {K : PySem.W.Frag} {y : Str} {l : List Str} (h : ExaL K y l) : ∀ c, l.contains c = true → PySem.W.exmOne K (.ref (He.ga K c)) (.ref (He.ga K y)) = some true := fun c hc => by
  induction h with
  | nil => cases hc
  | @cons d l h r ih =>
    rw [List.contains_cons, Bool.or_eq_true] at hc
    rcases hc with e | e
    · rw [beq_iff_eq] at e; subst e; exact h
    · exact ih e
end Pc

set_option maxRecDepth 100000
set_option maxHeartbeats 1000000
namespace Pc
open PySem PySem.Spec PyProof.Rows L2
open Evl (Ex)
/-! ### behind the first statement a token is out -/
def PE1 (X : Cx) (e : Expr) (t : TE) : Prop := ∀ (pins : List (Addr × Obj)) (s : Shared) (σ : L2.St) (H : Hp) (Q : VK), L2.Inv X pins σ H s → t σ H Q → wpAny (model X.prog X.w) X.A (eval e X.env) (fun v s1 => 1 ≤ s1.toks ∧ EP X pins σ Q v s1) X.xe s
def PA1 (X : Cx) (es : List Expr) (t : TA) : Prop := ∀ (pos : Pos) (pins : List (Addr × Obj)) (s : Shared) (σ : L2.St) (H : Hp) (Q : List V → Hp → Prop), L2.Inv X pins σ H s → t σ H Q → wpAny (model X.prog X.w) X.A (spliced (backTo pos (starEach es X.env))) (fun v s1 => 1 ≤ s1.toks ∧ AP X pins σ Q v s1) X.xe s
section
variable {X : Cx} {C : Ct} {Δ Δ1 Δ' : Nat → Sh} {W : WX} {e a b o : Expr} {es : List Expr} {pos p p2 pos' apos : Pos} {m ma mb : En → P PyData} {ml : En → P (List PyData)} {r : Rs V PyData} {st : Stmt} {rest : List Stmt} {m1 m2 : En → Fl}
theorem pe1_mono {t t' : TE} (h : PE1 X e t) (i : ∀ σ H Q, t' σ H Q → t σ H Q) : PE1 X e t' := fun pins s σ H Q I q => h pins s σ H Q I (i σ H Q q)
theorem pa1_mono {t t' : TA} (h : PA1 X es t) (i : ∀ σ H Q, t' σ H Q → t σ H Q) : PA1 X es t' := fun p pins s σ H Q I q => h p pins s σ H Q I (i σ H Q q)
theorem pe1_int {i : Int} {j : Nat} : PE1 X (.Constant (.int i) j pos) (tC (.int i)) := fun pins s σ H Q I h => wpAny_Constant_int ⟨by show 1 ≤ s.toks + 1; omega, .int i, H, I.tok (s.toks + 1), ⟨s.toks, rfl⟩, h⟩
theorem pa1_tail {te : TE} {ta : TA} (ha : PE X e te) (hr : PA1 X es ta) (hs : starEach (e :: es) X.env = (false, eval e X.env) :: starEach es X.env := by rfl) : PA1 X (e :: es) (tCons te ta) := by
  intro pos pins s σ H Q I h
  rw [hs]
  show wpAny _ _ (spliced ((false, eval e X.env) :: backTo pos (starEach es X.env))) _ _ s
  refine Calls.spliced_cons (thn (ha.run pins s σ H _ I h) fun v s1 q => ?_)
  obtain ⟨x, H1, I1, r1, q1⟩ := q
  refine thn (hr pos pins s1 σ H1 _ I1 q1) fun us s2 q2 => ?_
  obtain ⟨k, xs, H2, I2, r2, q2⟩ := q2
  exact ⟨k, x :: xs, H2, I2, .cons r1 r2, q2⟩
theorem pa1_head {te : TE} {ta : TA} (ha : PE1 X e te) (hr : PA X es ta) (hs : starEach (e :: es) X.env = (false, eval e X.env) :: starEach es X.env := by rfl) : PA1 X (e :: es) (tCons te ta) := by
  intro pos pins s σ H Q I h
  rw [hs]
  show wpAny _ _ (spliced ((false, eval e X.env) :: backTo pos (starEach es X.env))) _ _ s
  refine Calls.spliced_cons (thn (ha pins s σ H _ I h) fun v s1 q => ?_)
  obtain ⟨k, x, H1, I1, r1, q1⟩ := q
  refine wpAny_mono (PySem.wpAny_toks (hr.run pos pins s1 σ H1 _ I1 q1)) (fun us s2 q2 => ?_) fun _ _ z => z.2
  obtain ⟨k2, xs, H2, I2, r2, q2⟩ := q2
  exact ⟨Nat.le_trans k k2, x :: xs, H2, I2, .cons r1 r2, q2⟩
theorem pe1_callS {CX : CXT} {k : Nat} {f : Addr} {fd : FuncData} {ps : List Str} {sp : Sp} {E : L2.St → XK} {x : Str} {t : TA} (F : FnOk X.prog X.w X.K X.mg X.base CX k f fd ps sp) (hr : Room k X.A) (hg : Gl X x) (hm : X.mg x = some (.ref f)) (hk : PySem.W.keepIn X.K (.ref f) = true) (hb : Binds X.K fd ps []) (hx : ∀ σ, PassesAt CX X σ (E σ))
    (ha : PA1 X (e :: es) t) (hdb : (x == ("__debug__" : Str)) = false := by decide) (he : starEach (e :: es) X.env = (false, eval e X.env) :: starEach es X.env := by rfl) (hpl : (backTo pos (starEach es X.env)).any (·.1) = false := by rfl) :
    PE1 X (.Call (.Name x p) (e :: es) [] pos) (tCallS sp E t) := by
  intro pins s σ H Q I h
  refine wpAny_Call_Name_kw (ld_glob I hg hm ?_ hdb)
  refine PySem.W.callWith_K (h₀ := X.base) I.ok.mod.kin hk (thn (ha pos pins s σ H _ I h) fun us s1 hh => ?_) he hpl
  obtain ⟨k1, vs, H1, I1, r, q⟩ := hh
  refine ⟨I1.kIn, ?_⟩
  exact wpAny_mono (PySem.wpAny_toks (run_fnS F hr hb (hx σ) I1 r q)) (fun v s2 z => ⟨Nat.le_trans k1 z.1, z.2⟩) fun _ _ z => z.2
theorem e1_int {i : Int} {j : Nat} : PE1 X (.Constant (.int i) j pos) (tG X.K Δ W (rDp X.K) (mC (.int i))) := pe1_mono pe1_int (tC_of fun _ => .int i)
theorem a1_head {n : Nat} (ha : PE1 X e (tG X.K Δ W (rDp X.K) ma)) (hr : PA X es (tG X.K Δ W (rDpsN X.K n) ml)) (hs : starEach (e :: es) X.env = (false, eval e X.env) :: starEach es X.env := by rfl) : PA1 X (e :: es) (tG X.K Δ W (rDpsN X.K (n + 1)) (consM ma ml)) := by
  refine pa1_mono (pa1_head ha hr hs) fun σ H Q h => ?_
  obtain ⟨F0, B, F, ρ, E, p⟩ := h
  refine seqG (r1 := rDp X.K) E p fun dx x F1 H1 g1 q1 E1 p1 => seqG (r1 := rDpsN X.K n) E1 p1 fun dy y F2 H2 g2 q2 E2 p2 => ?_
  exact p2 _ F2 H2 (.refl E2.eF) ⟨.cons (Dq.mn q1 g2.1) q2.1, congrArg (· + 1) q2.2⟩
theorem e1_call {x : Str} {k n : Nat} {g : List PyData → P PyData} (d : Def X.prog X.w X.K X.mg X.base x k n g) (hr : Room k X.A) (tk : Takes X W) (ha : PA1 X (e :: es) (tG X.K Δ W (rDpsN X.K n) ml)) (hg : Gl X x := by rfl)
    (hdb : (x == ("__debug__" : Str)) = false := by decide) (he : starEach (e :: es) X.env = (false, eval e X.env) :: starEach es X.env := by rfl) (hpl : (backTo pos (starEach es X.env)).any (·.1) = false := by rfl) :
    PE1 X (.Call (.Name x p) (e :: es) [] pos) (tG X.K Δ W (rDp X.K) (mF g ml)) := by
  obtain ⟨f, fd, ps, F, hm, hk, hb⟩ := d.ok
  refine pe1_mono (pe1_callS F hr hg hm hk hb (fun σ => passAt tk σ) ha hdb he hpl) fun σ H Q h => ?_
  obtain ⟨F0, B, F, ρ, E, p⟩ := h
  refine seqG (r1 := rDpsN X.K n) E p fun ds vs F1 H1 g1 q1 E1 p1 => ⟨F1, ds, E1.eF, q1.1, q1.2, ?_⟩
  cases e : g ds with
  | ok d => rw [e] at p1; exact p1
  | exc c => rw [e] at p1; exact p1
  | stuck => rw [e] at p1; exact p1
/-- _law_cell(script, 0) -/
theorem e1_cell {i : Nat} {x : Str} {j : Nat} {c : Int} {p3 : Pos} (d : DefC X.prog X.w X.K X.mg X.base) (hr : Room 1 X.A) (tk : Takes X W) (hc0 : 0 ≤ c := by decide) (hd : Δ i = .scr := by rfl) (hN : X.N[i]? = some x := by rfl) (hv : Vis X.env.scope x := by first | exact Or.inl rfl | exact Or.inr (Or.inl rfl) | exact Or.inr (Or.inr rfl))
    (h1 : (x == ("__debug__" : Str)) = false := by decide) (h2 : (x == ("__classdict__" : Str)) = false := by decide) (hg : Gl X "_law_cell" := by rfl) (hs1 : starEach [.Name x p2, .Constant (.int c) j p3] X.env = (false, eval (.Name x p2) X.env) :: starEach [.Constant (.int c) j p3] X.env := by rfl)
    (hs2 : starEach [.Constant (.int c) j p3] X.env = (false, eval (.Constant (.int c) j p3) X.env) :: starEach [] X.env := by rfl) (hpl : (backTo pos (starEach [.Constant (.int c) j p3] X.env)).any (·.1) = false := by rfl) :
    PE1 X (.Call (.Name "_law_cell" p) [.Name x p2, .Constant (.int c) j p3] [] pos) (tG X.K Δ W (rDp X.K) (Pc.m2 cellO (mVar i) (mC (.int c)))) := by
  obtain ⟨f, fd, ps, Fn, hm, hk, hb⟩ := d.ok
  refine pe1_mono (pe1_callS Fn hr hg hm hk hb (fun σ => passAt tk σ) (pa1_tail (pe_var hN hv h1 h2) (pa1_head pe1_int pa_nil hs2) hs1) (by decide) hs1 hpl) fun σ H Q h => ?_
  obtain ⟨F0, B, F, ρ, E, p⟩ := h
  replace p : PostG X.K W (rDp X.K) σ F H ((getS ρ i).bind fun x => (P.ok (PyData.int c)).bind fun y => .ofO (cellO x y)) Q := p
  unfold getS at p
  cases e : ρ[i]? with
  | none => rw [e] at p; exact p.elim
  | some o =>
    cases o with
    | none => rw [e] at p; exact p.elim
    | some d =>
      rw [e] at p
      obtain ⟨φ, g1, _⟩ := E.own
      obtain ⟨v, hv, ow⟩ := g1 i d e
      rw [hd] at ow
      obtain ⟨⟨a, vs, ds, rfl, rfl, hq, dq⟩, _⟩ := ow
      replace p : PostG X.K W (rDp X.K) σ F H (.ofO (if 0 ≤ c then some (ds.getD c.toNat (.int 0)) else none)) Q := p
      rw [if_pos hc0] at p
      refine ⟨_, hv, a, vs, c, rfl, hc0, Evl.ex_l E.eF hq, p _ F H (.refl E.eF) ?_⟩
      rw [List.getD_eq_getElem?_getD, List.getD_eq_getElem?_getD]
      cases z : vs[c.toNat]? with
      | none =>
        have : ds[c.toNat]? = none := by
          rw [List.getElem?_eq_none_iff] at z ⊢
          rw [← dq.len]; exact z
        rw [this]
        exact .int 0
      | some w =>
        obtain ⟨d', q1, q2⟩ := dq.get z
        rw [q1]
        exact q2
/-- the first statement, then the rest with a token out -/
theorem ss_T1 {i : Nat} {x : Str} (hK : C.K = X.K) (he : PE1 X e (tG C.K Δ C.W (rDp C.K) m)) (h2 : PSsT X rest (tS C Δ Δ' m2)) (hN : X.N.Nodup) (hd : Δ i = .dat := by rfl) (hi : X.N[i]? = some x := by rfl) (hx : Loc X.env.scope x := by first | exact Or.inl rfl | exact Or.inr rfl)
    (hs : swapsWith e (some (.Name x pos')) pos.line X.env = pure false := by rfl) (hf : X.fn x = true ∨ X.env.scope.names.lookup x = some .local := by first | exact .inl rfl | exact .inr rfl | assumption) : PSs X (.Assign [.Name x pos'] e pos :: rest) (tS C Δ Δ' (seqM (sSet i m) m2)) := by
  refine ⟨fun pins s σ H D I h => ?_⟩
  obtain ⟨F0, B, F, ρ, E, p⟩ := h
  have h0 : tG C.K Δ C.W (rDp C.K) m σ H (fun v H1 => tS C Δ Δ' m2 D (σ.set i (some v)) H1) := by
    refine ⟨F0, B, F, ρ, E.e, ?_⟩
    replace p : PostS C Δ' F0 B D (seqM (sSet i m) m2 ρ) := p
    unfold seqM sSet at p
    cases em : m ρ with
    | ok d =>
      rw [em] at p
      intro v F1 H1 g q
      exact ⟨F0, B, F1, _, ⟨(E.e.gw g).setDat hd q, E.sh, E.ok⟩, p⟩
    | exc c =>
      rw [em] at p
      intro F1 H1 g
      exact p Δ σ F1 H1 (E.gw g)
    | stuck => rw [em] at p; exact p.elim
  refine wpAny_execs_cons (wpAny_Assign_Name (thn (he pins s σ H _ I h0) fun v s1 hv => ?_) hs)
  obtain ⟨k, y, H1, I1, r1, q1⟩ := hv
  refine wpAny_mono (PySem.wpAny_toks (store_ok (Q := fun _ s2 => L2.Inv X pins (σ.set i (some y)) H1 s2) I1 hN hi hx r1 (fun s2 I2 => I2) hf)) (fun _ s2 z => ?_) fun _ _ z => z.2
  exact h2 pins s2 _ H1 D (Nat.le_trans k z.1) z.2 q1
/-! with a token out -/
theorem pet_mono {t t' : TE} (h : PET X e t) (i : ∀ σ H Q, t' σ H Q → t σ H Q) : PET X e t' := fun pins s σ H Q k I q => h pins s σ H Q k I (i σ H Q q)
theorem pat_mono {t t' : TA} (h : PAT X es t) (i : ∀ σ H Q, t' σ H Q → t σ H Q) : PAT X es t' := fun p pins s σ H Q k I q => h p pins s σ H Q k I (i σ H Q q)
theorem ssT_cons (h1 : PST X st (tS C Δ Δ1 m1)) (h2 : PSsT X rest (tS C Δ1 Δ' m2)) : PSsT X (st :: rest) (tS C Δ Δ' (seqM m1 m2)) := by
  intro pins s σ H D k I h
  refine psst_cons h1 h2 pins s σ H D k I ?_
  obtain ⟨F0, B, F, ρ, E, p⟩ := h
  refine ⟨F0, B, F, ρ, E, ?_⟩
  replace p : PostS C Δ' F0 B D (seqM m1 m2 ρ) := p
  unfold seqM at p
  cases e : m1 ρ with
  | nx ρ' => rw [e] at p; exact fun σ' F' H' E' => ⟨F0, B, F', ρ', E', p⟩
  | rt d ρ' => rw [e] at p; exact p
  | ct ρ' => rw [e] at p; exact p
  | ex c ρ' => rw [e] at p; exact p
  | stuck => rw [e] at p; exact p
theorem sT_set {i : Nat} {x : Str} (hK : C.K = X.K) (he : PET X e (tG C.K Δ C.W (rDp C.K) m)) (hN : X.N.Nodup) (hd : Δ i = .dat := by rfl) (hi : X.N[i]? = some x := by rfl) (hx : Loc X.env.scope x := by first | exact Or.inl rfl | exact Or.inr rfl)
    (hs : swapsWith e (some (.Name x pos')) pos.line X.env = pure false := by rfl) (hf : X.fn x = true ∨ X.env.scope.names.lookup x = some .local := by first | exact .inl rfl | exact .inr rfl | assumption) : PST X (.Assign [.Name x pos'] e pos) (tS C Δ Δ (sSet i m)) := by
  intro pins s σ H D k I h
  obtain ⟨F0, B, F, ρ, E, p⟩ := h
  have h0 : tG C.K Δ C.W (rDp C.K) m σ H (fun v H1 => D.nx (σ.set i (some v)) H1) := by
    refine ⟨F0, B, F, ρ, E.e, ?_⟩
    replace p : PostS C Δ F0 B D (sSet i m ρ) := p
    unfold sSet at p
    cases em : m ρ with
    | ok d =>
      rw [em] at p
      intro v F1 H1 g q
      exact p _ F1 H1 ⟨(E.e.gw g).setDat hd q, E.sh, E.ok⟩
    | exc c =>
      rw [em] at p
      intro F1 H1 g
      exact p Δ σ F1 H1 (E.gw g)
    | stuck => rw [em] at p; exact p.elim
  refine wpAny_Assign_Name (thn (he pins s σ H _ k I h0) fun v s1 hv => ?_) hs
  obtain ⟨y, H1, I1, r1, q1⟩ := hv
  exact store_ok I1 hN hi hx r1 (fun s2 I2 => ⟨_, H1, I2, q1⟩) hf
theorem eT_frz (h : PET X e (tG X.K Δ W (rNew X.K (.lst .dat)) m)) : PET X e (tG X.K Δ W (rDp X.K) m) := by
  refine pet_mono h fun σ H Q h => ?_
  obtain ⟨F0, B, F, ρ, E, p⟩ := h
  refine ⟨F0, B, F, ρ, E, ?_⟩
  cases e : m ρ with
  | ok d =>
    rw [e] at p
    intro v F' H' g q
    obtain ⟨F2, g2, dp⟩ := frz_lst g q
    exact p v F2 H' g2 dp
  | exc c => rw [e] at p; exact p
  | stuck => rw [e] at p; exact p
theorem eT_view (h : PET X e (tG X.K Δ W (rDp X.K) m)) : PET X e (tG X.K Δ W (rVw X.K) m) := pet_mono h (tG_weak fun _ _ _ _ _ q => Or.inl q)
theorem aT_nil : PAT X [] (tG X.K Δ W (rDpsN X.K 0) mNil) := by
  refine pat_mono pat_nil fun σ H Q h => ?_
  obtain ⟨F0, B, F, ρ, E, p⟩ := h
  exact p [] F H (.refl E.eF) ⟨.nil, rfl⟩
theorem aT_cons {n : Nat} (ha : PET X e (tG X.K Δ W (rDp X.K) ma)) (hr : PAT X es (tG X.K Δ W (rDpsN X.K n) ml)) (hs : starEach (e :: es) X.env = (false, eval e X.env) :: starEach es X.env := by rfl) : PAT X (e :: es) (tG X.K Δ W (rDpsN X.K (n + 1)) (consM ma ml)) := by
  refine pat_mono (pat_cons ha hr hs) fun σ H Q h => ?_
  obtain ⟨F0, B, F, ρ, E, p⟩ := h
  refine seqG (r1 := rDp X.K) E p fun dx x F1 H1 g1 q1 E1 p1 => seqG (r1 := rDpsN X.K n) E1 p1 fun dy y F2 H2 g2 q2 E2 p2 => ?_
  exact p2 _ F2 H2 (.refl E2.eF) ⟨.cons (Dq.mn q1 g2.1) q2.1, congrArg (· + 1) q2.2⟩
theorem gT_lst {n : Nat} (h : PAT X es (tG X.K Δ W (rDpsN X.K n) ml)) (hn : n ≤ sizeLine := by decide) : PET X (.List es pos) (tG X.K Δ W (rNew X.K (.lst .dat)) (mLst ml)) := by
  refine pet_mono (pet_lst h) fun σ H Q h => ?_
  obtain ⟨F0, B, F, ρ, E, p⟩ := h
  refine seqG (r1 := rDpsN X.K n) E p fun dx x F1 H1 g1 q1 E1 p1 => ⟨by rw [q1.2]; exact hn, fun q hq => ?_⟩
  exact p1 _ _ _ (.own E1.eF hq) (new_lst E1.eF hq q1.1)
theorem gT_bin {op : Operator} {f : PyData → PyData → Option PyData} (ho : OpR X (binaryOp op) (r2 X.K r f)) (ha : PET X a (tG X.K Δ W (rVw X.K) ma)) (hb : PET X b (tG X.K Δ W (rVw X.K) mb)) : PET X (.BinOp a op b pos) (tG X.K Δ W r (Pc.m2 f ma mb)) := pet_mono (CwR.pet_op ho ha hb) two_of
/-- o.replace(y, z), written texts -/
def replO (y z : Str) : PyData → Option PyData
  | .str x => if x.length + (x.length + 1) * z.length ≤ 16777216 then some (.str (Txt.replace x y z)) else none
  | _ => none
theorem gT_repl {y z : Str} {j k : Nat} {c0 c1 : Pos} (ho : PE X o (tG X.K Δ W (rVw X.K) m)) (hyz : (y == z) = false := by decide)
    (hst : starEach [.Constant (.str y) j c0, .Constant (.str z) k c1] X.env = [(false, eval (.Constant (.str y) j c0) X.env), (false, eval (.Constant (.str z) k c1) X.env)] := by rfl)
    (hbase : attributeBase o "replace" X.env (eval o X.env) = eval o X.env := by rfl) (hline : (apos.endLine == pos.line) = true := by rfl) :
    PET X (.Call (.Attribute o "replace" apos) [.Constant (.str y) j c0, .Constant (.str z) k c1] [] pos) (tG X.K Δ W (rDp X.K) (Pc.m1 (replO y z) m)) := by
  refine pet_mono (CwR.pet_replC ho hyz hst hbase hline) fun σ H Q h => ?_
  obtain ⟨F0, B, F, ρ, E, p⟩ := h
  refine seqG (r1 := rVw X.K) E p fun dx x F1 H1 g1 q1 E1 p1 => ?_
  cases dx with
  | str w =>
    replace p1 : PostG X.K W (rDp X.K) σ F1 H1 (.ofO (if w.length + (w.length + 1) * z.length ≤ 16777216 then some (PyData.str (Txt.replace w y z)) else none)) Q := p1
    by_cases hb : w.length + (w.length + 1) * z.length ≤ 16777216
    · rw [if_pos hb] at p1
      exact ⟨w, Vw.str q1, hb, p1 _ F1 H1 (.refl E1.eF) (.str _)⟩
    · rw [if_neg hb] at p1; exact p1.elim
  | _ => exact p1.elim
end
end Pc

set_option maxRecDepth 100000
set_option maxHeartbeats 1000000
namespace Pc
open PySem PySem.Spec PyProof.Rows L2
open PySem.Builtin PySem.Builtin.Str
open Evl (Ex)
/-! ### o.replace(y, z, n), written texts, n written -/
def replN (x y z : Str) (n : Nat) : Str :=
  if ((occurrences x y 0 x.length n).isEmpty || (y.length == 0 && z.length == 0)) = true then x
  else glued z (partsBetween x (occurrences x y 0 x.length n) y.length)
theorem give_replN (x y z : Str) (t u v w : Tok) (n : Nat) (hn : n < 1000) (h0 : (u == 0 || v == 0) = false) (huv : (u == v) = false) (hyz : (y == z) = false) (hl : tooLong (x.length + (occurrences x y 0 x.length n).length * z.length) = false) :
    Gives («str.replace» ⟨[.str x t, .str y u, .str z v, .int (n : Int) w], []⟩) (if ((occurrences x y 0 x.length n).isEmpty || (y.length == 0 && z.length == 0)) = true then .val (.str x t) else .str (glued z (partsBetween x (occurrences x y 0 x.length n) y.length))) := by
  have ha : countLimit "str.replace" (some (.int (n : Int) w)) (x.length + 1) = pure (if (n : Int) < 0 then x.length + 1 else (n : Int).toNat) := countLimit_int _ _ _ _ (by
    have h1 : decide ((n : Int) < -(2 ^ 63 : Int)) = false := decide_eq_false (by omega)
    have h2 : decide ((n : Int) ≥ 2 ^ 63) = false := decide_eq_false (by omega)
    rw [h1, h2]; rfl)
  show Gives (do let limit ← countLimit "str.replace" (some (.int (n : Int) w)) (x.length + 1)
                 (if ((occurrences x y 0 x.length limit).isEmpty || (y.length == 0 && z.length == 0)) = true then (do rule "str.replace.nothing"; ret (.str x t)) else
                  (do let same ← isSame (.str y u) (.str z v)
                      if same = true then (do rule "str.replace.old-is-new"; ret (.str x t)) else
                      if tooLong (x.length + (occurrences x y 0 x.length limit).length * z.length) = true then unsupported "str.replace:memory" else
                      retStr (glued z (partsBetween x (occurrences x y 0 x.length limit) y.length))) : Sem Fin)) _
  rw [ha]
  show Gives (if ((occurrences x y 0 x.length (if (n : Int) < 0 then x.length + 1 else (n : Int).toNat)).isEmpty || (y.length == 0 && z.length == 0)) = true then (do rule "str.replace.nothing"; ret (.str x t)) else
                  (do let same ← isSame (.str y u) (.str z v)
                      if same = true then (do rule "str.replace.old-is-new"; ret (.str x t)) else
                      if tooLong (x.length + (occurrences x y 0 x.length (if (n : Int) < 0 then x.length + 1 else (n : Int).toNat)).length * z.length) = true then unsupported "str.replace:memory" else
                      retStr (glued z (partsBetween x (occurrences x y 0 x.length (if (n : Int) < 0 then x.length + 1 else (n : Int).toNat)) y.length))) : Sem Fin) _
  rw [if_neg (show ¬ (n : Int) < 0 by omega), Int.toNat_natCast]
  cases hc : ((occurrences x y 0 x.length n).isEmpty || (y.length == 0 && z.length == 0))
  · rw [isSame_str_other y z u v h0 huv hyz, hl]
    exact .of_eq rfl
  · exact .rule (.of_eq rfl)
theorem fits_replN {x z : Str} (y : Str) (n : Nat) (hb : x.length + n * z.length ≤ 16777216) : (glued z (partsBetween x (occurrences x y 0 x.length n) y.length)).length ≤ sizeLine := by
  have h1 := StrLaws.occ_length_le x y 0 x.length n
  have hy : (glued y (partsBetween x (occurrences x y 0 x.length n) y.length)).length = x.length := by rw [StrLaws.glued_between_self]
  rw [size_glued, length_partsBetween, Nat.add_sub_cancel] at hy
  rw [size_glued, length_partsBetween, Nat.add_sub_cancel, sizeLine_eq]
  have h2 : (occurrences x y 0 x.length n).length * z.length ≤ n * z.length := Nat.mul_le_mul_right _ h1
  omega
theorem call_replN {prog : Program} {wd : World} {A : Around} {E : Value → Shared → Prop} {s : Shared} {x y z : Str} {t u v w : Tok} {n : Nat} {Q : Value → Shared → Prop} (hn : n < 1000) (hu : u ≠ 0) (hv : v ≠ 0) (huv : u ≠ v) (hyz : (y == z) = false) (hb : x.length + n * z.length ≤ 16777216)
    (hq : ∀ t' k, Q (.str (replN x y z n) t') { s with toks := k }) : wpAny (model prog wd) A (call (.builtin "str.replace") [.str x t, .str y u, .str z v, .int (n : Int) w]) Q E s := by
  have e : (2 : Nat) ^ 24 = 16777216 := by decide
  have hl : tooLong (x.length + (occurrences x y 0 x.length n).length * z.length) = false := by
    have h1 := StrLaws.occ_length_le x y 0 x.length n
    have h2 : (occurrences x y 0 x.length n).length * z.length ≤ n * z.length := Nat.mul_le_mul_right _ h1
    unfold tooLong sizeLine
    exact decide_eq_false (by omega)
  refine call_gives F.slot_str_replace (typeIs_str _ _ _) F.entry_str_replace (F.args_str_replace_4 _ _ _ _) (give_replN x y z t u v w n hn (by simp [hu, hv]) (by simp [huv]) hyz hl) ?_
  have hq' := hq
  unfold replN at hq'
  cases hc : ((occurrences x y 0 x.length n).isEmpty || (y.length == 0 && z.length == 0))
  · rw [hc] at hq'
    simp only [Bool.false_eq_true, if_false] at hq' ⊢
    exact ⟨fits_replN y n hb, hq' _ _⟩
  · rw [hc] at hq'
    simp only [if_true] at hq' ⊢
    exact hq' t s.toks
theorem call_meth3 {prog : Program} {w : World} {A : Around} {E : Value → Shared → Prop} {s : Shared} {env : Env} {o a b c : Expr} {name : Str} {apos pos : Pos} {Q : Value → Shared → Prop}
    (hbase : attributeBase o name env (eval o env) = eval o env) (hs : starEach [a, b, c] env = [(false, eval a env), (false, eval b env), (false, eval c env)]) (hline : (apos.endLine == pos.line) = true)
    (h : wpAny (model prog w) A (eval o env) (fun ov s1 => MethodOnS prog w A E name ov pos [(false, eval a env), (false, eval b env), (false, eval c env)] Q s1) E s) :
    wpAny (model prog w) A (eval (.Call (.Attribute o name apos) [a, b, c] [] pos) env) Q E s := by
  refine wpAny_Call_method_lateS hbase (by rw [hs]; rfl) hline ?_
  rw [hs]; exact h
section
variable {X : Cx} {Δ : Nat → Sh} {W : WX} {o : Expr} {m : En → P PyData} {to : TE} {pos apos : Pos} {y z : Str} {j k l : Nat} {c0 c1 c2 : Pos} {n : Nat}
def tReplN (to : TE) (y z : Str) (n : Nat) : TE := fun σ H Q => to σ H fun v H1 => ∃ x, v = .str x ∧ x.length + n * z.length ≤ 16777216 ∧ Q (.str (replN x y z n)) H1
theorem pet_replN (ho : PE X o to) (hn : n < 1000) (hyz : (y == z) = false)
    (hst : starEach [.Constant (.str y) j c0, .Constant (.str z) k c1, .Constant (.int (n : Int)) l c2] X.env = [(false, eval (.Constant (.str y) j c0) X.env), (false, eval (.Constant (.str z) k c1) X.env), (false, eval (.Constant (.int (n : Int)) l c2) X.env)])
    (hbase : attributeBase o "replace" X.env (eval o X.env) = eval o X.env) (hline : (apos.endLine == pos.line) = true) :
    PET X (.Call (.Attribute o "replace" apos) [.Constant (.str y) j c0, .Constant (.str z) k c1, .Constant (.int (n : Int)) l c2] [] pos) (tReplN to y z n) := by
  intro pins s σ H Q h0 I h
  refine call_meth3 hbase hst hline (wpAny_mono (PySem.wpAny_toks (ho.run pins s σ H _ I h)) (fun v s1 q => ?_) fun _ _ z => z.2)
  obtain ⟨hk, v', H1, I1, r1, x, e1, hb, q⟩ := q
  subst e1
  obtain ⟨tx, e2⟩ := r1
  subst e2
  refine ⟨"str", _, PySem.F.plainAttrs_str, PySem.F.slot_str_replace, PySem.F.type_str_replace, typeIs_str _ _ _, (fun _ e => nomatch e), Calls.callWith_builtin rfl (Calls.evalArgs_plain (Calls.spliced_cons ?_))⟩
  refine Calls.Constant_str (Calls.spliced_cons (Calls.Constant_str (Calls.spliced_cons (wpAny_Constant_int (Calls.spliced_nil ?_)))))
  exact call_replN hn (by show s1.toks ≠ 0; omega) (by show s1.toks + 1 ≠ 0; omega) (by show s1.toks ≠ s1.toks + 1; omega) hyz hb fun t' k => ⟨.str (replN x y z n), H1, I1.tok k, ⟨t', rfl⟩, q⟩
def replNO (y z : Str) (n : Nat) : PyData → Option PyData
  | .str x => if x.length + n * z.length ≤ 16777216 then some (.str (replN x y z n)) else none
  | _ => none
theorem gT_replN (ho : PE X o (tG X.K Δ W (rVw X.K) m)) (hn : n < 1000 := by decide) (hyz : (y == z) = false := by decide)
    (hst : starEach [.Constant (.str y) j c0, .Constant (.str z) k c1, .Constant (.int (n : Int)) l c2] X.env = [(false, eval (.Constant (.str y) j c0) X.env), (false, eval (.Constant (.str z) k c1) X.env), (false, eval (.Constant (.int (n : Int)) l c2) X.env)] := by rfl)
    (hbase : attributeBase o "replace" X.env (eval o X.env) = eval o X.env := by rfl) (hline : (apos.endLine == pos.line) = true := by rfl) :
    PET X (.Call (.Attribute o "replace" apos) [.Constant (.str y) j c0, .Constant (.str z) k c1, .Constant (.int (n : Int)) l c2] [] pos) (tG X.K Δ W (rDp X.K) (Pc.m1 (replNO y z n) m)) := by
  refine pet_mono (pet_replN ho hn hyz hst hbase hline) fun σ H Q h => ?_
  obtain ⟨F0, B, F, ρ, E, p⟩ := h
  refine seqG (r1 := rVw X.K) E p fun dx x F1 H1 g1 q1 E1 p1 => ?_
  cases dx with
  | str w =>
    replace p1 : PostG X.K W (rDp X.K) σ F1 H1 (.ofO (if w.length + n * z.length ≤ 16777216 then some (PyData.str (replN w y z n)) else none)) Q := p1
    by_cases hb : w.length + n * z.length ≤ 16777216
    · rw [if_pos hb] at p1
      exact ⟨w, Vw.str q1, hb, p1 _ F1 H1 (.refl E1.eF) (.str _)⟩
    · rw [if_neg hb] at p1; exact p1.elim
  | _ => exact p1.elim
end
end Pc

set_option maxRecDepth 100000
namespace Gn
open PySem PySem.Spec PyProof.Rows L2 Pc
def xNames : List Str := ["NoSetting", "NoKey", "IsHeld", "NotHeld", "NoDeeds", "NoCount", "NoText"]
def b__law_called : En → Fl := (seqM (ifS (tCmp ltO (mVar 0) (mC (.int 3))) (seqM (ifS (tCmp eqO (mVar 0) (mC (.int 0))) (sRet mStuck) sNx) (sRet (ifD (tCmp eqO (mVar 0) (mC (.int 1))) mStuck mStuck))) sNx) (seqM (ifS (tCmp eqO (mVar 0) (mC (.int 3))) (sRet mStuck) sNx) (sRet (ifD (tCmp eqO (mVar 0) (mC (.int 4))) mStuck mStuck))))
def m__law_called : List D → P D := runF 2 b__law_called
def b_is_one : En → Fl := (sRet (andV (mIsi "str" (mVar 0)) (mCmp inO (mVar 0) (mVar 1))))
def m_is_one : List D → P D := runF 2 b_is_one
def b_is_within : En → Fl := (sRet (andV (mIsi "int" (mVar 0)) (andV (mNot (mIsi "bool" (mVar 0))) (asBool (chainB leO leO (mVar 1) (mVar 0) (mVar 2))))))
def m_is_within : List D → P D := runF 3 b_is_within
def b_is_setting : En → Fl := (seqM (ifS (orB (tNot (tTru (mIsi "tuple" (mVar 0)))) (orB (tCmp neO (mB lenO (consM (mVar 0) mNil)) (mC (.int 7))) (tNot (tTru (mF m_is_one (consM (m2 ixO (mVar 0) (mC (.int 0))) (consM (mC (.tuple ((["up", "down", "both", "bounce", "in", "thumb", "played"] : List Str).map .str))) mNil))))))) (sRet (mC (.bool false))) sNx) (seqM (ifS (orB (tNot (tTru (mF m_is_within (consM (m2 ixO (mVar 0) (mC (.int 1))) (consM (mC (.int 1)) (consM (mC (.int 3)) mNil)))))) (orB (tNot (tTru (mF m_is_within (consM (m2 ixO (mVar 0) (mC (.int 2))) (consM (mC (.int 1)) (consM (mC (.int 8)) mNil)))))) (tNot (tTru (mF m_is_within (consM (m2 ixO (mVar 0) (mC (.int 3))) (consM (mC (.int 1)) (consM (mC (.int 16)) mNil)))))))) (sRet (mC (.bool false))) sNx) (sRet (andV (mIsi "bool" (m2 ixO (mVar 0) (mC (.int 4)))) (andV (mF m_is_one (consM (m2 ixO (mVar 0) (mC (.int 5))) (consM (mTup (consM (mC (.str "now")) (consM (mC (.str "grid")) mNil))) mNil))) (mIsi "bool" (m2 ixO (mVar 0) (mC (.int 6)))))))))
def m_is_setting : List D → P D := runF 1 b_is_setting
def b_number_of : En → Fl := (seqM (ifS (orB (tNot (chainB leO leO (mC (.int 1)) (mB lenO (consM (mVar 0) mNil)) (mC (.int 3)))) (orB (tTru (lcM (iS (mVar 0)) [1] (bN 1) (tCmp notInO (mVar 1) (mC (.str "0123456789"))) (mVar 1))) (tCmp neO (mB strO (consM (mB intO (consM (mVar 0) mNil)) mNil)) (mVar 0)))) (sEx "NoText") sNx) (sRet (mB intO (consM (mVar 0) mNil))))
def m_number_of : List D → P D := runF 2 b_number_of
def b_read_setting : En → Fl := (seqM (ifS (tNot (tTru (mIsi "str" (mVar 0)))) (sEx "NoText") sNx) (seqM (sSet 1 (mS1 splitF (mVar 0) (mC (.str " ")))) (seqM (ifS (orB (tCmp ltO (mB lenO (consM (mVar 1) mNil)) (mC (.int 5))) (tCmp notInO (mCut cutO (mVar 1) (oSome (mC (.int 5))) oNone) (mTup (consM (mLst mNil) (consM (mLst (consM (mC (.str "hold")) mNil)) (consM (mLst (consM (mC (.str "wait")) mNil)) (consM (mLst (consM (mC (.str "hold")) (consM (mC (.str "wait")) mNil))) mNil))))))) (sEx "NoText") sNx) (seqM (sSet 2 (lcC (iL (mCut cutO (mVar 1) (oSome (mC (.int 1))) (oSome (mC (.int 4))))) [3] (bN 3) (mF m_number_of (consM (mVar 3) mNil)))) (seqM (sSet 4 (mTup (consM (m2 ixO (mVar 1) (mC (.int 0))) (consM (m2 ixO (mVar 2) (mC (.int 0))) (consM (m2 ixO (mVar 2) (mC (.int 1))) (consM (m2 ixO (mVar 2) (mC (.int 2))) (consM (mCmp inO (mC (.str "hold")) (mCut cutO (mVar 1) (oSome (mC (.int 5))) oNone)) (consM (m2 ixO (mVar 1) (mC (.int 4))) (consM (mCmp inO (mC (.str "wait")) (mCut cutO (mVar 1) (oSome (mC (.int 5))) oNone)) mNil))))))))) (seqM (ifS (tNot (tTru (mF m_is_setting (consM (mVar 4) mNil)))) (sEx "NoText") sNx) (sRet (mVar 4))))))))
def m_read_setting : List D → P D := runF 5 b_read_setting
def b_look : En → Fl := (ifS (tNot (tTru (mF m_is_setting (consM (mVar 0) mNil)))) (sEx "NoSetting") sNx)
def m_look : List D → P D := runF 1 b_look
def b_setting_text : En → Fl := (seqM (sExpr (mF m_look (consM (mVar 0) mNil))) (seqM (sAsg (bT 7 (bCons (bN 1) (bCons (bN 2) (bCons (bN 3) (bCons (bN 4) (bCons (bN 5) (bCons (bN 6) (bCons (bN 7) bNil)))))))) (mVar 0)) (seqM (sSet 8 (mLst (consM (mVar 1) (consM (mB strO (consM (mVar 2) mNil)) (consM (mB strO (consM (mVar 3) mNil)) (consM (mB strO (consM (mVar 4) mNil)) (consM (mVar 6) mNil))))))) (sRet (mS1 joinF (mC (.str " ")) (m2 addO (m2 addO (mVar 8) (m2 repO (mLst (consM (mC (.str "hold")) mNil)) (mB intO (consM (mVar 5) mNil)))) (m2 repO (mLst (consM (mC (.str "wait")) mNil)) (mB intO (consM (mVar 7) mNil)))))))))
def m_setting_text : List D → P D := runF 9 b_setting_text
def b__law_called_then : En → Fl := (seqM (ifS (tCmp ltO (mVar 0) (mC (.int 10))) (seqM (ifS (tCmp ltO (mVar 0) (mC (.int 8))) (sRet (ifD (tCmp eqO (mVar 0) (mC (.int 6))) mStuck mStuck)) sNx) (sRet (ifD (tCmp eqO (mVar 0) (mC (.int 8))) mStuck mStuck))) sNx) (seqM (ifS (tCmp ltO (mVar 0) (mC (.int 13))) (seqM (ifS (tCmp eqO (mVar 0) (mC (.int 10))) (sRet mStuck) sNx) (sRet (ifD (tCmp eqO (mVar 0) (mC (.int 11))) mStuck mStuck))) sNx) (sRet (ifD (tCmp eqO (mVar 0) (mC (.int 13))) (mF m_setting_text (consM (m2 ixO (mVar 1) (mC (.int 0))) mNil)) (mF m_read_setting (consM (m2 ixO (mVar 1) (mC (.int 0))) mNil))))))
def m__law_called_then : List D → P D := runF 2 b__law_called_then
def b__law_caught : En → Fl := (seqM (sSet 2 (mC (.str ""))) (seqM (tryM xNames (ifS (tCmp ltO (mVar 0) (mC (.int 6))) (sExpr (mF m__law_called (consM (mVar 0) (consM (mVar 1) mNil)))) (sExpr (mF m__law_called_then (consM (mVar 0) (consM (mVar 1) mNil))))) (("NoSetting", (sSet 2 (mC (.str "setting")))) :: ("NoDeeds", (sSet 2 (mC (.str "deeds")))) :: ("NoCount", (sSet 2 (mC (.str "count")))) :: ("NoText", (sSet 2 (mC (.str "text")))) :: [])) (sRet (mVar 2))))
def m__law_caught : List D → P D := runF 3 b__law_caught
def b__law_seed : En → Fl := (sRet (m2 modO (m2 powO (m2 modO (m2 addO (m2 addO (m2 mulO (mVar 0) (mC (.int 1103515245))) (m2 mulO (mC (.int 7919)) (mVar 1))) (mC (.int 12345))) (mC (.int 2147483647))) (mC (.int 5))) (mC (.int 2147483647))))
def m__law_seed : List D → P D := runF 2 b__law_seed
def b__law_pick : En → Fl := (sRet (m2 modO (m2 fdivO (mVar 0) (mC (.int 97))) (mVar 1)))
def m__law_pick : List D → P D := runF 2 b__law_pick
def b__law_setting : En → Fl := (seqM (sSet 1 (m2 ixO (mLst (consM (mC (.str "up")) (consM (mC (.str "down")) (consM (mC (.str "both")) (consM (mC (.str "bounce")) (consM (mC (.str "in")) (consM (mC (.str "thumb")) (consM (mC (.str "played")) mNil)))))))) (mF m__law_pick (consM (mF m__law_seed (consM (mVar 0) (consM (mC (.int 1)) mNil))) (consM (mC (.int 7)) mNil))))) (seqM (sSet 2 (m2 ixO (mLst (consM (mC (.str "now")) (consM (mC (.str "grid")) mNil))) (mF m__law_pick (consM (mF m__law_seed (consM (mVar 0) (consM (mC (.int 5)) mNil))) (consM (mC (.int 2)) mNil))))) (seqM (sPar 3 4 (consM (m2 addO (mC (.int 1)) (mF m__law_pick (consM (mF m__law_seed (consM (mVar 0) (consM (mC (.int 2)) mNil))) (consM (m2 ixO (mLst (consM (mC (.int 8)) (consM (mC (.int 3)) mNil))) (m2 modO (m2 fdivO (mVar 0) (mC (.int 5))) (mC (.int 2)))) mNil)))) (consM (m2 addO (mC (.int 1)) (mF m__law_pick (consM (mF m__law_seed (consM (mVar 0) (consM (mC (.int 3)) mNil))) (consM (mC (.int 16)) mNil)))) mNil))) (seqM (sPar 5 6 (consM (mCmp eqO (mF m__law_pick (consM (mF m__law_seed (consM (mVar 0) (consM (mC (.int 4)) mNil))) (consM (mC (.int 3)) mNil))) (mC (.int 0))) (consM (mCmp eqO (mF m__law_pick (consM (mF m__law_seed (consM (mVar 0) (consM (mC (.int 6)) mNil))) (consM (mC (.int 3)) mNil))) (mC (.int 0))) mNil))) (sRet (mTup (consM (mVar 1) (consM (m2 addO (mC (.int 1)) (m2 modO (m2 fdivO (mVar 0) (mC (.int 7))) (mC (.int 3)))) (consM (mVar 3) (consM (mVar 4) (consM (mVar 5) (consM (mVar 2) (consM (mVar 6) mNil)))))))))))))
def m__law_setting : List D → P D := runF 7 b__law_setting
def b__law_setting_text : En → Fl := (seqM (sSet 1 (mS1 joinF (mC (.str " ")) (mLst (consM (m2 ixO (mVar 0) (mC (.int 0))) (consM (mB strO (consM (m2 ixO (mVar 0) (mC (.int 1))) mNil)) (consM (mB strO (consM (m2 ixO (mVar 0) (mC (.int 2))) mNil)) (consM (mB strO (consM (m2 ixO (mVar 0) (mC (.int 3))) mNil)) (consM (m2 ixO (mVar 0) (mC (.int 5))) mNil)))))))) (sRet (m2 addO (m2 addO (mVar 1) (m2 srepO (mC (.str " hold")) (mB intO (consM (m2 ixO (mVar 0) (mC (.int 4))) mNil)))) (m2 srepO (mC (.str " wait")) (mB intO (consM (m2 ixO (mVar 0) (mC (.int 6))) mNil))))))
def m__law_setting_text : List D → P D := runF 2 b__law_setting_text
def b_law : En → Fl := (seqM (sSet 1 (mF m__law_setting (consM (mF m__law_seed (consM (m2 cellO (mVar 0) (mC (.int 0))) (consM (mC (.int 0)) mNil))) mNil))) (seqM (sSet 2 (mF m__law_setting_text (consM (mVar 1) mNil))) (seqM (ifS (orB (tCmp neO (mF m_setting_text (consM (mVar 1) mNil)) (mVar 2)) (orB (tCmp neO (mF m__law_caught (consM (mC (.int 14)) (consM (mLst (consM (mVar 2) mNil)) mNil))) (mC (.str ""))) (tCmp neO (mF m_read_setting (consM (mVar 2) mNil)) (mVar 1)))) (sRet (mC (.bool false))) sNx) (seqM (sSet 3 (mLst (consM (m2 addO (mVar 2) (mC (.str " "))) (consM (m2 addO (mC (.str " ")) (mVar 2)) (consM (m2 addO (mVar 2) (mC (.str " wait"))) (consM (mS0 upperF (mVar 2)) (consM (m1 (replNO " " "  " 1) (mVar 2)) (consM (m2 addO (mVar 2) (mC (.str "x"))) mNil)))))))) (seqM (sSet 3 (m2 addO (mVar 3) (mLst (consM (m1 (replNO " " " 0" 1) (mVar 2)) (consM (mC .none) (consM (mS1 splitF (mVar 2) (mC (.str " "))) (consM (mC (.str "")) (consM (mCut cutO (mVar 2) (oSome (mC (.int 1))) oNone) (consM (mC (.str "in 4 1 1 now")) (consM (mC (.str "in 1 9 1 now")) mNil)))))))))) (seqM (sSet 4 (m2 modO (m2 cellO (mVar 0) (mC (.int 1))) (mC (.int 13)))) (seqM (ifS (andB (tCmp eqO (mVar 4) (mC (.int 2))) (tNot (tTru (m2 ixO (mVar 1) (mC (.int 6)))))) (sRet (mCmp eqO (mF m_read_setting (consM (m2 addO (mVar 2) (mC (.str " wait"))) mNil)) (m2 addO (mCut cutO (mVar 1) oNone (oSome (mC (.int 6)))) (mTup (consM (mC (.bool true)) mNil))))) sNx) (seqM (ifS (tCmp neO (mF m__law_caught (consM (mC (.int 14)) (consM (mLst (consM (m2 ixO (mVar 3) (mVar 4)) mNil)) mNil))) (mC (.str "text"))) (sRet (mC (.bool false))) sNx) (seqM (sSet 5 (mF m__law_setting (consM (mF m__law_seed (consM (m2 cellO (mVar 0) (mC (.int 2))) (consM (mC (.int 0)) mNil))) mNil))) (sRet (mCmp eqO (mCmp eqO (mF m_setting_text (consM (mVar 5) mNil)) (mVar 2)) (mCmp eqO (mVar 5) (mVar 1)))))))))))))
def m_law : List D → P D := runF 6 b_law

end Gn

set_option maxRecDepth 100000
set_option maxHeartbeats 4000000
namespace Gn
open PySem PySem.Spec PyProof.Rows L2 Pc
def top (i : Nat) : Stmt := PySem.Challenge.pw_heldturns_k24_settings_written.main.body.getD i (.Pass ⟨0, 0, 0, 0⟩)
abbrev s_cell : Stmt := top 61
theorem sc_cell : FnScope ["script", "k"] ["script", "k"] (defScope s_cell) := ⟨rfl, rfl, rfl, by decide +kernel, rfl, by decide +kernel, by decide +kernel⟩
abbrev s__law_called : Stmt := top 66
abbrev N__law_called : List Str := ["which", "a"]
theorem sc__law_called : FnScope N__law_called ["which", "a"] (defScope s__law_called) := ⟨rfl, rfl, rfl, by decide +kernel, rfl, by decide +kernel, by decide +kernel⟩
abbrev s_is_one : Stmt := top 15
abbrev N_is_one : List Str := ["thing", "words"]
theorem sc_is_one : FnScope N_is_one ["thing", "words"] (defScope s_is_one) := ⟨rfl, rfl, rfl, by decide +kernel, rfl, by decide +kernel, by decide +kernel⟩
abbrev s_is_within : Stmt := top 14
abbrev N_is_within : List Str := ["thing", "low", "high"]
theorem sc_is_within : FnScope N_is_within ["thing", "low", "high"] (defScope s_is_within) := ⟨rfl, rfl, rfl, by decide +kernel, rfl, by decide +kernel, by decide +kernel⟩
abbrev s_is_setting : Stmt := top 16
abbrev N_is_setting : List Str := ["thing"]
theorem sc_is_setting : FnScope N_is_setting ["thing"] (defScope s_is_setting) := ⟨rfl, rfl, rfl, by decide +kernel, rfl, by decide +kernel, by decide +kernel⟩
abbrev s_number_of : Stmt := top 35
abbrev N_number_of : List Str := ["word", "sign"]
theorem sc_number_of : FnScope N_number_of ["word"] (defScope s_number_of) := ⟨rfl, rfl, rfl, by decide +kernel, rfl, by decide +kernel, by decide +kernel⟩
abbrev s_read_setting : Stmt := top 38
abbrev N_read_setting : List Str := ["text", "words", "numbers", "word", "found"]
theorem sc_read_setting : FnScope N_read_setting ["text"] (defScope s_read_setting) := ⟨rfl, rfl, rfl, by decide +kernel, rfl, by decide +kernel, by decide +kernel⟩
abbrev s_look : Stmt := top 17
abbrev N_look : List Str := ["setting"]
theorem sc_look : FnScope N_look ["setting"] (defScope s_look) := ⟨rfl, rfl, rfl, by decide +kernel, rfl, by decide +kernel, by decide +kernel⟩
abbrev s_setting_text : Stmt := top 37
abbrev N_setting_text : List Str := ["setting", "order", "spans", "step", "gate", "hold", "start", "wait", "words"]
theorem sc_setting_text : FnScope N_setting_text ["setting"] (defScope s_setting_text) := ⟨rfl, rfl, rfl, by decide +kernel, rfl, by decide +kernel, by decide +kernel⟩
abbrev s__law_called_then : Stmt := top 67
abbrev N__law_called_then : List Str := ["which", "a"]
theorem sc__law_called_then : FnScope N__law_called_then ["which", "a"] (defScope s__law_called_then) := ⟨rfl, rfl, rfl, by decide +kernel, rfl, by decide +kernel, by decide +kernel⟩
abbrev s__law_caught : Stmt := top 68
abbrev N__law_caught : List Str := ["which", "a", "caught"]
theorem sc__law_caught : FnScope N__law_caught ["which", "a"] (defScope s__law_caught) := ⟨rfl, rfl, rfl, by decide +kernel, rfl, by decide +kernel, by decide +kernel⟩
abbrev s__law_seed : Stmt := top 62
abbrev N__law_seed : List Str := ["seed", "k"]
theorem sc__law_seed : FnScope N__law_seed ["seed", "k"] (defScope s__law_seed) := ⟨rfl, rfl, rfl, by decide +kernel, rfl, by decide +kernel, by decide +kernel⟩
abbrev s__law_pick : Stmt := top 63
abbrev N__law_pick : List Str := ["seed", "many"]
theorem sc__law_pick : FnScope N__law_pick ["seed", "many"] (defScope s__law_pick) := ⟨rfl, rfl, rfl, by decide +kernel, rfl, by decide +kernel, by decide +kernel⟩
abbrev s__law_setting : Stmt := top 64
abbrev N__law_setting : List Str := ["seed", "order", "start", "step", "gate", "hold", "wait"]
theorem sc__law_setting : FnScope N__law_setting ["seed"] (defScope s__law_setting) := ⟨rfl, rfl, rfl, by decide +kernel, rfl, by decide +kernel, by decide +kernel⟩
abbrev s__law_setting_text : Stmt := top 65
abbrev N__law_setting_text : List Str := ["setting", "text"]
theorem sc__law_setting_text : FnScope N__law_setting_text ["setting"] (defScope s__law_setting_text) := ⟨rfl, rfl, rfl, by decide +kernel, rfl, by decide +kernel, by decide +kernel⟩
abbrev s_law : Stmt := top 69
abbrev N_law : List Str := ["script", "setting", "text", "spoils", "at", "other"]
theorem sc_law : FnScope N_law ["script"] (defScope s_law) := ⟨rfl, rfl, rfl, by decide +kernel, rfl, by decide +kernel, by decide +kernel⟩
structure Tx (K : PySem.W.Frag) (mg : Str → Option Value) : Prop where
  d__law_called : ∃ fd, FunD K "_law_called" "_law_called" (defArgs s__law_called) (defBody s__law_called) (defScope s__law_called) [] [] (He.ga K "_law_called") fd
  g__law_called : mg "_law_called" = some (.ref (He.ga K "_law_called"))
  d_is_one : ∃ fd, FunD K "is_one" "is_one" (defArgs s_is_one) (defBody s_is_one) (defScope s_is_one) [] [] (He.ga K "is_one") fd
  g_is_one : mg "is_one" = some (.ref (He.ga K "is_one"))
  d_is_within : ∃ fd, FunD K "is_within" "is_within" (defArgs s_is_within) (defBody s_is_within) (defScope s_is_within) [] [] (He.ga K "is_within") fd
  g_is_within : mg "is_within" = some (.ref (He.ga K "is_within"))
  d_is_setting : ∃ fd, FunD K "is_setting" "is_setting" (defArgs s_is_setting) (defBody s_is_setting) (defScope s_is_setting) [] [] (He.ga K "is_setting") fd
  g_is_setting : mg "is_setting" = some (.ref (He.ga K "is_setting"))
  d_number_of : ∃ fd, FunD K "number_of" "number_of" (defArgs s_number_of) (defBody s_number_of) (defScope s_number_of) [] [] (He.ga K "number_of") fd
  g_number_of : mg "number_of" = some (.ref (He.ga K "number_of"))
  d_read_setting : ∃ fd, FunD K "read_setting" "read_setting" (defArgs s_read_setting) (defBody s_read_setting) (defScope s_read_setting) [] [] (He.ga K "read_setting") fd
  g_read_setting : mg "read_setting" = some (.ref (He.ga K "read_setting"))
  d_look : ∃ fd, FunD K "look" "look" (defArgs s_look) (defBody s_look) (defScope s_look) [] [] (He.ga K "look") fd
  g_look : mg "look" = some (.ref (He.ga K "look"))
  d_setting_text : ∃ fd, FunD K "setting_text" "setting_text" (defArgs s_setting_text) (defBody s_setting_text) (defScope s_setting_text) [] [] (He.ga K "setting_text") fd
  g_setting_text : mg "setting_text" = some (.ref (He.ga K "setting_text"))
  d__law_called_then : ∃ fd, FunD K "_law_called_then" "_law_called_then" (defArgs s__law_called_then) (defBody s__law_called_then) (defScope s__law_called_then) [] [] (He.ga K "_law_called_then") fd
  g__law_called_then : mg "_law_called_then" = some (.ref (He.ga K "_law_called_then"))
  d__law_caught : ∃ fd, FunD K "_law_caught" "_law_caught" (defArgs s__law_caught) (defBody s__law_caught) (defScope s__law_caught) [] [] (He.ga K "_law_caught") fd
  g__law_caught : mg "_law_caught" = some (.ref (He.ga K "_law_caught"))
  d__law_seed : ∃ fd, FunD K "_law_seed" "_law_seed" (defArgs s__law_seed) (defBody s__law_seed) (defScope s__law_seed) [] [] (He.ga K "_law_seed") fd
  g__law_seed : mg "_law_seed" = some (.ref (He.ga K "_law_seed"))
  d__law_pick : ∃ fd, FunD K "_law_pick" "_law_pick" (defArgs s__law_pick) (defBody s__law_pick) (defScope s__law_pick) [] [] (He.ga K "_law_pick") fd
  g__law_pick : mg "_law_pick" = some (.ref (He.ga K "_law_pick"))
  d__law_setting : ∃ fd, FunD K "_law_setting" "_law_setting" (defArgs s__law_setting) (defBody s__law_setting) (defScope s__law_setting) [] [] (He.ga K "_law_setting") fd
  g__law_setting : mg "_law_setting" = some (.ref (He.ga K "_law_setting"))
  d__law_setting_text : ∃ fd, FunD K "_law_setting_text" "_law_setting_text" (defArgs s__law_setting_text) (defBody s__law_setting_text) (defScope s__law_setting_text) [] [] (He.ga K "_law_setting_text") fd
  g__law_setting_text : mg "_law_setting_text" = some (.ref (He.ga K "_law_setting_text"))
  b_isinstance : mg "isinstance" = none
  b_str : mg "str" = none
  b_int : mg "int" = none
  b_bool : mg "bool" = none
  b_tuple : mg "tuple" = none
  b_len : mg "len" = none
  g_ORDERS : mg "ORDERS" = some (.ref (He.ga K "ORDERS"))
  c_ORDERS : ∀ F, SqT K F (He.ga K "ORDERS") ((["up", "down", "both", "bounce", "in", "thumb", "played"] : List Str).map V.str)
  x_NoText : Exc K mg "NoText"
  x_NoSetting : Exc K mg "NoSetting"
  e_NoText : ∀ c, xNames.contains c = true → PySem.W.exmOne K (.ref (He.ga K c)) (.ref (He.ga K "NoText")) = some (c == "NoText")
  x_NoCount : Exc K mg "NoCount"
  e_NoCount : ∀ c, xNames.contains c = true → PySem.W.exmOne K (.ref (He.ga K c)) (.ref (He.ga K "NoCount")) = some (c == "NoCount")
  x_NoDeeds : Exc K mg "NoDeeds"
  e_NoDeeds : ∀ c, xNames.contains c = true → PySem.W.exmOne K (.ref (He.ga K c)) (.ref (He.ga K "NoDeeds")) = some (c == "NoDeeds")
  e_NoSetting : ∀ c, xNames.contains c = true → PySem.W.exmOne K (.ref (He.ga K c)) (.ref (He.ga K "NoSetting")) = some (c == "NoSetting")
  d_cell : ∃ fd, FunD K "_law_cell" "_law_cell" (defArgs s_cell) (defBody s_cell) (defScope s_cell) [] [] (He.ga K "_law_cell") fd
  g_cell : mg "_law_cell" = some (.ref (He.ga K "_law_cell"))
section
variable {Pr : Program} {w : World} {K : PySem.W.Frag} {mg : Str → Option Value} {base : Heap}
theorem ok_cell (T : Tx K mg) : DefC Pr w K mg base := by
  refine cell_ok (st := s_cell) T.d_cell T.g_cell sc_cell (fun _ _ _ _ _ _ us hl => match us, hl with | [_, _], _ => rfl) ?_
  intro f cdv A outer s H E hr
  exact pss_cons (ps_if (pt_cmpR op_lt (pe_var (i := 1) rfl (Or.inl rfl)) (pe_callB call_len_seq rfl T.b_len (by decide +kernel) (pa_cons (pe_var (i := 0) rfl (Or.inl rfl)) pa_nil)) (nomark _)) (pss_one (ps_ret (pe_ix ix_list (pe_var (i := 0) rfl (Or.inl rfl)) (pe_var (i := 1) rfl (Or.inl rfl)) (fun _ _ => rfl)))) pss_nil) (pss_one (ps_ret pe_int))
theorem ok__law_called (T : Tx K mg) : DefV Pr w K mg base "_law_called" 1 2 m__law_called := by
  refine def_ofV (N := N__law_called) (ps := ["which", "a"]) (k := 0) (Δ := (shs [])) (Δ' := (shs [])) (m := b__law_called) T.d__law_called T.g__law_called sc__law_called (fun _ _ _ _ _ _ us hl => match us, hl with | [_, _], _ => rfl) (fun i hi => match i, hi with | 0, _ => rfl | 1, _ => rfl | _ + 2, h => absurd h (by simp)) ?_
  intro f cdv A outer s H E hr
  have tk : Takes (cxOf (L2.CX Pr w) Pr w K mg base N__law_called "_law_called" (defScope s__law_called) f cdv A outer s H E) (ctV K E).W := takes_of rfl rfl rfl rfl
  have po : PassesOwn (model Pr w) (cxOf (L2.CX Pr w) Pr w K mg base N__law_called "_law_called" (defScope s__law_called) f cdv A outer s H E).A (cxOf (L2.CX Pr w) Pr w K mg base N__law_called "_law_called" (defScope s__law_called) f cdv A outer s H E).env (cxOf (L2.CX Pr w) Pr w K mg base N__law_called "_law_called" (defScope s__law_called) f cdv A outer s H E).xe := passes_of rfl
  have hu := hr.units
  show PSs _ _ (tS (ctV K E) _ _ ((seqM (ifS (tCmp ltO (mVar 0) (mC (.int 3))) (seqM (ifS (tCmp eqO (mVar 0) (mC (.int 0))) (sRet mStuck) sNx) (sRet (ifD (tCmp eqO (mVar 0) (mC (.int 1))) mStuck mStuck))) sNx) (seqM (ifS (tCmp eqO (mVar 0) (mC (.int 3))) (sRet mStuck) sNx) (sRet (ifD (tCmp eqO (mVar 0) (mC (.int 4))) mStuck mStuck))))))
  exact (ss_cons (ss_if (t_cmp o_lt (de_view (g_var (i := 0))) (de_view g_int)) (ss_cons (ss_if (t_cmp (o_eq hu) (de_view (g_var (i := 0))) (de_view g_int)) (ss_one (s_ret g_never)) s_nil) (ss_one (s_ret (de_if (t_cmp (o_eq hu) (de_view (g_var (i := 0))) (de_view g_int)) g_never g_never)))) s_nil) (ss_cons (ss_if (t_cmp (o_eq hu) (de_view (g_var (i := 0))) (de_view g_int)) (ss_one (s_ret g_never)) s_nil) (ss_one (s_ret (de_if (t_cmp (o_eq hu) (de_view (g_var (i := 0))) (de_view g_int)) g_never g_never)))))
theorem ok_is_one (T : Tx K mg) : Def Pr w K mg base "is_one" 1 2 m_is_one := by
  refine def_of (N := N_is_one) (ps := ["thing", "words"]) (k := 0) (Δ := (shs [])) (Δ' := (shs [])) (m := b_is_one) T.d_is_one T.g_is_one sc_is_one (fun _ _ _ _ _ _ us hl => match us, hl with | [_, _], _ => rfl) (fun i hi => match i, hi with | 0, _ => rfl | 1, _ => rfl | _ + 2, h => absurd h (by simp)) ?_
  intro f cdv A outer s H E hr
  have tk : Takes (cxOf (L2.CX Pr w) Pr w K mg base N_is_one "is_one" (defScope s_is_one) f cdv A outer s H E) (ctOf K E).W := takes_of rfl rfl rfl rfl
  have po : PassesOwn (model Pr w) (cxOf (L2.CX Pr w) Pr w K mg base N_is_one "is_one" (defScope s_is_one) f cdv A outer s H E).A (cxOf (L2.CX Pr w) Pr w K mg base N_is_one "is_one" (defScope s_is_one) f cdv A outer s H E).env (cxOf (L2.CX Pr w) Pr w K mg base N_is_one "is_one" (defScope s_is_one) f cdv A outer s H E).xe := passes_of rfl
  have hu := hr.units
  show PSs _ _ (tS (ctOf K E) _ _ ((sRet (andV (mIsi "str" (mVar 0)) (mCmp inO (mVar 0) (mVar 1))))))
  exact (ss_one (s_ret (de_and (de_view (g_isi kit_str T.b_isinstance T.b_str (de_view (g_var (i := 0))))) (de_one (g_cmp (o_in_any hu) (de_view (g_var (i := 0))) (de_view (g_var (i := 1))))))))
theorem ok_is_within (T : Tx K mg) : Def Pr w K mg base "is_within" 1 3 m_is_within := by
  refine def_of (N := N_is_within) (ps := ["thing", "low", "high"]) (k := 0) (Δ := (shs [])) (Δ' := (shs [])) (m := b_is_within) T.d_is_within T.g_is_within sc_is_within (fun _ _ _ _ _ _ us hl => match us, hl with | [_, _, _], _ => rfl) (fun i hi => match i, hi with | 0, _ => rfl | 1, _ => rfl | 2, _ => rfl | _ + 3, h => absurd h (by simp)) ?_
  intro f cdv A outer s H E hr
  have tk : Takes (cxOf (L2.CX Pr w) Pr w K mg base N_is_within "is_within" (defScope s_is_within) f cdv A outer s H E) (ctOf K E).W := takes_of rfl rfl rfl rfl
  have po : PassesOwn (model Pr w) (cxOf (L2.CX Pr w) Pr w K mg base N_is_within "is_within" (defScope s_is_within) f cdv A outer s H E).A (cxOf (L2.CX Pr w) Pr w K mg base N_is_within "is_within" (defScope s_is_within) f cdv A outer s H E).env (cxOf (L2.CX Pr w) Pr w K mg base N_is_within "is_within" (defScope s_is_within) f cdv A outer s H E).xe := passes_of rfl
  have hu := hr.units
  show PSs _ _ (tS (ctOf K E) _ _ ((sRet (andV (mIsi "int" (mVar 0)) (andV (mNot (mIsi "bool" (mVar 0))) (asBool (chainB leO leO (mVar 1) (mVar 0) (mVar 2))))))))
  exact (ss_one (s_ret (de_and (de_view (g_isi kit_int T.b_isinstance T.b_int (de_view (g_var (i := 0))))) (de_and (de_view (g_not (de_view (g_isi kit_bool T.b_isinstance T.b_bool (de_view (g_var (i := 0))))))) (de_one (de_chain o_le o_le (de_view (g_var (i := 1))) (de_view (g_var (i := 0))) (de_view (g_var (i := 2)))))))))
theorem ok_is_setting (T : Tx K mg) : Def Pr w K mg base "is_setting" 2 1 m_is_setting := by
  refine def_of (N := N_is_setting) (ps := ["thing"]) (k := 1) (Δ := (shs [])) (Δ' := (shs [])) (m := b_is_setting) T.d_is_setting T.g_is_setting sc_is_setting (fun _ _ _ _ _ _ us hl => match us, hl with | [_], _ => rfl) (fun i hi => match i, hi with | 0, _ => rfl | _ + 1, h => absurd h (by simp)) ?_
  intro f cdv A outer s H E hr
  have tk : Takes (cxOf (L2.CX Pr w) Pr w K mg base N_is_setting "is_setting" (defScope s_is_setting) f cdv A outer s H E) (ctOf K E).W := takes_of rfl rfl rfl rfl
  have po : PassesOwn (model Pr w) (cxOf (L2.CX Pr w) Pr w K mg base N_is_setting "is_setting" (defScope s_is_setting) f cdv A outer s H E).A (cxOf (L2.CX Pr w) Pr w K mg base N_is_setting "is_setting" (defScope s_is_setting) f cdv A outer s H E).env (cxOf (L2.CX Pr w) Pr w K mg base N_is_setting "is_setting" (defScope s_is_setting) f cdv A outer s H E).xe := passes_of rfl
  have hu := hr.units
  show PSs _ _ (tS (ctOf K E) _ _ ((seqM (ifS (orB (tNot (tTru (mIsi "tuple" (mVar 0)))) (orB (tCmp neO (mB lenO (consM (mVar 0) mNil)) (mC (.int 7))) (tNot (tTru (mF m_is_one (consM (m2 ixO (mVar 0) (mC (.int 0))) (consM (mC (.tuple ((["up", "down", "both", "bounce", "in", "thumb", "played"] : List Str).map .str))) mNil))))))) (sRet (mC (.bool false))) sNx) (seqM (ifS (orB (tNot (tTru (mF m_is_within (consM (m2 ixO (mVar 0) (mC (.int 1))) (consM (mC (.int 1)) (consM (mC (.int 3)) mNil)))))) (orB (tNot (tTru (mF m_is_within (consM (m2 ixO (mVar 0) (mC (.int 2))) (consM (mC (.int 1)) (consM (mC (.int 8)) mNil)))))) (tNot (tTru (mF m_is_within (consM (m2 ixO (mVar 0) (mC (.int 3))) (consM (mC (.int 1)) (consM (mC (.int 16)) mNil)))))))) (sRet (mC (.bool false))) sNx) (sRet (andV (mIsi "bool" (m2 ixO (mVar 0) (mC (.int 4)))) (andV (mF m_is_one (consM (m2 ixO (mVar 0) (mC (.int 5))) (consM (mTup (consM (mC (.str "now")) (consM (mC (.str "grid")) mNil))) mNil))) (mIsi "bool" (m2 ixO (mVar 0) (mC (.int 6)))))))))))
  exact (ss_cons (ss_if (PW.pt (dw_or (t_not (t_tru (de_view (g_isi kit_tuple T.b_isinstance T.b_tuple (de_view (g_var (i := 0))))))) (dw_or (t_cmp (o_ne hu) (de_view (g_callB o_len T.b_len (dv_cons (de_view (g_var (i := 0))) v_nil))) (de_view g_int)) (dw_or1 (t_not (t_tru (de_view (g_call (ok_is_one T) (hr.mono (by decide)) tk (da_cons (g_ix o_ix (de_view (g_var (i := 0))) (de_view g_int)) (da_cons (g_gtup (ys := ["up", "down", "both", "bounce", "in", "thumb", "played"]) T.g_ORDERS T.c_ORDERS) a_nil)))))))))) (ss_one (s_ret g_bl)) s_nil) (ss_cons (ss_if (PW.pt (dw_or (t_not (t_tru (de_view (g_call (ok_is_within T) (hr.mono (by decide)) tk (da_cons (g_ix o_ix (de_view (g_var (i := 0))) (de_view g_int)) (da_cons g_int (da_cons g_int a_nil))))))) (dw_or (t_not (t_tru (de_view (g_call (ok_is_within T) (hr.mono (by decide)) tk (da_cons (g_ix o_ix (de_view (g_var (i := 0))) (de_view g_int)) (da_cons g_int (da_cons g_int a_nil))))))) (dw_or1 (t_not (t_tru (de_view (g_call (ok_is_within T) (hr.mono (by decide)) tk (da_cons (g_ix o_ix (de_view (g_var (i := 0))) (de_view g_int)) (da_cons g_int (da_cons g_int a_nil))))))))))) (ss_one (s_ret g_bl)) s_nil) (ss_one (s_ret (de_and (de_view (g_isi kit_bool T.b_isinstance T.b_bool (de_view (g_ix o_ix (de_view (g_var (i := 0))) (de_view g_int))))) (de_and (de_view (g_call (ok_is_one T) (hr.mono (by decide)) tk (da_cons (g_ix o_ix (de_view (g_var (i := 0))) (de_view g_int)) (da_cons (g_tup (da_cons g_str (da_cons g_str a_nil))) a_nil)))) (de_one (g_isi kit_bool T.b_isinstance T.b_bool (de_view (g_ix o_ix (de_view (g_var (i := 0))) (de_view g_int)))))))))))
theorem ok_number_of (T : Tx K mg) : Def Pr w K mg base "number_of" 1 1 m_number_of := by
  refine def_of (N := N_number_of) (ps := ["word"]) (k := 0) (Δ := (shs [])) (Δ' := (shs [])) (m := b_number_of) T.d_number_of T.g_number_of sc_number_of (fun _ _ _ _ _ _ us hl => match us, hl with | [_], _ => rfl) (fun i hi => match i, hi with | 0, _ => rfl | _ + 1, h => absurd h (by simp)) ?_
  intro f cdv A outer s H E hr
  have tk : Takes (cxOf (L2.CX Pr w) Pr w K mg base N_number_of "number_of" (defScope s_number_of) f cdv A outer s H E) (ctOf K E).W := takes_of rfl rfl rfl rfl
  have po : PassesOwn (model Pr w) (cxOf (L2.CX Pr w) Pr w K mg base N_number_of "number_of" (defScope s_number_of) f cdv A outer s H E).A (cxOf (L2.CX Pr w) Pr w K mg base N_number_of "number_of" (defScope s_number_of) f cdv A outer s H E).env (cxOf (L2.CX Pr w) Pr w K mg base N_number_of "number_of" (defScope s_number_of) f cdv A outer s H E).xe := passes_of rfl
  have hu := hr.units
  show PSs _ _ (tS (ctOf K E) _ _ ((seqM (ifS (orB (tNot (chainB leO leO (mC (.int 1)) (mB lenO (consM (mVar 0) mNil)) (mC (.int 3)))) (orB (tTru (lcM (iS (mVar 0)) [1] (bN 1) (tCmp notInO (mVar 1) (mC (.str "0123456789"))) (mVar 1))) (tCmp neO (mB strO (consM (mB intO (consM (mVar 0) mNil)) mNil)) (mVar 0)))) (sEx "NoText") sNx) (sRet (mB intO (consM (mVar 0) mNil))))))
  exact (ss_cons (ss_if (PW.pt (dw_or (t_not (dt_chain o_le o_le (de_view g_int) (de_view (g_callB o_len T.b_len (dv_cons (de_view (g_var (i := 0))) v_nil))) (de_view g_int))) (dw_or (t_tru (de_view (de_frz (g_lc [("sign", 1)] rfl sc_number_of.nd (di_view (i_str (g_var (i := 0)))) (blkOk_by (own := [("sign", 1)]) (N := N_number_of) (sc := defScope s_number_of) (by decide +kernel)) (fun _ _ _ _ _ => (dg_name (i := 1) (by decide) sc_number_of.nd)) (fun _ _ _ _ _ => (dts_one (t_cmp (o_notin_any hu) (de_view (g_var (i := 1))) (de_view g_str)))) (fun _ _ _ _ _ => (g_var (i := 1))))))) (dw_or1 (t_cmp (o_ne hu) (de_view (g_callTy o_str T.b_str (dv_cons (de_view (g_callTy o_int T.b_int (dv_cons (de_view (g_var (i := 0))) v_nil))) v_nil))) (de_view (g_var (i := 0)))))))) (ss_one (s_raise rfl T.x_NoText tk rfl)) s_nil) (ss_one (s_ret (g_callTy o_int T.b_int (dv_cons (de_view (g_var (i := 0))) v_nil)))))
theorem ok_read_setting (T : Tx K mg) : Def Pr w K mg base "read_setting" 3 1 m_read_setting := by
  refine def_of (N := N_read_setting) (ps := ["text"]) (k := 2) (Δ := (shs [])) (Δ' := (shs [])) (m := b_read_setting) T.d_read_setting T.g_read_setting sc_read_setting (fun _ _ _ _ _ _ us hl => match us, hl with | [_], _ => rfl) (fun i hi => match i, hi with | 0, _ => rfl | _ + 1, h => absurd h (by simp)) ?_
  intro f cdv A outer s H E hr
  have tk : Takes (cxOf (L2.CX Pr w) Pr w K mg base N_read_setting "read_setting" (defScope s_read_setting) f cdv A outer s H E) (ctOf K E).W := takes_of rfl rfl rfl rfl
  have po : PassesOwn (model Pr w) (cxOf (L2.CX Pr w) Pr w K mg base N_read_setting "read_setting" (defScope s_read_setting) f cdv A outer s H E).A (cxOf (L2.CX Pr w) Pr w K mg base N_read_setting "read_setting" (defScope s_read_setting) f cdv A outer s H E).env (cxOf (L2.CX Pr w) Pr w K mg base N_read_setting "read_setting" (defScope s_read_setting) f cdv A outer s H E).xe := passes_of rfl
  have hu := hr.units
  show PSs _ _ (tS (ctOf K E) _ _ ((seqM (ifS (tNot (tTru (mIsi "str" (mVar 0)))) (sEx "NoText") sNx) (seqM (sSet 1 (mS1 splitF (mVar 0) (mC (.str " ")))) (seqM (ifS (orB (tCmp ltO (mB lenO (consM (mVar 1) mNil)) (mC (.int 5))) (tCmp notInO (mCut cutO (mVar 1) (oSome (mC (.int 5))) oNone) (mTup (consM (mLst mNil) (consM (mLst (consM (mC (.str "hold")) mNil)) (consM (mLst (consM (mC (.str "wait")) mNil)) (consM (mLst (consM (mC (.str "hold")) (consM (mC (.str "wait")) mNil))) mNil))))))) (sEx "NoText") sNx) (seqM (sSet 2 (lcC (iL (mCut cutO (mVar 1) (oSome (mC (.int 1))) (oSome (mC (.int 4))))) [3] (bN 3) (mF m_number_of (consM (mVar 3) mNil)))) (seqM (sSet 4 (mTup (consM (m2 ixO (mVar 1) (mC (.int 0))) (consM (m2 ixO (mVar 2) (mC (.int 0))) (consM (m2 ixO (mVar 2) (mC (.int 1))) (consM (m2 ixO (mVar 2) (mC (.int 2))) (consM (mCmp inO (mC (.str "hold")) (mCut cutO (mVar 1) (oSome (mC (.int 5))) oNone)) (consM (m2 ixO (mVar 1) (mC (.int 4))) (consM (mCmp inO (mC (.str "wait")) (mCut cutO (mVar 1) (oSome (mC (.int 5))) oNone)) mNil))))))))) (seqM (ifS (tNot (tTru (mF m_is_setting (consM (mVar 4) mNil)))) (sEx "NoText") sNx) (sRet (mVar 4))))))))))
  exact (ss_cons (ss_if (t_not (t_tru (de_view (g_isi kit_str T.b_isinstance T.b_str (de_view (g_var (i := 0))))))) (ss_one (s_raise rfl T.x_NoText tk rfl)) s_nil) (ss_cons (s_set (i := 1) rfl (de_frz (g_split (de_view (g_var (i := 0))) (de_view g_str))) sc_read_setting.nd) (ss_cons (ss_if (PW.pt (dw_or (t_cmp o_lt (de_view (g_callB o_len T.b_len (dv_cons (de_view (g_var (i := 1))) v_nil))) (de_view g_int)) (dw_or1 (t_cmp (o_notin_any hu) (de_view (g_cut o_cut (de_view (g_var (i := 1))) (o_some (de_view g_int)) o_none)) (de_view (g_tup (da_cons (de_frz (g_lst a_nil)) (da_cons (de_frz (g_lst (da_cons g_str a_nil))) (da_cons (de_frz (g_lst (da_cons g_str a_nil))) (da_cons (de_frz (g_lst (da_cons g_str (da_cons g_str a_nil)))) a_nil)))))))))) (ss_one (s_raise rfl T.x_NoText tk rfl)) s_nil) (ss_cons (s_setLcC (i := 2) [("word", 3)] rfl rfl sc_read_setting.nd rfl rfl tk (di_view (i_list (g_cut o_cut (de_view (g_var (i := 1))) (o_some (de_view g_int)) (o_some (de_view g_int))))) (blkOk_by (own := [("word", 3)]) (N := N_read_setting) (sc := defScope s_read_setting) (by decide +kernel)) (fun _ _ _ _ _ _ => (dg_name (i := 3) (by decide) sc_read_setting.nd)) (fun _ _ _ _ _ _ _ hx => (e_call (ok_number_of T) (hr.mono (by decide)) hx (da_cons (g_var (i := 3)) a_nil))) (sw_true rfl rfl rfl (by decide +kernel))) (ss_cons (s_set (i := 4) rfl (g_tup (da_cons (g_ix o_ix (de_view (g_var (i := 1))) (de_view g_int)) (da_cons (g_ix o_ix (de_view (g_var (i := 2))) (de_view g_int)) (da_cons (g_ix o_ix (de_view (g_var (i := 2))) (de_view g_int)) (da_cons (g_ix o_ix (de_view (g_var (i := 2))) (de_view g_int)) (da_cons (g_cmp (o_in_any hu) (de_view g_str) (de_view (g_cut o_cut (de_view (g_var (i := 1))) (o_some (de_view g_int)) o_none))) (da_cons (g_ix o_ix (de_view (g_var (i := 1))) (de_view g_int)) (da_cons (g_cmp (o_in_any hu) (de_view g_str) (de_view (g_cut o_cut (de_view (g_var (i := 1))) (o_some (de_view g_int)) o_none))) a_nil)))))))) sc_read_setting.nd) (ss_cons (ss_if (t_not (t_tru (de_view (g_call (ok_is_setting T) (hr.mono (by decide)) tk (da_cons (g_var (i := 4)) a_nil))))) (ss_one (s_raise rfl T.x_NoText tk rfl)) s_nil) (ss_one (s_ret (g_var (i := 4))))))))))
theorem ok_look (T : Tx K mg) : Def Pr w K mg base "look" 3 1 m_look := by
  refine def_of (N := N_look) (ps := ["setting"]) (k := 2) (Δ := (shs [])) (Δ' := (shs [])) (m := b_look) T.d_look T.g_look sc_look (fun _ _ _ _ _ _ us hl => match us, hl with | [_], _ => rfl) (fun i hi => match i, hi with | 0, _ => rfl | _ + 1, h => absurd h (by simp)) ?_
  intro f cdv A outer s H E hr
  have tk : Takes (cxOf (L2.CX Pr w) Pr w K mg base N_look "look" (defScope s_look) f cdv A outer s H E) (ctOf K E).W := takes_of rfl rfl rfl rfl
  have po : PassesOwn (model Pr w) (cxOf (L2.CX Pr w) Pr w K mg base N_look "look" (defScope s_look) f cdv A outer s H E).A (cxOf (L2.CX Pr w) Pr w K mg base N_look "look" (defScope s_look) f cdv A outer s H E).env (cxOf (L2.CX Pr w) Pr w K mg base N_look "look" (defScope s_look) f cdv A outer s H E).xe := passes_of rfl
  have hu := hr.units
  show PSs _ _ (tS (ctOf K E) _ _ ((ifS (tNot (tTru (mF m_is_setting (consM (mVar 0) mNil)))) (sEx "NoSetting") sNx)))
  exact (ss_one (ss_if (t_not (t_tru (de_view (g_call (ok_is_setting T) (hr.mono (by decide)) tk (da_cons (g_var (i := 0)) a_nil))))) (ss_one (s_raise rfl T.x_NoSetting tk rfl)) s_nil))
theorem ok_setting_text (T : Tx K mg) : Def Pr w K mg base "setting_text" 4 1 m_setting_text := by
  refine def_of (N := N_setting_text) (ps := ["setting"]) (k := 3) (Δ := (shs [])) (Δ' := (shs [])) (m := b_setting_text) T.d_setting_text T.g_setting_text sc_setting_text (fun _ _ _ _ _ _ us hl => match us, hl with | [_], _ => rfl) (fun i hi => match i, hi with | 0, _ => rfl | _ + 1, h => absurd h (by simp)) ?_
  intro f cdv A outer s H E hr
  have tk : Takes (cxOf (L2.CX Pr w) Pr w K mg base N_setting_text "setting_text" (defScope s_setting_text) f cdv A outer s H E) (ctOf K E).W := takes_of rfl rfl rfl rfl
  have po : PassesOwn (model Pr w) (cxOf (L2.CX Pr w) Pr w K mg base N_setting_text "setting_text" (defScope s_setting_text) f cdv A outer s H E).A (cxOf (L2.CX Pr w) Pr w K mg base N_setting_text "setting_text" (defScope s_setting_text) f cdv A outer s H E).env (cxOf (L2.CX Pr w) Pr w K mg base N_setting_text "setting_text" (defScope s_setting_text) f cdv A outer s H E).xe := passes_of rfl
  have hu := hr.units
  show PSs _ _ (tS (ctOf K E) _ _ ((seqM (sExpr (mF m_look (consM (mVar 0) mNil))) (seqM (sAsg (bT 7 (bCons (bN 1) (bCons (bN 2) (bCons (bN 3) (bCons (bN 4) (bCons (bN 5) (bCons (bN 6) (bCons (bN 7) bNil)))))))) (mVar 0)) (seqM (sSet 8 (mLst (consM (mVar 1) (consM (mB strO (consM (mVar 2) mNil)) (consM (mB strO (consM (mVar 3) mNil)) (consM (mB strO (consM (mVar 4) mNil)) (consM (mVar 6) mNil))))))) (sRet (mS1 joinF (mC (.str " ")) (m2 addO (m2 addO (mVar 8) (m2 repO (mLst (consM (mC (.str "hold")) mNil)) (mB intO (consM (mVar 5) mNil)))) (m2 repO (mLst (consM (mC (.str "wait")) mNil)) (mB intO (consM (mVar 7) mNil)))))))))))
  exact (ss_cons (s_exprA (g_call (ok_look T) (hr.mono (by decide)) tk (da_cons (g_var (i := 0)) a_nil))) (ss_cons (s_asg (vs := [1, 2, 3, 4, 5, 6, 7]) (g_var (i := 0)) (dg_tup rfl rfl (dgs_cons (dg_name (i := 1) (by decide) sc_setting_text.nd) (dgs_cons (dg_name (i := 2) (by decide) sc_setting_text.nd) (dgs_cons (dg_name (i := 3) (by decide) sc_setting_text.nd) (dgs_cons (dg_name (i := 4) (by decide) sc_setting_text.nd) (dgs_cons (dg_name (i := 5) (by decide) sc_setting_text.nd) (dgs_cons (dg_name (i := 6) (by decide) sc_setting_text.nd) (dgs_cons (dg_name (i := 7) (by decide) sc_setting_text.nd) dgs_nil))))))))) (ss_cons (s_set (i := 8) rfl (de_frz (g_lst (da_cons (g_var (i := 1)) (da_cons (g_callTy o_str T.b_str (dv_cons (de_view (g_var (i := 2))) v_nil)) (da_cons (g_callTy o_str T.b_str (dv_cons (de_view (g_var (i := 3))) v_nil)) (da_cons (g_callTy o_str T.b_str (dv_cons (de_view (g_var (i := 4))) v_nil)) (da_cons (g_var (i := 6)) a_nil))))))) sc_setting_text.nd) (ss_one (s_ret (g_join (de_view g_str) (de_view (g_bin o_add (de_view (g_bin o_add (de_view (g_var (i := 8))) (de_view (de_frz (g_bin o_rep (de_view (de_frz (g_lst (da_cons g_str a_nil)))) (de_view (g_callTy o_int T.b_int (dv_cons (de_view (g_var (i := 5))) v_nil)))))))) (de_view (de_frz (g_bin o_rep (de_view (de_frz (g_lst (da_cons g_str a_nil)))) (de_view (g_callTy o_int T.b_int (dv_cons (de_view (g_var (i := 7))) v_nil))))))))))))))
theorem ok__law_called_then (T : Tx K mg) : DefV Pr w K mg base "_law_called_then" 5 2 m__law_called_then := by
  refine def_ofV (N := N__law_called_then) (ps := ["which", "a"]) (k := 4) (Δ := (shs [])) (Δ' := (shs [])) (m := b__law_called_then) T.d__law_called_then T.g__law_called_then sc__law_called_then (fun _ _ _ _ _ _ us hl => match us, hl with | [_, _], _ => rfl) (fun i hi => match i, hi with | 0, _ => rfl | 1, _ => rfl | _ + 2, h => absurd h (by simp)) ?_
  intro f cdv A outer s H E hr
  have tk : Takes (cxOf (L2.CX Pr w) Pr w K mg base N__law_called_then "_law_called_then" (defScope s__law_called_then) f cdv A outer s H E) (ctV K E).W := takes_of rfl rfl rfl rfl
  have po : PassesOwn (model Pr w) (cxOf (L2.CX Pr w) Pr w K mg base N__law_called_then "_law_called_then" (defScope s__law_called_then) f cdv A outer s H E).A (cxOf (L2.CX Pr w) Pr w K mg base N__law_called_then "_law_called_then" (defScope s__law_called_then) f cdv A outer s H E).env (cxOf (L2.CX Pr w) Pr w K mg base N__law_called_then "_law_called_then" (defScope s__law_called_then) f cdv A outer s H E).xe := passes_of rfl
  have hu := hr.units
  show PSs _ _ (tS (ctV K E) _ _ ((seqM (ifS (tCmp ltO (mVar 0) (mC (.int 10))) (seqM (ifS (tCmp ltO (mVar 0) (mC (.int 8))) (sRet (ifD (tCmp eqO (mVar 0) (mC (.int 6))) mStuck mStuck)) sNx) (sRet (ifD (tCmp eqO (mVar 0) (mC (.int 8))) mStuck mStuck))) sNx) (seqM (ifS (tCmp ltO (mVar 0) (mC (.int 13))) (seqM (ifS (tCmp eqO (mVar 0) (mC (.int 10))) (sRet mStuck) sNx) (sRet (ifD (tCmp eqO (mVar 0) (mC (.int 11))) mStuck mStuck))) sNx) (sRet (ifD (tCmp eqO (mVar 0) (mC (.int 13))) (mF m_setting_text (consM (m2 ixO (mVar 1) (mC (.int 0))) mNil)) (mF m_read_setting (consM (m2 ixO (mVar 1) (mC (.int 0))) mNil))))))))
  exact (ss_cons (ss_if (t_cmp o_lt (de_view (g_var (i := 0))) (de_view g_int)) (ss_cons (ss_if (t_cmp o_lt (de_view (g_var (i := 0))) (de_view g_int)) (ss_one (s_ret (de_if (t_cmp (o_eq hu) (de_view (g_var (i := 0))) (de_view g_int)) g_never g_never))) s_nil) (ss_one (s_ret (de_if (t_cmp (o_eq hu) (de_view (g_var (i := 0))) (de_view g_int)) g_never g_never)))) s_nil) (ss_cons (ss_if (t_cmp o_lt (de_view (g_var (i := 0))) (de_view g_int)) (ss_cons (ss_if (t_cmp (o_eq hu) (de_view (g_var (i := 0))) (de_view g_int)) (ss_one (s_ret g_never)) s_nil) (ss_one (s_ret (de_if (t_cmp (o_eq hu) (de_view (g_var (i := 0))) (de_view g_int)) g_never g_never)))) s_nil) (ss_one (s_ret (de_if (t_cmp (o_eq hu) (de_view (g_var (i := 0))) (de_view g_int)) (g_call (ok_setting_text T) (hr.mono (by decide)) tk (da_cons (g_ix o_ix (de_view (g_var (i := 1))) (de_view g_int)) a_nil)) (g_call (ok_read_setting T) (hr.mono (by decide)) tk (da_cons (g_ix o_ix (de_view (g_var (i := 1))) (de_view g_int)) a_nil)))))))
theorem ok__law_caught (T : Tx K mg) : Def Pr w K mg base "_law_caught" 6 2 m__law_caught := by
  refine def_of (N := N__law_caught) (ps := ["which", "a"]) (k := 5) (Δ := (shs [])) (Δ' := (shs [])) (m := b__law_caught) T.d__law_caught T.g__law_caught sc__law_caught (fun _ _ _ _ _ _ us hl => match us, hl with | [_, _], _ => rfl) (fun i hi => match i, hi with | 0, _ => rfl | 1, _ => rfl | _ + 2, h => absurd h (by simp)) ?_
  intro f cdv A outer s H E hr
  have tk : Takes (cxOf (L2.CX Pr w) Pr w K mg base N__law_caught "_law_caught" (defScope s__law_caught) f cdv A outer s H E) (ctOf K E).W := takes_of rfl rfl rfl rfl
  have po : PassesOwn (model Pr w) (cxOf (L2.CX Pr w) Pr w K mg base N__law_caught "_law_caught" (defScope s__law_caught) f cdv A outer s H E).A (cxOf (L2.CX Pr w) Pr w K mg base N__law_caught "_law_caught" (defScope s__law_caught) f cdv A outer s H E).env (cxOf (L2.CX Pr w) Pr w K mg base N__law_caught "_law_caught" (defScope s__law_caught) f cdv A outer s H E).xe := passes_of rfl
  have hu := hr.units
  show PSs _ _ (tS (ctOf K E) _ _ ((seqM (sSet 2 (mC (.str ""))) (seqM (tryM xNames (ifS (tCmp ltO (mVar 0) (mC (.int 6))) (sExpr (mF m__law_called (consM (mVar 0) (consM (mVar 1) mNil)))) (sExpr (mF m__law_called_then (consM (mVar 0) (consM (mVar 1) mNil))))) (("NoSetting", (sSet 2 (mC (.str "setting")))) :: ("NoDeeds", (sSet 2 (mC (.str "deeds")))) :: ("NoCount", (sSet 2 (mC (.str "count")))) :: ("NoText", (sSet 2 (mC (.str "text")))) :: [])) (sRet (mVar 2))))))
  exact (ss_cons (s_set (i := 2) rfl g_str sc__law_caught.nd) (ss_cons (ss_try (names := xNames) rfl rfl rfl tk (fun W pn xe tk po => (ss_one (ss_if (t_cmp o_lt (de_view (g_var (i := 0))) (de_view g_int)) (ss_one (s_exprA (g_callV (ok__law_called T) (hr.mono (by decide)) tk (da_cons (g_var (i := 0)) (da_cons (g_var (i := 1)) a_nil))))) (ss_one (s_exprA (g_callV (ok__law_called_then T) (hr.mono (by decide)) tk (da_cons (g_var (i := 0)) (da_cons (g_var (i := 1)) a_nil)))))))) (Hds.cons ⟨rfl, by decide, Or.inl T.x_NoSetting.g⟩ T.e_NoSetting (fun _ _ => (ss_one (s_set (i := 2) rfl g_str sc__law_caught.nd))) (Hds.cons ⟨rfl, by decide, Or.inl T.x_NoDeeds.g⟩ T.e_NoDeeds (fun _ _ => (ss_one (s_set (i := 2) rfl g_str sc__law_caught.nd))) (Hds.cons ⟨rfl, by decide, Or.inl T.x_NoCount.g⟩ T.e_NoCount (fun _ _ => (ss_one (s_set (i := 2) rfl g_str sc__law_caught.nd))) (Hds.cons ⟨rfl, by decide, Or.inl T.x_NoText.g⟩ T.e_NoText (fun _ _ => (ss_one (s_set (i := 2) rfl g_str sc__law_caught.nd))) Hds.nil)))) (by
    intro q hq
    simp only [List.mem_cons, List.not_mem_nil, or_false] at hq
    rcases hq with rfl | rfl | rfl | rfl
    all_goals (intro _ _ _ h; cases h))) (ss_one (s_ret (g_var (i := 2))))))
theorem ok__law_seed (T : Tx K mg) : Def Pr w K mg base "_law_seed" 1 2 m__law_seed := by
  refine def_of (N := N__law_seed) (ps := ["seed", "k"]) (k := 0) (Δ := (shs [])) (Δ' := (shs [])) (m := b__law_seed) T.d__law_seed T.g__law_seed sc__law_seed (fun _ _ _ _ _ _ us hl => match us, hl with | [_, _], _ => rfl) (fun i hi => match i, hi with | 0, _ => rfl | 1, _ => rfl | _ + 2, h => absurd h (by simp)) ?_
  intro f cdv A outer s H E hr
  have tk : Takes (cxOf (L2.CX Pr w) Pr w K mg base N__law_seed "_law_seed" (defScope s__law_seed) f cdv A outer s H E) (ctOf K E).W := takes_of rfl rfl rfl rfl
  have po : PassesOwn (model Pr w) (cxOf (L2.CX Pr w) Pr w K mg base N__law_seed "_law_seed" (defScope s__law_seed) f cdv A outer s H E).A (cxOf (L2.CX Pr w) Pr w K mg base N__law_seed "_law_seed" (defScope s__law_seed) f cdv A outer s H E).env (cxOf (L2.CX Pr w) Pr w K mg base N__law_seed "_law_seed" (defScope s__law_seed) f cdv A outer s H E).xe := passes_of rfl
  have hu := hr.units
  show PSs _ _ (tS (ctOf K E) _ _ ((sRet (m2 modO (m2 powO (m2 modO (m2 addO (m2 addO (m2 mulO (mVar 0) (mC (.int 1103515245))) (m2 mulO (mC (.int 7919)) (mVar 1))) (mC (.int 12345))) (mC (.int 2147483647))) (mC (.int 5))) (mC (.int 2147483647))))))
  exact (ss_one (s_ret (g_bin o_mod (de_view (g_bin o_pow (de_view (g_bin o_mod (de_view (g_bin o_add (de_view (g_bin o_add (de_view (g_bin o_mul (de_view (g_var (i := 0))) (de_view g_int))) (de_view (g_bin o_mul (de_view g_int) (de_view (g_var (i := 1))))))) (de_view g_int))) (de_view g_int))) (de_view g_int))) (de_view g_int))))
theorem ok__law_pick (T : Tx K mg) : Def Pr w K mg base "_law_pick" 1 2 m__law_pick := by
  refine def_of (N := N__law_pick) (ps := ["seed", "many"]) (k := 0) (Δ := (shs [])) (Δ' := (shs [])) (m := b__law_pick) T.d__law_pick T.g__law_pick sc__law_pick (fun _ _ _ _ _ _ us hl => match us, hl with | [_, _], _ => rfl) (fun i hi => match i, hi with | 0, _ => rfl | 1, _ => rfl | _ + 2, h => absurd h (by simp)) ?_
  intro f cdv A outer s H E hr
  have tk : Takes (cxOf (L2.CX Pr w) Pr w K mg base N__law_pick "_law_pick" (defScope s__law_pick) f cdv A outer s H E) (ctOf K E).W := takes_of rfl rfl rfl rfl
  have po : PassesOwn (model Pr w) (cxOf (L2.CX Pr w) Pr w K mg base N__law_pick "_law_pick" (defScope s__law_pick) f cdv A outer s H E).A (cxOf (L2.CX Pr w) Pr w K mg base N__law_pick "_law_pick" (defScope s__law_pick) f cdv A outer s H E).env (cxOf (L2.CX Pr w) Pr w K mg base N__law_pick "_law_pick" (defScope s__law_pick) f cdv A outer s H E).xe := passes_of rfl
  have hu := hr.units
  show PSs _ _ (tS (ctOf K E) _ _ ((sRet (m2 modO (m2 fdivO (mVar 0) (mC (.int 97))) (mVar 1)))))
  exact (ss_one (s_ret (g_bin o_mod (de_view (g_bin o_fdiv (de_view (g_var (i := 0))) (de_view g_int))) (de_view (g_var (i := 1))))))
theorem ok__law_setting (T : Tx K mg) : Def Pr w K mg base "_law_setting" 2 1 m__law_setting := by
  refine def_of (N := N__law_setting) (ps := ["seed"]) (k := 1) (Δ := (shs [])) (Δ' := (shs [])) (m := b__law_setting) T.d__law_setting T.g__law_setting sc__law_setting (fun _ _ _ _ _ _ us hl => match us, hl with | [_], _ => rfl) (fun i hi => match i, hi with | 0, _ => rfl | _ + 1, h => absurd h (by simp)) ?_
  intro f cdv A outer s H E hr
  have tk : Takes (cxOf (L2.CX Pr w) Pr w K mg base N__law_setting "_law_setting" (defScope s__law_setting) f cdv A outer s H E) (ctOf K E).W := takes_of rfl rfl rfl rfl
  have po : PassesOwn (model Pr w) (cxOf (L2.CX Pr w) Pr w K mg base N__law_setting "_law_setting" (defScope s__law_setting) f cdv A outer s H E).A (cxOf (L2.CX Pr w) Pr w K mg base N__law_setting "_law_setting" (defScope s__law_setting) f cdv A outer s H E).env (cxOf (L2.CX Pr w) Pr w K mg base N__law_setting "_law_setting" (defScope s__law_setting) f cdv A outer s H E).xe := passes_of rfl
  have hu := hr.units
  show PSs _ _ (tS (ctOf K E) _ _ ((seqM (sSet 1 (m2 ixO (mLst (consM (mC (.str "up")) (consM (mC (.str "down")) (consM (mC (.str "both")) (consM (mC (.str "bounce")) (consM (mC (.str "in")) (consM (mC (.str "thumb")) (consM (mC (.str "played")) mNil)))))))) (mF m__law_pick (consM (mF m__law_seed (consM (mVar 0) (consM (mC (.int 1)) mNil))) (consM (mC (.int 7)) mNil))))) (seqM (sSet 2 (m2 ixO (mLst (consM (mC (.str "now")) (consM (mC (.str "grid")) mNil))) (mF m__law_pick (consM (mF m__law_seed (consM (mVar 0) (consM (mC (.int 5)) mNil))) (consM (mC (.int 2)) mNil))))) (seqM (sPar 3 4 (consM (m2 addO (mC (.int 1)) (mF m__law_pick (consM (mF m__law_seed (consM (mVar 0) (consM (mC (.int 2)) mNil))) (consM (m2 ixO (mLst (consM (mC (.int 8)) (consM (mC (.int 3)) mNil))) (m2 modO (m2 fdivO (mVar 0) (mC (.int 5))) (mC (.int 2)))) mNil)))) (consM (m2 addO (mC (.int 1)) (mF m__law_pick (consM (mF m__law_seed (consM (mVar 0) (consM (mC (.int 3)) mNil))) (consM (mC (.int 16)) mNil)))) mNil))) (seqM (sPar 5 6 (consM (mCmp eqO (mF m__law_pick (consM (mF m__law_seed (consM (mVar 0) (consM (mC (.int 4)) mNil))) (consM (mC (.int 3)) mNil))) (mC (.int 0))) (consM (mCmp eqO (mF m__law_pick (consM (mF m__law_seed (consM (mVar 0) (consM (mC (.int 6)) mNil))) (consM (mC (.int 3)) mNil))) (mC (.int 0))) mNil))) (sRet (mTup (consM (mVar 1) (consM (m2 addO (mC (.int 1)) (m2 modO (m2 fdivO (mVar 0) (mC (.int 7))) (mC (.int 3)))) (consM (mVar 3) (consM (mVar 4) (consM (mVar 5) (consM (mVar 2) (consM (mVar 6) mNil)))))))))))))))
  exact (ss_cons (s_set (i := 1) rfl (g_ix o_ix (de_view (de_frz (g_lst (da_cons g_str (da_cons g_str (da_cons g_str (da_cons g_str (da_cons g_str (da_cons g_str (da_cons g_str a_nil)))))))))) (de_view (g_call (ok__law_pick T) (hr.mono (by decide)) tk (da_cons (g_call (ok__law_seed T) (hr.mono (by decide)) tk (da_cons (g_var (i := 0)) (da_cons g_int a_nil))) (da_cons g_int a_nil))))) sc__law_setting.nd) (ss_cons (s_set (i := 2) rfl (g_ix o_ix (de_view (de_frz (g_lst (da_cons g_str (da_cons g_str a_nil))))) (de_view (g_call (ok__law_pick T) (hr.mono (by decide)) tk (da_cons (g_call (ok__law_seed T) (hr.mono (by decide)) tk (da_cons (g_var (i := 0)) (da_cons g_int a_nil))) (da_cons g_int a_nil))))) sc__law_setting.nd) (ss_cons (s_par (i := 3) (j := 4) (da_cons (g_bin o_add (de_view g_int) (de_view (g_call (ok__law_pick T) (hr.mono (by decide)) tk (da_cons (g_call (ok__law_seed T) (hr.mono (by decide)) tk (da_cons (g_var (i := 0)) (da_cons g_int a_nil))) (da_cons (g_ix o_ix (de_view (de_frz (g_lst (da_cons g_int (da_cons g_int a_nil))))) (de_view (g_bin o_mod (de_view (g_bin o_fdiv (de_view (g_var (i := 0))) (de_view g_int))) (de_view g_int)))) a_nil))))) (da_cons (g_bin o_add (de_view g_int) (de_view (g_call (ok__law_pick T) (hr.mono (by decide)) tk (da_cons (g_call (ok__law_seed T) (hr.mono (by decide)) tk (da_cons (g_var (i := 0)) (da_cons g_int a_nil))) (da_cons g_int a_nil))))) a_nil)) rfl sc__law_setting.nd) (ss_cons (s_par (i := 5) (j := 6) (da_cons (g_cmp (o_eq hu) (de_view (g_call (ok__law_pick T) (hr.mono (by decide)) tk (da_cons (g_call (ok__law_seed T) (hr.mono (by decide)) tk (da_cons (g_var (i := 0)) (da_cons g_int a_nil))) (da_cons g_int a_nil)))) (de_view g_int)) (da_cons (g_cmp (o_eq hu) (de_view (g_call (ok__law_pick T) (hr.mono (by decide)) tk (da_cons (g_call (ok__law_seed T) (hr.mono (by decide)) tk (da_cons (g_var (i := 0)) (da_cons g_int a_nil))) (da_cons g_int a_nil)))) (de_view g_int)) a_nil)) rfl sc__law_setting.nd) (ss_one (s_ret (g_tup (da_cons (g_var (i := 1)) (da_cons (g_bin o_add (de_view g_int) (de_view (g_bin o_mod (de_view (g_bin o_fdiv (de_view (g_var (i := 0))) (de_view g_int))) (de_view g_int)))) (da_cons (g_var (i := 3)) (da_cons (g_var (i := 4)) (da_cons (g_var (i := 5)) (da_cons (g_var (i := 2)) (da_cons (g_var (i := 6)) a_nil))))))))))))))
theorem ok__law_setting_text (T : Tx K mg) : Def Pr w K mg base "_law_setting_text" 1 1 m__law_setting_text := by
  refine def_of (N := N__law_setting_text) (ps := ["setting"]) (k := 0) (Δ := (shs [])) (Δ' := (shs [])) (m := b__law_setting_text) T.d__law_setting_text T.g__law_setting_text sc__law_setting_text (fun _ _ _ _ _ _ us hl => match us, hl with | [_], _ => rfl) (fun i hi => match i, hi with | 0, _ => rfl | _ + 1, h => absurd h (by simp)) ?_
  intro f cdv A outer s H E hr
  have tk : Takes (cxOf (L2.CX Pr w) Pr w K mg base N__law_setting_text "_law_setting_text" (defScope s__law_setting_text) f cdv A outer s H E) (ctOf K E).W := takes_of rfl rfl rfl rfl
  have po : PassesOwn (model Pr w) (cxOf (L2.CX Pr w) Pr w K mg base N__law_setting_text "_law_setting_text" (defScope s__law_setting_text) f cdv A outer s H E).A (cxOf (L2.CX Pr w) Pr w K mg base N__law_setting_text "_law_setting_text" (defScope s__law_setting_text) f cdv A outer s H E).env (cxOf (L2.CX Pr w) Pr w K mg base N__law_setting_text "_law_setting_text" (defScope s__law_setting_text) f cdv A outer s H E).xe := passes_of rfl
  have hu := hr.units
  show PSs _ _ (tS (ctOf K E) _ _ ((seqM (sSet 1 (mS1 joinF (mC (.str " ")) (mLst (consM (m2 ixO (mVar 0) (mC (.int 0))) (consM (mB strO (consM (m2 ixO (mVar 0) (mC (.int 1))) mNil)) (consM (mB strO (consM (m2 ixO (mVar 0) (mC (.int 2))) mNil)) (consM (mB strO (consM (m2 ixO (mVar 0) (mC (.int 3))) mNil)) (consM (m2 ixO (mVar 0) (mC (.int 5))) mNil)))))))) (sRet (m2 addO (m2 addO (mVar 1) (m2 srepO (mC (.str " hold")) (mB intO (consM (m2 ixO (mVar 0) (mC (.int 4))) mNil)))) (m2 srepO (mC (.str " wait")) (mB intO (consM (m2 ixO (mVar 0) (mC (.int 6))) mNil))))))))
  exact (ss_cons (s_set (i := 1) rfl (g_join (de_view g_str) (de_view (de_frz (g_lst (da_cons (g_ix o_ix (de_view (g_var (i := 0))) (de_view g_int)) (da_cons (g_callTy o_str T.b_str (dv_cons (de_view (g_ix o_ix (de_view (g_var (i := 0))) (de_view g_int))) v_nil)) (da_cons (g_callTy o_str T.b_str (dv_cons (de_view (g_ix o_ix (de_view (g_var (i := 0))) (de_view g_int))) v_nil)) (da_cons (g_callTy o_str T.b_str (dv_cons (de_view (g_ix o_ix (de_view (g_var (i := 0))) (de_view g_int))) v_nil)) (da_cons (g_ix o_ix (de_view (g_var (i := 0))) (de_view g_int)) a_nil))))))))) sc__law_setting_text.nd) (ss_one (s_ret (g_bin o_add (de_view (g_bin o_add (de_view (g_var (i := 1))) (de_view (g_bin o_srep (de_view g_str) (de_view (g_callTy o_int T.b_int (dv_cons (de_view (g_ix o_ix (de_view (g_var (i := 0))) (de_view g_int))) v_nil))))))) (de_view (g_bin o_srep (de_view g_str) (de_view (g_callTy o_int T.b_int (dv_cons (de_view (g_ix o_ix (de_view (g_var (i := 0))) (de_view g_int))) v_nil)))))))))
theorem ok_law (T : Tx K mg) {fd : FuncData} {f : Addr} (Fd : FunD K "law" "law" (defArgs s_law) (defBody s_law) (defScope s_law) [] [] f fd) : FnOk Pr w K mg base (L2.CX Pr w) 7 f fd ["script"] (spLaw K N_law.length b_law) := by
  refine law_of (N := N_law) (k := 6) (Δ := (shs [(0, .scr)])) (Δ' := (shs [(0, .scr)])) (m := b_law) Fd sc_law rfl ?_
  intro cdv A outer s H E hr
  have tk : Takes (cxOf (L2.CX Pr w) Pr w K mg base N_law "law" (defScope s_law) f cdv A outer s H E) (ctOf K E).W := takes_of rfl rfl rfl rfl
  have po : PassesOwn (model Pr w) (cxOf (L2.CX Pr w) Pr w K mg base N_law "law" (defScope s_law) f cdv A outer s H E).A (cxOf (L2.CX Pr w) Pr w K mg base N_law "law" (defScope s_law) f cdv A outer s H E).env (cxOf (L2.CX Pr w) Pr w K mg base N_law "law" (defScope s_law) f cdv A outer s H E).xe := passes_of rfl
  have hu := hr.units
  show PSs _ _ (tS (ctOf K E) _ _ ((seqM (sSet 1 (mF m__law_setting (consM (mF m__law_seed (consM (m2 cellO (mVar 0) (mC (.int 0))) (consM (mC (.int 0)) mNil))) mNil))) (seqM (sSet 2 (mF m__law_setting_text (consM (mVar 1) mNil))) (seqM (ifS (orB (tCmp neO (mF m_setting_text (consM (mVar 1) mNil)) (mVar 2)) (orB (tCmp neO (mF m__law_caught (consM (mC (.int 14)) (consM (mLst (consM (mVar 2) mNil)) mNil))) (mC (.str ""))) (tCmp neO (mF m_read_setting (consM (mVar 2) mNil)) (mVar 1)))) (sRet (mC (.bool false))) sNx) (seqM (sSet 3 (mLst (consM (m2 addO (mVar 2) (mC (.str " "))) (consM (m2 addO (mC (.str " ")) (mVar 2)) (consM (m2 addO (mVar 2) (mC (.str " wait"))) (consM (mS0 upperF (mVar 2)) (consM (m1 (replNO " " "  " 1) (mVar 2)) (consM (m2 addO (mVar 2) (mC (.str "x"))) mNil)))))))) (seqM (sSet 3 (m2 addO (mVar 3) (mLst (consM (m1 (replNO " " " 0" 1) (mVar 2)) (consM (mC .none) (consM (mS1 splitF (mVar 2) (mC (.str " "))) (consM (mC (.str "")) (consM (mCut cutO (mVar 2) (oSome (mC (.int 1))) oNone) (consM (mC (.str "in 4 1 1 now")) (consM (mC (.str "in 1 9 1 now")) mNil)))))))))) (seqM (sSet 4 (m2 modO (m2 cellO (mVar 0) (mC (.int 1))) (mC (.int 13)))) (seqM (ifS (andB (tCmp eqO (mVar 4) (mC (.int 2))) (tNot (tTru (m2 ixO (mVar 1) (mC (.int 6)))))) (sRet (mCmp eqO (mF m_read_setting (consM (m2 addO (mVar 2) (mC (.str " wait"))) mNil)) (m2 addO (mCut cutO (mVar 1) oNone (oSome (mC (.int 6)))) (mTup (consM (mC (.bool true)) mNil))))) sNx) (seqM (ifS (tCmp neO (mF m__law_caught (consM (mC (.int 14)) (consM (mLst (consM (m2 ixO (mVar 3) (mVar 4)) mNil)) mNil))) (mC (.str "text"))) (sRet (mC (.bool false))) sNx) (seqM (sSet 5 (mF m__law_setting (consM (mF m__law_seed (consM (m2 cellO (mVar 0) (mC (.int 2))) (consM (mC (.int 0)) mNil))) mNil))) (sRet (mCmp eqO (mCmp eqO (mF m_setting_text (consM (mVar 5) mNil)) (mVar 2)) (mCmp eqO (mVar 5) (mVar 1)))))))))))))))
  exact (ss_T1 (i := 1) rfl (e1_call (ok__law_setting T) (hr.mono (by decide)) tk (a1_head (e1_call (ok__law_seed T) (hr.mono (by decide)) tk (a1_head (e1_cell (i := 0) (ok_cell T) (hr.mono (by decide)) tk) (da_cons g_int a_nil))) a_nil)) (ssT_cons (PST.of (s_set (i := 2) rfl (g_call (ok__law_setting_text T) (hr.mono (by decide)) tk (da_cons (g_var (i := 1)) a_nil)) sc_law.nd)) (ssT_cons (PST.of (ss_if (PW.pt (dw_or (t_cmp (o_ne hu) (de_view (g_call (ok_setting_text T) (hr.mono (by decide)) tk (da_cons (g_var (i := 1)) a_nil))) (de_view (g_var (i := 2)))) (dw_or (t_cmp (o_ne hu) (de_view (g_call (ok__law_caught T) (hr.mono (by decide)) tk (da_cons g_int (da_cons (de_frz (g_lst (da_cons (g_var (i := 2)) a_nil))) a_nil)))) (de_view g_str)) (dw_or1 (t_cmp (o_ne hu) (de_view (g_call (ok_read_setting T) (hr.mono (by decide)) tk (da_cons (g_var (i := 2)) a_nil))) (de_view (g_var (i := 1)))))))) (ss_one (s_ret g_bl)) s_nil)) (ssT_cons (sT_set (i := 3) rfl (eT_frz (gT_lst (aT_cons (CwR.PET.of (g_bin o_add (de_view (g_var (i := 2))) (de_view g_str))) (aT_cons (CwR.PET.of (g_bin o_add (de_view g_str) (de_view (g_var (i := 2))))) (aT_cons (CwR.PET.of (g_bin o_add (de_view (g_var (i := 2))) (de_view g_str))) (aT_cons (CwR.PET.of (g_upper (de_view (g_var (i := 2))))) (aT_cons (gT_replN (y := " ") (z := "  ") (n := 1) (de_view (g_var (i := 2)))) (aT_cons (CwR.PET.of (g_bin o_add (de_view (g_var (i := 2))) (de_view g_str))) aT_nil)))))))) sc_law.nd) (ssT_cons (sT_set (i := 3) rfl (gT_bin o_add (eT_view (CwR.PET.of (g_var (i := 3)))) (eT_view (eT_frz (gT_lst (aT_cons (gT_replN (y := " ") (z := " 0") (n := 1) (de_view (g_var (i := 2)))) (aT_cons (CwR.PET.of g_non) (aT_cons (eT_frz (CwR.PET.of (g_split (de_view (g_var (i := 2))) (de_view g_str)))) (aT_cons (CwR.PET.of g_str) (aT_cons (CwR.PET.of (g_cut o_cut (de_view (g_var (i := 2))) (o_some (de_view g_int)) o_none)) (aT_cons (CwR.PET.of g_str) (aT_cons (CwR.PET.of g_str) aT_nil))))))))))) sc_law.nd) (PSsT.of (ss_cons (s_set (i := 4) rfl (g_bin o_mod (de_view (de_cell (i := 0) (ok_cell T) (hr.mono (by decide)) tk g_int)) (de_view g_int)) sc_law.nd) (ss_cons (ss_if (PW.pt (dw_and (t_cmp (o_eq hu) (de_view (g_var (i := 4))) (de_view g_int)) (dw_and1 (t_not (t_tru (de_view (g_ix o_ix (de_view (g_var (i := 1))) (de_view g_int)))))))) (ss_one (s_ret (g_cmp (o_eq hu) (de_view (g_call (ok_read_setting T) (hr.mono (by decide)) tk (da_cons (g_bin o_add (de_view (g_var (i := 2))) (de_view g_str)) a_nil))) (de_view (g_bin o_add (de_view (g_cut o_cut (de_view (g_var (i := 1))) o_none (o_some (de_view g_int)))) (de_view (g_tup (da_cons g_bl a_nil)))))))) s_nil) (ss_cons (ss_if (t_cmp (o_ne hu) (de_view (g_call (ok__law_caught T) (hr.mono (by decide)) tk (da_cons g_int (da_cons (de_frz (g_lst (da_cons (g_ix o_ix (de_view (g_var (i := 3))) (de_view (g_var (i := 4)))) a_nil))) a_nil)))) (de_view g_str)) (ss_one (s_ret g_bl)) s_nil) (ss_cons (s_set (i := 5) rfl (g_call (ok__law_setting T) (hr.mono (by decide)) tk (da_cons (g_call (ok__law_seed T) (hr.mono (by decide)) tk (da_cons (de_cell (i := 0) (ok_cell T) (hr.mono (by decide)) tk g_int) (da_cons g_int a_nil))) a_nil)) sc_law.nd) (ss_one (s_ret (g_cmp (o_eq hu) (de_view (g_cmp (o_eq hu) (de_view (g_call (ok_setting_text T) (hr.mono (by decide)) tk (da_cons (g_var (i := 5)) a_nil))) (de_view (g_var (i := 2))))) (de_view (g_cmp (o_eq hu) (de_view (g_var (i := 5))) (de_view (g_var (i := 1))))))))))))))))) sc_law.nd)
end
end Gn

set_option maxRecDepth 100000
set_option maxHeartbeats 4000000
namespace Gn
open PySem PySem.Spec PyProof.Rows L2 Pc
def hd__law_called : He.DefD := ⟨("_law_called", none), "_law_called", "_law_called", defArgs s__law_called, defBody s__law_called, defScope s__law_called, [], []⟩
def hd_is_one : He.DefD := ⟨("is_one", none), "is_one", "is_one", defArgs s_is_one, defBody s_is_one, defScope s_is_one, [], []⟩
def hd_is_within : He.DefD := ⟨("is_within", none), "is_within", "is_within", defArgs s_is_within, defBody s_is_within, defScope s_is_within, [], []⟩
def hd_is_setting : He.DefD := ⟨("is_setting", none), "is_setting", "is_setting", defArgs s_is_setting, defBody s_is_setting, defScope s_is_setting, [], []⟩
def hd_number_of : He.DefD := ⟨("number_of", none), "number_of", "number_of", defArgs s_number_of, defBody s_number_of, defScope s_number_of, [], []⟩
def hd_read_setting : He.DefD := ⟨("read_setting", none), "read_setting", "read_setting", defArgs s_read_setting, defBody s_read_setting, defScope s_read_setting, [], []⟩
def hd_look : He.DefD := ⟨("look", none), "look", "look", defArgs s_look, defBody s_look, defScope s_look, [], []⟩
def hd_setting_text : He.DefD := ⟨("setting_text", none), "setting_text", "setting_text", defArgs s_setting_text, defBody s_setting_text, defScope s_setting_text, [], []⟩
def hd__law_called_then : He.DefD := ⟨("_law_called_then", none), "_law_called_then", "_law_called_then", defArgs s__law_called_then, defBody s__law_called_then, defScope s__law_called_then, [], []⟩
def hd__law_caught : He.DefD := ⟨("_law_caught", none), "_law_caught", "_law_caught", defArgs s__law_caught, defBody s__law_caught, defScope s__law_caught, [], []⟩
def hd__law_seed : He.DefD := ⟨("_law_seed", none), "_law_seed", "_law_seed", defArgs s__law_seed, defBody s__law_seed, defScope s__law_seed, [], []⟩
def hd__law_pick : He.DefD := ⟨("_law_pick", none), "_law_pick", "_law_pick", defArgs s__law_pick, defBody s__law_pick, defScope s__law_pick, [], []⟩
def hd__law_setting : He.DefD := ⟨("_law_setting", none), "_law_setting", "_law_setting", defArgs s__law_setting, defBody s__law_setting, defScope s__law_setting, [], []⟩
def hd__law_setting_text : He.DefD := ⟨("_law_setting_text", none), "_law_setting_text", "_law_setting_text", defArgs s__law_setting_text, defBody s__law_setting_text, defScope s__law_setting_text, [], []⟩
def hd_law : He.DefD := ⟨("law", none), "law", "law", defArgs s_law, defBody s_law, defScope s_law, [], []⟩
def hd_cell : He.DefD := ⟨("_law_cell", none), "_law_cell", "_law_cell", defArgs s_cell, defBody s_cell, defScope s_cell, [], []⟩
def fn : List He.DefD := [hd__law_called, hd_is_one, hd_is_within, hd_is_setting, hd_number_of, hd_read_setting, hd_look, hd_setting_text, hd__law_called_then, hd__law_caught, hd__law_seed, hd__law_pick, hd__law_setting, hd__law_setting_text, hd_law, hd_cell]
def fa0 : List He.Fa := [.glo "_law_called", .glo "is_one", .glo "is_within", .glo "is_setting", .glo "number_of", .glo "read_setting", .glo "look", .glo "setting_text", .glo "_law_called_then", .glo "_law_caught", .glo "_law_seed", .glo "_law_pick", .glo "_law_setting", .glo "_law_setting_text", .free "isinstance", .free "str", .free "int", .free "bool", .free "tuple", .free "len", .glo "ORDERS", .glo "NoText", .exc "NoText", .glo "NoSetting", .exc "NoSetting", .exm "NoSetting" "NoText" false, .exm "NoKey" "NoText" false, .exm "IsHeld" "NoText" false, .exm "NotHeld" "NoText" false, .exm "NoDeeds" "NoText" false]
def fa1 : List He.Fa := [.exm "NoCount" "NoText" false, .exm "NoText" "NoText" true, .glo "NoCount", .exc "NoCount", .exm "NoSetting" "NoCount" false, .exm "NoKey" "NoCount" false, .exm "IsHeld" "NoCount" false, .exm "NotHeld" "NoCount" false, .exm "NoDeeds" "NoCount" false, .exm "NoCount" "NoCount" true, .exm "NoText" "NoCount" false, .glo "NoDeeds", .exc "NoDeeds", .exm "NoSetting" "NoDeeds" false, .exm "NoKey" "NoDeeds" false, .exm "IsHeld" "NoDeeds" false, .exm "NotHeld" "NoDeeds" false, .exm "NoDeeds" "NoDeeds" true, .exm "NoCount" "NoDeeds" false, .exm "NoText" "NoDeeds" false, .exm "NoSetting" "NoSetting" true, .exm "NoKey" "NoSetting" false, .exm "IsHeld" "NoSetting" false, .exm "NotHeld" "NoSetting" false, .exm "NoDeeds" "NoSetting" false, .exm "NoCount" "NoSetting" false, .exm "NoText" "NoSetting" false, .glo "_law_cell", .glo "law"]
def fa : List He.Fa := fa0 ++ fa1
def ex (K : PySem.W.Frag) : Bool := He.tupB K "ORDERS" [.str "up", .str "down", .str "both", .str "bounce", .str "in", .str "thumb", .str "played"]
abbrev R0 : PySem.W.OpenRow := PySem.W.OpenLaw.row PySem.Challenge.rw_heldturns_k24_settings_written
abbrev hk : PySem.W.Hook := He.hookX 5 fa fn [] [] ex
def ob (s : PySem.W.SharedT) : He.AlX := He.obsX 5 fa fn [] [] ex (HandSHeadRun.getT s)
theorem ob_eq (s : PySem.W.SharedT) : ob s = hk.obs s.abs := He.obsX_eq (HandSHeadRun.getT_eq s)
def ls0 : List PySem.Str := ["_wall", "TurnsError", "NoSetting", "NoKey", "IsHeld", "NotHeld", "NoDeeds", "NoCount", "NoText", "ORDERS", "MOST_KEY", "SPAN", "is_within", "is_one", "is_setting", "look", "is_key", "inward", "in_order", "round_told", "Player", "MOST_TICK", "MOST_DEEDS", "is_deed", "are_deeds", "look_deeds", "do", "look_heard", "heard", "sounds"]
def ls1 : List PySem.Str := ["number_of", "setting_text", "read_setting", "Booth", "do_here", "such_moved", "such", "keys_higher", "ticks_later", "ticks_slower", "cut_out", "both_hands", "held_for", "MOST_TONE", "roll", "read_roll", "how_often", "fullest", "silences", "several", "_law_cell", "_law_seed", "_law_pick", "_law_setting", "_law_setting_text", "_law_called", "_law_called_then", "_law_caught"]
def loose : List PySem.Str := ls0 ++ ls1
theorem run (w : World) : HandSHeadRun.RunEq R0 (PySem.W.view R0.prog [69]) hk ob 40000 loose w := by
  intro os
  kernel_rfl
theorem tx_of {w : World} {K : PySem.W.Frag} {h : Heap} {mg : Str → Option Value} (X : K.In h) (G : h.Ns mainGlobals mg) (c : He.SaysX fa fn [] [] ex w h K) : Tx K mg := by
  have TUP0 : He.tupB K "ORDERS" [.str "up", .str "down", .str "both", .str "bounce", .str "in", .str "thumb", .str "played"] = true := c.more
  exact ⟨c.t.d.def_ 0 (d := hd__law_called) rfl,
    He.glo_ok X G (c.t.d.fact 0 (f := .glo "_law_called") rfl),
    c.t.d.def_ 1 (d := hd_is_one) rfl,
    He.glo_ok X G (c.t.d.fact 1 (f := .glo "is_one") rfl),
    c.t.d.def_ 2 (d := hd_is_within) rfl,
    He.glo_ok X G (c.t.d.fact 2 (f := .glo "is_within") rfl),
    c.t.d.def_ 3 (d := hd_is_setting) rfl,
    He.glo_ok X G (c.t.d.fact 3 (f := .glo "is_setting") rfl),
    c.t.d.def_ 4 (d := hd_number_of) rfl,
    He.glo_ok X G (c.t.d.fact 4 (f := .glo "number_of") rfl),
    c.t.d.def_ 5 (d := hd_read_setting) rfl,
    He.glo_ok X G (c.t.d.fact 5 (f := .glo "read_setting") rfl),
    c.t.d.def_ 6 (d := hd_look) rfl,
    He.glo_ok X G (c.t.d.fact 6 (f := .glo "look") rfl),
    c.t.d.def_ 7 (d := hd_setting_text) rfl,
    He.glo_ok X G (c.t.d.fact 7 (f := .glo "setting_text") rfl),
    c.t.d.def_ 8 (d := hd__law_called_then) rfl,
    He.glo_ok X G (c.t.d.fact 8 (f := .glo "_law_called_then") rfl),
    c.t.d.def_ 9 (d := hd__law_caught) rfl,
    He.glo_ok X G (c.t.d.fact 9 (f := .glo "_law_caught") rfl),
    c.t.d.def_ 10 (d := hd__law_seed) rfl,
    He.glo_ok X G (c.t.d.fact 10 (f := .glo "_law_seed") rfl),
    c.t.d.def_ 11 (d := hd__law_pick) rfl,
    He.glo_ok X G (c.t.d.fact 11 (f := .glo "_law_pick") rfl),
    c.t.d.def_ 12 (d := hd__law_setting) rfl,
    He.glo_ok X G (c.t.d.fact 12 (f := .glo "_law_setting") rfl),
    c.t.d.def_ 13 (d := hd__law_setting_text) rfl,
    He.glo_ok X G (c.t.d.fact 13 (f := .glo "_law_setting_text") rfl),
    He.free_ok X G (c.t.d.fact 14 (f := .free "isinstance") rfl),
    He.free_ok X G (c.t.d.fact 15 (f := .free "str") rfl),
    He.free_ok X G (c.t.d.fact 16 (f := .free "int") rfl),
    He.free_ok X G (c.t.d.fact 17 (f := .free "bool") rfl),
    He.free_ok X G (c.t.d.fact 18 (f := .free "tuple") rfl),
    He.free_ok X G (c.t.d.fact 19 (f := .free "len") rfl),
    He.glo_ok X G (c.t.d.fact 20 (f := .glo "ORDERS") rfl),
    fun F => He.tupB_ok (vs := [.str "up", .str "down", .str "both", .str "bounce", .str "in", .str "thumb", .str "played"]) (TUP0) F,
    exc_of (He.glo_ok X G (c.t.d.fact 21 (f := .glo "NoText") rfl)) (He.exc_ok (c.t.d.fact 22 (f := .exc "NoText") rfl)),
    exc_of (He.glo_ok X G (c.t.d.fact 23 (f := .glo "NoSetting") rfl)) (He.exc_ok (c.t.d.fact 24 (f := .exc "NoSetting") rfl)),
    (exmL (y := "NoText") ((ExmL.cons (He.exm_ok (c.t.d.fact 25 (f := .exm "NoSetting" "NoText" false) rfl))  (ExmL.cons (He.exm_ok (c.t.d.fact 26 (f := .exm "NoKey" "NoText" false) rfl))  (ExmL.cons (He.exm_ok (c.t.d.fact 27 (f := .exm "IsHeld" "NoText" false) rfl))  (ExmL.cons (He.exm_ok (c.t.d.fact 28 (f := .exm "NotHeld" "NoText" false) rfl))  (ExmL.cons (He.exm_ok (c.t.d.fact 29 (f := .exm "NoDeeds" "NoText" false) rfl))  (ExmL.cons (He.exm_ok (c.t.d.fact 30 (f := .exm "NoCount" "NoText" false) rfl))  (ExmL.cons (He.exm_ok (c.t.d.fact 31 (f := .exm "NoText" "NoText" true) rfl)) ExmL.nil))))))))),
    exc_of (He.glo_ok X G (c.t.d.fact 32 (f := .glo "NoCount") rfl)) (He.exc_ok (c.t.d.fact 33 (f := .exc "NoCount") rfl)),
    (exmL (y := "NoCount") ((ExmL.cons (He.exm_ok (c.t.d.fact 34 (f := .exm "NoSetting" "NoCount" false) rfl))  (ExmL.cons (He.exm_ok (c.t.d.fact 35 (f := .exm "NoKey" "NoCount" false) rfl))  (ExmL.cons (He.exm_ok (c.t.d.fact 36 (f := .exm "IsHeld" "NoCount" false) rfl))  (ExmL.cons (He.exm_ok (c.t.d.fact 37 (f := .exm "NotHeld" "NoCount" false) rfl))  (ExmL.cons (He.exm_ok (c.t.d.fact 38 (f := .exm "NoDeeds" "NoCount" false) rfl))  (ExmL.cons (He.exm_ok (c.t.d.fact 39 (f := .exm "NoCount" "NoCount" true) rfl))  (ExmL.cons (He.exm_ok (c.t.d.fact 40 (f := .exm "NoText" "NoCount" false) rfl)) ExmL.nil))))))))),
    exc_of (He.glo_ok X G (c.t.d.fact 41 (f := .glo "NoDeeds") rfl)) (He.exc_ok (c.t.d.fact 42 (f := .exc "NoDeeds") rfl)),
    (exmL (y := "NoDeeds") ((ExmL.cons (He.exm_ok (c.t.d.fact 43 (f := .exm "NoSetting" "NoDeeds" false) rfl))  (ExmL.cons (He.exm_ok (c.t.d.fact 44 (f := .exm "NoKey" "NoDeeds" false) rfl))  (ExmL.cons (He.exm_ok (c.t.d.fact 45 (f := .exm "IsHeld" "NoDeeds" false) rfl))  (ExmL.cons (He.exm_ok (c.t.d.fact 46 (f := .exm "NotHeld" "NoDeeds" false) rfl))  (ExmL.cons (He.exm_ok (c.t.d.fact 47 (f := .exm "NoDeeds" "NoDeeds" true) rfl))  (ExmL.cons (He.exm_ok (c.t.d.fact 48 (f := .exm "NoCount" "NoDeeds" false) rfl))  (ExmL.cons (He.exm_ok (c.t.d.fact 49 (f := .exm "NoText" "NoDeeds" false) rfl)) ExmL.nil))))))))),
    (exmL (y := "NoSetting") ((ExmL.cons (He.exm_ok (c.t.d.fact 50 (f := .exm "NoSetting" "NoSetting" true) rfl))  (ExmL.cons (He.exm_ok (c.t.d.fact 51 (f := .exm "NoKey" "NoSetting" false) rfl))  (ExmL.cons (He.exm_ok (c.t.d.fact 52 (f := .exm "IsHeld" "NoSetting" false) rfl))  (ExmL.cons (He.exm_ok (c.t.d.fact 53 (f := .exm "NotHeld" "NoSetting" false) rfl))  (ExmL.cons (He.exm_ok (c.t.d.fact 54 (f := .exm "NoDeeds" "NoSetting" false) rfl))  (ExmL.cons (He.exm_ok (c.t.d.fact 55 (f := .exm "NoCount" "NoSetting" false) rfl))  (ExmL.cons (He.exm_ok (c.t.d.fact 56 (f := .exm "NoText" "NoSetting" false) rfl)) ExmL.nil))))))))),
    c.t.d.def_ 15 (d := hd_cell) rfl,
    He.glo_ok X G (c.t.d.fact 57 (f := .glo "_law_cell") rfl)⟩
end Gn

set_option maxRecDepth 100000
set_option maxHeartbeats 1000000
namespace Pc
open PySem L2
/-! ### typed things -/
class Nc (α : Type) where
  enc : α → D
abbrev enc {α : Type} [Nc α] (a : α) : D := Nc.enc a
structure T1 (α : Type) where
  a : α
deriving DecidableEq
structure T2 (α β : Type) where
  a : α
  b : β
deriving DecidableEq
structure T3 (α β γ : Type) where
  a : α
  b : β
  c : γ
deriving DecidableEq
structure T4 (α β γ δ : Type) where
  a : α
  b : β
  c : γ
  d : δ
deriving DecidableEq
structure T5 (α β γ δ ε : Type) where
  a : α
  b : β
  c : γ
  d : δ
  e : ε
deriving DecidableEq
structure T6 (α β γ δ ε ζ : Type) where
  a : α
  b : β
  c : γ
  d : δ
  e : ε
  f : ζ
deriving DecidableEq
structure T7 (α β γ δ ε ζ η : Type) where
  a : α
  b : β
  c : γ
  d : δ
  e : ε
  f : ζ
  g : η
deriving DecidableEq
/-- a tuple of alike things -/
structure Tl (α : Type) where
  l : List α
deriving DecidableEq
/-- a dict -/
structure Dc (κ α : Type) where
  l : List (κ × α)
section
variable {α β γ δ ε ζ η : Type} [Nc α] [Nc β] [Nc γ] [Nc δ] [Nc ε] [Nc ζ] [Nc η]
instance ncI : Nc Int := ⟨.int⟩
instance ncB : Nc Bool := ⟨.bool⟩
instance ncS : Nc Str := ⟨.str⟩
instance ncD : Nc D := ⟨id⟩
instance ncU : Nc Unit := ⟨fun _ => .none⟩
instance ncL : Nc (List α) := ⟨fun l => .list (l.map enc)⟩
instance ncO : Nc (Option α) := ⟨fun o => match o with
  | none => .none
  | some a => enc a⟩
instance nc1 : Nc (T1 α) := ⟨fun t => .tuple [enc t.a]⟩
instance nc2 : Nc (T2 α β) := ⟨fun t => .tuple [enc t.a, enc t.b]⟩
instance nc3 : Nc (T3 α β γ) := ⟨fun t => .tuple [enc t.a, enc t.b, enc t.c]⟩
instance nc4 : Nc (T4 α β γ δ) := ⟨fun t => .tuple [enc t.a, enc t.b, enc t.c, enc t.d]⟩
instance nc5 : Nc (T5 α β γ δ ε) := ⟨fun t => .tuple [enc t.a, enc t.b, enc t.c, enc t.d, enc t.e]⟩
instance nc6 : Nc (T6 α β γ δ ε ζ) := ⟨fun t => .tuple [enc t.a, enc t.b, enc t.c, enc t.d, enc t.e, enc t.f]⟩
instance nc7 : Nc (T7 α β γ δ ε ζ η) := ⟨fun t => .tuple [enc t.a, enc t.b, enc t.c, enc t.d, enc t.e, enc t.f, enc t.g]⟩
instance ncTl : Nc (Tl α) := ⟨fun t => .tuple (t.l.map enc)⟩
instance ncDc {κ : Type} [Nc κ] : Nc (Dc κ α) := ⟨fun t => .dict (t.l.map fun q => (enc q.1, enc q.2))⟩
end
/-! ### a value is as the typed one; stuck says nothing -/
def Rg {α β : Type} (e : α → β) (p : P β) (t : P α) : Prop := match t with
  | .ok a => p = .ok (e a)
  | .exc c => p = .exc c
  | .stuck => True
abbrev Rp {α : Type} [Nc α] (p : P D) (t : P α) : Prop := Rg enc p t
abbrev Rb (p t : P Bool) : Prop := Rg id p t
abbrev Ro (p t : P (Option Int)) : Prop := Rg id p t
abbrev Rh {α : Type} [Nc α] (p : P (List D)) (t : P (List α)) : Prop := Rg (List.map enc) p t
theorem rg_self {α : Type} (p : P α) : Rg id p p := by cases p <;> first | rfl | trivial
theorem rp_self (p : P D) : Rp p p := by cases p <;> first | rfl | trivial
theorem Rg.bind {α β α' β' : Type} {e : α → β} {e' : α' → β'} {p : P β} {t : P α} {f : β → P β'} {g : α → P α'} (h : Rg e p t) (k : ∀ x, Rg e' (f (e x)) (g x)) : Rg e' (p.bind f) (t.bind g) := by
  cases t with
  | ok a => have h' : p = .ok (e a) := h; subst h'; exact k a
  | exc c => have h' : p = .exc c := h; subst h'; exact rfl
  | stuck => trivial
theorem bnd_ok {α β : Type} (a : α) (f : α → P β) : (P.ok a).bind f = f a := (rfl)
theorem bind_as {α β γ : Type} (p : P α) (f : α → P β) (g : β → P γ) : (p.bind f).bind g = p.bind fun x => (f x).bind g := by cases p <;> rfl
theorem bind_id {α : Type} (p : P α) : (p.bind fun x => .ok x) = p := by cases p <;> rfl
theorem bind_ite {α β : Type} (c : Prop) [Decidable c] (p q : P α) (g : α → P β) : (if c then p else q).bind g = if c then p.bind g else q.bind g := by split <;> rfl
section
variable {α β γ δ ε ζ η τ : Type} [Nc α] [Nc β] [Nc γ] [Nc δ] [Nc ε] [Nc ζ] [Nc η] [Nc τ] {ρ : En} {ma mb mc md me mf mg m : En → P D} {ml : En → P (List D)} {mt ms : En → P Bool}
  {ta : P α} {tb : P β} {tc : P γ} {td : P δ} {te : P ε} {tf : P ζ} {tg : P η}
theorem y_var {i : Nat} (a : α) (h : getS ρ i = .ok (enc a) := by rfl) : Rp (mVar i ρ) (.ok a) := h
theorem y_C {d : D} (a : α) (h : d = enc a := by rfl) : Rp (mC d ρ) (.ok a) := congrArg P.ok h
theorem y_2 {f : D → D → Option D} {g : α → β → P γ} (hf : ∀ x y, Rp (.ofO (f (enc x) (enc y))) (g x y)) (ha : Rp (ma ρ) ta) (hb : Rp (mb ρ) tb) : Rp (m2 f ma mb ρ) (ta.bind fun x => tb.bind fun y => g x y) :=
  Rg.bind ha fun x => Rg.bind hb fun y => hf x y
/-- the second one a constant -/
theorem y_2c {f : D → D → Option D} {d : D} {g : α → P γ} (hf : ∀ x, Rp (.ofO (f (enc x) d)) (g x)) (ha : Rp (ma ρ) ta) : Rp (m2 f ma (mC d) ρ) (ta.bind g) := Rg.bind ha fun x => hf x
/-- the first one a constant -/
theorem y_c2 {f : D → D → Option D} {d : D} {g : α → P γ} (hf : ∀ x, Rp (.ofO (f d (enc x))) (g x)) (ha : Rp (ma ρ) ta) : Rp (m2 f (mC d) ma ρ) (ta.bind g) := Rg.bind (p := ma ρ) (f := fun y => .ofO (f d y)) ha fun x => hf x
theorem y_1 {f : D → Option D} {g : α → P γ} (hf : ∀ x, Rp (.ofO (f (enc x))) (g x)) (ha : Rp (ma ρ) ta) : Rp (m1 f ma ρ) (ta.bind g) := Rg.bind ha fun x => hf x
theorem rb_bool {p : P Bool} {t : P Bool} (h : Rb p t) : Rp (p.bind fun b => .ok (.bool b)) t := by
  cases t with
  | ok a => have h' : p = .ok a := h; subst h'; rfl
  | exc c => have h' : p = .exc c := h; subst h'; rfl
  | stuck => trivial
theorem y_cmp {f : D → D → Option Bool} {g : α → β → P Bool} (hf : ∀ x y, Rb (.ofO (f (enc x) (enc y))) (g x y)) (ha : Rp (ma ρ) ta) (hb : Rp (mb ρ) tb) : Rb (tCmp f ma mb ρ) (ta.bind fun x => tb.bind fun y => g x y) :=
  Rg.bind ha fun x => Rg.bind hb fun y => hf x y
theorem y_vcmp {f : D → D → Option Bool} {g : α → β → P Bool} (hf : ∀ x y, Rb (.ofO (f (enc x) (enc y))) (g x y)) (ha : Rp (ma ρ) ta) (hb : Rp (mb ρ) tb) : Rp (mCmp f ma mb ρ) (ta.bind fun x => tb.bind fun y => g x y) :=
  Rg.bind ha fun x => Rg.bind hb fun y => rb_bool (hf x y)
theorem y_cmpc {f : D → D → Option Bool} {d : D} {g : α → P Bool} (hf : ∀ x, Rb (.ofO (f (enc x) d)) (g x)) (ha : Rp (ma ρ) ta) : Rb (tCmp f ma (mC d) ρ) (ta.bind g) := Rg.bind ha fun x => hf x
theorem y_vcmpc {f : D → D → Option Bool} {d : D} {g : α → P Bool} (hf : ∀ x, Rb (.ofO (f (enc x) d)) (g x)) (ha : Rp (ma ρ) ta) : Rp (mCmp f ma (mC d) ρ) (ta.bind g) := Rg.bind ha fun x => rb_bool (hf x)
theorem y_tru {g : α → P Bool} (hf : ∀ x, Rb (.ofO (truO (enc x))) (g x)) (ha : Rp (ma ρ) ta) : Rb (tTru ma ρ) (ta.bind g) := Rg.bind ha fun x => hf x
theorem y_not {t : P Bool} (h : Rb (mt ρ) t) : Rb (tNot mt ρ) (t.bind fun b => .ok (!b)) := Rg.bind h fun _ => rfl
theorem y_vnot {g : α → P Bool} (hf : ∀ x, Rb (.ofO (truO (enc x))) (g x)) (ha : Rp (ma ρ) ta) : Rp (mNot ma ρ) (ta.bind fun x => (g x).bind fun b => .ok (!b)) :=
  Rg.bind ha fun x => Rg.bind (e' := (enc : Bool → D)) (hf x) fun _ => rfl
theorem y_and {t s : P Bool} (h : Rb (mt ρ) t) (h2 : Rb (ms ρ) s) : Rb (andB mt ms ρ) (t.bind fun b => if b = true then s else .ok false) := by
  refine Rg.bind h fun b => ?_
  cases b
  · exact rfl
  · exact h2
theorem y_or {t s : P Bool} (h : Rb (mt ρ) t) (h2 : Rb (ms ρ) s) : Rb (orB mt ms ρ) (t.bind fun b => if b = true then .ok true else s) := by
  refine Rg.bind h fun b => ?_
  cases b
  · exact h2
  · exact rfl
theorem y_and1 {a b : Bool} (h : Rb (mt ρ) (.ok a)) (h2 : Rb (ms ρ) (.ok b)) : Rb (andB mt ms ρ) (.ok (a && b)) := by
  have h' := y_and h h2
  cases a <;> exact h'
theorem y_or1 {a b : Bool} (h : Rb (mt ρ) (.ok a)) (h2 : Rb (ms ρ) (.ok b)) : Rb (orB mt ms ρ) (.ok (a || b)) := by
  have h' := y_or h h2
  cases a <;> exact h'
theorem y_vand {t s : P Bool} (h : Rp (ma ρ) t) (h2 : Rp (mb ρ) s) : Rp (andV ma mb ρ) (t.bind fun b => if b = true then s else .ok false) := by
  refine Rg.bind h fun b => ?_
  cases b
  · exact rfl
  · exact h2
theorem y_vor {t s : P Bool} (h : Rp (ma ρ) t) (h2 : Rp (mb ρ) s) : Rp (orV ma mb ρ) (t.bind fun b => if b = true then .ok true else s) := by
  refine Rg.bind h fun b => ?_
  cases b
  · exact h2
  · exact rfl
theorem y_vand1 {a b : Bool} (h : Rp (ma ρ) (.ok a)) (h2 : Rp (mb ρ) (.ok b)) : Rp (andV ma mb ρ) (.ok (a && b)) := by
  have h' := y_vand h h2
  cases a <;> exact h'
theorem y_vor1 {a b : Bool} (h : Rp (ma ρ) (.ok a)) (h2 : Rp (mb ρ) (.ok b)) : Rp (orV ma mb ρ) (.ok (a || b)) := by
  have h' := y_vor h h2
  cases a <;> exact h'
theorem y_if {t : P Bool} {sa sb : P α} (h : Rb (mt ρ) t) (ha : Rp (ma ρ) sa) (hb : Rp (mb ρ) sb) : Rp (ifD mt ma mb ρ) (t.bind fun b => if b = true then sa else sb) := by
  refine Rg.bind h fun b => ?_
  cases b
  · exact hb
  · exact ha
theorem y_if1 {t : P Bool} {a b : α} (h : Rb (mt ρ) t) (ha : Rp (ma ρ) (.ok a)) (hb : Rp (mb ρ) (.ok b)) : Rp (ifD mt ma mb ρ) (t.bind fun c => .ok (if c = true then a else b)) := by
  refine Rg.bind h fun c => ?_
  cases c
  · exact hb
  · exact ha
theorem y_chain {f g : D → D → Option Bool} {gf : α → β → P Bool} {gg : β → γ → P Bool} (hf : ∀ x y, Rb (.ofO (f (enc x) (enc y))) (gf x y)) (hg : ∀ x y, Rb (.ofO (g (enc x) (enc y))) (gg x y)) (ha : Rp (ma ρ) ta) (hb : Rp (mb ρ) tb) (hc : Rp (mc ρ) tc) :
    Rb (chainB f g ma mb mc ρ) (ta.bind fun x => tb.bind fun y => (gf x y).bind fun t => if t = true then tc.bind fun z => gg y z else .ok false) := by
  refine Rg.bind ha fun x => Rg.bind hb fun y => Rg.bind (hf x y) fun t => ?_
  cases t
  · exact rfl
  · exact Rg.bind hc fun z => hg y z
theorem y_chain1 {f g : D → D → Option Bool} {gf : α → β → Bool} {gg : β → γ → Bool} {a : α} {b : β} {c : γ} (hf : ∀ x y, Rb (.ofO (f (enc x) (enc y))) (.ok (gf x y))) (hg : ∀ x y, Rb (.ofO (g (enc x) (enc y))) (.ok (gg x y))) (ha : Rp (ma ρ) (.ok a)) (hb : Rp (mb ρ) (.ok b)) (hc : Rp (mc ρ) (.ok c)) :
    Rb (chainB f g ma mb mc ρ) (.ok (gf a b && gg b c)) := by
  have h := y_chain hf hg ha hb hc
  have h' : Rb (chainB f g ma mb mc ρ) (if gf a b = true then .ok (gg b c) else .ok false) := h
  cases e : gf a b
  · rw [e] at h'; exact h'
  · rw [e] at h'; exact h'
theorem y_asB {t : P Bool} (h : Rb (mt ρ) t) : Rp (asBool mt ρ) t := rb_bool h
/-! rows of arguments -/
theorem y_hnil : Rh (α := α) (mNil ρ) (.ok []) := rfl
theorem y_hcons {tl : P (List α)} (ha : Rp (ma ρ) ta) (hl : Rh (ml ρ) tl) : Rh (consM ma ml ρ) (ta.bind fun x => tl.bind fun l => .ok (x :: l)) := Rg.bind ha fun _ => Rg.bind hl fun _ => rfl
theorem y_lst {tl : P (List α)} (hl : Rh (ml ρ) tl) : Rp (mLst ml ρ) tl := by
  cases tl with
  | ok a => have h' : ml ρ = .ok (a.map enc) := hl; show (ml ρ).bind _ = _; rw [h']; rfl
  | exc c => have h' : ml ρ = .exc c := hl; show (ml ρ).bind _ = _; rw [h']; rfl
  | stuck => trivial
theorem y_tl {tl : P (List α)} (hl : Rh (ml ρ) tl) : Rp (mTup ml ρ) (tl.bind fun l => .ok (Tl.mk l)) := Rg.bind hl fun _ => rfl
/-- a list of things of any kind -/
theorem y_dnil : Rh (mNil ρ) (.ok ([] : List D)) := rfl
theorem y_dcons {tl : P (List D)} (ha : Rp (ma ρ) ta) (hl : Rh (ml ρ) tl) : Rh (consM ma ml ρ) (ta.bind fun x => tl.bind fun l => .ok (enc x :: l)) := Rg.bind ha fun _ => Rg.bind hl fun _ => rfl
/-- as a thing of any kind -/
theorem y_D (ha : Rp (ma ρ) ta) : Rp (ma ρ) (ta.bind fun x => .ok (enc x)) := by
  cases ta with
  | ok a => exact ha
  | exc c => exact ha
  | stuck => trivial
theorem y_some (ha : Rp (ma ρ) ta) : Rp (ma ρ) (ta.bind fun x => .ok (some x)) := by
  cases ta with
  | ok a => exact ha
  | exc c => exact ha
  | stuck => trivial
theorem args_cons {h : List D → P D} : ((consM ma ml) ρ).bind h = (ma ρ).bind fun x => (ml ρ).bind fun xs => h (x :: xs) := by
  show ((ma ρ).bind fun x => (ml ρ).bind fun xs => .ok (x :: xs)).bind h = _
  cases ma ρ with
  | ok a => cases ml ρ <;> rfl
  | exc c => rfl
  | stuck => rfl
theorem y_a0 {h : List D → P D} {g : P τ} (hh : Rp (h []) g) : Rp ((mNil ρ).bind h) g := hh
theorem y_a1 {h : List D → P D} {g : α → P τ} (hh : ∀ x0, Rp (h [enc x0]) (g x0)) (ha : Rp (ma ρ) ta) : Rp (((consM ma mNil) ρ).bind h) (ta.bind fun x0 => g x0) := by
  rw [args_cons]
  refine Rg.bind ha fun x0 => ?_
  exact y_a0 (h := fun xs => h (enc x0 :: xs)) (hh x0)
theorem y_F1 {h : List D → P D} {g : α → P τ} (hh : ∀ x0, Rp (h [enc x0]) (g x0)) (ha : Rp (ma ρ) ta) : Rp (mF h (consM ma mNil) ρ) (ta.bind fun x0 => g x0) := y_a1 hh ha
theorem y_B1 {f : List D → Option D} {g : α → P τ} (hh : ∀ x0, Rp (.ofO (f [enc x0])) (g x0)) (ha : Rp (ma ρ) ta) : Rp (mB f (consM ma mNil) ρ) (ta.bind fun x0 => g x0) := y_a1 (h := fun xs => .ofO (f xs)) hh ha
theorem y_t1 (ha : Rp (ma ρ) ta) : Rp (mTup (consM ma mNil) ρ) (ta.bind fun x0 => .ok (T1.mk x0)) := y_a1 (h := fun xs => .ok (.tuple xs)) (g := fun x0 => .ok (T1.mk x0)) (fun _ => rfl) ha
theorem y_a2 {h : List D → P D} {g : α → β → P τ} (hh : ∀ x0 x1, Rp (h [enc x0, enc x1]) (g x0 x1)) (ha : Rp (ma ρ) ta) (hb : Rp (mb ρ) tb) : Rp (((consM ma (consM mb mNil)) ρ).bind h) (ta.bind fun x0 => tb.bind fun x1 => g x0 x1) := by
  rw [args_cons]
  refine Rg.bind ha fun x0 => ?_
  exact y_a1 (h := fun xs => h (enc x0 :: xs)) (fun x1 => hh x0 x1) hb
theorem y_F2 {h : List D → P D} {g : α → β → P τ} (hh : ∀ x0 x1, Rp (h [enc x0, enc x1]) (g x0 x1)) (ha : Rp (ma ρ) ta) (hb : Rp (mb ρ) tb) : Rp (mF h (consM ma (consM mb mNil)) ρ) (ta.bind fun x0 => tb.bind fun x1 => g x0 x1) := y_a2 hh ha hb
theorem y_B2 {f : List D → Option D} {g : α → β → P τ} (hh : ∀ x0 x1, Rp (.ofO (f [enc x0, enc x1])) (g x0 x1)) (ha : Rp (ma ρ) ta) (hb : Rp (mb ρ) tb) : Rp (mB f (consM ma (consM mb mNil)) ρ) (ta.bind fun x0 => tb.bind fun x1 => g x0 x1) := y_a2 (h := fun xs => .ofO (f xs)) hh ha hb
theorem y_t2 (ha : Rp (ma ρ) ta) (hb : Rp (mb ρ) tb) : Rp (mTup (consM ma (consM mb mNil)) ρ) (ta.bind fun x0 => tb.bind fun x1 => .ok (T2.mk x0 x1)) := y_a2 (h := fun xs => .ok (.tuple xs)) (g := fun x0 x1 => .ok (T2.mk x0 x1)) (fun _ _ => rfl) ha hb
theorem y_a3 {h : List D → P D} {g : α → β → γ → P τ} (hh : ∀ x0 x1 x2, Rp (h [enc x0, enc x1, enc x2]) (g x0 x1 x2)) (ha : Rp (ma ρ) ta) (hb : Rp (mb ρ) tb) (hc : Rp (mc ρ) tc) : Rp (((consM ma (consM mb (consM mc mNil))) ρ).bind h) (ta.bind fun x0 => tb.bind fun x1 => tc.bind fun x2 => g x0 x1 x2) := by
  rw [args_cons]
  refine Rg.bind ha fun x0 => ?_
  exact y_a2 (h := fun xs => h (enc x0 :: xs)) (fun x1 x2 => hh x0 x1 x2) hb hc
theorem y_F3 {h : List D → P D} {g : α → β → γ → P τ} (hh : ∀ x0 x1 x2, Rp (h [enc x0, enc x1, enc x2]) (g x0 x1 x2)) (ha : Rp (ma ρ) ta) (hb : Rp (mb ρ) tb) (hc : Rp (mc ρ) tc) : Rp (mF h (consM ma (consM mb (consM mc mNil))) ρ) (ta.bind fun x0 => tb.bind fun x1 => tc.bind fun x2 => g x0 x1 x2) := y_a3 hh ha hb hc
theorem y_B3 {f : List D → Option D} {g : α → β → γ → P τ} (hh : ∀ x0 x1 x2, Rp (.ofO (f [enc x0, enc x1, enc x2])) (g x0 x1 x2)) (ha : Rp (ma ρ) ta) (hb : Rp (mb ρ) tb) (hc : Rp (mc ρ) tc) : Rp (mB f (consM ma (consM mb (consM mc mNil))) ρ) (ta.bind fun x0 => tb.bind fun x1 => tc.bind fun x2 => g x0 x1 x2) := y_a3 (h := fun xs => .ofO (f xs)) hh ha hb hc
theorem y_t3 (ha : Rp (ma ρ) ta) (hb : Rp (mb ρ) tb) (hc : Rp (mc ρ) tc) : Rp (mTup (consM ma (consM mb (consM mc mNil))) ρ) (ta.bind fun x0 => tb.bind fun x1 => tc.bind fun x2 => .ok (T3.mk x0 x1 x2)) := y_a3 (h := fun xs => .ok (.tuple xs)) (g := fun x0 x1 x2 => .ok (T3.mk x0 x1 x2)) (fun _ _ _ => rfl) ha hb hc
theorem y_a4 {h : List D → P D} {g : α → β → γ → δ → P τ} (hh : ∀ x0 x1 x2 x3, Rp (h [enc x0, enc x1, enc x2, enc x3]) (g x0 x1 x2 x3)) (ha : Rp (ma ρ) ta) (hb : Rp (mb ρ) tb) (hc : Rp (mc ρ) tc) (hd : Rp (md ρ) td) : Rp (((consM ma (consM mb (consM mc (consM md mNil)))) ρ).bind h) (ta.bind fun x0 => tb.bind fun x1 => tc.bind fun x2 => td.bind fun x3 => g x0 x1 x2 x3) := by
  rw [args_cons]
  refine Rg.bind ha fun x0 => ?_
  exact y_a3 (h := fun xs => h (enc x0 :: xs)) (fun x1 x2 x3 => hh x0 x1 x2 x3) hb hc hd
theorem y_F4 {h : List D → P D} {g : α → β → γ → δ → P τ} (hh : ∀ x0 x1 x2 x3, Rp (h [enc x0, enc x1, enc x2, enc x3]) (g x0 x1 x2 x3)) (ha : Rp (ma ρ) ta) (hb : Rp (mb ρ) tb) (hc : Rp (mc ρ) tc) (hd : Rp (md ρ) td) : Rp (mF h (consM ma (consM mb (consM mc (consM md mNil)))) ρ) (ta.bind fun x0 => tb.bind fun x1 => tc.bind fun x2 => td.bind fun x3 => g x0 x1 x2 x3) := y_a4 hh ha hb hc hd
theorem y_B4 {f : List D → Option D} {g : α → β → γ → δ → P τ} (hh : ∀ x0 x1 x2 x3, Rp (.ofO (f [enc x0, enc x1, enc x2, enc x3])) (g x0 x1 x2 x3)) (ha : Rp (ma ρ) ta) (hb : Rp (mb ρ) tb) (hc : Rp (mc ρ) tc) (hd : Rp (md ρ) td) : Rp (mB f (consM ma (consM mb (consM mc (consM md mNil)))) ρ) (ta.bind fun x0 => tb.bind fun x1 => tc.bind fun x2 => td.bind fun x3 => g x0 x1 x2 x3) := y_a4 (h := fun xs => .ofO (f xs)) hh ha hb hc hd
theorem y_t4 (ha : Rp (ma ρ) ta) (hb : Rp (mb ρ) tb) (hc : Rp (mc ρ) tc) (hd : Rp (md ρ) td) : Rp (mTup (consM ma (consM mb (consM mc (consM md mNil)))) ρ) (ta.bind fun x0 => tb.bind fun x1 => tc.bind fun x2 => td.bind fun x3 => .ok (T4.mk x0 x1 x2 x3)) := y_a4 (h := fun xs => .ok (.tuple xs)) (g := fun x0 x1 x2 x3 => .ok (T4.mk x0 x1 x2 x3)) (fun _ _ _ _ => rfl) ha hb hc hd
theorem y_a5 {h : List D → P D} {g : α → β → γ → δ → ε → P τ} (hh : ∀ x0 x1 x2 x3 x4, Rp (h [enc x0, enc x1, enc x2, enc x3, enc x4]) (g x0 x1 x2 x3 x4)) (ha : Rp (ma ρ) ta) (hb : Rp (mb ρ) tb) (hc : Rp (mc ρ) tc) (hd : Rp (md ρ) td) (he : Rp (me ρ) te) : Rp (((consM ma (consM mb (consM mc (consM md (consM me mNil))))) ρ).bind h) (ta.bind fun x0 => tb.bind fun x1 => tc.bind fun x2 => td.bind fun x3 => te.bind fun x4 => g x0 x1 x2 x3 x4) := by
  rw [args_cons]
  refine Rg.bind ha fun x0 => ?_
  exact y_a4 (h := fun xs => h (enc x0 :: xs)) (fun x1 x2 x3 x4 => hh x0 x1 x2 x3 x4) hb hc hd he
theorem y_F5 {h : List D → P D} {g : α → β → γ → δ → ε → P τ} (hh : ∀ x0 x1 x2 x3 x4, Rp (h [enc x0, enc x1, enc x2, enc x3, enc x4]) (g x0 x1 x2 x3 x4)) (ha : Rp (ma ρ) ta) (hb : Rp (mb ρ) tb) (hc : Rp (mc ρ) tc) (hd : Rp (md ρ) td) (he : Rp (me ρ) te) : Rp (mF h (consM ma (consM mb (consM mc (consM md (consM me mNil))))) ρ) (ta.bind fun x0 => tb.bind fun x1 => tc.bind fun x2 => td.bind fun x3 => te.bind fun x4 => g x0 x1 x2 x3 x4) := y_a5 hh ha hb hc hd he
theorem y_B5 {f : List D → Option D} {g : α → β → γ → δ → ε → P τ} (hh : ∀ x0 x1 x2 x3 x4, Rp (.ofO (f [enc x0, enc x1, enc x2, enc x3, enc x4])) (g x0 x1 x2 x3 x4)) (ha : Rp (ma ρ) ta) (hb : Rp (mb ρ) tb) (hc : Rp (mc ρ) tc) (hd : Rp (md ρ) td) (he : Rp (me ρ) te) : Rp (mB f (consM ma (consM mb (consM mc (consM md (consM me mNil))))) ρ) (ta.bind fun x0 => tb.bind fun x1 => tc.bind fun x2 => td.bind fun x3 => te.bind fun x4 => g x0 x1 x2 x3 x4) := y_a5 (h := fun xs => .ofO (f xs)) hh ha hb hc hd he
theorem y_t5 (ha : Rp (ma ρ) ta) (hb : Rp (mb ρ) tb) (hc : Rp (mc ρ) tc) (hd : Rp (md ρ) td) (he : Rp (me ρ) te) : Rp (mTup (consM ma (consM mb (consM mc (consM md (consM me mNil))))) ρ) (ta.bind fun x0 => tb.bind fun x1 => tc.bind fun x2 => td.bind fun x3 => te.bind fun x4 => .ok (T5.mk x0 x1 x2 x3 x4)) := y_a5 (h := fun xs => .ok (.tuple xs)) (g := fun x0 x1 x2 x3 x4 => .ok (T5.mk x0 x1 x2 x3 x4)) (fun _ _ _ _ _ => rfl) ha hb hc hd he
theorem y_a6 {h : List D → P D} {g : α → β → γ → δ → ε → ζ → P τ} (hh : ∀ x0 x1 x2 x3 x4 x5, Rp (h [enc x0, enc x1, enc x2, enc x3, enc x4, enc x5]) (g x0 x1 x2 x3 x4 x5)) (ha : Rp (ma ρ) ta) (hb : Rp (mb ρ) tb) (hc : Rp (mc ρ) tc) (hd : Rp (md ρ) td) (he : Rp (me ρ) te) (hf : Rp (mf ρ) tf) : Rp (((consM ma (consM mb (consM mc (consM md (consM me (consM mf mNil)))))) ρ).bind h) (ta.bind fun x0 => tb.bind fun x1 => tc.bind fun x2 => td.bind fun x3 => te.bind fun x4 => tf.bind fun x5 => g x0 x1 x2 x3 x4 x5) := by
  rw [args_cons]
  refine Rg.bind ha fun x0 => ?_
  exact y_a5 (h := fun xs => h (enc x0 :: xs)) (fun x1 x2 x3 x4 x5 => hh x0 x1 x2 x3 x4 x5) hb hc hd he hf
theorem y_F6 {h : List D → P D} {g : α → β → γ → δ → ε → ζ → P τ} (hh : ∀ x0 x1 x2 x3 x4 x5, Rp (h [enc x0, enc x1, enc x2, enc x3, enc x4, enc x5]) (g x0 x1 x2 x3 x4 x5)) (ha : Rp (ma ρ) ta) (hb : Rp (mb ρ) tb) (hc : Rp (mc ρ) tc) (hd : Rp (md ρ) td) (he : Rp (me ρ) te) (hf : Rp (mf ρ) tf) : Rp (mF h (consM ma (consM mb (consM mc (consM md (consM me (consM mf mNil)))))) ρ) (ta.bind fun x0 => tb.bind fun x1 => tc.bind fun x2 => td.bind fun x3 => te.bind fun x4 => tf.bind fun x5 => g x0 x1 x2 x3 x4 x5) := y_a6 hh ha hb hc hd he hf
theorem y_B6 {f : List D → Option D} {g : α → β → γ → δ → ε → ζ → P τ} (hh : ∀ x0 x1 x2 x3 x4 x5, Rp (.ofO (f [enc x0, enc x1, enc x2, enc x3, enc x4, enc x5])) (g x0 x1 x2 x3 x4 x5)) (ha : Rp (ma ρ) ta) (hb : Rp (mb ρ) tb) (hc : Rp (mc ρ) tc) (hd : Rp (md ρ) td) (he : Rp (me ρ) te) (hf : Rp (mf ρ) tf) : Rp (mB f (consM ma (consM mb (consM mc (consM md (consM me (consM mf mNil)))))) ρ) (ta.bind fun x0 => tb.bind fun x1 => tc.bind fun x2 => td.bind fun x3 => te.bind fun x4 => tf.bind fun x5 => g x0 x1 x2 x3 x4 x5) := y_a6 (h := fun xs => .ofO (f xs)) hh ha hb hc hd he hf
theorem y_t6 (ha : Rp (ma ρ) ta) (hb : Rp (mb ρ) tb) (hc : Rp (mc ρ) tc) (hd : Rp (md ρ) td) (he : Rp (me ρ) te) (hf : Rp (mf ρ) tf) : Rp (mTup (consM ma (consM mb (consM mc (consM md (consM me (consM mf mNil)))))) ρ) (ta.bind fun x0 => tb.bind fun x1 => tc.bind fun x2 => td.bind fun x3 => te.bind fun x4 => tf.bind fun x5 => .ok (T6.mk x0 x1 x2 x3 x4 x5)) := y_a6 (h := fun xs => .ok (.tuple xs)) (g := fun x0 x1 x2 x3 x4 x5 => .ok (T6.mk x0 x1 x2 x3 x4 x5)) (fun _ _ _ _ _ _ => rfl) ha hb hc hd he hf
theorem y_a7 {h : List D → P D} {g : α → β → γ → δ → ε → ζ → η → P τ} (hh : ∀ x0 x1 x2 x3 x4 x5 x6, Rp (h [enc x0, enc x1, enc x2, enc x3, enc x4, enc x5, enc x6]) (g x0 x1 x2 x3 x4 x5 x6)) (ha : Rp (ma ρ) ta) (hb : Rp (mb ρ) tb) (hc : Rp (mc ρ) tc) (hd : Rp (md ρ) td) (he : Rp (me ρ) te) (hf : Rp (mf ρ) tf) (hg : Rp (mg ρ) tg) : Rp (((consM ma (consM mb (consM mc (consM md (consM me (consM mf (consM mg mNil))))))) ρ).bind h) (ta.bind fun x0 => tb.bind fun x1 => tc.bind fun x2 => td.bind fun x3 => te.bind fun x4 => tf.bind fun x5 => tg.bind fun x6 => g x0 x1 x2 x3 x4 x5 x6) := by
  rw [args_cons]
  refine Rg.bind ha fun x0 => ?_
  exact y_a6 (h := fun xs => h (enc x0 :: xs)) (fun x1 x2 x3 x4 x5 x6 => hh x0 x1 x2 x3 x4 x5 x6) hb hc hd he hf hg
theorem y_F7 {h : List D → P D} {g : α → β → γ → δ → ε → ζ → η → P τ} (hh : ∀ x0 x1 x2 x3 x4 x5 x6, Rp (h [enc x0, enc x1, enc x2, enc x3, enc x4, enc x5, enc x6]) (g x0 x1 x2 x3 x4 x5 x6)) (ha : Rp (ma ρ) ta) (hb : Rp (mb ρ) tb) (hc : Rp (mc ρ) tc) (hd : Rp (md ρ) td) (he : Rp (me ρ) te) (hf : Rp (mf ρ) tf) (hg : Rp (mg ρ) tg) : Rp (mF h (consM ma (consM mb (consM mc (consM md (consM me (consM mf (consM mg mNil))))))) ρ) (ta.bind fun x0 => tb.bind fun x1 => tc.bind fun x2 => td.bind fun x3 => te.bind fun x4 => tf.bind fun x5 => tg.bind fun x6 => g x0 x1 x2 x3 x4 x5 x6) := y_a7 hh ha hb hc hd he hf hg
theorem y_B7 {f : List D → Option D} {g : α → β → γ → δ → ε → ζ → η → P τ} (hh : ∀ x0 x1 x2 x3 x4 x5 x6, Rp (.ofO (f [enc x0, enc x1, enc x2, enc x3, enc x4, enc x5, enc x6])) (g x0 x1 x2 x3 x4 x5 x6)) (ha : Rp (ma ρ) ta) (hb : Rp (mb ρ) tb) (hc : Rp (mc ρ) tc) (hd : Rp (md ρ) td) (he : Rp (me ρ) te) (hf : Rp (mf ρ) tf) (hg : Rp (mg ρ) tg) : Rp (mB f (consM ma (consM mb (consM mc (consM md (consM me (consM mf (consM mg mNil))))))) ρ) (ta.bind fun x0 => tb.bind fun x1 => tc.bind fun x2 => td.bind fun x3 => te.bind fun x4 => tf.bind fun x5 => tg.bind fun x6 => g x0 x1 x2 x3 x4 x5 x6) := y_a7 (h := fun xs => .ofO (f xs)) hh ha hb hc hd he hf hg
theorem y_t7 (ha : Rp (ma ρ) ta) (hb : Rp (mb ρ) tb) (hc : Rp (mc ρ) tc) (hd : Rp (md ρ) td) (he : Rp (me ρ) te) (hf : Rp (mf ρ) tf) (hg : Rp (mg ρ) tg) : Rp (mTup (consM ma (consM mb (consM mc (consM md (consM me (consM mf (consM mg mNil))))))) ρ) (ta.bind fun x0 => tb.bind fun x1 => tc.bind fun x2 => td.bind fun x3 => te.bind fun x4 => tf.bind fun x5 => tg.bind fun x6 => .ok (T7.mk x0 x1 x2 x3 x4 x5 x6)) := y_a7 (h := fun xs => .ok (.tuple xs)) (g := fun x0 x1 x2 x3 x4 x5 x6 => .ok (T7.mk x0 x1 x2 x3 x4 x5 x6)) (fun _ _ _ _ _ _ _ => rfl) ha hb hc hd he hf hg
/-! slices -/
theorem y_oN : Ro (oNone ρ) (.ok none) := rfl
theorem y_oS {t : P Int} (h : Rp (m ρ) t) : Ro (oSome m ρ) (t.bind fun i => .ok (some i)) := Rg.bind h fun _ => rfl
theorem y_cut {f : D → Option Int → Option Int → Option D} {g : α → Option Int → Option Int → P β} {ml mh : En → P (Option Int)} {tl th : P (Option Int)} (hf : ∀ x l h, Rp (.ofO (f (enc x) l h)) (g x l h)) (ha : Rp (ma ρ) ta) (hl : Ro (ml ρ) tl) (hh : Ro (mh ρ) th) :
    Rp (mCut f ma ml mh ρ) (ta.bind fun x => tl.bind fun l => th.bind fun h => g x l h) := Rg.bind ha fun x => Rg.bind hl fun l => Rg.bind hh fun h => hf x l h
/-- a slice by constants -/
theorem y_cutc {f : D → Option Int → Option Int → Option D} {g : α → P β} {ml mh : En → P (Option Int)} (l h : Option Int) (hf : ∀ x, Rp (.ofO (f (enc x) l h)) (g x)) (ha : Rp (ma ρ) ta) (hl : ml ρ = .ok l := by rfl) (hh : mh ρ = .ok h := by rfl) : Rp (mCut f ma ml mh ρ) (ta.bind g) := by
  refine Rg.bind ha fun x => ?_
  rw [hl, hh]
  exact hf x
/-! sources -/
theorem y_iL {tl : P (List α)} (h : Rp (m ρ) tl) : Rh (iL m ρ) tl := by
  cases tl with
  | ok a => have h' : m ρ = .ok (enc a) := h; show (m ρ).bind lstO = _; rw [h']; rfl
  | exc c => have h' : m ρ = .exc c := h; show (m ρ).bind lstO = _; rw [h']; rfl
  | stuck => trivial
theorem y_iT {tl : P (Tl α)} (h : Rp (m ρ) tl) : Rh (iT m ρ) (tl.bind fun t => .ok t.l) := Rg.bind h fun _ => rfl
/-- over a tuple written out -/
theorem y_iTl {tl : P (List α)} (h : Rh (ml ρ) tl) : Rh (iT (mTup ml) ρ) tl := by
  cases tl with
  | ok a => have h' : ml ρ = .ok (a.map enc) := h; show ((ml ρ).bind _).bind tupO = _; rw [h']; rfl
  | exc c => have h' : ml ρ = .exc c := h; show ((ml ρ).bind _).bind tupO = _; rw [h']; rfl
  | stuck => trivial
/-- the numbers from lo on -/
def rg (lo : Int) (n : Nat) : List Int := (List.range n).map fun (k : Nat) => lo + (k : Int)
theorem rg_enc (lo : Int) (n : Nat) : (rg lo n).map enc = intL lo n := by unfold rg intL; rw [List.map_map]; rfl
@[irreducible] def rg1P (n : Int) : P (List Int) := if rngOk n = true then .ok (rg 0 n.toNat) else .stuck
@[irreducible] def rg2P (a b : Int) : P (List Int) := if (rngOk a && rngOk b) = true then .ok (rg a (b - a).toNat) else .stuck
theorem rg1_h (x : Int) : Rh (.ofO (rng1 [.int x])) (rg1P x) := by
  unfold rg1P
  show Rh (.ofO (if rngOk x = true then some (intL 0 x.toNat) else none)) _
  split
  · show P.ok (intL 0 x.toNat) = .ok ((rg 0 x.toNat).map enc)
    rw [rg_enc]
  · trivial
theorem rg2_h (x y : Int) : Rh (.ofO (rng2 [.int x, .int y])) (rg2P x y) := by
  unfold rg2P
  show Rh (.ofO (if (rngOk x && rngOk y) = true then some (intL x (y - x).toNat) else none)) _
  split
  · show P.ok (intL x (y - x).toNat) = .ok ((rg x (y - x).toNat).map enc)
    rw [rg_enc]
  · trivial
theorem args_consH {δ : Type} {h : List D → P δ} : ((consM ma ml) ρ).bind h = (ma ρ).bind fun x => (ml ρ).bind fun xs => h (x :: xs) := by
  show ((ma ρ).bind fun x => (ml ρ).bind fun xs => .ok (x :: xs)).bind h = _
  cases ma ρ with
  | ok a => cases ml ρ <;> rfl
  | exc c => rfl
  | stuck => rfl
theorem y_R1 {t : P Int} (h : Rp (ma ρ) t) : Rh (iR1 (consM ma mNil) ρ) (t.bind rg1P) := by
  show Rh (((consM ma mNil) ρ).bind fun ds => .ofO (rng1 ds)) _
  rw [args_consH]
  exact Rg.bind h fun x => rg1_h x
theorem y_R2 {t s : P Int} (h : Rp (ma ρ) t) (h2 : Rp (mb ρ) s) : Rh (iR2 (consM ma (consM mb mNil)) ρ) (t.bind fun x => s.bind fun y => rg2P x y) := by
  show Rh (((consM ma (consM mb mNil)) ρ).bind fun ds => .ofO (rng2 ds)) _
  rw [args_consH]
  refine Rg.bind h fun x => ?_
  rw [args_consH]
  exact Rg.bind h2 fun y => rg2_h x y
/-- by a constant -/
theorem y_R1c {n : Int} (hn : rngOk n = true := by decide) : Rh (iR1 (consM (mC (.int n)) mNil) ρ) (.ok (rg 0 n.toNat)) := by
  have h := rg1_h n
  unfold rg1P at h
  rw [if_pos hn] at h
  exact h
theorem y_R2c {n k : Int} (hn : (rngOk n && rngOk k) = true := by decide) : Rh (iR2 (consM (mC (.int n)) (consM (mC (.int k)) mNil)) ρ) (.ok (rg n (k - n).toNat)) := by
  have h := rg2_h n k
  unfold rg2P at h
  rw [if_pos hn] at h
  exact h
/-- each with its place -/
def enu (n : Nat) : List α → List (T2 Int α)
  | [] => []
  | x :: xs => ⟨(n : Int), x⟩ :: enu (n + 1) xs
theorem enu_enc : ∀ (n : Nat) (l : List α), (enu n l).map enc = enL n (l.map enc)
  | _, [] => rfl
  | n, x :: xs => by rw [enu, List.map_cons, List.map_cons, enL, enu_enc (n + 1) xs]; rfl
theorem y_En {tl : P (List α)} (h : Rp (m ρ) tl) : Rh (iEn m ρ) (tl.bind fun l => .ok (enu 0 l)) := by
  refine Rg.bind h fun l => ?_
  show P.ok (enL 0 (l.map enc)) = .ok ((enu 0 l).map enc)
  rw [enu_enc]
/-! lists made one by one -/
def lcB {α β : Type} (c : α → P Bool) (f : α → P β) : List α → P (List β)
  | [] => .ok []
  | x :: xs => match c x with
    | .ok true => (match f x with
      | .ok y => (lcB c f xs).bind fun ys => .ok (y :: ys)
      | _ => .stuck)
    | .ok false => lcB c f xs
    | _ => .stuck
@[irreducible] def lcP {α β : Type} (c : α → P Bool) (f : α → P β) (xs : List α) : P (List β) := if xs.length ≤ LIM then lcB c f xs else .stuck
/-- the simple one -/
@[irreducible] def lcT {α β : Type} (c : α → Bool) (f : α → β) (xs : List α) : P (List β) := if xs.length ≤ LIM then .ok ((xs.filter c).map f) else .stuck
@[irreducible] def lcA {α β : Type} (f : α → β) (xs : List α) : P (List β) := if xs.length ≤ LIM then .ok (xs.map f) else .stuck
theorem lcB_tot {α β : Type} (c : α → Bool) (f : α → β) : ∀ xs, lcB (fun x => .ok (c x)) (fun x => .ok (f x)) xs = .ok ((xs.filter c).map f)
  | [] => rfl
  | x :: xs => by
    rw [lcB, lcB_tot c f xs, List.filter_cons]
    cases c x <;> rfl
theorem lcB_h {bd : D → En → Option En} {cond : En → P Bool} {elt : En → P D} {E : α → En} {c : α → P Bool} {f : α → P β} (hb : ∀ x : α, bd (enc x) ρ = some (E x)) (hc : ∀ x, Rb (cond (E x)) (c x)) (hf : ∀ x, Rp (elt (E x)) (f x)) : ∀ xs : List α, Rh (lcG bd cond elt ρ (xs.map enc)) (lcB c f xs)
  | [] => rfl
  | x :: xs => by
    have ih := lcB_h hb hc hf xs
    rw [List.map_cons]
    unfold lcG lcB
    rw [hb x]
    dsimp only
    have h1 := hc x
    have h2 := hf x
    cases e : c x with
    | stuck => trivial
    | exc k => trivial
    | ok b =>
      rw [e] at h1
      have h' : cond (E x) = .ok b := h1
      rw [h']
      cases b with
      | false => exact ih
      | true =>
        dsimp only
        cases e2 : f x with
        | stuck => trivial
        | exc k => trivial
        | ok y =>
          rw [e2] at h2
          have h3 : elt (E x) = .ok (enc y) := h2
          rw [h3]
          exact Rg.bind ih fun ys => rfl
theorem y_lc {src : En → P (List D)} {vs : List Nat} {bd : D → En → Option En} {cond : En → P Bool} {elt : En → P D} {txs : P (List α)} (E : α → En) {c : α → P Bool} {f : α → P β} (hs : Rh (src ρ) txs) (hc : ∀ x, Rb (cond (E x)) (c x)) (hf : ∀ x, Rp (elt (E x)) (f x)) (hb : ∀ x : α, bd (enc x) (wipeE ρ vs) = some (E x) := by exact fun _ => rfl) :
    Rp (lcM src vs bd cond elt ρ) (txs.bind fun xs => lcP c f xs) := by
  refine Rg.bind hs fun xs => ?_
  rw [List.length_map]
  unfold lcP
  split
  · have h := lcB_h hb hc hf xs
    cases e : lcB c f xs with
    | ok ys => rw [e] at h; have h' : lcG bd cond elt (wipeE ρ vs) (xs.map enc) = .ok (ys.map enc) := h; rw [h']; rfl
    | exc k => rw [e] at h; have h' : lcG bd cond elt (wipeE ρ vs) (xs.map enc) = .exc k := h; rw [h']; rfl
    | stuck => trivial
  · trivial
theorem lcP_T {α β : Type} (c : α → Bool) (f : α → β) (xs : List α) : lcP (fun x => .ok (c x)) (fun x => .ok (f x)) xs = lcT c f xs := by unfold lcP lcT; rw [lcB_tot]
theorem lcP_A {α β : Type} (f : α → β) (xs : List α) : lcP (fun _ => .ok true) (fun x => .ok (f x)) xs = lcA f xs := by
  unfold lcP lcA
  rw [lcB_tot (fun _ => true), List.filter_eq_self.mpr (fun _ _ => rfl)]
theorem y_lcT {src : En → P (List D)} {vs : List Nat} {bd : D → En → Option En} {cond : En → P Bool} {elt : En → P D} {txs : P (List α)} (E : α → En) {c : α → Bool} {f : α → β} (hs : Rh (src ρ) txs) (hc : ∀ x, Rb (cond (E x)) (.ok (c x))) (hf : ∀ x, Rp (elt (E x)) (.ok (f x))) (hb : ∀ x : α, bd (enc x) (wipeE ρ vs) = some (E x) := by exact fun _ => rfl) :
    Rp (lcM src vs bd cond elt ρ) (txs.bind fun xs => lcT c f xs) := by
  have h := y_lc E hs hc hf hb
  simp only [lcP_T] at h
  exact h
theorem y_lcA {src : En → P (List D)} {vs : List Nat} {bd : D → En → Option En} {elt : En → P D} {txs : P (List α)} (E : α → En) {f : α → β} (hs : Rh (src ρ) txs) (hf : ∀ x, Rp (elt (E x)) (.ok (f x))) (hb : ∀ x : α, bd (enc x) (wipeE ρ vs) = some (E x) := by exact fun _ => rfl) :
    Rp (lcM src vs bd tYes elt ρ) (txs.bind fun xs => lcA f xs) := by
  have h := y_lc (cond := tYes) (c := fun _ => .ok true) E hs (fun _ => rfl) hf hb
  simp only [lcP_A] at h
  exact h
theorem y_yes : Rb (tYes ρ) (.ok true) := rfl
end
end Pc

set_option maxRecDepth 100000
set_option maxHeartbeats 1000000
namespace Pc
open PySem L2
/-! ### equal things, told by type -/
theorem flat_up : ∀ (n k : Nat) (d : D), flat n d = true → flat (n + k) d = true
  | 0, _, _, h => by cases h
  | n + 1, k, .none, _ => by rw [Nat.add_right_comm]; rfl
  | n + 1, k, .bool _, _ => by rw [Nat.add_right_comm]; rfl
  | n + 1, k, .int _, _ => by rw [Nat.add_right_comm]; rfl
  | n + 1, k, .str _, _ => by rw [Nat.add_right_comm]; rfl
  | n + 1, k, .dict _, h => by cases h
  | n + 1, k, .list xs, h => by
    rw [Nat.add_right_comm, flat_list]
    rw [flat_list] at h
    rw [List.all_eq_true] at h ⊢
    exact fun x hx => flat_up n k x (h x hx)
  | n + 1, k, .tuple xs, h => by
    rw [Nat.add_right_comm, flat_tuple]
    rw [flat_tuple] at h
    rw [List.all_eq_true] at h ⊢
    exact fun x hx => flat_up n k x (h x hx)
/-- told apart as Python does; not deeper than n -/
class Eqc (α : Type) [Nc α] [DecidableEq α] (n : outParam Nat) : Prop where
  fl : ∀ a : α, flat n (enc a) = true
  eq : ∀ a b : α, PyData.eqv (enc a) (enc b) = decide (a = b)
class Nn (α : Type) [Nc α] : Prop where
  l : ∀ a : α, PyData.eqv .none (enc a) = false
  r : ∀ a : α, PyData.eqv (enc a) .none = false
instance : Eqc Int 1 := ⟨fun _ => rfl, fun a b => eqv_int a b⟩
instance : Eqc Bool 1 := ⟨fun _ => rfl, fun a b => eqv_bool a b⟩
instance : Eqc Str 1 := ⟨fun _ => rfl, fun a b => eqv_str a b⟩
instance : Nn Int := ⟨fun _ => by simp [enc, Nc.enc, PyData.eqv], fun _ => by simp [enc, Nc.enc, PyData.eqv]⟩
instance : Nn Str := ⟨fun _ => by simp [enc, Nc.enc, PyData.eqv], fun _ => by simp [enc, Nc.enc, PyData.eqv]⟩
instance : Nn Bool := ⟨fun _ => by simp [enc, Nc.enc, PyData.eqv], fun _ => by simp [enc, Nc.enc, PyData.eqv]⟩
section
variable {α β γ δ ε ζ η : Type} [Nc α] [Nc β] [Nc γ] [Nc δ] [Nc ε] [Nc ζ] [Nc η]
instance : Nn (List α) := ⟨fun _ => by simp [enc, Nc.enc, PyData.eqv], fun _ => by simp [enc, Nc.enc, PyData.eqv]⟩
variable [DecidableEq α] [DecidableEq β] [DecidableEq γ] [DecidableEq δ] [DecidableEq ε] [DecidableEq ζ] [DecidableEq η] {n1 n2 n3 n4 n5 n6 n7 : Nat} [Eqc α n1] [Eqc β n2] [Eqc γ n3] [Eqc δ n4] [Eqc ε n5] [Eqc ζ n6] [Eqc η n7]
theorem eqvAll_enc {α : Type} [Nc α] [DecidableEq α] {n1 : Nat} [Eqc α n1] : ∀ (l k : List α), PyData.eqvAll (l.map enc) (k.map enc) = decide (l = k)
  | [], [] => rfl
  | [], _ :: _ => by simp [PyData.eqvAll]
  | _ :: _, [] => by simp [PyData.eqvAll]
  | x :: l, y :: k => by
    rw [List.map_cons, List.map_cons, PyData.eqvAll, Eqc.eq, eqvAll_enc l k]
    by_cases h : x = y <;> by_cases h2 : l = k <;> simp [h, h2]
theorem flatAll_enc (l : List α) : (l.map enc).all (flat n1) = true := by
  rw [List.all_eq_true]; intro x hx; obtain ⟨i, _, rfl⟩ := List.mem_map.mp hx; exact Eqc.fl i
instance eqL : Eqc (List α) (n1 + 1) := ⟨fun l => by show flat (n1 + 1) (.list (l.map enc)) = true; rw [flat_list]; exact flatAll_enc l, fun a b => by show PyData.eqv (.list (a.map enc)) (.list (b.map enc)) = _; rw [eqv_list]; exact eqvAll_enc a b⟩
instance eqTl : Eqc (Tl α) (n1 + 1) := ⟨fun l => by show flat (n1 + 1) (.tuple (l.l.map enc)) = true; rw [flat_tuple]; exact flatAll_enc l.l, fun a b => by
  show PyData.eqv (.tuple (a.l.map enc)) (.tuple (b.l.map enc)) = _
  rw [eqv_tuple, eqvAll_enc a.l b.l]
  cases a; cases b; simp⟩
instance eqO' [Nn α] : Eqc (Option α) (n1 + 1) := ⟨fun l => by
    cases l with
    | none => rfl
    | some a => exact flat_up n1 1 _ (Eqc.fl a), fun a b => by
    cases a with
    | none =>
      cases b with
      | none => simp [enc, Nc.enc, PyData.eqv]
      | some b => rw [show enc (some b) = enc b from rfl, show enc (none : Option α) = .none from rfl, Nn.l]; simp
    | some a =>
      cases b with
      | none => rw [show enc (some a) = enc a from rfl, show enc (none : Option α) = .none from rfl, Nn.r]; simp
      | some b => rw [show enc (some a) = enc a from rfl, show enc (some b) = enc b from rfl, Eqc.eq]; simp⟩
theorem flat_max (n k : Nat) (d : D) (h : flat n d = true) (hk : n ≤ k) : flat k d = true := by
  obtain ⟨j, rfl⟩ := Nat.exists_eq_add_of_le hk
  exact flat_up n j d h
instance : Nn (T1 α) := ⟨fun _ => by simp [enc, Nc.enc, PyData.eqv], fun _ => by simp [enc, Nc.enc, PyData.eqv]⟩
instance eqT1 : Eqc (T1 α) (n1 + 1) := ⟨fun t => by
  show flat (n1 + 1) (.tuple [enc t.a]) = true
  rw [flat_tuple]
  simp only [List.all_cons, List.all_nil, Bool.and_true, Bool.and_eq_true]
  exact flat_max n1 _ _ (Eqc.fl t.a) (by omega), fun a b => by
  show PyData.eqv (.tuple [enc a.a]) (.tuple [enc b.a]) = _
  rw [eqv_tuple]
  simp only [PyData.eqvAll, Eqc.eq]
  cases a; cases b; simp⟩
instance : Nn (T2 α β) := ⟨fun _ => by simp [enc, Nc.enc, PyData.eqv], fun _ => by simp [enc, Nc.enc, PyData.eqv]⟩
instance eqT2 : Eqc (T2 α β) ((max n1 n2) + 1) := ⟨fun t => by
  show flat ((max n1 n2) + 1) (.tuple [enc t.a, enc t.b]) = true
  rw [flat_tuple]
  simp only [List.all_cons, List.all_nil, Bool.and_true, Bool.and_eq_true]
  exact ⟨flat_max n1 _ _ (Eqc.fl t.a) (by omega), flat_max n2 _ _ (Eqc.fl t.b) (by omega)⟩, fun a b => by
  show PyData.eqv (.tuple [enc a.a, enc a.b]) (.tuple [enc b.a, enc b.b]) = _
  rw [eqv_tuple]
  simp only [PyData.eqvAll, Eqc.eq]
  cases a; cases b; simp⟩
instance : Nn (T3 α β γ) := ⟨fun _ => by simp [enc, Nc.enc, PyData.eqv], fun _ => by simp [enc, Nc.enc, PyData.eqv]⟩
instance eqT3 : Eqc (T3 α β γ) ((max (max n1 n2) n3) + 1) := ⟨fun t => by
  show flat ((max (max n1 n2) n3) + 1) (.tuple [enc t.a, enc t.b, enc t.c]) = true
  rw [flat_tuple]
  simp only [List.all_cons, List.all_nil, Bool.and_true, Bool.and_eq_true]
  exact ⟨flat_max n1 _ _ (Eqc.fl t.a) (by omega), flat_max n2 _ _ (Eqc.fl t.b) (by omega), flat_max n3 _ _ (Eqc.fl t.c) (by omega)⟩, fun a b => by
  show PyData.eqv (.tuple [enc a.a, enc a.b, enc a.c]) (.tuple [enc b.a, enc b.b, enc b.c]) = _
  rw [eqv_tuple]
  simp only [PyData.eqvAll, Eqc.eq]
  cases a; cases b; simp⟩
instance : Nn (T4 α β γ δ) := ⟨fun _ => by simp [enc, Nc.enc, PyData.eqv], fun _ => by simp [enc, Nc.enc, PyData.eqv]⟩
instance eqT4 : Eqc (T4 α β γ δ) ((max (max (max n1 n2) n3) n4) + 1) := ⟨fun t => by
  show flat ((max (max (max n1 n2) n3) n4) + 1) (.tuple [enc t.a, enc t.b, enc t.c, enc t.d]) = true
  rw [flat_tuple]
  simp only [List.all_cons, List.all_nil, Bool.and_true, Bool.and_eq_true]
  exact ⟨flat_max n1 _ _ (Eqc.fl t.a) (by omega), flat_max n2 _ _ (Eqc.fl t.b) (by omega), flat_max n3 _ _ (Eqc.fl t.c) (by omega), flat_max n4 _ _ (Eqc.fl t.d) (by omega)⟩, fun a b => by
  show PyData.eqv (.tuple [enc a.a, enc a.b, enc a.c, enc a.d]) (.tuple [enc b.a, enc b.b, enc b.c, enc b.d]) = _
  rw [eqv_tuple]
  simp only [PyData.eqvAll, Eqc.eq]
  cases a; cases b; simp⟩
instance : Nn (T5 α β γ δ ε) := ⟨fun _ => by simp [enc, Nc.enc, PyData.eqv], fun _ => by simp [enc, Nc.enc, PyData.eqv]⟩
instance eqT5 : Eqc (T5 α β γ δ ε) ((max (max (max (max n1 n2) n3) n4) n5) + 1) := ⟨fun t => by
  show flat ((max (max (max (max n1 n2) n3) n4) n5) + 1) (.tuple [enc t.a, enc t.b, enc t.c, enc t.d, enc t.e]) = true
  rw [flat_tuple]
  simp only [List.all_cons, List.all_nil, Bool.and_true, Bool.and_eq_true]
  exact ⟨flat_max n1 _ _ (Eqc.fl t.a) (by omega), flat_max n2 _ _ (Eqc.fl t.b) (by omega), flat_max n3 _ _ (Eqc.fl t.c) (by omega), flat_max n4 _ _ (Eqc.fl t.d) (by omega), flat_max n5 _ _ (Eqc.fl t.e) (by omega)⟩, fun a b => by
  show PyData.eqv (.tuple [enc a.a, enc a.b, enc a.c, enc a.d, enc a.e]) (.tuple [enc b.a, enc b.b, enc b.c, enc b.d, enc b.e]) = _
  rw [eqv_tuple]
  simp only [PyData.eqvAll, Eqc.eq]
  cases a; cases b; simp⟩
instance : Nn (T6 α β γ δ ε ζ) := ⟨fun _ => by simp [enc, Nc.enc, PyData.eqv], fun _ => by simp [enc, Nc.enc, PyData.eqv]⟩
instance eqT6 : Eqc (T6 α β γ δ ε ζ) ((max (max (max (max (max n1 n2) n3) n4) n5) n6) + 1) := ⟨fun t => by
  show flat ((max (max (max (max (max n1 n2) n3) n4) n5) n6) + 1) (.tuple [enc t.a, enc t.b, enc t.c, enc t.d, enc t.e, enc t.f]) = true
  rw [flat_tuple]
  simp only [List.all_cons, List.all_nil, Bool.and_true, Bool.and_eq_true]
  exact ⟨flat_max n1 _ _ (Eqc.fl t.a) (by omega), flat_max n2 _ _ (Eqc.fl t.b) (by omega), flat_max n3 _ _ (Eqc.fl t.c) (by omega), flat_max n4 _ _ (Eqc.fl t.d) (by omega), flat_max n5 _ _ (Eqc.fl t.e) (by omega), flat_max n6 _ _ (Eqc.fl t.f) (by omega)⟩, fun a b => by
  show PyData.eqv (.tuple [enc a.a, enc a.b, enc a.c, enc a.d, enc a.e, enc a.f]) (.tuple [enc b.a, enc b.b, enc b.c, enc b.d, enc b.e, enc b.f]) = _
  rw [eqv_tuple]
  simp only [PyData.eqvAll, Eqc.eq]
  cases a; cases b; simp⟩
instance : Nn (T7 α β γ δ ε ζ η) := ⟨fun _ => by simp [enc, Nc.enc, PyData.eqv], fun _ => by simp [enc, Nc.enc, PyData.eqv]⟩
instance eqT7 : Eqc (T7 α β γ δ ε ζ η) ((max (max (max (max (max (max n1 n2) n3) n4) n5) n6) n7) + 1) := ⟨fun t => by
  show flat ((max (max (max (max (max (max n1 n2) n3) n4) n5) n6) n7) + 1) (.tuple [enc t.a, enc t.b, enc t.c, enc t.d, enc t.e, enc t.f, enc t.g]) = true
  rw [flat_tuple]
  simp only [List.all_cons, List.all_nil, Bool.and_true, Bool.and_eq_true]
  exact ⟨flat_max n1 _ _ (Eqc.fl t.a) (by omega), flat_max n2 _ _ (Eqc.fl t.b) (by omega), flat_max n3 _ _ (Eqc.fl t.c) (by omega), flat_max n4 _ _ (Eqc.fl t.d) (by omega), flat_max n5 _ _ (Eqc.fl t.e) (by omega), flat_max n6 _ _ (Eqc.fl t.f) (by omega), flat_max n7 _ _ (Eqc.fl t.g) (by omega)⟩, fun a b => by
  show PyData.eqv (.tuple [enc a.a, enc a.b, enc a.c, enc a.d, enc a.e, enc a.f, enc a.g]) (.tuple [enc b.a, enc b.b, enc b.c, enc b.d, enc b.e, enc b.f, enc b.g]) = _
  rw [eqv_tuple]
  simp only [PyData.eqvAll, Eqc.eq]
  cases a; cases b; simp⟩
theorem nodict {d : D} {n : Nat} (h : flat n d = true) : isDict d = false := flat_nodict h
theorem eqO_enc (a b : α) (h : n1 ≤ 40 := by decide) : eqO (enc a) (enc b) = some (decide (a = b)) := by
  have f : flat 40 (enc a) = true := flat_max n1 40 _ (Eqc.fl a) h
  unfold eqO shal
  rw [nodict (Eqc.fl a), nodict (Eqc.fl b), f, Eqc.eq]
  rfl
theorem neO_enc (a b : α) (h : n1 ≤ 40 := by decide) : neO (enc a) (enc b) = some (!decide (a = b)) := by
  have f : flat 40 (enc a) = true := flat_max n1 40 _ (Eqc.fl a) h
  unfold neO shal
  rw [nodict (Eqc.fl a), nodict (Eqc.fl b), f, Eqc.eq]
  rfl
theorem any_enc {α : Type} [Nc α] [DecidableEq α] {n1 : Nat} [Eqc α n1] (l : List α) (k : α) : ((l.map enc).any fun y => PyData.eqv y (enc k)) = decide (k ∈ l) := by
  induction l with
  | nil => simp
  | cons x l ih =>
    rw [List.map_cons, List.any_cons, ih, Eqc.eq]
    by_cases h : x = k
    · simp [h]
    · have : k ≠ x := fun z => h z.symm
      simp [h, this]
theorem inO_enc (k : α) (l : List α) (h : n1 ≤ 40 := by decide) : inO (enc k) (.list (l.map enc)) = some (decide (k ∈ l)) := by
  have f : flat 40 (enc k) = true := flat_max n1 40 _ (Eqc.fl k) h
  show (if isDict (enc k) = true then none else if shal (enc k) (.list (l.map enc)) = true then some ((l.map enc).any fun y => PyData.eqv y (enc k)) else none) = _
  unfold shal
  rw [any_enc, nodict (Eqc.fl k), f]
  rfl
theorem inT_enc (k : α) (l : List α) (h : n1 ≤ 40 := by decide) : inO (enc k) (.tuple (l.map enc)) = some (decide (k ∈ l)) := by
  have f : flat 40 (enc k) = true := flat_max n1 40 _ (Eqc.fl k) h
  show (if isDict (enc k) = true then none else if shal (enc k) (.tuple (l.map enc)) = true then some ((l.map enc).any fun y => PyData.eqv y (enc k)) else none) = _
  unfold shal
  rw [any_enc, nodict (Eqc.fl k), f]
  rfl
/-! comparisons -/
theorem c_eq (h : n1 ≤ 40 := by decide) (x y : α) : Rb (.ofO (eqO (enc x) (enc y))) (.ok (decide (x = y))) := by rw [eqO_enc x y h]; rfl
theorem c_ne (h : n1 ≤ 40 := by decide) (x y : α) : Rb (.ofO (neO (enc x) (enc y))) (.ok (!decide (x = y))) := by rw [neO_enc x y h]; rfl
theorem c_in (h : n1 ≤ 40 := by decide) (x : α) (y : List α) : Rb (.ofO (inO (enc x) (enc y))) (.ok (decide (x ∈ y))) := by rw [show enc y = .list (y.map enc) from rfl, inO_enc x y h]; rfl
theorem c_nin (h : n1 ≤ 40 := by decide) (x : α) (y : List α) : Rb (.ofO (notInO (enc x) (enc y))) (.ok (!decide (x ∈ y))) := by unfold notInO; rw [show enc y = .list (y.map enc) from rfl, inO_enc x y h]; rfl
theorem c_inT (h : n1 ≤ 40 := by decide) (x : α) (y : Tl α) : Rb (.ofO (inO (enc x) (enc y))) (.ok (decide (x ∈ y.l))) := by rw [show enc y = .tuple (y.l.map enc) from rfl, inT_enc x y.l h]; rfl
theorem c_ninT (h : n1 ≤ 40 := by decide) (x : α) (y : Tl α) : Rb (.ofO (notInO (enc x) (enc y))) (.ok (!decide (x ∈ y.l))) := by unfold notInO; rw [show enc y = .tuple (y.l.map enc) from rfl, inT_enc x y.l h]; rfl
end
theorem c_lt (x y : Int) : Rb (.ofO (ltO (enc x) (enc y))) (.ok (decide (x < y))) := rfl
theorem c_le (x y : Int) : Rb (.ofO (leO (enc x) (enc y))) (.ok (decide (x ≤ y))) := rfl
theorem c_gt (x y : Int) : Rb (.ofO (gtO (enc x) (enc y))) (.ok (decide (y < x))) := rfl
theorem c_ge (x y : Int) : Rb (.ofO (geO (enc x) (enc y))) (.ok (decide (y ≤ x))) := rfl
/-- of any kind: as it is told -/
theorem c_any {f : D → D → Option Bool} (x y : D) : Rb (.ofO (f (enc x) (enc y))) (.ofO (f x y)) := rg_self _
theorem f_any {f : D → D → Option D} (x y : D) : Rp (.ofO (f (enc x) (enc y))) (.ofO (f x y)) := rp_self _
theorem f_anyc {f : D → D → Option D} {d : D} (x : D) : Rp (.ofO (f (enc x) d)) (.ofO (f x d)) := rp_self _
theorem t_any (x : D) : Rb (.ofO (truO (enc x))) (.ofO (truO x)) := rg_self _
theorem b_any {f : List D → Option D} (x : D) : Rp (.ofO (f [enc x])) (.ofO (f [x])) := rp_self _
theorem c_isN {α : Type} [Nc α] (hn : ∀ a : α, isNO (enc a) .none = some false) (x : Option α) : Rb (.ofO (isNO (enc x) .none)) (.ok x.isNone) := by
  cases x with
  | none => rfl
  | some a => show Rb (.ofO (isNO (enc a) .none)) _; rw [hn]; rfl
theorem c_notN {α : Type} [Nc α] (hn : ∀ a : α, notNO (enc a) .none = some true) (x : Option α) : Rb (.ofO (notNO (enc x) .none)) (.ok x.isSome) := by
  cases x with
  | none => rfl
  | some a => show Rb (.ofO (notNO (enc a) .none)) _; rw [hn]; rfl
theorem t_B (x : Bool) : Rb (.ofO (truO (enc x))) (.ok x) := rfl
theorem t_L {α : Type} [Nc α] (x : List α) : Rb (.ofO (truO (enc x))) (.ok (!x.isEmpty)) := by cases x <;> rfl
/-! numbers, rows -/
theorem f_add (x y : Int) : Rp (.ofO (addO (enc x) (enc y))) (.ok (x + y)) := rfl
theorem f_sub (x y : Int) : Rp (.ofO (subO (enc x) (enc y))) (.ok (x - y)) := rfl
theorem f_neg (x : Int) : Rp (.ofO (negO (enc x))) (.ok (-x)) := rfl
@[irreducible] def mulP (x y : Int) : P Int := if mulOk x y = true then .ok (x * y) else .stuck
theorem f_mul (x y : Int) : Rp (.ofO (mulO (enc x) (enc y))) (mulP x y) := by
  unfold mulP
  show Rp (.ofO (if mulOk x y = true then some (.int (x * y)) else none)) _
  split
  · rfl
  · trivial
def smallI (c : Int) : Bool := decide (-18446744073709551616 < c) && decide (c < 18446744073709551616)
theorem mulOk_l' {i j : Int} (h : smallI i = true) : mulOk i j = true := by
  unfold smallI at h
  unfold mulOk
  simp only [Bool.and_eq_true, decide_eq_true_eq] at h
  simp only [Bool.or_eq_true, Bool.and_eq_true, decide_eq_true_eq]
  left; exact h
theorem mulOk_r' {i j : Int} (h : smallI j = true) : mulOk i j = true := by
  unfold smallI at h
  unfold mulOk
  simp only [Bool.and_eq_true, decide_eq_true_eq] at h
  simp only [Bool.or_eq_true, Bool.and_eq_true, decide_eq_true_eq]
  right; exact h
theorem f_mulc {c : Int} (h : smallI c = true := by decide) (x : Int) : Rp (.ofO (mulO (enc x) (.int c))) (.ok (x * c)) := by
  show Rp (.ofO (if mulOk x c = true then some (.int (x * c)) else none)) _
  rw [if_pos (mulOk_r' h)]; rfl
theorem f_cmul {c : Int} (h : smallI c = true := by decide) (x : Int) : Rp (.ofO (mulO (.int c) (enc x))) (.ok (c * x)) := by
  show Rp (.ofO (if mulOk c x = true then some (.int (c * x)) else none)) _
  rw [if_pos (mulOk_l' h)]; rfl
@[irreducible] def fdivP (x y : Int) : P Int := if 0 < y ∧ y < 1073741824 then .ok (x / y) else .stuck
@[irreducible] def modP (x y : Int) : P Int := if 0 < y then .ok (x % y) else .stuck
@[irreducible] def powP (x y : Int) : P Int := if 0 ≤ y ∧ y ≤ 1000000 ∧ x.natAbs < 2 ^ 64 then .ok (x ^ y.toNat) else .stuck
theorem f_fdiv (x y : Int) : Rp (.ofO (fdivO (enc x) (enc y))) (fdivP x y) := by
  unfold fdivP
  show Rp (.ofO (if 0 < y ∧ y < 1073741824 then some (.int (x / y)) else none)) _
  split
  · rfl
  · trivial
theorem f_fdivc {c : Int} (h : (decide (0 < c) && decide (c < 1073741824)) = true := by decide) (x : Int) : Rp (.ofO (fdivO (enc x) (.int c))) (.ok (x / c)) := by
  show Rp (.ofO (if 0 < c ∧ c < 1073741824 then some (.int (x / c)) else none)) _
  rw [if_pos (by simpa using h)]; rfl
theorem f_mod (x y : Int) : Rp (.ofO (modO (enc x) (enc y))) (modP x y) := by
  unfold modP
  show Rp (.ofO (if 0 < y then some (.int (x % y)) else none)) _
  split
  · rfl
  · trivial
theorem f_modc {c : Int} (h : decide (0 < c) = true := by decide) (x : Int) : Rp (.ofO (modO (enc x) (.int c))) (.ok (x % c)) := by
  show Rp (.ofO (if 0 < c then some (.int (x % c)) else none)) _
  rw [if_pos (by simpa using h)]; rfl
theorem f_pow (x y : Int) : Rp (.ofO (powO (enc x) (enc y))) (powP x y) := by
  unfold powP
  show Rp (.ofO (if 0 ≤ y ∧ y ≤ 1000000 ∧ x.natAbs < 2 ^ 64 then some (.int (x ^ y.toNat)) else none)) _
  split
  · rfl
  · trivial
section
variable {α β γ : Type} [Nc α] [Nc β] [Nc γ]
@[irreducible] def catP (x y : List α) : P (List α) := if x.length + y.length ≤ LIM then .ok (x ++ y) else .stuck
@[irreducible] def appP (x : List α) (y : α) : P (List α) := if x.length < LIM then .ok (x ++ [y]) else .stuck
theorem f_cat (x y : List α) : Rp (.ofO (addO (enc x) (enc y))) (catP x y) := by
  unfold catP
  show Rp (.ofO (if (x.map enc).length + (y.map enc).length ≤ LIM then some (PyData.list (x.map enc ++ y.map enc)) else none)) _
  rw [List.length_map, List.length_map]
  split
  · show P.ok _ = P.ok (PyData.list ((x ++ y).map enc)); rw [List.map_append]
  · trivial
theorem f_ext (x y : List α) : Rp (.ofO (extO (enc x) (enc y))) (catP x y) := by
  unfold catP
  show Rp (.ofO (if (x.map enc).length + (y.map enc).length ≤ LIM then some (PyData.list (x.map enc ++ y.map enc)) else none)) _
  rw [List.length_map, List.length_map]
  split
  · show P.ok _ = P.ok (PyData.list ((x ++ y).map enc)); rw [List.map_append]
  · trivial
theorem f_app (x : List α) (y : α) : Rp (.ofO (appO (enc x) (enc y))) (appP x y) := by
  unfold appP
  show Rp (.ofO (if (x.map enc).length < LIM then some (PyData.list (x.map enc ++ [enc y])) else none)) _
  rw [List.length_map]
  split
  · show P.ok _ = P.ok (PyData.list ((x ++ [y]).map enc)); rw [List.map_append]; rfl
  · trivial
@[irreducible] def catS (x y : Str) : P Str := if x.length + y.length ≤ LIM then .ok (x ++ y) else .stuck
theorem f_catS (x y : Str) : Rp (.ofO (addO (enc x) (enc y))) (catS x y) := by
  unfold catS
  show Rp (.ofO (if x.length + y.length ≤ LIM then some (.str (x ++ y)) else none)) _
  split
  · rfl
  · trivial
@[irreducible] def ixP (x : List α) (i : Int) : P α := .ofO (atI x i)
theorem f_ix (x : List α) (i : Int) : Rp (.ofO (ixO (enc x) (enc i))) (ixP x i) := by
  unfold ixP
  show Rp (.ofO (atI (x.map enc) i)) _
  rw [atI_map]
  cases atI x i <;> first | rfl | trivial
@[irreducible] def repP (x : List α) (k : Int) : P (List α) := if (decide (k < 1000000) && decide (-1000000 < k) && decide (x.length * k.toNat ≤ LIM)) = true then .ok (List.replicate k.toNat x).flatten else .stuck
theorem f_rep (x : List α) (k : Int) : Rp (.ofO (repO (enc x) (enc k))) (repP x k) := by
  unfold repP
  show Rp (.ofO (if (decide (k < 1000000) && decide (-1000000 < k) && decide ((x.map enc).length * k.toNat ≤ LIM)) = true then some (PyData.list (List.replicate k.toNat (x.map enc)).flatten) else none)) _
  rw [List.length_map]
  split
  · show P.ok _ = P.ok (PyData.list ((List.replicate k.toNat x).flatten.map enc)); rw [List.map_flatten, List.map_replicate]
  · trivial
theorem f_rev (x : List α) : Rp (.ofO (revO (enc x))) (.ok x.reverse) := by show P.ok _ = P.ok (PyData.list (x.reverse.map enc)); rw [List.map_reverse]
theorem cutL_map {α β : Type} (f : α → β) (x : List α) (l h : Option Int) : cutL (x.map f) l h = (cutL x l h).map f := by unfold cutL; rw [List.length_map, List.map_take, List.map_drop]
theorem f_cut (x : List α) (l h : Option Int) : Rp (.ofO (cutO (enc x) l h)) (.ok (cutL x l h)) := by show P.ok (PyData.list (cutL (x.map enc) l h)) = P.ok (.list ((cutL x l h).map enc)); rw [cutL_map]
theorem b_len (x : List α) : Rp (.ofO (lenO [enc x])) (.ok (x.length : Int)) := by show P.ok (PyData.int ((x.map enc).length : Nat)) = _; rw [List.length_map]; rfl
theorem b_list (x : List α) : Rp (.ofO (listO [enc x])) (.ok x) := rfl
theorem b_tuple (x : List α) : Rp (.ofO (tupleO [enc x])) (.ok (Tl.mk x)) := rfl
theorem b_listT (x : Tl α) : Rp (.ofO (listO [enc x])) (.ok x.l) := rfl
end
theorem intsD_enc (ns : List Int) : intsD (ns.map enc) = some ns := intsD_map ns
theorem b_sort (x : List Int) : Rp (.ofO (sortO [enc x])) (.ok (srtI x)) := by
  show Rp (.ofO ((intsD (x.map enc)).map fun ns => .list ((srtI ns).map .int))) _
  rw [intsD_enc]; rfl
theorem b_sum (x : List Int) : Rp (.ofO (sumO [enc x])) (.ok x.sum) := by
  show Rp (.ofO ((intsD (x.map enc)).map fun ns => .int ns.sum)) _
  rw [intsD_enc]; rfl
@[irreducible] def maxP (x : List Int) : P Int := if x.isEmpty = true then .stuck else .ok (maxI x)
theorem b_maxL (x : List Int) : Rp (.ofO (maxLO [enc x])) (maxP x) := by
  unfold maxP
  show Rp (.ofO ((intsD (x.map enc)).bind fun ns => if ns.isEmpty = true then none else some (.int (maxI ns)))) _
  rw [intsD_enc]
  show Rp (.ofO (if x.isEmpty = true then none else some (.int (maxI x)))) _
  split
  · trivial
  · rfl
@[irreducible] def lsetP (x : List Int) : P Int := if x.length ≤ 4000 then .ok ((dedI [] x).length : Nat) else .stuck
theorem f_lset (x : List Int) : Rp (.ofO (lsetO (enc x))) (lsetP x) := by
  unfold lsetP
  show Rp (.ofO ((intsD (x.map enc)).bind fun ns => if ns.length ≤ 4000 then some (.int ((dedI [] ns).length : Nat)) else none)) _
  rw [intsD_enc]
  show Rp (.ofO (if x.length ≤ 4000 then some (.int ((dedI [] x).length : Nat)) else none)) _
  split
  · rfl
  · trivial
@[irreducible] def lrangeP (n : Int) : P (List Int) := if (decide (0 ≤ n) && decide (n ≤ 16777216)) = true then .ok (rg 0 n.toNat) else .stuck
theorem f_lrange (n : Int) : Rp (.ofO (lrangeO (enc n))) (lrangeP n) := by
  unfold lrangeP
  show Rp (.ofO (if (decide (0 ≤ n) && decide (n ≤ 16777216)) = true then some (.list (intL 0 n.toNat)) else none)) _
  split
  · show P.ok (PyData.list _) = P.ok (.list ((rg 0 n.toNat).map enc)); rw [rg_enc]
  · trivial
theorem b_intB (x : Bool) : Rp (.ofO (intO [enc x])) (.ok (if x = true then (1 : Int) else 0)) := by cases x <;> rfl
theorem b_intI (x : Int) : Rp (.ofO (intO [enc x])) (.ok x) := rfl
@[irreducible] def strP (i : Int) : P Str := if i.natAbs.log2 < 1920 then .ok (toString i) else .stuck
theorem b_str (x : Int) : Rp (.ofO (strO [enc x])) (strP x) := by
  unfold strP
  show Rp (.ofO (if x.natAbs.log2 < 1920 then some (.str (toString x)) else none)) _
  split
  · rfl
  · trivial
theorem b_max2 (x y : Int) : Rp (.ofO (max2O [enc x, enc y])) (.ok (if y > x then y else x)) := rfl
theorem b_min2 (x y : Int) : Rp (.ofO (min2O [enc x, enc y])) (.ok (if y < x then y else x)) := rfl
theorem rp_ok {α : Type} [Nc α] {p : P D} {a : α} (h : p = .ok (enc a)) : Rp p (.ok a) := h
theorem Rg.ok {α β : Type} {e : α → β} {p : P β} {t : P α} {a : α} (h : Rg e p t) (ht : t = .ok a) : p = .ok (e a) := by subst ht; exact h
end Pc

set_option maxRecDepth 100000
set_option maxHeartbeats 1000000
namespace Pc
open PySem L2
/-! ### statements -/
def J {γ : Type} (fl : Fl) (t : P γ) (K : γ → Fl → Prop) : Prop := match t with
  | .ok g => K g fl
  | .exc c => ∃ ρ, fl = .ex c ρ
  | .stuck => True
abbrev Ou := Nat → Option D
/-- what stands in the slots -/
def sl (ρ : En) : Ou := fun i => ρ.getD i none
inductive Lp (σ β : Type) where
  | nx (s : σ)
  | rt (b : β)
section
variable {σ α β γ : Type} [Nc α] [Nc β]
def KF (b : β) (fl : Fl) : Prop := ∃ ρ, fl = .rt (enc b) ρ
def KU (_ : Unit) (fl : Fl) : Prop := (∃ ρ, fl = .nx ρ) ∨ ∃ ρ, fl = .rt .none ρ
def KN (E : σ → Ou → En) (s : σ) (fl : Fl) : Prop := ∃ o, fl = .nx (E s o)
def KB (E : σ → Ou → En) (s : σ) (fl : Fl) : Prop := ∃ o, fl = .nx (E s o) ∨ fl = .ct (E s o)
def KR (E : σ → Ou → En) : Lp σ β → Fl → Prop
  | .nx s, fl => KB E s fl
  | .rt b, fl => KF b fl
def Fl.seq (f : Fl) (b : En → Fl) : Fl := match f with
  | .nx ρ' => b ρ'
  | .rt d ρ' => .rt d ρ'
  | .ct ρ' => .ct ρ'
  | .ex c ρ' => .ex c ρ'
  | .stuck => .stuck
theorem seq_eq (a b : En → Fl) (ρ : En) : seqM a b ρ = (a ρ).seq b := by unfold seqM Fl.seq; cases a ρ <;> rfl
theorem seq_lift {α : Type} (p : P α) (ρ : En) (k : α → Fl) (b : En → Fl) : (liftP p ρ k).seq b = liftP p ρ fun x => (k x).seq b := by cases p <;> rfl
variable {K : γ → Fl → Prop} {ρ : En} {i j : Nat} {m ma mb mk mv me : En → P D} {rest a b body : En → Fl} {mt : En → P Bool}
theorem j_lift {α β : Type} {e : α → β} {p : P β} {tp : P α} {k : β → Fl} {t : α → P γ} (h : Rg e p tp) (hk : ∀ x, J (k (e x)) (t x) K) : J (liftP p ρ k) (tp.bind t) K := by
  cases tp with
  | ok a => have h' : p = .ok (e a) := h; subst h'; exact hk a
  | exc c => have h' : p = .exc c := h; subst h'; exact ⟨ρ, rfl⟩
  | stuck => trivial
theorem js_set {te : P α} {t : α → P γ} (h : Rp (m ρ) te) (hk : ∀ x, J (rest (ρ.set i (some (enc x)))) (t x) K) : J (seqM (sSet i m) rest ρ) (te.bind t) K := by
  rw [seq_eq, show sSet i m ρ = liftP (m ρ) ρ fun d => .nx (ρ.set i (some d)) from rfl, seq_lift]
  exact j_lift h hk
theorem js_par {ta : P α} {tb : P β} {t : α → β → P γ} (h : Rp (ma ρ) ta) (h2 : Rp (mb ρ) tb) (hk : ∀ x y, J (rest ((ρ.set i (some (enc x))).set j (some (enc y)))) (t x y) K) :
    J (seqM (sPar i j (consM ma (consM mb mNil))) rest ρ) (ta.bind fun x => tb.bind fun y => t x y) K := by
  rw [seq_eq, show sPar i j (consM ma (consM mb mNil)) ρ = liftP ((consM ma (consM mb mNil)) ρ) ρ (par2 i j ρ) from rfl, seq_lift]
  have e : ∀ k : List D → Fl, liftP ((consM ma (consM mb mNil)) ρ) ρ k = liftP (ma ρ) ρ fun x => liftP (mb ρ) ρ fun y => k [x, y] := by
    intro k
    show liftP ((ma ρ).bind fun x => ((mb ρ).bind fun y => (mNil ρ).bind fun xs => .ok (y :: xs)).bind fun xs => .ok (x :: xs)) ρ k = _
    cases ma ρ with
    | ok a => cases mb ρ <;> rfl
    | exc c => rfl
    | stuck => rfl
  rw [e]
  exact j_lift h fun x => j_lift h2 fun y => hk x y
theorem js_asg {bd : D → En → Option En} {te : P α} {t : α → P γ} (E : α → En) (h : Rp (m ρ) te) (hk : ∀ x, J (rest (E x)) (t x) K) (hb : ∀ x : α, bd (enc x) ρ = some (E x) := by exact fun _ => rfl) : J (seqM (sAsg bd m) rest ρ) (te.bind t) K := by
  rw [seq_eq, show sAsg bd m ρ = liftP (m ρ) ρ fun d => bindS bd d ρ from rfl, seq_lift]
  refine j_lift h fun x => ?_
  unfold bindS
  rw [hb x]
  exact hk x
theorem js_m1 {f : D → D → Option D} {α β δ : Type} [Nc α] [Nc β] [Nc δ] {g : α → β → P δ} {te : P β} {t : δ → P γ} (x : α) (hf : ∀ (x : α) (y : β), Rp (.ofO (f (enc x) (enc y))) (g x y)) (h : Rp (me ρ) te) (hk : ∀ z, J (rest (ρ.set i (some (enc z)))) (t z) K) (hx : getO ρ i = some (enc x) := by rfl) :
    J (seqM (sM1 (pN i) f me) rest ρ) (te.bind fun y => (g x y).bind t) K := by
  rw [seq_eq, w_sM1, w_mPl, w_pNget, hx, ofO_some, liftP_ok, seq_lift]
  refine j_lift h fun y => ?_
  have h1 := hf x y
  cases e : g x y with
  | stuck => trivial
  | exc c =>
    rw [e] at h1
    have h' : P.ofO (f (enc x) (enc y)) = .exc c := h1
    cases e2 : f (enc x) (enc y) <;> rw [e2] at h' <;> cases h'
  | ok z =>
    rw [e] at h1
    have h' : P.ofO (f (enc x) (enc y)) = .ok (enc z) := h1
    cases e2 : f (enc x) (enc y) with
    | none => rw [e2] at h'; cases h'
    | some d => rw [e2] at h'; cases h'; exact hk z
theorem js_aug {te : P Int} {t : Int → P γ} (x : Int) (h : Rp (m ρ) te) (hk : ∀ z, J (rest (ρ.set i (some (enc z)))) (t z) K) (hx : getS ρ i = .ok (enc x) := by rfl) : J (seqM (sAug i addIO m) rest ρ) (te.bind fun y => t (x + y)) K := by
  rw [seq_eq, w_sAug, hx, liftP_ok, seq_lift]
  exact j_lift h fun y => hk (x + y)
theorem js_put {f : D → D → D → Option D} {α β δ ε : Type} [Nc α] [Nc β] [Nc δ] [Nc ε] {g : α → β → δ → P ε} {tk : P β} {tv : P δ} {t : ε → P γ} (x : α) (hf : ∀ (x : α) (y : β) (z : δ), Rp (.ofO (f (enc x) (enc y) (enc z))) (g x y z)) (hv : Rp (mv ρ) tv) (h : Rp (mk ρ) tk) (hk : ∀ z, J (rest (ρ.set i (some (enc z)))) (t z) K) (hx : getO ρ i = some (enc x) := by rfl) :
    J (seqM (sPut (pN i) f mk mv) rest ρ) (tv.bind fun v => tk.bind fun y => (g x y v).bind t) K := by
  rw [seq_eq, w_sPut, w_mPl, w_pNget, hx, seq_lift]
  refine j_lift hv fun v => ?_
  rw [ofO_some, liftP_ok, seq_lift]
  refine j_lift h fun y => ?_
  have h1 := hf x y v
  cases e : g x y v with
  | stuck => trivial
  | exc c =>
    rw [e] at h1
    have h' : P.ofO (f (enc x) (enc y) (enc v)) = .exc c := h1
    cases e2 : f (enc x) (enc y) (enc v) <;> rw [e2] at h' <;> cases h'
  | ok z =>
    rw [e] at h1
    have h' : P.ofO (f (enc x) (enc y) (enc v)) = .ok (enc z) := h1
    cases e2 : f (enc x) (enc y) (enc v) with
    | none => rw [e2] at h'; cases h'
    | some d => rw [e2] at h'; cases h'; exact hk z
theorem js_expr {te : P α} {t : P γ} (h : Rp (m ρ) te) (hk : J (rest ρ) t K) : J (seqM (sExpr m) rest ρ) (te.bind fun _ => t) K := by
  rw [seq_eq, show sExpr m ρ = liftP (m ρ) ρ fun _ => .nx ρ from rfl, seq_lift]
  exact j_lift h fun _ => hk
/-- an if, what follows told of each branch -/
theorem js_if {tc : P Bool} {ta tb : P γ} (h : Rb (mt ρ) tc) (ha : J (seqM a rest ρ) ta K) (hb : J (seqM b rest ρ) tb K) : J (seqM (ifS mt a b) rest ρ) (tc.bind fun c => if c = true then ta else tb) K := by
  rw [seq_eq, show ifS mt a b ρ = liftP (mt ρ) ρ fun t => if t = true then a ρ else b ρ from rfl, seq_lift]
  refine j_lift h fun c => ?_
  rw [seq_eq] at ha hb
  cases c
  · exact hb
  · exact ha
/-- an if, what follows told once -/
theorem js_ifj {σ : Type} {tc : P Bool} {ta tb : P σ} {t : σ → P γ} (E : σ → Ou → En) (h : Rb (mt ρ) tc) (ha : J (a ρ) ta (KN E)) (hb : J (b ρ) tb (KN E)) (hk : ∀ s o, J (rest (E s o)) (t s) K) : J (seqM (ifS mt a b) rest ρ) ((tc.bind fun c => if c = true then ta else tb).bind t) K := by
  rw [seq_eq, show ifS mt a b ρ = liftP (mt ρ) ρ fun t => if t = true then a ρ else b ρ from rfl, seq_lift]
  have key : ∀ (m : En → Fl) (tm : P σ), J (m ρ) tm (KN E) → J ((m ρ).seq rest) (tm.bind t) K := by
    intro m tm hm
    cases tm with
    | ok s => obtain ⟨o, e⟩ := (hm : KN E s (m ρ)); rw [e]; exact hk s o
    | exc c => obtain ⟨ρ', e⟩ := (hm : ∃ ρ', m ρ = .ex c ρ'); rw [e]; exact ⟨ρ', rfl⟩
    | stuck => trivial
  cases tc with
  | ok c =>
    have h' : mt ρ = .ok c := h
    rw [h', liftP_ok]
    cases c
    · exact key b tb hb
    · exact key a ta ha
  | exc c => have h' : mt ρ = .exc c := h; rw [h']; exact ⟨ρ, rfl⟩
  | stuck => trivial
theorem j_if {tc : P Bool} {ta tb : P γ} (h : Rb (mt ρ) tc) (ha : J (a ρ) ta K) (hb : J (b ρ) tb K) : J (ifS mt a b ρ) (tc.bind fun c => if c = true then ta else tb) K := by
  show J (liftP (mt ρ) ρ fun t => if t = true then a ρ else b ρ) _ K
  refine j_lift h fun c => ?_
  cases c
  · exact hb
  · exact ha
theorem js_ret {te : P β} (h : Rp (m ρ) te) : J (seqM (sRet m) rest ρ) te KF := by
  rw [seq_eq, show sRet m ρ = liftP (m ρ) ρ fun d => .rt d ρ from rfl, seq_lift]
  cases te with
  | ok a => have h' : m ρ = .ok (enc a) := h; rw [h']; exact ⟨ρ, rfl⟩
  | exc c => have h' : m ρ = .exc c := h; rw [h']; exact ⟨ρ, rfl⟩
  | stuck => trivial
theorem j_ret {te : P β} (h : Rp (m ρ) te) : J (sRet m ρ) te KF := by
  show J (liftP (m ρ) ρ fun d => .rt d ρ) te KF
  cases te with
  | ok a => have h' : m ρ = .ok (enc a) := h; rw [h']; exact ⟨ρ, rfl⟩
  | exc c => have h' : m ρ = .exc c := h; rw [h']; exact ⟨ρ, rfl⟩
  | stuck => trivial
/-- a return within a loop -/
theorem js_retL {σ : Type} {E : σ → Ou → En} {te : P β} (h : Rp (m ρ) te) : J (seqM (sRet m) rest ρ) (te.bind fun b => .ok (Lp.rt b)) (KR E) := by
  rw [seq_eq, show sRet m ρ = liftP (m ρ) ρ fun d => .rt d ρ from rfl, seq_lift]
  exact j_lift h fun x => ⟨ρ, rfl⟩
theorem j_retL {σ : Type} {E : σ → Ou → En} {te : P β} (h : Rp (m ρ) te) : J (sRet m ρ) (te.bind fun b => .ok (Lp.rt b)) (KR E) := by
  show J (liftP (m ρ) ρ fun d => .rt d ρ) _ _
  exact j_lift h fun x => ⟨ρ, rfl⟩
theorem js_raise {c : Str} : J (seqM (sEx c) rest ρ) (.exc c : P γ) K := ⟨ρ, rfl⟩
theorem j_raise {c : Str} : J (sEx c ρ) (.exc c : P γ) K := ⟨ρ, rfl⟩
theorem js_stuck : J (seqM sStuck rest ρ) (.stuck : P γ) K := trivial
theorem j_stuck : J (sStuck ρ) (.stuck : P γ) K := trivial
theorem j_last {t : P γ} (h : J (seqM a sNx ρ) t K) : J (a ρ) t K := by
  have e : seqM a sNx ρ = a ρ := by rw [seq_eq]; unfold Fl.seq; cases a ρ <;> rfl
  rwa [e] at h
theorem js_assoc {t : P γ} (h : J (seqM a (seqM b rest) ρ) t K) : J (seqM (seqM a b) rest ρ) t K := by
  have e : seqM (seqM a b) rest ρ = seqM a (seqM b rest) ρ := by
    rw [seq_eq, seq_eq, seq_eq]
    cases e : a ρ <;> simp only [Fl.seq]
    rw [seq_eq]
    rfl
  rwa [e]
theorem js_nx {t : P γ} (h : J (rest ρ) t K) : J (seqM sNx rest ρ) t K := h
theorem j_end (s : γ) (h : K s (.nx ρ)) : J (sNx ρ) (.ok s) K := h
theorem js_ct (s : γ) (h : K s (.ct ρ)) : J (seqM .ct rest ρ) (.ok s) K := h
theorem j_ct (s : γ) (h : K s (.ct ρ)) : J (Fl.ct ρ) (.ok s) K := h
theorem k_n {E : σ → Ou → En} {s : σ} (h : ρ = E s (sl ρ) := by rfl) : KN E s (.nx ρ) := ⟨_, congrArg Fl.nx h⟩
theorem k_b {E : σ → Ou → En} {s : σ} (h : ρ = E s (sl ρ) := by rfl) : KB E s (.nx ρ) := ⟨_, .inl (congrArg Fl.nx h)⟩
theorem k_bc {E : σ → Ou → En} {s : σ} (h : ρ = E s (sl ρ) := by rfl) : KB E s (.ct ρ) := ⟨_, .inr (congrArg Fl.ct h)⟩
theorem k_r {E : σ → Ou → En} {s : σ} (h : ρ = E s (sl ρ) := by rfl) : KR (β := β) E (.nx s) (.nx ρ) := k_b h
theorem k_rc {E : σ → Ou → En} {s : σ} (h : ρ = E s (sl ρ) := by rfl) : KR (β := β) E (.nx s) (.ct ρ) := k_bc h
theorem k_u : KU () (.nx ρ) := .inl ⟨ρ, rfl⟩
/-! loops -/
def forP {σ α : Type} (f : σ → α → P σ) : List α → σ → P σ
  | [], s => .ok s
  | x :: xs, s => (f s x).bind (forP f xs)
def forQ {σ α β : Type} (f : σ → α → P (Lp σ β)) : List α → σ → P (Lp σ β)
  | [], s => .ok (.nx s)
  | x :: xs, s => (f s x).bind fun r => match r with
    | .nx s' => forQ f xs s'
    | .rt b => .ok (.rt b)
def Lp.out {σ β γ : Type} (r : Lp σ β) (k : σ → P γ) (q : β → P γ) : P γ := match r with
  | .nx s => k s
  | .rt b => q b
theorem forP_h {bd : D → En → Option En} {E : σ → Ou → En} {E1 : σ → α → Ou → En} {f : σ → α → P σ} (hb : ∀ s x o, bd (enc x) (E s o) = some (E1 s x o)) (hf : ∀ s x o, J (body (E1 s x o)) (f s x) (KB E)) : ∀ (xs : List α) (s : σ) (o : Ou), J (forL bd body (xs.map enc) (E s o)) (forP f xs s) (KN E)
  | [], s, o => ⟨o, rfl⟩
  | x :: xs, s, o => by
    have h := hf s x o
    rw [List.map_cons]
    unfold forL forP
    rw [hb s x o]
    dsimp only
    cases e : f s x with
    | stuck => trivial
    | exc c => rw [e] at h; obtain ⟨ρ', e2⟩ := (h : ∃ ρ', body (E1 s x o) = .ex c ρ'); rw [e2]; exact ⟨ρ', rfl⟩
    | ok s' =>
      rw [e] at h
      obtain ⟨o', e2⟩ := (h : KB E s' (body (E1 s x o)))
      rcases e2 with e2 | e2 <;> rw [e2] <;> exact forP_h hb hf xs s' o'
theorem js_for {src : En → P (List D)} {bd : D → En → Option En} (E : σ → Ou → En) (E1 : σ → α → Ou → En) {txs : P (List α)} {f : σ → α → P σ} {t : σ → P γ} (s0 : σ) (hs : Rh (src ρ) txs) (hf : ∀ s x o, J (body (E1 s x o)) (f s x) (KB E)) (hk : ∀ s o, J (rest (E s o)) (t s) K)
    (h0 : ρ = E s0 (sl ρ) := by rfl) (hb : ∀ s (x : α) o, bd (enc x) (E s o) = some (E1 s x o) := by exact fun _ _ _ => rfl) : J (seqM (sFor src bd body) rest ρ) (txs.bind fun xs => (forP f xs s0).bind t) K := by
  rw [seq_eq, show sFor src bd body ρ = liftP (src ρ) ρ fun xs => forL bd body xs ρ from rfl, seq_lift]
  refine j_lift hs fun xs => ?_
  have h := forP_h hb hf xs s0 (sl ρ)
  rw [← h0] at h
  cases e : forP f xs s0 with
  | stuck => trivial
  | exc c => rw [e] at h; obtain ⟨ρ', e2⟩ := (h : ∃ ρ', forL bd body (xs.map enc) ρ = .ex c ρ'); rw [e2]; exact ⟨ρ', rfl⟩
  | ok s => rw [e] at h; obtain ⟨o, e2⟩ := (h : KN E s (forL bd body (xs.map enc) ρ)); rw [e2]; exact hk s o
/-- a loop that may end the def -/
def KRn (E : σ → Ou → En) : Lp σ β → Fl → Prop
  | .nx s, fl => KN E s fl
  | .rt b, fl => KF b fl
theorem forQ_h {bd : D → En → Option En} {E : σ → Ou → En} {E1 : σ → α → Ou → En} {f : σ → α → P (Lp σ β)} (hb : ∀ s x o, bd (enc x) (E s o) = some (E1 s x o)) (hf : ∀ s x o, J (body (E1 s x o)) (f s x) (KR E)) : ∀ (xs : List α) (s : σ) (o : Ou), J (forL bd body (xs.map enc) (E s o)) (forQ f xs s) (KRn E)
  | [], s, o => ⟨o, rfl⟩
  | x :: xs, s, o => by
    have h := hf s x o
    rw [List.map_cons]
    unfold forL forQ
    rw [hb s x o]
    dsimp only
    cases e : f s x with
    | stuck => trivial
    | exc c => rw [e] at h; obtain ⟨ρ', e2⟩ := (h : ∃ ρ', body (E1 s x o) = .ex c ρ'); rw [e2]; exact ⟨ρ', rfl⟩
    | ok r =>
      rw [e] at h
      cases r with
      | nx s' =>
        obtain ⟨o', e2⟩ := (h : KB E s' (body (E1 s x o)))
        rcases e2 with e2 | e2 <;> rw [e2] <;> exact forQ_h hb hf xs s' o'
      | rt b =>
        obtain ⟨ρ', e2⟩ := (h : KF b (body (E1 s x o)))
        rw [e2]; exact ⟨ρ', rfl⟩
theorem js_forR {src : En → P (List D)} {bd : D → En → Option En} (E : σ → Ou → En) (E1 : σ → α → Ou → En) {txs : P (List α)} {f : σ → α → P (Lp σ β)} {t : σ → P β} (s0 : σ) (hs : Rh (src ρ) txs) (hf : ∀ s x o, J (body (E1 s x o)) (f s x) (KR E)) (hk : ∀ s o, J (rest (E s o)) (t s) KF)
    (h0 : ρ = E s0 (sl ρ) := by rfl) (hb : ∀ s (x : α) o, bd (enc x) (E s o) = some (E1 s x o) := by exact fun _ _ _ => rfl) : J (seqM (sFor src bd body) rest ρ) (txs.bind fun xs => (forQ f xs s0).bind fun r => r.out t .ok) KF := by
  rw [seq_eq, show sFor src bd body ρ = liftP (src ρ) ρ fun xs => forL bd body xs ρ from rfl, seq_lift]
  refine j_lift hs fun xs => ?_
  have h := forQ_h hb hf xs s0 (sl ρ)
  rw [← h0] at h
  cases e : forQ f xs s0 with
  | stuck => trivial
  | exc c => rw [e] at h; obtain ⟨ρ', e2⟩ := (h : ∃ ρ', forL bd body (xs.map enc) ρ = .ex c ρ'); rw [e2]; exact ⟨ρ', rfl⟩
  | ok r =>
    rw [e] at h
    cases r with
    | nx s => obtain ⟨o, e2⟩ := (h : KN E s (forL bd body (xs.map enc) ρ)); rw [e2]; exact hk s o
    | rt b => obtain ⟨ρ', e2⟩ := (h : KF b (forL bd body (xs.map enc) ρ)); rw [e2]; exact ⟨ρ', rfl⟩
/-- the same within a loop -/
theorem js_forRR {σ' : Type} {E' : σ' → Ou → En} {src : En → P (List D)} {bd : D → En → Option En} (E : σ → Ou → En) (E1 : σ → α → Ou → En) {txs : P (List α)} {f : σ → α → P (Lp σ β)} {t : σ → P (Lp σ' β)} (s0 : σ) (hs : Rh (src ρ) txs) (hf : ∀ s x o, J (body (E1 s x o)) (f s x) (KR E)) (hk : ∀ s o, J (rest (E s o)) (t s) (KR E'))
    (h0 : ρ = E s0 (sl ρ) := by rfl) (hb : ∀ s (x : α) o, bd (enc x) (E s o) = some (E1 s x o) := by exact fun _ _ _ => rfl) : J (seqM (sFor src bd body) rest ρ) (txs.bind fun xs => (forQ f xs s0).bind fun r => r.out t fun b => .ok (.rt b)) (KR E') := by
  rw [seq_eq, show sFor src bd body ρ = liftP (src ρ) ρ fun xs => forL bd body xs ρ from rfl, seq_lift]
  refine j_lift hs fun xs => ?_
  have h := forQ_h hb hf xs s0 (sl ρ)
  rw [← h0] at h
  cases e : forQ f xs s0 with
  | stuck => trivial
  | exc c => rw [e] at h; obtain ⟨ρ', e2⟩ := (h : ∃ ρ', forL bd body (xs.map enc) ρ = .ex c ρ'); rw [e2]; exact ⟨ρ', rfl⟩
  | ok r =>
    rw [e] at h
    cases r with
    | nx s => obtain ⟨o, e2⟩ := (h : KN E s (forL bd body (xs.map enc) ρ)); rw [e2]; exact hk s o
    | rt b => obtain ⟨ρ', e2⟩ := (h : KF b (forL bd body (xs.map enc) ρ)); rw [e2]; exact ⟨ρ', rfl⟩
def whileP {σ : Type} (c : σ → P Bool) (f : σ → P σ) : Nat → σ → P σ
  | 0, _ => .stuck
  | n + 1, s => (c s).bind fun b => if b = true then (f s).bind (whileP c f n) else .ok s
theorem while_h {E : σ → Ou → En} {c : σ → P Bool} {f : σ → P σ} (hc : ∀ s o, Rb (mt (E s o)) (c s)) (hf : ∀ s o, J (body (E s o)) (f s) (KB E)) : ∀ (n : Nat) (s : σ) (o : Ou), J (whileN mt body n (E s o)) (whileP c f n s) (KN E)
  | 0, s, o => trivial
  | n + 1, s, o => by
    have h := hf s o
    have h1 := hc s o
    unfold whileN whileP
    cases e : c s with
    | stuck => trivial
    | exc k => rw [e] at h1; have h' : mt (E s o) = .exc k := h1; rw [h']; exact ⟨_, rfl⟩
    | ok b =>
      rw [e] at h1
      have h' : mt (E s o) = .ok b := h1
      rw [h']
      cases b with
      | false => exact ⟨o, rfl⟩
      | true =>
        dsimp only
        rw [bind_ok, if_pos rfl]
        cases e : f s with
        | stuck => trivial
        | exc c => rw [e] at h; obtain ⟨ρ', e2⟩ := (h : ∃ ρ', body (E s o) = .ex c ρ'); rw [e2]; exact ⟨ρ', rfl⟩
        | ok s' =>
          rw [e] at h
          obtain ⟨o', e2⟩ := (h : KB E s' (body (E s o)))
          rcases e2 with e2 | e2 <;> rw [e2] <;> exact while_h hc hf n s' o'
theorem js_while {n : Nat} (E : σ → Ou → En) {c : σ → P Bool} {f : σ → P σ} {t : σ → P γ} (s0 : σ) (hc : ∀ s o, Rb (mt (E s o)) (c s)) (hf : ∀ s o, J (body (E s o)) (f s) (KB E)) (hk : ∀ s o, J (rest (E s o)) (t s) K) (h0 : ρ = E s0 (sl ρ) := by rfl) :
    J (seqM (fun ρ => whileN mt body n ρ) rest ρ) ((whileP c f n s0).bind t) K := by
  rw [seq_eq]
  have h := while_h hc hf n s0 (sl ρ)
  rw [← h0] at h
  cases e : whileP c f n s0 with
  | stuck => trivial
  | exc c => rw [e] at h; obtain ⟨ρ', e2⟩ := (h : ∃ ρ', whileN mt body n ρ = .ex c ρ'); rw [e2]; exact ⟨ρ', rfl⟩
  | ok s => rw [e] at h; obtain ⟨o, e2⟩ := (h : KN E s (whileN mt body n ρ)); rw [e2]; exact hk s o
/-! defs -/
theorem r_of {n : Nat} {ds : List D} {t : P β} (h : J (body (env0 n ds)) t KF) : Rp (runF n body ds) t := by
  show Rp (outF (body (env0 n ds))) t
  cases t with
  | ok b => obtain ⟨ρ', e⟩ := (h : KF b (body (env0 n ds))); rw [e]; rfl
  | exc c => obtain ⟨ρ', e⟩ := (h : ∃ ρ', body (env0 n ds) = .ex c ρ'); rw [e]; rfl
  | stuck => trivial
theorem r_ofU {n : Nat} {ds : List D} {t : P Unit} (h : J (body (env0 n ds)) t KU) : Rp (runF n body ds) t := by
  show Rp (outF (body (env0 n ds))) t
  cases t with
  | ok b => rcases (h : KU () (body (env0 n ds))) with ⟨ρ', e⟩ | ⟨ρ', e⟩ <;> rw [e] <;> rfl
  | exc c => obtain ⟨ρ', e⟩ := (h : ∃ ρ', body (env0 n ds) = .ex c ρ'); rw [e]; rfl
  | stuck => trivial
end
/-! dicts -/
class Kc (κ : Type) [Nc κ] [DecidableEq κ] where
  k : κ → Key
  of : ∀ a : κ, kOf (enc a) = some (k a)
  is : ∀ a b : κ, kIs (enc a) (k b) = decide (a = b)
  en : ∀ a : κ, keyD (k a) = enc a
instance : Kc Int := ⟨.inl, fun _ => rfl, fun _ _ => rfl, fun _ => rfl⟩
instance : Kc Str := ⟨.inr, fun _ => rfl, fun _ _ => rfl, fun _ => rfl⟩
section
variable {κ β : Type} [Nc κ] [DecidableEq κ] [Kc κ] [Nc β]
def dcVal (l : List (κ × β)) (k : κ) : Option β := (l.find? fun q => decide (q.1 = k)).map (·.2)
def dcPut (l : List (κ × β)) (k : κ) (v : β) : List (κ × β) := if (l.any fun q => decide (q.1 = k)) = true then l.map (fun q => if q.1 = k then (q.1, v) else q) else l ++ [(k, v)]
def dcDrop (l : List (κ × β)) (k : κ) : List (κ × β) := l.filter fun q => !decide (q.1 = k)
def dcE (l : List (κ × β)) : List (D × D) := l.map fun q => (enc q.1, enc q.2)
theorem dcE_eq (m : Dc κ β) : enc m = .dict (dcE m.l) := rfl
theorem val_enc (l : List (κ × β)) (k : κ) : valD (dcE l) (Kc.k k) = (dcVal l k).map enc := by
  unfold valD dcVal dcE
  induction l with
  | nil => rfl
  | cons q l ih =>
    rw [List.map_cons, List.find?_cons, List.find?_cons]
    rw [show kIs (enc q.1) (Kc.k k) = decide (q.1 = k) from Kc.is q.1 k]
    by_cases h : q.1 = k
    · simp [h]
    · simp only [h, decide_false]
      exact ih
theorem any_key (l : List (κ × β)) (k : κ) : ((dcE l).any fun q => kIs q.1 (Kc.k k)) = l.any fun q => decide (q.1 = k) := by
  unfold dcE
  induction l with
  | nil => rfl
  | cons q l ih => rw [List.map_cons, List.any_cons, List.any_cons, ih, show kIs (enc q.1) (Kc.k k) = decide (q.1 = k) from Kc.is q.1 k]
theorem put_enc (l : List (κ × β)) (k : κ) (v : β) : putD (dcE l) (Kc.k k) (enc v) = dcE (dcPut l k v) := by
  unfold putD dcPut
  rw [any_key]
  split
  · unfold dcE
    rw [List.map_map, List.map_map]
    refine List.map_congr_left fun q _ => ?_
    show (if kIs (enc q.1) (Kc.k k) = true then (enc q.1, enc v) else (enc q.1, enc q.2)) = _
    rw [show kIs (enc q.1) (Kc.k k) = decide (q.1 = k) from Kc.is q.1 k]
    by_cases h : q.1 = k <;> simp [h]
  · unfold dcE
    rw [List.map_append, Kc.en]
    rfl
theorem drop_enc (l : List (κ × β)) (k : κ) : dropD (dcE l) (Kc.k k) = dcE (dcDrop l k) := by
  unfold dropD dcDrop dcE
  rw [List.filter_map]
  refine congrArg _ (List.filter_congr fun q _ => ?_)
  show (!kIs (enc q.1) (Kc.k k)) = _
  rw [show kIs (enc q.1) (Kc.k k) = decide (q.1 = k) from Kc.is q.1 k]
@[irreducible] def dgetP (m : Dc κ β) (k : κ) : P β := .ofO (dcVal m.l k)
@[irreducible] def dputP (m : Dc κ β) (k : κ) (v : β) : P (Dc κ β) := if m.l.length < LIM then .ok ⟨dcPut m.l k v⟩ else .stuck
theorem f_dget (m : Dc κ β) (k : κ) : Rp (.ofO (dgetO (enc m) (enc k))) (dgetP m k) := by
  unfold dgetP
  show Rp (.ofO ((kOf (enc k)).bind (valD (dcE m.l)))) _
  rw [Kc.of, Option.bind_some, val_enc]
  cases dcVal m.l k <;> first | rfl | trivial
theorem f_dput (m : Dc κ β) (k : κ) (v : β) : Rp (.ofO (dputO (enc m) (enc k) (enc v))) (dputP m k v) := by
  unfold dputP
  show Rp (.ofO ((kOf (enc k)).bind fun k => if (dcE m.l).length < LIM then some (.dict (putD (dcE m.l) k (enc v))) else none)) _
  rw [Kc.of, Option.bind_some, put_enc]
  have : (dcE m.l).length = m.l.length := List.length_map _
  rw [this]
  split
  · rfl
  · trivial
theorem c_din (k : κ) (m : Dc κ β) : Rb (.ofO (dinO (enc k) (enc m))) (.ok (dcVal m.l k).isSome) := by
  show Rb (.ofO ((kOf (enc k)).map fun k => (valD (dcE m.l) k).isSome)) _
  rw [Kc.of, Option.map_some, val_enc]
  cases dcVal m.l k <;> rfl
theorem c_dnin (k : κ) (m : Dc κ β) : Rb (.ofO (dnotinO (enc k) (enc m))) (.ok (!(dcVal m.l k).isSome)) := by
  unfold dnotinO
  show Rb (.ofO (((kOf (enc k)).map fun k => (valD (dcE m.l) k).isSome).map _)) _
  rw [Kc.of, Option.map_some, val_enc]
  cases dcVal m.l k <;> rfl
theorem y_dget2 {ρ : En} {ma mb mc : En → P D} {tb : P κ} {tc : P β} (m : Dc κ β) (ha : Rp (ma ρ) (.ok m)) (hb : Rp (mb ρ) tb) (hc : Rp (mc ρ) tc) : Rp (m3 dget2O ma mb mc ρ) (tb.bind fun k => tc.bind fun z => .ok ((dcVal m.l k).getD z)) := by
  have h' : ma ρ = .ok (.dict (dcE m.l)) := ha
  show Rp ((ma ρ).bind _) _
  rw [h', bind_ok]
  refine Rg.bind hb fun k => Rg.bind hc fun z => ?_
  show Rp (.ofO ((kOf (enc k)).map fun k => (valD (dcE m.l) k).getD (enc z))) _
  rw [Kc.of, Option.map_some, val_enc]
  cases dcVal m.l k <;> rfl
theorem f_lput {β : Type} [Nc β] (m : List β) (i : Int) (v : β) : Rp (.ofO (lputO (enc m) (enc i) (enc v))) (.ofO ((ixN m.length i).map fun j => m.set j v)) := by
  show Rp (.ofO ((ixN (m.map enc).length i).map fun j => .list ((m.map enc).set j (enc v)))) _
  rw [List.length_map]
  cases ixN m.length i with
  | none => trivial
  | some j => show P.ok (PyData.list ((m.map enc).set j (enc v))) = P.ok (.list ((m.set j v).map enc)); rw [List.map_set]
end
/-! a def that is asked in a try -/
end Pc

set_option maxRecDepth 100000
set_option maxHeartbeats 1000000
namespace Pc
open PySem L2
section
variable {α β γ : Type} [Nc α] [Nc β] {K : γ → Fl → Prop} {ρ : En} {i j : Nat} {m ma mb : En → P D} {rest body : En → Fl} {t : P γ}
theorem js_setk {a : α} (h : Rp (m ρ) (.ok a)) (hk : J (rest (ρ.set i (some (enc a)))) t K) : J (seqM (sSet i m) rest ρ) t K := by
  have h' : m ρ = .ok (enc a) := h
  rw [seq_eq, show sSet i m ρ = liftP (m ρ) ρ fun d => .nx (ρ.set i (some d)) from rfl, h']
  exact hk
theorem js_park {a : α} {b : β} (h : Rp (ma ρ) (.ok a)) (h2 : Rp (mb ρ) (.ok b)) (hk : J (rest ((ρ.set i (some (enc a))).set j (some (enc b)))) t K) : J (seqM (sPar i j (consM ma (consM mb mNil))) rest ρ) t K := by
  have h' : ma ρ = .ok (enc a) := h
  have h2' : mb ρ = .ok (enc b) := h2
  have e : (consM ma (consM mb mNil)) ρ = .ok [enc a, enc b] := by
    show ((ma ρ).bind fun x => ((mb ρ).bind fun y => (mNil ρ).bind fun xs => .ok (y :: xs)).bind fun xs => .ok (x :: xs)) = _
    rw [h', h2']; rfl
  rw [seq_eq, show sPar i j (consM ma (consM mb mNil)) ρ = liftP ((consM ma (consM mb mNil)) ρ) ρ (par2 i j ρ) from rfl, e]
  exact hk
theorem js_asgk {bd : D → En → Option En} {a : α} (E : En) (h : Rp (m ρ) (.ok a)) (hk : J (rest E) t K) (hb : bd (enc a) ρ = some E := by rfl) : J (seqM (sAsg bd m) rest ρ) t K := by
  have h' : m ρ = .ok (enc a) := h
  rw [seq_eq, show sAsg bd m ρ = liftP (m ρ) ρ fun d => bindS bd d ρ from rfl, h', liftP_ok]
  unfold bindS
  rw [hb]
  exact hk
theorem js_augk {y : Int} (x : Int) (h : Rp (m ρ) (.ok y)) (hk : J (rest (ρ.set i (some (enc (x + y))))) t K) (hx : getS ρ i = .ok (enc x) := by rfl) : J (seqM (sAug i addIO m) rest ρ) t K := by
  have h' : m ρ = .ok (enc y) := h
  rw [seq_eq, w_sAug, hx, liftP_ok, h', liftP_ok]
  exact hk
theorem r_of2 {n : Nat} {ds : List D} {t : P β} (h : J (body ρ) t KF) (h0 : env0 n ds = ρ := by rfl) : Rp (runF n body ds) t := by subst h0; exact r_of h
theorem r_ofU2 {n : Nat} {ds : List D} {t : P Unit} (h : J (body ρ) t KU) (h0 : env0 n ds = ρ := by rfl) : Rp (runF n body ds) t := by subst h0; exact r_ofU h
/-- a place -/
theorem y_pl {i : Nat} (a : α) (h : getO ρ i = some (enc a) := by rfl) : Rp (mPl (pN i) ρ) (.ok a) := by
  show P.ofO (getO ρ i) = _
  rw [h]; rfl
theorem y_never : Rp (α := α) (mStuck ρ) .stuck := trivial
theorem y_isi {T : String} {td : P D} (h : Rp (m ρ) td) : Rp (mIsi T m ρ) (td.bind fun d => P.ofO (isiO T d)) := by
  refine Rg.bind h fun d => ?_
  show Rp ((P.ofO (isiO T d)).bind _) _
  cases isiO T d <;> first | rfl | trivial
theorem y_iD {td : P D} (h : Rp (m ρ) td) : Rh (iL m ρ) (td.bind lstO) := by
  refine Rg.bind h fun d => ?_
  show Rg (List.map enc) (lstO d) (lstO d)
  have e : (List.map enc : List D → List D) = id := by funext l; exact List.map_id l
  rw [e]
  exact rg_self _
theorem y_iTD {td : P D} (h : Rp (m ρ) td) : Rh (iT m ρ) (td.bind tupO) := by
  refine Rg.bind h fun d => ?_
  show Rg (List.map enc) (tupO d) (tupO d)
  have e : (List.map enc : List D → List D) = id := by funext l; exact List.map_id l
  rw [e]
  exact rg_self _
/-- a script's number -/
@[irreducible] def cellP (ns : List Int) (k : Int) : P Int := if 0 ≤ k then .ok (ns.getD k.toNat 0) else .stuck
theorem getD_enc (ns : List Int) (k : Nat) : (ns.map enc).getD k (.int 0) = enc (ns.getD k 0) := by
  rw [List.getD_eq_getElem?_getD, List.getD_eq_getElem?_getD, List.getElem?_map]
  cases ns[k]? <;> rfl
theorem cell_h (ns : List Int) (k : Int) : Rp (.ofO (cellO (enc ns) (enc k))) (cellP ns k) := by
  unfold cellP
  show Rp (.ofO (cellO (.list (ns.map enc)) (.int k))) _
  rw [w_cell]
  split
  · rw [getD_enc]; rfl
  · trivial
theorem y_cell {te : P Int} (ns : List Int) (h : Rp (m ρ) te) (hx : getS ρ i = .ok (enc ns) := by rfl) : Rp (m2 cellO (mVar i) m ρ) (te.bind fun k => cellP ns k) := by
  have h1 : Rp (mVar i ρ) (.ok ns) := hx
  exact y_2 cell_h h1 h
theorem y_cellc {k : Nat} (ns : List Int) (hx : getS ρ i = .ok (enc ns) := by rfl) : Rp (m2 cellO (mVar i) (mC (.int (k : Int))) ρ) (.ok (ns.getD k 0)) := by
  have h1 : Rp (mVar i ρ) (.ok ns) := hx
  have h := y_2c (f := cellO) (d := .int (k : Int)) (g := fun ns => cellP ns (k : Int)) (fun x => cell_h x (k : Int)) h1
  have e : cellP ns (k : Int) = .ok (ns.getD k 0) := by unfold cellP; rw [if_pos (by omega), Int.toNat_natCast]
  rw [bind_ok, e] at h
  exact h
/-! texts -/
@[irreducible] def lenSP (z : Str) : P Int := if z.length ≤ LIM then .ok (z.length : Int) else .stuck
theorem b_lenS (z : Str) : Rp (.ofO (lenO [enc z])) (lenSP z) := by
  unfold lenSP
  show Rp (.ofO (if z.length ≤ LIM then some (.int z.length) else none)) _
  split
  · rfl
  · trivial
@[irreducible] def intSP (z : Str) : P Int := if z.length ≤ 640 then .ofO (PySem.intText? z) else .stuck
theorem b_intS (z : Str) : Rp (.ofO (intO [enc z])) (intSP z) := by
  unfold intSP
  show Rp (.ofO (if z.length ≤ 640 then (PySem.intText? z).map .int else none)) _
  split
  · cases PySem.intText? z <;> first | rfl | trivial
  · trivial
theorem c_inS (x z : Str) : Rb (.ofO (inO (enc x) (enc z))) (.ok (strIn x z)) := rfl
theorem c_ninS (x z : Str) : Rb (.ofO (notInO (enc x) (enc z))) (.ok (!strIn x z)) := rfl
@[irreducible] def splitP (z y : Str) : P (List Str) := if (y.length == 0) = false ∧ z.length + 2 ≤ LIM then .ok (Txt.split z y) else .stuck
theorem y_split {ta tb : P Str} (ha : Rp (ma ρ) ta) (hb : Rp (mb ρ) tb) : Rp (mS1 splitF ma mb ρ) (ta.bind fun x => tb.bind fun y => splitP x y) := by
  refine Rg.bind ha fun z => ?_
  show Rp ((mb ρ).bind fun y => .ofO (splitF z y)) _
  refine Rg.bind hb fun y => ?_
  unfold splitP
  show Rp (.ofO (if (y.length == 0) = false ∧ z.length + 2 ≤ LIM then some (.list ((Txt.split z y).map .str)) else none)) _
  split
  · rfl
  · trivial
theorem strsD_enc : ∀ ys : List Str, strsD (ys.map enc) = some ys
  | [] => rfl
  | y :: ys => by
    rw [List.map_cons]
    show (strsD (ys.map enc)).map (y :: ·) = _
    rw [strsD_enc ys]; rfl
@[irreducible] def joinP (z : Str) (ys : List Str) : P Str := if (ys.map (·.length)).sum + ys.length * z.length ≤ 16777216 then .ok (Txt.join z ys) else .stuck
theorem y_join {ta : P Str} {tb : P (List Str)} (ha : Rp (ma ρ) ta) (hb : Rp (mb ρ) tb) : Rp (mS1 joinF ma mb ρ) (ta.bind fun x => tb.bind fun y => joinP x y) := by
  refine Rg.bind ha fun z => ?_
  show Rp ((mb ρ).bind fun y => .ofO (joinF z y)) _
  refine Rg.bind hb fun ys => ?_
  unfold joinP
  show Rp (.ofO ((strsD (ys.map enc)).bind fun ys => if (ys.map (·.length)).sum + ys.length * z.length ≤ 16777216 then some (.str (Txt.join z ys)) else none)) _
  rw [strsD_enc, Option.bind_some]
  split
  · rfl
  · trivial
end
section
variable {α β γ δ ε ζ η : Type} [Nc α] [Nc β] [Nc γ] [Nc δ] [Nc ε] [Nc ζ] [Nc η]
theorem f_addT1_1 (x : T1 α) (y : T1 β) : Rp (.ofO (addO (enc x) (enc y))) (.ok (T2.mk x.a y.a)) := by
  show Rp (.ofO (if 1 + 1 ≤ LIM then some (.tuple [enc x.a, enc y.a]) else none)) _
  rw [if_pos (by decide)]
  rfl
theorem f_addT1_2 (x : T1 α) (y : T2 β γ) : Rp (.ofO (addO (enc x) (enc y))) (.ok (T3.mk x.a y.a y.b)) := by
  show Rp (.ofO (if 1 + 2 ≤ LIM then some (.tuple [enc x.a, enc y.a, enc y.b]) else none)) _
  rw [if_pos (by decide)]
  rfl
theorem f_addT1_3 (x : T1 α) (y : T3 β γ δ) : Rp (.ofO (addO (enc x) (enc y))) (.ok (T4.mk x.a y.a y.b y.c)) := by
  show Rp (.ofO (if 1 + 3 ≤ LIM then some (.tuple [enc x.a, enc y.a, enc y.b, enc y.c]) else none)) _
  rw [if_pos (by decide)]
  rfl
theorem f_addT1_4 (x : T1 α) (y : T4 β γ δ ε) : Rp (.ofO (addO (enc x) (enc y))) (.ok (T5.mk x.a y.a y.b y.c y.d)) := by
  show Rp (.ofO (if 1 + 4 ≤ LIM then some (.tuple [enc x.a, enc y.a, enc y.b, enc y.c, enc y.d]) else none)) _
  rw [if_pos (by decide)]
  rfl
theorem f_addT1_5 (x : T1 α) (y : T5 β γ δ ε ζ) : Rp (.ofO (addO (enc x) (enc y))) (.ok (T6.mk x.a y.a y.b y.c y.d y.e)) := by
  show Rp (.ofO (if 1 + 5 ≤ LIM then some (.tuple [enc x.a, enc y.a, enc y.b, enc y.c, enc y.d, enc y.e]) else none)) _
  rw [if_pos (by decide)]
  rfl
theorem f_addT1_6 (x : T1 α) (y : T6 β γ δ ε ζ η) : Rp (.ofO (addO (enc x) (enc y))) (.ok (T7.mk x.a y.a y.b y.c y.d y.e y.f)) := by
  show Rp (.ofO (if 1 + 6 ≤ LIM then some (.tuple [enc x.a, enc y.a, enc y.b, enc y.c, enc y.d, enc y.e, enc y.f]) else none)) _
  rw [if_pos (by decide)]
  rfl
theorem f_addT2_1 (x : T2 α β) (y : T1 γ) : Rp (.ofO (addO (enc x) (enc y))) (.ok (T3.mk x.a x.b y.a)) := by
  show Rp (.ofO (if 2 + 1 ≤ LIM then some (.tuple [enc x.a, enc x.b, enc y.a]) else none)) _
  rw [if_pos (by decide)]
  rfl
theorem f_addT2_2 (x : T2 α β) (y : T2 γ δ) : Rp (.ofO (addO (enc x) (enc y))) (.ok (T4.mk x.a x.b y.a y.b)) := by
  show Rp (.ofO (if 2 + 2 ≤ LIM then some (.tuple [enc x.a, enc x.b, enc y.a, enc y.b]) else none)) _
  rw [if_pos (by decide)]
  rfl
theorem f_addT2_3 (x : T2 α β) (y : T3 γ δ ε) : Rp (.ofO (addO (enc x) (enc y))) (.ok (T5.mk x.a x.b y.a y.b y.c)) := by
  show Rp (.ofO (if 2 + 3 ≤ LIM then some (.tuple [enc x.a, enc x.b, enc y.a, enc y.b, enc y.c]) else none)) _
  rw [if_pos (by decide)]
  rfl
theorem f_addT2_4 (x : T2 α β) (y : T4 γ δ ε ζ) : Rp (.ofO (addO (enc x) (enc y))) (.ok (T6.mk x.a x.b y.a y.b y.c y.d)) := by
  show Rp (.ofO (if 2 + 4 ≤ LIM then some (.tuple [enc x.a, enc x.b, enc y.a, enc y.b, enc y.c, enc y.d]) else none)) _
  rw [if_pos (by decide)]
  rfl
theorem f_addT2_5 (x : T2 α β) (y : T5 γ δ ε ζ η) : Rp (.ofO (addO (enc x) (enc y))) (.ok (T7.mk x.a x.b y.a y.b y.c y.d y.e)) := by
  show Rp (.ofO (if 2 + 5 ≤ LIM then some (.tuple [enc x.a, enc x.b, enc y.a, enc y.b, enc y.c, enc y.d, enc y.e]) else none)) _
  rw [if_pos (by decide)]
  rfl
theorem f_addT3_1 (x : T3 α β γ) (y : T1 δ) : Rp (.ofO (addO (enc x) (enc y))) (.ok (T4.mk x.a x.b x.c y.a)) := by
  show Rp (.ofO (if 3 + 1 ≤ LIM then some (.tuple [enc x.a, enc x.b, enc x.c, enc y.a]) else none)) _
  rw [if_pos (by decide)]
  rfl
theorem f_addT3_2 (x : T3 α β γ) (y : T2 δ ε) : Rp (.ofO (addO (enc x) (enc y))) (.ok (T5.mk x.a x.b x.c y.a y.b)) := by
  show Rp (.ofO (if 3 + 2 ≤ LIM then some (.tuple [enc x.a, enc x.b, enc x.c, enc y.a, enc y.b]) else none)) _
  rw [if_pos (by decide)]
  rfl
theorem f_addT3_3 (x : T3 α β γ) (y : T3 δ ε ζ) : Rp (.ofO (addO (enc x) (enc y))) (.ok (T6.mk x.a x.b x.c y.a y.b y.c)) := by
  show Rp (.ofO (if 3 + 3 ≤ LIM then some (.tuple [enc x.a, enc x.b, enc x.c, enc y.a, enc y.b, enc y.c]) else none)) _
  rw [if_pos (by decide)]
  rfl
theorem f_addT3_4 (x : T3 α β γ) (y : T4 δ ε ζ η) : Rp (.ofO (addO (enc x) (enc y))) (.ok (T7.mk x.a x.b x.c y.a y.b y.c y.d)) := by
  show Rp (.ofO (if 3 + 4 ≤ LIM then some (.tuple [enc x.a, enc x.b, enc x.c, enc y.a, enc y.b, enc y.c, enc y.d]) else none)) _
  rw [if_pos (by decide)]
  rfl
theorem f_addT4_1 (x : T4 α β γ δ) (y : T1 ε) : Rp (.ofO (addO (enc x) (enc y))) (.ok (T5.mk x.a x.b x.c x.d y.a)) := by
  show Rp (.ofO (if 4 + 1 ≤ LIM then some (.tuple [enc x.a, enc x.b, enc x.c, enc x.d, enc y.a]) else none)) _
  rw [if_pos (by decide)]
  rfl
theorem f_addT4_2 (x : T4 α β γ δ) (y : T2 ε ζ) : Rp (.ofO (addO (enc x) (enc y))) (.ok (T6.mk x.a x.b x.c x.d y.a y.b)) := by
  show Rp (.ofO (if 4 + 2 ≤ LIM then some (.tuple [enc x.a, enc x.b, enc x.c, enc x.d, enc y.a, enc y.b]) else none)) _
  rw [if_pos (by decide)]
  rfl
theorem f_addT4_3 (x : T4 α β γ δ) (y : T3 ε ζ η) : Rp (.ofO (addO (enc x) (enc y))) (.ok (T7.mk x.a x.b x.c x.d y.a y.b y.c)) := by
  show Rp (.ofO (if 4 + 3 ≤ LIM then some (.tuple [enc x.a, enc x.b, enc x.c, enc x.d, enc y.a, enc y.b, enc y.c]) else none)) _
  rw [if_pos (by decide)]
  rfl
theorem f_addT5_1 (x : T5 α β γ δ ε) (y : T1 ζ) : Rp (.ofO (addO (enc x) (enc y))) (.ok (T6.mk x.a x.b x.c x.d x.e y.a)) := by
  show Rp (.ofO (if 5 + 1 ≤ LIM then some (.tuple [enc x.a, enc x.b, enc x.c, enc x.d, enc x.e, enc y.a]) else none)) _
  rw [if_pos (by decide)]
  rfl
theorem f_addT5_2 (x : T5 α β γ δ ε) (y : T2 ζ η) : Rp (.ofO (addO (enc x) (enc y))) (.ok (T7.mk x.a x.b x.c x.d x.e y.a y.b)) := by
  show Rp (.ofO (if 5 + 2 ≤ LIM then some (.tuple [enc x.a, enc x.b, enc x.c, enc x.d, enc x.e, enc y.a, enc y.b]) else none)) _
  rw [if_pos (by decide)]
  rfl
theorem f_addT6_1 (x : T6 α β γ δ ε ζ) (y : T1 η) : Rp (.ofO (addO (enc x) (enc y))) (.ok (T7.mk x.a x.b x.c x.d x.e x.f y.a)) := by
  show Rp (.ofO (if 6 + 1 ≤ LIM then some (.tuple [enc x.a, enc x.b, enc x.c, enc x.d, enc x.e, enc x.f, enc y.a]) else none)) _
  rw [if_pos (by decide)]
  rfl
end
end Pc

set_option maxRecDepth 100000
set_option maxHeartbeats 1000000
namespace Pc
open PySem L2
/-! ### what changes a name while it is told -/
section
variable {α β γ δ ε : Type} [Nc α] [Nc β] [Nc δ] [Nc ε] {K : γ → Fl → Prop} {ρ : En} {i j : Nat} {m ma mb : En → P D} {rest body : En → Fl} {x xb : En → R D}
def Rx (r : R D) (ρ : En) (j : Nat) (t : P (T2 α β)) : Prop := match t with
  | .ok q => r = .ok (enc q.a) (ρ.set j (some (enc q.b)))
  | .exc c => ∃ ρ', r = .exc c ρ'
  | .stuck => True
def PopR (r : Option (D × D)) (t : P (T2 α β)) : Prop := match t with
  | .ok q => r = some (enc q.b, enc q.a)
  | .exc _ => False
  | .stuck => True
/-- x op pop -/
def x2P {α β γ δ : Type} (g : α → β → P γ) (a : α) (q : T2 β δ) : P (T2 γ δ) := (g a q.a).bind fun z => .ok ⟨z, q.b⟩
theorem yx_2 {f : D → D → Option D} {g : α → β → P δ} {ta : P α} {tb : P (T2 β ε)} (hf : ∀ x y, Rp (.ofO (f (enc x) (enc y))) (g x y)) (ha : Rp (ma ρ) ta) (hb : Rx (xb ρ) ρ j tb) : Rx (x2 f (xUp ma) xb ρ) ρ j (ta.bind fun a => tb.bind fun q => x2P g a q) := by
  show Rx ((xUp ma ρ).bind fun x ρ => (xb ρ).bind fun y ρ => xUp (fun _ => .ofO (f x y)) ρ) ρ j _
  cases ta with
  | stuck => trivial
  | exc c => have h : ma ρ = .exc c := ha; unfold xUp; rw [h]; exact ⟨ρ, rfl⟩
  | ok a =>
    have h : ma ρ = .ok (enc a) := ha
    have e : xUp ma ρ = .ok (enc a) ρ := by unfold xUp; rw [h]
    rw [e, rbind_ok, bind_ok]
    cases tb with
    | stuck => trivial
    | exc c => obtain ⟨ρ', h⟩ := (hb : ∃ ρ', xb ρ = .exc c ρ'); rw [h]; exact ⟨ρ', rfl⟩
    | ok q =>
      have h : xb ρ = .ok (enc q.a) (ρ.set j (some (enc q.b))) := hb
      rw [h, rbind_ok, bind_ok]
      unfold x2P xUp
      have h1 := hf a q.a
      cases e : g a q.a with
      | stuck => trivial
      | exc c => rw [e] at h1; have h' : P.ofO (f (enc a) (enc q.a)) = .exc c := h1; rw [h']; exact ⟨_, rfl⟩
      | ok z => rw [e] at h1; have h' : P.ofO (f (enc a) (enc q.a)) = .ok (enc z) := h1; rw [h']; exact rfl
theorem yx_pop1 {f : D → D → Option (D × D)} {tk : P δ} {g : β → δ → P (T2 α β)} (x : β) (hf : ∀ (x : β) (k : δ), PopR (f (enc x) (enc k)) (g x k)) (hk : Rp (m ρ) tk) (hx : getO ρ j = some (enc x) := by rfl) : Rx (xPop1 (pN j) f m ρ) ρ j (tk.bind fun k => g x k) := by
  show Rx ((xUp (mPl (pN j)) ρ).bind fun d _ => (xUp m ρ).bind fun y _ => match f d y with
    | some (d', z) => .ok z ((pN j).set ρ d')
    | none => .stuck) ρ j _
  have e0 : xUp (mPl (pN j)) ρ = .ok (enc x) ρ := by unfold xUp; rw [w_mPl, w_pNget, hx]; rfl
  rw [e0, rbind_ok]
  cases tk with
  | stuck => trivial
  | exc c => have h : m ρ = .exc c := hk; unfold xUp; rw [h]; exact ⟨ρ, rfl⟩
  | ok k =>
    have h : m ρ = .ok (enc k) := hk
    have e : xUp m ρ = .ok (enc k) ρ := by unfold xUp; rw [h]
    rw [e, rbind_ok, bind_ok]
    have h1 := hf x k
    cases e2 : g x k with
    | stuck => trivial
    | exc c => rw [e2] at h1; exact h1.elim
    | ok q => rw [e2] at h1; have h' : f (enc x) (enc k) = some (enc q.b, enc q.a) := h1; rw [h']; exact rfl
theorem yx_pop0 {f : D → Option (D × D)} {g : β → P (T2 α β)} (x : β) (hf : ∀ (x : β), PopR (f (enc x)) (g x)) (hx : getO ρ j = some (enc x) := by rfl) : Rx (xPop0 (pN j) f ρ) ρ j (g x) := by
  show Rx (match (getO ρ j).bind f with
    | some (d', z) => .ok z ((pN j).set ρ d')
    | none => .stuck) ρ j _
  rw [hx, Option.bind_some]
  have h1 := hf x
  cases e2 : g x with
  | stuck => trivial
  | exc c => rw [e2] at h1; exact h1.elim
  | ok q => rw [e2] at h1; have h' : f (enc x) = some (enc q.b, enc q.a) := h1; rw [h']; exact rfl
theorem seq_liftX {α : Type} (r : R α) (k : α → En → Fl) (b : En → Fl) : (liftX r k).seq b = liftX r fun x ρ => (k x ρ).seq b := by cases r <;> rfl
theorem j_liftX {r : R D} {t : P (T2 α β)} {k : D → En → Fl} {q : α → β → P γ} (h : Rx r ρ j t) (hk : ∀ a z, J (k (enc a) (ρ.set j (some (enc z)))) (q a z) K) : J (liftX r k) (t.bind fun p => q p.a p.b) K := by
  cases t with
  | stuck => trivial
  | exc c => obtain ⟨ρ', h⟩ := (h : ∃ ρ', r = .exc c ρ'); rw [h]; exact ⟨ρ', rfl⟩
  | ok p => have h : r = .ok (enc p.a) (ρ.set j (some (enc p.b))) := h; rw [h]; exact hk p.a p.b
theorem js_setX {t : P (T2 α β)} {q : α → β → P γ} (h : Rx (x ρ) ρ j t) (hk : ∀ a z, J (rest ((ρ.set j (some (enc z))).set i (some (enc a)))) (q a z) K) : J (seqM (sSetX i x) rest ρ) (t.bind fun p => q p.a p.b) K := by
  rw [seq_eq, show sSetX i x ρ = liftX (x ρ) fun d ρ => .nx (ρ.set i (some d)) from rfl, seq_liftX]
  exact j_liftX h hk
theorem js_exprX {t : P (T2 α β)} {q : β → P γ} (h : Rx (x ρ) ρ j t) (hk : ∀ z, J (rest (ρ.set j (some (enc z)))) (q z) K) : J (seqM (sExprX x) rest ρ) (t.bind fun p => q p.b) K := by
  rw [seq_eq, show sExprX x ρ = liftX (x ρ) fun _ ρ => .nx ρ from rfl, seq_liftX]
  exact j_liftX (q := fun _ z => q z) h fun _ z => hk z
theorem js_m1X {f : D → D → Option D} {t : P (T2 α β)} {g : δ → α → P ε} {q : β → ε → P γ} (w : δ) (hf : ∀ (x : δ) (y : α), Rp (.ofO (f (enc x) (enc y))) (g x y)) (h : Rx (x ρ) ρ j t) (hk : ∀ z u, J (rest ((ρ.set j (some (enc z))).set i (some (enc u)))) (q z u) K)
    (hx : getO ρ i = some (enc w) := by rfl) (hx2 : ∀ d, getO (ρ.set j d) i = some (enc w) := by exact fun _ => rfl) : J (seqM (sM1X i f x) rest ρ) (t.bind fun p => (g w p.a).bind fun u => q p.b u) K := by
  rw [seq_eq]
  have e : sM1X i f x ρ = liftX (x ρ) fun y ρ => match (getO ρ i).bind fun d => f d y with
    | some d' => .nx (ρ.set i (some d'))
    | none => .stuck := by unfold sM1X; rw [hx] <;> rfl
  rw [e, seq_liftX]
  refine j_liftX (q := fun a z => (g w a).bind fun u => q z u) h fun a z => ?_
  rw [hx2, Option.bind_some]
  have h1 := hf w a
  cases e : g w a with
  | stuck => trivial
  | exc c => rw [e] at h1; have h' : P.ofO (f (enc w) (enc a)) = .exc c := h1; cases e2 : f (enc w) (enc a) <;> rw [e2] at h' <;> cases h'
  | ok u =>
    rw [e] at h1
    have h' : P.ofO (f (enc w) (enc a)) = .ok (enc u) := h1
    cases e2 : f (enc w) (enc a) with
    | none => rw [e2] at h'; cases h'
    | some d => rw [e2] at h'; cases h'; exact hk z u
end
section
variable {κ β : Type} [Nc κ] [DecidableEq κ] [Kc κ] [Nc β]
@[irreducible] def dpopP (m : Dc κ β) (k : κ) : P (T2 β (Dc κ β)) := match dcVal m.l k with
  | some v => .ok ⟨v, ⟨dcDrop m.l k⟩⟩
  | none => .stuck
theorem f_dpop (m : Dc κ β) (k : κ) : PopR (dpopO (enc m) (enc k)) (dpopP m k) := by
  unfold PopR dpopP
  have e : dpopO (enc m) (enc k) = (kOf (enc k)).bind fun k => (valD (dcE m.l) k).map fun z => (.dict (dropD (dcE m.l) k), z) := rfl
  rw [e, Kc.of, Option.bind_some, val_enc, drop_enc]
  cases dcVal m.l k with
  | none => trivial
  | some v => rfl
@[irreducible] def lpopP (l : List β) : P (T2 β (List β)) := match l[l.length - 1]? with
  | some v => .ok ⟨v, l.dropLast⟩
  | none => .stuck
theorem f_lpop (l : List β) : PopR (lpopO (enc l)) (lpopP l) := by
  unfold PopR lpopP
  have e : lpopO (enc l) = ((l.map enc)[(l.map enc).length - 1]?).map fun z => (.list (l.map enc).dropLast, z) := rfl
  rw [e, List.length_map, List.getElem?_map]
  cases l[l.length - 1]? with
  | none => trivial
  | some v => show some (PyData.list (l.map enc).dropLast, enc v) = some (.list (l.dropLast.map enc), enc v); rw [List.map_dropLast]
@[irreducible] def lpopAtP (l : List β) (i : Int) : P (T2 β (List β)) := if rngOk i = true then (match ixN l.length i with
  | some j => (match l[j]? with
    | some v => .ok ⟨v, l.eraseIdx j⟩
    | none => .stuck)
  | none => .stuck) else .stuck
theorem erase_map {α β : Type} (f : α → β) : ∀ (l : List α) (j : Nat), (l.map f).eraseIdx j = (l.eraseIdx j).map f
  | [], _ => rfl
  | _ :: _, 0 => rfl
  | x :: l, j + 1 => by rw [List.map_cons, List.eraseIdx_cons_succ, List.eraseIdx_cons_succ, List.map_cons, erase_map f l j]
theorem f_lpopAt (l : List β) (i : Int) : PopR (lpopAtO (enc l) (enc i)) (lpopAtP l i) := by
  unfold PopR lpopAtP
  have e : lpopAtO (enc l) (enc i) = if rngOk i = true then (ixN (l.map enc).length i).bind fun j => ((l.map enc)[j]?).map fun z => (.list ((l.map enc).eraseIdx j), z) else none := rfl
  rw [e, List.length_map]
  by_cases hr : rngOk i = true
  · rw [if_pos hr, if_pos hr]
    cases ixN l.length i with
    | none => trivial
    | some j =>
      rw [Option.bind_some, List.getElem?_map]
      dsimp only
      cases e2 : l[j]? with
      | none => trivial
      | some v => show some (PyData.list ((l.map enc).eraseIdx j), enc v) = some (.list ((l.eraseIdx j).map enc), enc v); rw [erase_map]
  · rw [if_neg hr]; trivial
end
section
variable {α β : Type} [Nc α] [Nc β] {ρ : En} {ma : En → P D} {ta : P α}
/-- a tuple's part -/
theorem y_ixc {n : Int} {g : α → P β} (ha : Rp (ma ρ) ta) (hf : ∀ x, Rp (.ofO (ixO (enc x) (.int n))) (g x) := by exact fun _ => rfl) : Rp (m2 ixO ma (mC (.int n)) ρ) (ta.bind g) := Rg.bind ha fun x => hf x
theorem y_cutT {g : α → P β} {ml mh : En → P (Option Int)} (l h : Option Int) (ha : Rp (ma ρ) ta) (hf : ∀ x, Rp (.ofO (cutO (enc x) l h)) (g x) := by exact fun _ => rfl) (hl : ml ρ = .ok l := by rfl) (hh : mh ρ = .ok h := by rfl) : Rp (mCut cutO ma ml mh ρ) (ta.bind g) := y_cutc l h hf ha hl hh
end
section
variable {σ σ' β γ : Type} [Nc β] {ρ : En} {m : En → P D} {mt : En → P Bool} {rest a b : En → Fl}
theorem js_retQ {E : σ → Ou → En} {te : P β} (h : Rp (m ρ) te) : J (seqM (sRet m) rest ρ) (te.bind fun b => .ok (Lp.rt b)) (KRn E) := by
  rw [seq_eq, show sRet m ρ = liftP (m ρ) ρ fun d => .rt d ρ from rfl, seq_lift]
  exact j_lift h fun x => ⟨ρ, rfl⟩
theorem j_retQ {E : σ → Ou → En} {te : P β} (h : Rp (m ρ) te) : J (sRet m ρ) (te.bind fun b => .ok (Lp.rt b)) (KRn E) := by
  show J (liftP (m ρ) ρ fun d => .rt d ρ) _ _
  exact j_lift h fun x => ⟨ρ, rfl⟩
theorem k_q {E : σ → Ou → En} {s : σ} (h : ρ = E s (sl ρ) := by rfl) : KRn (β := β) E (.nx s) (.nx ρ) := k_n h
theorem ifq_key {E : σ → Ou → En} {K : γ → Fl → Prop} {t : σ → P γ} {q : β → P γ} (hq : ∀ b ρ, J (.rt (enc b) ρ) (q b) K) (hk : ∀ s o, J (rest (E s o)) (t s) K) (m : En → Fl) (tm : P (Lp σ β)) (hm : J (m ρ) tm (KRn E)) : J ((m ρ).seq rest) (tm.bind fun r => r.out t q) K := by
  cases tm with
  | ok r =>
    cases r with
    | nx s => obtain ⟨o, e⟩ := (hm : KN E s (m ρ)); rw [e]; exact hk s o
    | rt b => obtain ⟨ρ', e⟩ := (hm : KF b (m ρ)); rw [e]; exact hq b ρ'
  | exc c => obtain ⟨ρ', e⟩ := (hm : ∃ ρ', m ρ = .ex c ρ'); rw [e]; exact ⟨ρ', rfl⟩
  | stuck => trivial
theorem ifq_all {E : σ → Ou → En} {K : γ → Fl → Prop} {t : σ → P γ} {q : β → P γ} {tc : P Bool} {ta tb : P (Lp σ β)} (hq : ∀ b ρ, J (.rt (enc b) ρ) (q b) K) (h : Rb (mt ρ) tc) (ha : J (a ρ) ta (KRn E)) (hb : J (b ρ) tb (KRn E)) (hk : ∀ s o, J (rest (E s o)) (t s) K) :
    J (seqM (ifS mt a b) rest ρ) ((tc.bind fun c => if c = true then ta else tb).bind fun r => r.out t q) K := by
  rw [seq_eq, show ifS mt a b ρ = liftP (mt ρ) ρ fun t => if t = true then a ρ else b ρ from rfl, seq_lift]
  cases tc with
  | ok c =>
    have h' : mt ρ = .ok c := h
    rw [h', liftP_ok]
    cases c
    · exact ifq_key hq hk b tb hb
    · exact ifq_key hq hk a ta ha
  | exc c => have h' : mt ρ = .exc c := h; rw [h']; exact ⟨ρ, rfl⟩
  | stuck => trivial
/-- an if whose branches may end the def -/
theorem js_ifq {tc : P Bool} {ta tb : P (Lp σ β)} {t : σ → P β} (E : σ → Ou → En) (h : Rb (mt ρ) tc) (ha : J (a ρ) ta (KRn E)) (hb : J (b ρ) tb (KRn E)) (hk : ∀ s o, J (rest (E s o)) (t s) KF) : J (seqM (ifS mt a b) rest ρ) ((tc.bind fun c => if c = true then ta else tb).bind fun r => r.out t .ok) KF :=
  ifq_all (fun b ρ => ⟨ρ, rfl⟩) h ha hb hk
theorem js_ifqR {E' : σ' → Ou → En} {tc : P Bool} {ta tb : P (Lp σ β)} {t : σ → P (Lp σ' β)} (E : σ → Ou → En) (h : Rb (mt ρ) tc) (ha : J (a ρ) ta (KRn E)) (hb : J (b ρ) tb (KRn E)) (hk : ∀ s o, J (rest (E s o)) (t s) (KR E')) : J (seqM (ifS mt a b) rest ρ) ((tc.bind fun c => if c = true then ta else tb).bind fun r => r.out t fun b => .ok (.rt b)) (KR E') :=
  ifq_all (fun b ρ => ⟨ρ, rfl⟩) h ha hb hk
end
/-- a def told by its mirror -/
def decS : P D → P Str
  | .ok (.str x) => .ok x
  | .exc c => .exc c
  | _ => .stuck
def decB : P D → P Bool
  | .ok (.bool x) => .ok x
  | .exc c => .exc c
  | _ => .stuck
def decI : P D → P Int
  | .ok (.int x) => .ok x
  | .exc c => .exc c
  | _ => .stuck
theorem r_decS (p : P D) : Rp p (decS p) := by
  unfold decS
  split <;> first | rfl | trivial
theorem r_decB (p : P D) : Rp p (decB p) := by
  unfold decB
  split <;> first | rfl | trivial
theorem r_decI (p : P D) : Rp p (decI p) := by
  unfold decI
  split <;> first | rfl | trivial
theorem r_decD (p : P D) : Rp p p := rp_self p
theorem c_isB (x y : Bool) : Rb (.ofO (isBO (enc x) (enc y))) (.ok (decide (x = y))) := rfl
theorem b_lenT3 {α β γ : Type} [Nc α] [Nc β] [Nc γ] (x : T3 α β γ) : Rp (.ofO (lenO [enc x])) (.ok (3 : Int)) := rfl
theorem b_lenT7 {α β γ δ ε ζ η : Type} [Nc α] [Nc β] [Nc γ] [Nc δ] [Nc ε] [Nc ζ] [Nc η] (x : T7 α β γ δ ε ζ η) : Rp (.ofO (lenO [enc x])) (.ok (7 : Int)) := rfl
end Pc

set_option maxRecDepth 100000
set_option maxHeartbeats 1000000
namespace Pc
open PySem L2
/-! ### typed things that do not stand still -/
theorem lim_le' {n : Nat} (h : n ≤ 16777216) : n ≤ LIM := by unfold LIM; exact h
theorem lim_lt' {n : Nat} (h : n < 16777216) : n < LIM := by unfold LIM; exact h
section
variable {α β γ σ : Type}
theorem modP_ok {x y : Int} (h : 0 < y) : modP x y = .ok (x % y) := by unfold modP; rw [if_pos h]
theorem fdivP_ok {x y : Int} (h : 0 < y) (h2 : y < 1073741824) : fdivP x y = .ok (x / y) := by unfold fdivP; rw [if_pos ⟨h, h2⟩]
theorem mulP_l {x y : Int} (h : -1000000 < x) (h2 : x < 1000000) : mulP x y = .ok (x * y) := by
  unfold mulP; rw [if_pos (mulOk_l' (by unfold smallI; simp only [Bool.and_eq_true, decide_eq_true_eq]; omega))]
theorem mulP_r {x y : Int} (h : -1000000 < y) (h2 : y < 1000000) : mulP x y = .ok (x * y) := by
  unfold mulP; rw [if_pos (mulOk_r' (by unfold smallI; simp only [Bool.and_eq_true, decide_eq_true_eq]; omega))]
theorem powP_ok {x y : Int} (h : 0 ≤ y) (h1 : y ≤ 1000000) (h2 : x.natAbs < 18446744073709551616) : powP x y = .ok (x ^ y.toNat) := by unfold powP; rw [if_pos ⟨h, h1, h2⟩]
theorem catP_ok {x y : List α} (h : x.length + y.length ≤ 16777216) : catP x y = .ok (x ++ y) := by unfold catP; rw [if_pos (lim_le' h)]
theorem appP_ok {x : List α} {y : α} (h : x.length < 16777216) : appP x y = .ok (x ++ [y]) := by unfold appP; rw [if_pos (lim_lt' h)]
theorem lcA_ok {f : α → β} {x : List α} (h : x.length ≤ 16777216) : lcA f x = .ok (x.map f) := by unfold lcA; rw [if_pos (lim_le' h)]
theorem lcT_ok {c : α → Bool} {f : α → β} {x : List α} (h : x.length ≤ 16777216) : lcT c f x = .ok ((x.filter c).map f) := by unfold lcT; rw [if_pos (lim_le' h)]
theorem rg1P_ok {i : Int} (h : -1000000 ≤ i) (h2 : i ≤ 1000000) : rg1P i = .ok (rg 0 i.toNat) := by unfold rg1P; rw [if_pos (rng_ok h h2)]
theorem rg2P_ok {i j : Int} (h : -1000000 ≤ i) (h2 : i ≤ 1000000) (h3 : -1000000 ≤ j) (h4 : j ≤ 1000000) : rg2P i j = .ok (rg i (j - i).toNat) := by unfold rg2P; rw [rng_ok h h2, rng_ok h3 h4]; rfl
theorem ixP_ok {x : List α} {i : Int} (h : 0 ≤ i) (h2 : i.toNat < x.length) : ixP x i = .ok x[i.toNat] := by unfold ixP; rw [atI_get x i h h2]; rfl
theorem ixP_D {x : List α} {i : Int} (d : α) (h : 0 ≤ i) (h2 : i < x.length) : ixP x i = .ok (x.getD i.toNat d) := by
  rw [ixP_ok h (by omega), List.getD_eq_getElem?_getD, List.getElem?_eq_getElem (by omega)]; rfl
theorem repP_ok {x : List α} {k : Int} (h : 0 ≤ k) (h1 : k < 1000000) (h2 : x.length * k.toNat ≤ 16777216) : repP x k = .ok (List.replicate k.toNat x).flatten := by
  unfold repP
  rw [if_pos]
  simp only [Bool.and_eq_true, decide_eq_true_eq]
  exact ⟨⟨h1, by omega⟩, lim_le' h2⟩
theorem cellP_ok {ns : List Int} {k : Int} (h : 0 ≤ k) : cellP ns k = .ok (ns.getD k.toNat 0) := by unfold cellP; rw [if_pos h]
theorem lcB_ok {c : α → P Bool} {f : α → P β} (c' : α → Bool) (f' : α → β) : ∀ {xs : List α}, (∀ x ∈ xs, c x = .ok (c' x) ∧ (c' x = true → f x = .ok (f' x))) → lcB c f xs = .ok ((xs.filter c').map f')
  | [], _ => rfl
  | x :: xs, h => by
    obtain ⟨h1, h2⟩ := h x List.mem_cons_self
    have ih := lcB_ok c' f' (xs := xs) fun y hy => h y (List.mem_cons_of_mem _ hy)
    rw [lcB, h1, List.filter_cons]
    cases e : c' x with
    | false => exact ih
    | true => dsimp only; rw [h2 e, ih]; rfl
theorem lcP_ok {c : α → P Bool} {f : α → P β} (c' : α → Bool) (f' : α → β) {xs : List α} (hl : xs.length ≤ 16777216) (h : ∀ x ∈ xs, c x = .ok (c' x) ∧ (c' x = true → f x = .ok (f' x))) : lcP c f xs = .ok ((xs.filter c').map f') := by
  unfold lcP; rw [if_pos (lim_le' hl)]; exact lcB_ok c' f' h
theorem lcP_all {f : α → P β} (f' : α → β) {xs : List α} (hl : xs.length ≤ 16777216) (h : ∀ x ∈ xs, f x = .ok (f' x)) : lcP (fun _ => .ok true) f xs = .ok (xs.map f') := by
  rw [lcP_ok (fun _ => true) f' hl fun x hx => ⟨rfl, fun _ => h x hx⟩, List.filter_eq_self.mpr (fun _ _ => rfl)]
/-- a loop: what holds at each turn -/
theorem forP_ok {f : σ → α → P σ} (Iv : Nat → σ → Prop) (g : σ → α → σ) : ∀ {l : List α} {s : σ} {j : Nat}, Iv j s → (∀ i s a, l[i]? = some a → Iv (j + i) s → f s a = .ok (g s a) ∧ Iv (j + i + 1) (g s a)) →
    forP f l s = .ok (l.foldl g s) ∧ Iv (j + l.length) (l.foldl g s)
  | [], s, j, h0, _ => ⟨rfl, h0⟩
  | x :: xs, s, j, h0, h => by
    obtain ⟨h1, h2⟩ := h 0 s x rfl h0
    have ih := forP_ok Iv g (l := xs) (s := g s x) (j := j + 1) h2 fun i s a ha hs => by
      have := h (i + 1) s a ha (by rw [show j + (i + 1) = j + 1 + i by omega]; exact hs)
      rw [show j + (i + 1) + 1 = j + 1 + i + 1 by omega] at this
      exact this
    rw [forP, h1]
    refine ⟨ih.1, ?_⟩
    rw [List.length_cons, show j + (xs.length + 1) = j + 1 + xs.length by omega]
    exact ih.2
theorem forP_mem {f : σ → α → P σ} (Iv : σ → Prop) (g : σ → α → σ) {l : List α} {s : σ} (h0 : Iv s) (h : ∀ s a, a ∈ l → Iv s → f s a = .ok (g s a) ∧ Iv (g s a)) : forP f l s = .ok (l.foldl g s) ∧ Iv (l.foldl g s) :=
  forP_ok (fun _ => Iv) g (j := 0) h0 fun i s a ha hs => h s a (List.mem_of_getElem? ha) hs
theorem bind_of {p : P α} {a : α} {Q : Prop} {f : α → P β} {r : P β} (h : p = .ok a ∧ Q) (k : Q → f a = r) : p.bind f = r := by rw [h.1]; exact k h.2
theorem bind_eq {p : P α} {a : α} {f : α → P β} {r : P β} (h : p = .ok a) (k : f a = r) : p.bind f = r := by rw [h]; exact k
/-- a loop that may end the def, plain -/
def forB (f : σ → α → Lp σ β) : List α → σ → Lp σ β
  | [], s => .nx s
  | x :: xs, s => match f s x with
    | .nx s' => forB f xs s'
    | .rt b => .rt b
theorem forQ_ok {f : σ → α → P (Lp σ β)} (Iv : Nat → σ → Prop) (g : σ → α → Lp σ β) : ∀ {l : List α} {s : σ} {j : Nat}, Iv j s → (∀ i s a, l[i]? = some a → Iv (j + i) s → f s a = .ok (g s a) ∧ ∀ s', g s a = .nx s' → Iv (j + i + 1) s') →
    forQ f l s = .ok (forB g l s) ∧ ∀ s', forB g l s = .nx s' → Iv (j + l.length) s'
  | [], s, j, h0, _ => ⟨rfl, fun s' e => by cases e; exact h0⟩
  | x :: xs, s, j, h0, h => by
    obtain ⟨h1, h2⟩ := h 0 s x rfl h0
    rw [forQ, forB, h1, bnd_ok]
    cases e : g s x with
    | rt b => exact ⟨rfl, fun s' e => by cases e⟩
    | nx s1 =>
      have ih := forQ_ok Iv g (l := xs) (s := s1) (j := j + 1) (h2 s1 e) fun i s a ha hs => by
        have := h (i + 1) s a ha (by rw [show j + (i + 1) = j + 1 + i by omega]; exact hs)
        rw [show j + (i + 1) + 1 = j + 1 + i + 1 by omega] at this
        exact this
      refine ⟨ih.1, ?_⟩
      rw [List.length_cons, show j + (xs.length + 1) = j + 1 + xs.length by omega]
      exact ih.2
/-- a loop whose turns all go on -/
theorem forQ_nx {f : σ → α → P (Lp σ β)} (Iv : Nat → σ → Prop) (g : σ → α → σ) {l : List α} {s : σ} {j : Nat} (h0 : Iv j s) (h : ∀ i s a, l[i]? = some a → Iv (j + i) s → f s a = .ok (.nx (g s a)) ∧ Iv (j + i + 1) (g s a)) :
    forQ f l s = .ok (.nx (l.foldl g s)) ∧ Iv (j + l.length) (l.foldl g s) := by
  have e : ∀ (l : List α) (s : σ), forB (β := β) (fun s a => .nx (g s a)) l s = .nx (l.foldl g s) := by
    intro l
    induction l with
    | nil => intro s; rfl
    | cons x xs ih => intro s; exact ih _
  have q := forQ_ok (β := β) Iv (fun s a => .nx (g s a)) (l := l) (s := s) h0 fun i s a ha hs => ⟨(h i s a ha hs).1, fun s' e => by cases e; exact (h i s a ha hs).2⟩
  rw [e] at q
  exact ⟨q.1, q.2 _ rfl⟩
theorem forQ_unit {f : Unit → α → P (Lp Unit β)} {l : List α} (h : ∀ a ∈ l, f () a = .ok (.nx ())) : forQ f l () = .ok (.nx ()) :=
  (forQ_nx (fun _ _ => True) (fun _ _ => ()) (j := 0) trivial fun i s a ha _ => ⟨h a (List.mem_of_getElem? ha), trivial⟩).1
/-- a while: by a measure -/
def whl (c : σ → Bool) (g : σ → σ) : Nat → σ → σ
  | 0, s => s
  | n + 1, s => if c s = true then whl c g n (g s) else s
theorem whileP_ok {c : σ → P Bool} {f : σ → P σ} (Iv : σ → Prop) (c' : σ → Bool) (g : σ → σ) (μ : σ → Nat) (hc : ∀ s, Iv s → c s = .ok (c' s)) (hf : ∀ s, Iv s → c' s = true → f s = .ok (g s) ∧ Iv (g s) ∧ μ (g s) < μ s) :
    ∀ (N n : Nat) {s : σ}, Iv s → μ s < N → μ s ≤ n → whileP c f N s = .ok (whl c' g n s) ∧ Iv (whl c' g n s) ∧ c' (whl c' g n s) = false
  | 0, _, _, _, h, _ => by omega
  | N + 1, n, s, h0, h1, h2 => by
    rw [whileP, hc s h0, bnd_ok]
    cases e : c' s with
    | false =>
      have e2 : whl c' g n s = s := by cases n with
        | zero => rfl
        | succ n => rw [whl, e]; rfl
      rw [e2]
      exact ⟨rfl, h0, e⟩
    | true =>
      obtain ⟨f1, f2, f3⟩ := hf s h0 e
      cases n with
      | zero => omega
      | succ n =>
        rw [whl, e, if_pos rfl, if_pos rfl, f1, bnd_ok]
        exact whileP_ok Iv c' g μ hc hf N n f2 (by omega) (by omega)
theorem rg_get {lo : Int} {n i : Nat} {a : Int} (h : (rg lo n)[i]? = some a) : i < n ∧ a = lo + (i : Int) := by
  unfold rg at h
  rw [List.getElem?_map] at h
  cases e : (List.range n)[i]? with
  | none => rw [e] at h; cases h
  | some k =>
    rw [e] at h
    have hi := (List.getElem?_eq_some_iff.mp e)
    obtain ⟨h1, h2⟩ := hi
    simp at h1 h2 h
    omega
theorem rg_mem {lo : Int} {n : Nat} {a : Int} : a ∈ rg lo n ↔ lo ≤ a ∧ a < lo + (n : Int) := by
  unfold rg
  simp only [List.mem_map, List.mem_range]
  constructor
  · rintro ⟨k, hk, rfl⟩; omega
  · rintro ⟨h1, h2⟩; exact ⟨(a - lo).toNat, by omega, by omega⟩
theorem rg_len (lo : Int) (n : Nat) : (rg lo n).length = n := by unfold rg; simp
theorem rg_succ (lo : Int) (n : Nat) : rg lo (n + 1) = rg lo n ++ [lo + (n : Int)] := by unfold rg; rw [List.range_succ, List.map_append]; rfl
theorem foldl_cat {f : α → List β} : ∀ (l : List α) (acc : List β), l.foldl (fun a x => a ++ f x) acc = acc ++ l.flatMap f := foldl_app f
theorem lsetP_ok {x : List Int} (h : x.length ≤ 4000) : lsetP x = .ok ((dedI [] x).length : Nat) := by unfold lsetP; rw [if_pos h]
theorem lrangeP_ok {n : Int} (h : 0 ≤ n) (h2 : n ≤ 1000000) : lrangeP n = .ok (rg 0 n.toNat) := by
  unfold lrangeP; rw [if_pos]
  simp only [Bool.and_eq_true, decide_eq_true_eq]; omega
end
end Pc

set_option maxRecDepth 100000
set_option maxHeartbeats 1000000
namespace Pc
open PySem L2
section
variable {α β γ σ τ : Type}
/-- a loop beside a plain one -/
theorem forP_rel {f : σ → α → P σ} (R : Nat → σ → τ → Prop) (g : τ → α → τ) : ∀ {l : List α} {s : σ} {t : τ} {j : Nat}, R j s t → (∀ i s t a, l[i]? = some a → R (j + i) s t → ∃ s', f s a = .ok s' ∧ R (j + i + 1) s' (g t a)) →
    ∃ s', forP f l s = .ok s' ∧ R (j + l.length) s' (l.foldl g t)
  | [], s, t, j, h0, _ => ⟨s, rfl, h0⟩
  | x :: xs, s, t, j, h0, h => by
    obtain ⟨s1, h1, h2⟩ := h 0 s t x rfl h0
    obtain ⟨s', h3, h4⟩ := forP_rel R g (l := xs) (s := s1) (t := g t x) (j := j + 1) h2 fun i s t a ha hs => by
      have := h (i + 1) s t a ha (by rw [show j + (i + 1) = j + 1 + i by omega]; exact hs)
      rw [show j + (i + 1) + 1 = j + 1 + i + 1 by omega] at this
      exact this
    refine ⟨s', ?_, ?_⟩
    · rw [forP, h1]; exact h3
    · rw [List.length_cons, show j + (xs.length + 1) = j + 1 + xs.length by omega]; exact h4
/-- a loop that may end the def, beside a plain one -/
theorem forQ_rel {f : σ → α → P (Lp σ β)} (R : Nat → σ → τ → Prop) (st : τ → α → Option τ) (b : β) : ∀ {l : List α} {s : σ} {t : τ} {j : Nat}, R j s t → (∀ i s t a, l[i]? = some a → R (j + i) s t → match st t a with
      | some t' => ∃ s', f s a = .ok (.nx s') ∧ R (j + i + 1) s' t'
      | none => f s a = .ok (.rt b)) →
    match l.foldlM st t with
      | some t' => ∃ s', forQ f l s = .ok (.nx s') ∧ R (j + l.length) s' t'
      | none => forQ f l s = .ok (.rt b)
  | [], s, t, j, h0, _ => ⟨s, rfl, h0⟩
  | x :: xs, s, t, j, h0, h => by
    have h1 := h 0 s t x rfl h0
    rw [List.foldlM_cons]
    cases e : st t x with
    | none =>
      rw [e] at h1
      show forQ f (x :: xs) s = _
      rw [forQ, h1]; rfl
    | some t1 =>
      rw [e] at h1
      obtain ⟨s1, h1, h2⟩ := h1
      have ih := forQ_rel R st b (l := xs) (s := s1) (t := t1) (j := j + 1) h2 fun i s t a ha hs => by
        have := h (i + 1) s t a ha (by rw [show j + (i + 1) = j + 1 + i by omega]; exact hs)
        rw [show j + (i + 1) + 1 = j + 1 + i + 1 by omega] at this
        exact this
      show match xs.foldlM st t1 with
        | some t' => ∃ s', forQ f (x :: xs) s = .ok (.nx s') ∧ R (j + (x :: xs).length) s' t'
        | none => forQ f (x :: xs) s = .ok (.rt b)
      rw [forQ, h1, bnd_ok, List.length_cons, show j + (xs.length + 1) = j + 1 + xs.length by omega]
      exact ih
theorem bind_ex {p : P α} {Q : α → Prop} {f : α → P β} {r : P β} (h : ∃ a, p = .ok a ∧ Q a) (k : ∀ a, Q a → f a = r) : p.bind f = r := by
  obtain ⟨a, h1, h2⟩ := h
  rw [h1]; exact k a h2
def LpIs (R : σ → τ → Prop) (b : β) (o : Option τ) (r : Lp σ β) : Prop := match o with
  | some t => ∃ s, r = .nx s ∧ R s t
  | none => r = .rt b
theorem forQ_ex {f : σ → α → P (Lp σ β)} (R : Nat → σ → τ → Prop) (st : τ → α → Option τ) (b : β) {l : List α} {s : σ} {t : τ} {j : Nat} (h0 : R j s t) (h : ∀ i s t a, l[i]? = some a → R (j + i) s t → match st t a with
      | some t' => ∃ s', f s a = .ok (.nx s') ∧ R (j + i + 1) s' t'
      | none => f s a = .ok (.rt b)) : ∃ r, forQ f l s = .ok r ∧ LpIs (R (j + l.length)) b (l.foldlM st t) r := by
  have q := forQ_rel R st b h0 h
  unfold LpIs
  cases e : l.foldlM st t with
  | none => rw [e] at q; exact ⟨_, q, rfl⟩
  | some t' => rw [e] at q; obtain ⟨s', q1, q2⟩ := q; exact ⟨_, q1, s', rfl, q2⟩
/-- a loop by what holds at each turn -/
theorem forP_inv {f : σ → α → P σ} (Iv : Nat → σ → Prop) {l : List α} {s : σ} (h0 : Iv 0 s) (h : ∀ i s a, l[i]? = some a → Iv i s → ∃ s', f s a = .ok s' ∧ Iv (i + 1) s') : ∃ s', forP f l s = .ok s' ∧ Iv l.length s' := by
  have := forP_rel (f := f) (fun i s (_ : Unit) => Iv i s) (fun t _ => t) (l := l) (s := s) (t := ()) (j := 0) h0 fun i s t a ha hs => by
    rw [Nat.zero_add] at hs ⊢
    exact h i s a ha hs
  rw [Nat.zero_add] at this
  exact this
/-- dicts -/
theorem dcVal_put {κ : Type} [DecidableEq κ] (l : List (κ × β)) (k : κ) (v : β) (j : κ) : dcVal (dcPut l k v) j = if j = k then some v else dcVal l j := by
  unfold dcPut
  split
  · rename_i h
    unfold dcVal
    induction l with
    | nil => simp at h
    | cons q l ih =>
      rw [List.map_cons, List.find?_cons, List.find?_cons]
      by_cases hq : q.1 = k
      · rw [if_pos hq]
        by_cases hj : j = k
        · simp [hq, hj]
        · have : ¬ (k = j) := fun z => hj z.symm
          simp only [hq, this, decide_false, if_neg hj]
          by_cases hl : (l.any fun q => decide (q.1 = k)) = true
          · have := ih hl; rw [if_neg hj] at this; exact this
          · have hm : l.map (fun q => if q.1 = k then (q.1, v) else q) = l := by
              conv => rhs; rw [← List.map_id l]
              refine List.map_congr_left fun q hq' => ?_
              rw [if_neg]
              · rfl
              · intro z
                exact hl (List.any_eq_true.mpr ⟨q, hq', by simpa using z⟩)
            rw [hm]
      · rw [if_neg hq]
        by_cases hj : q.1 = j
        · have hjk : ¬ (j = k) := fun z => hq (hj.trans z)
          simp [hj, hjk]
        · simp only [hj, decide_false]
          refine ih ?_
          rw [List.any_cons] at h
          simpa [hq] using h
  · rename_i h
    unfold dcVal
    rw [List.find?_append]
    by_cases hj : j = k
    · subst hj
      have : l.find? (fun q => decide (q.1 = j)) = none := by
        rw [List.find?_eq_none]
        intro q hq z
        exact h (List.any_eq_true.mpr ⟨q, hq, z⟩)
      rw [this]
      simp
    · have : ¬ (k = j) := fun z => hj z.symm
      simp [hj, this]
theorem dcVal_drop {κ : Type} [DecidableEq κ] (l : List (κ × β)) (k j : κ) : dcVal (dcDrop l k) j = if j = k then none else dcVal l j := by
  unfold dcVal dcDrop
  induction l with
  | nil => simp
  | cons q l ih =>
    rw [List.filter_cons]
    by_cases hq : q.1 = k
    · simp only [hq, decide_true, Bool.not_true, Bool.false_eq_true, if_false]
      rw [ih, List.find?_cons]
      by_cases hj : j = k
      · simp [hj]
      · have : ¬ (k = j) := fun z => hj z.symm
        simp [hj, hq, this]
    · simp only [hq, decide_false, Bool.not_false, if_true, List.find?_cons]
      by_cases hj : q.1 = j
      · have : ¬ (j = k) := fun z => hq (hj.trans z)
        simp [hj, this]
      · simp only [hj, decide_false]
        exact ih
theorem dcPut_len {κ : Type} [DecidableEq κ] (l : List (κ × β)) (k : κ) (v : β) : (dcPut l k v).length ≤ l.length + 1 := by unfold dcPut; split <;> simp
theorem dcDrop_len {κ : Type} [DecidableEq κ] (l : List (κ × β)) (k : κ) : (dcDrop l k).length ≤ l.length := List.length_filter_le _ _
theorem dputP_ok {κ : Type} [DecidableEq κ] {m : Dc κ β} {k : κ} {v : β} (h : m.l.length < 16777216) : dputP m k v = .ok ⟨dcPut m.l k v⟩ := by unfold dputP; rw [if_pos (lim_lt' h)]
theorem dgetP_ok {κ : Type} [DecidableEq κ] {m : Dc κ β} {k : κ} {v : β} (h : dcVal m.l k = some v) : dgetP m k = .ok v := by unfold dgetP; rw [h]; rfl
theorem dpopP_ok {κ : Type} [DecidableEq κ] {m : Dc κ β} {k : κ} {v : β} (h : dcVal m.l k = some v) : dpopP m k = .ok ⟨v, ⟨dcDrop m.l k⟩⟩ := by unfold dpopP; rw [h]
end
end Pc

set_option maxRecDepth 100000
set_option maxHeartbeats 1000000
namespace Pc
open PySem L2
@[irreducible] def ssetP (x : List Int) : P (List Int) := if (dedI [] x).length < 64 ∧ x.length ≤ 4000 then .ok (ddI x) else .stuck
theorem f_sset (x : List Int) : Rp (.ofO (ssetO (enc x))) (ssetP x) := by
  unfold ssetP
  show Rp (.ofO ((intsD (x.map enc)).bind fun ns => if (dedI [] ns).length < 64 ∧ ns.length ≤ 4000 then some (.list ((ddI ns).map .int)) else none)) _
  rw [intsD_enc]
  show Rp (.ofO (if (dedI [] x).length < 64 ∧ x.length ≤ 4000 then some (.list ((ddI x).map .int)) else none)) _
  split
  · rfl
  · trivial
theorem ssetP_ok {x : List Int} (h : (dedI [] x).length < 64) (h2 : x.length ≤ 4000) : ssetP x = .ok (ddI x) := by unfold ssetP; rw [if_pos ⟨h, h2⟩]
theorem ddI_mem {x : List Int} {k : Int} : k ∈ ddI x ↔ k ∈ x := by
  unfold ddI
  rw [(srtI_perm _).mem_iff, dedI_mem]
  simp
theorem ddI_lt (x : List Int) : (ddI x).Pairwise (· < ·) := by
  unfold ddI
  have h1 := srtI_sorted (dedI [] x)
  have h2 : (srtI (dedI [] x)).Nodup := (srtI_perm _).nodup_iff.mpr (dedI_nodup x [] List.nodup_nil)
  exact lt_of_le_nodup _ h1 h2
theorem f_catL {α : Type} [Nc α] (x y : List α) : Rp (.ofO (addLO (enc x) (enc y))) (catP x y) := f_cat x y
theorem f_cutL {α : Type} [Nc α] (x : List α) (l h : Option Int) : Rp (.ofO (cutLO (enc x) l h)) (.ok (cutL x l h)) := f_cut x l h
section
variable {α β δ γ : Type} [Nc α] [Nc β] [Nc δ] {K : γ → Fl → Prop} {ρ : En} {i j l : Nat} {ma mb mc : En → P D} {rest : En → Fl}
theorem js_par3 {ta : P α} {tb : P β} {tc : P δ} {t : α → β → δ → P γ} (h : Rp (ma ρ) ta) (h2 : Rp (mb ρ) tb) (h3 : Rp (mc ρ) tc) (hk : ∀ x y z, J (rest (((ρ.set i (some (enc x))).set j (some (enc y))).set l (some (enc z)))) (t x y z) K) :
    J (seqM (sPar3 i j l (consM ma (consM mb (consM mc mNil)))) rest ρ) (ta.bind fun x => tb.bind fun y => tc.bind fun z => t x y z) K := by
  rw [seq_eq, show sPar3 i j l (consM ma (consM mb (consM mc mNil))) ρ = liftP ((consM ma (consM mb (consM mc mNil))) ρ) ρ (par3 i j l ρ) from rfl, seq_lift]
  have e : ∀ k : List D → Fl, liftP ((consM ma (consM mb (consM mc mNil))) ρ) ρ k = liftP (ma ρ) ρ fun x => liftP (mb ρ) ρ fun y => liftP (mc ρ) ρ fun z => k [x, y, z] := by
    intro k
    show liftP ((ma ρ).bind fun x => ((mb ρ).bind fun y => ((mc ρ).bind fun z => (mNil ρ).bind fun xs => .ok (z :: xs)).bind fun xs => .ok (y :: xs)).bind fun xs => .ok (x :: xs)) ρ k = _
    cases ma ρ with
    | ok a =>
      cases mb ρ with
      | ok b => cases mc ρ <;> rfl
      | exc c => rfl
      | stuck => rfl
    | exc c => rfl
    | stuck => rfl
  rw [e]
  exact j_lift h fun x => j_lift h2 fun y => j_lift h3 fun z => hk x y z
end
/-- the sum of things that may be None: none of them is -/
@[irreducible] def sumOP (x : List (Option Int)) : P Int := if x.all Option.isSome = true then .ok (x.map fun o => o.getD 0).sum else .stuck
theorem intsD_some : ∀ (x : List (Option Int)), x.all Option.isSome = true → intsD (x.map enc) = some (x.map fun o => o.getD 0)
  | [], _ => rfl
  | some a :: x, h => by
    rw [List.all_cons] at h
    have ih := intsD_some x (by simpa using h)
    rw [List.map_cons]
    show (intsD (x.map enc)).map (a :: ·) = _
    rw [ih]; rfl
  | none :: x, h => by cases h
theorem b_sumO (x : List (Option Int)) : Rp (.ofO (sumO [enc x])) (sumOP x) := by
  unfold sumOP
  split
  · rename_i h
    show P.ofO ((intsD (x.map enc)).map fun ns => PyData.int ns.sum) = _
    rw [intsD_some x h]; rfl
  · trivial
theorem sumOP_ok {x : List (Option Int)} (h : x.all Option.isSome = true) : sumOP x = .ok (x.map fun o => o.getD 0).sum := by unfold sumOP; rw [if_pos h]
end Pc

set_option maxRecDepth 100000
set_option maxHeartbeats 1000000
namespace Pc
open PySem L2
/-! ### sorted tuples -/
class Alk (α : Type) [Nc α] (n : outParam Nat) : Prop where
  a : ∀ x y : α, PySem.W.alike (enc x) (enc y) = true
  f : ∀ x : α, flat n (enc x) = true
class Tup (α : Type) [Nc α] : Prop where
  t : ∀ x : α, isTup1 (enc x) = true
instance : Alk Int 1 := ⟨fun _ _ => rfl, fun _ => rfl⟩
instance : Alk Str 1 := ⟨fun _ _ => rfl, fun _ => rfl⟩
instance : Alk Bool 1 := ⟨fun _ _ => rfl, fun _ => rfl⟩
section
variable {α β γ δ ε : Type} [Nc α] [Nc β] [Nc γ] [Nc δ] [Nc ε]
variable {n1 n2 n3 n4 n5 : Nat} [Alk α n1] [Alk β n2] [Alk γ n3] [Alk δ n4] [Alk ε n5]
instance : Tup (T2 α β) := ⟨fun _ => rfl⟩
instance alkT2 : Alk (T2 α β) ((max n1 n2) + 1) := ⟨fun x y => by
  show PySem.W.alikeAll [enc x.a, enc x.b] [enc y.a, enc y.b] = true
  simp only [PySem.W.alikeAll, Alk.a, Bool.and_self], fun t => by
  show flat ((max n1 n2) + 1) (.tuple [enc t.a, enc t.b]) = true
  rw [flat_tuple]
  simp only [List.all_cons, List.all_nil, Bool.and_true, Bool.and_eq_true]
  exact ⟨flat_max n1 _ _ (Alk.f t.a) (by omega), flat_max n2 _ _ (Alk.f t.b) (by omega)⟩⟩
instance : Tup (T3 α β γ) := ⟨fun _ => rfl⟩
instance alkT3 : Alk (T3 α β γ) ((max (max n1 n2) n3) + 1) := ⟨fun x y => by
  show PySem.W.alikeAll [enc x.a, enc x.b, enc x.c] [enc y.a, enc y.b, enc y.c] = true
  simp only [PySem.W.alikeAll, Alk.a, Bool.and_self], fun t => by
  show flat ((max (max n1 n2) n3) + 1) (.tuple [enc t.a, enc t.b, enc t.c]) = true
  rw [flat_tuple]
  simp only [List.all_cons, List.all_nil, Bool.and_true, Bool.and_eq_true]
  exact ⟨flat_max n1 _ _ (Alk.f t.a) (by omega), flat_max n2 _ _ (Alk.f t.b) (by omega), flat_max n3 _ _ (Alk.f t.c) (by omega)⟩⟩
instance : Tup (T4 α β γ δ) := ⟨fun _ => rfl⟩
instance alkT4 : Alk (T4 α β γ δ) ((max (max (max n1 n2) n3) n4) + 1) := ⟨fun x y => by
  show PySem.W.alikeAll [enc x.a, enc x.b, enc x.c, enc x.d] [enc y.a, enc y.b, enc y.c, enc y.d] = true
  simp only [PySem.W.alikeAll, Alk.a, Bool.and_self], fun t => by
  show flat ((max (max (max n1 n2) n3) n4) + 1) (.tuple [enc t.a, enc t.b, enc t.c, enc t.d]) = true
  rw [flat_tuple]
  simp only [List.all_cons, List.all_nil, Bool.and_true, Bool.and_eq_true]
  exact ⟨flat_max n1 _ _ (Alk.f t.a) (by omega), flat_max n2 _ _ (Alk.f t.b) (by omega), flat_max n3 _ _ (Alk.f t.c) (by omega), flat_max n4 _ _ (Alk.f t.d) (by omega)⟩⟩
instance : Tup (T5 α β γ δ ε) := ⟨fun _ => rfl⟩
instance alkT5 : Alk (T5 α β γ δ ε) ((max (max (max (max n1 n2) n3) n4) n5) + 1) := ⟨fun x y => by
  show PySem.W.alikeAll [enc x.a, enc x.b, enc x.c, enc x.d, enc x.e] [enc y.a, enc y.b, enc y.c, enc y.d, enc y.e] = true
  simp only [PySem.W.alikeAll, Alk.a, Bool.and_self], fun t => by
  show flat ((max (max (max (max n1 n2) n3) n4) n5) + 1) (.tuple [enc t.a, enc t.b, enc t.c, enc t.d, enc t.e]) = true
  rw [flat_tuple]
  simp only [List.all_cons, List.all_nil, Bool.and_true, Bool.and_eq_true]
  exact ⟨flat_max n1 _ _ (Alk.f t.a) (by omega), flat_max n2 _ _ (Alk.f t.b) (by omega), flat_max n3 _ _ (Alk.f t.c) (by omega), flat_max n4 _ _ (Alk.f t.d) (by omega), flat_max n5 _ _ (Alk.f t.e) (by omega)⟩⟩
end
/-- not behind -/
def leT {α : Type} [Nc α] (x y : α) : Bool := !PySem.W.dataLt (enc y) (enc x)
def srtT {α : Type} [Nc α] (l : List α) : List α := l.mergeSort leT
theorem b_sortT {α : Type} [Nc α] {n : Nat} [Alk α n] [Tup α] (hn : n ≤ 40 := by decide) (x : List α) : Rp (.ofO (sortTO [enc x])) (.ok (srtT x)) := by
  show Rp (.ofO (if okSort (x.map enc) = true then some (.list (srtD (x.map enc))) else none)) _
  have hk : okSort (x.map enc) = true := by
    unfold okSort
    rw [List.all_eq_true]
    intro d hd
    obtain ⟨a, _, rfl⟩ := List.mem_map.mp hd
    have h3 : (x.map enc).all (PySem.W.alike (enc a)) = true := by
      rw [List.all_eq_true]
      intro e he
      obtain ⟨b, _, rfl⟩ := List.mem_map.mp he
      exact Alk.a a b
    rw [Tup.t a, flat_max n 40 _ (Alk.f a) hn, h3]
    rfl
  rw [if_pos hk]
  show P.ok (PyData.list (srtD (x.map enc))) = P.ok (.list ((srtT x).map enc))
  congr 2
  unfold srtD srtT
  refine (List.map_mergeSort fun a _ b _ => ?_).symm
  rfl
end Pc

set_option maxRecDepth 100000
set_option maxHeartbeats 1000000
namespace Pc
open PySem L2
/-! ### things with fields -/
class Ob (σ : Type) where
  kds : σ → List (D × D)
  short : ∀ s, (kds s).length < 1000
instance ncOb {σ : Type} [Ob σ] : Nc σ := ⟨fun s => .dict (Ob.kds s)⟩
abbrev SetT := T7 Str Int Int Int Bool Str Bool
structure Plr where
  setting : SetT
  down : List Int
  some : List Int
  now : Int
  due : Option Int
  count : Int
  row : List Int
  ends : Dc Int Int
instance obPlr : Ob Plr := ⟨fun p => [(.str "setting", enc p.setting), (.str "down", enc p.down), (.str "some", enc p.some), (.str "now", enc p.now), (.str "due", enc p.due), (.str "count", enc p.count), (.str "row", enc p.row), (.str "ends", enc p.ends)], fun _ => show (8 : Nat) < 1000 from by decide⟩
/-- a field: what it holds, what it is set to -/
structure Fld (σ α : Type) [Ob σ] [Nc α] (n : Str) (get : σ → α) (put : σ → α → σ) : Prop where
  get : ∀ s : σ, fldO n (enc s) = Option.some (enc (get s))
  put : ∀ (s : σ) (v : α), fputO n (enc s) (enc v) = enc (put s v)
theorem fd_setting : Fld Plr SetT "setting" Plr.setting (fun p v => { p with setting := v }) := ⟨fun _ => rfl, fun _ _ => rfl⟩
theorem fd_down : Fld Plr (List Int) "down" Plr.down (fun p v => { p with down := v }) := ⟨fun _ => rfl, fun _ _ => rfl⟩
theorem fd_some : Fld Plr (List Int) "some" Plr.some (fun p v => { p with some := v }) := ⟨fun _ => rfl, fun _ _ => rfl⟩
theorem fd_now : Fld Plr Int "now" Plr.now (fun p v => { p with now := v }) := ⟨fun _ => rfl, fun _ _ => rfl⟩
theorem fd_due : Fld Plr (Option Int) "due" Plr.due (fun p v => { p with due := v }) := ⟨fun _ => rfl, fun _ _ => rfl⟩
theorem fd_count : Fld Plr Int "count" Plr.count (fun p v => { p with count := v }) := ⟨fun _ => rfl, fun _ _ => rfl⟩
theorem fd_row : Fld Plr (List Int) "row" Plr.row (fun p v => { p with row := v }) := ⟨fun _ => rfl, fun _ _ => rfl⟩
theorem fd_ends : Fld Plr (Dc Int Int) "ends" Plr.ends (fun p v => { p with ends := v }) := ⟨fun _ => rfl, fun _ _ => rfl⟩
section
variable {α β γ δ ε τ σ : Type} [Nc α] [Nc β] [Nc δ] [Nc ε] [Nc τ] [Ob σ] {K : γ → Fl → Prop} {ρ : En} {i j : Nat} {m ma mb mk mv : En → P D} {rest body a b : En → Fl} {x xa xb : En → R D} {n : Str} {gt : σ → α} {pt : σ → α → σ} {ml : En → P (List D)}
theorem plF_get (F : Fld σ α n gt pt) {s : σ} (hx : getO ρ i = Option.some (enc s)) : (plF (pN i) n).get ρ = Option.some (enc (gt s)) := by
  show (getO ρ i).bind (fldO n) = _
  rw [hx]
  exact F.get s
theorem plF_set (F : Fld σ α n gt pt) {s : σ} {v : α} (hx : getO ρ i = Option.some (enc s)) : (plF (pN i) n).set ρ (enc v) = ρ.set i (Option.some (enc (pt s v))) := by
  show (match getO ρ i with | Option.some o => ρ.set i (Option.some (fputO n o (enc v))) | none => ρ) = _
  rw [hx]
  show ρ.set i (Option.some (fputO n (enc s) (enc v))) = _
  rw [F.put]
theorem y_fld (F : Fld σ α n gt pt) (s : σ) (hx : getO ρ i = Option.some (enc s) := by rfl) : Rp (mPl (plF (pN i) n) ρ) (.ok (gt s)) := by
  show P.ofO ((plF (pN i) n).get ρ) = .ok (enc (gt s))
  rw [plF_get F hx]
  rfl
theorem put_eq (F : Fld σ α n gt pt) (s : σ) (v : α) : PyData.dict (putFD n (enc v) (Ob.kds s)) = enc (pt s v) := F.put s v
theorem fset_eq (F : Fld σ α n gt pt) {s : σ} {v : α} (hx : getO ρ i = Option.some (enc s)) :
    (liftP (mPl (pN i) ρ) ρ fun o => match o with
      | .dict kds => if kds.length < 1000 then Fl.nx ((pN i).set ρ (.dict (putFD n (enc v) kds))) else .stuck
      | _ => .stuck) = .nx (ρ.set i (Option.some (enc (pt s v)))) := by
  rw [show mPl (pN i) ρ = .ok (.dict (Ob.kds s)) from by show P.ofO (getO ρ i) = _; rw [hx]; rfl]
  show (if (Ob.kds s).length < 1000 then Fl.nx (ρ.set i (Option.some (.dict (putFD n (enc v) (Ob.kds s))))) else .stuck) = _
  rw [if_pos (Ob.short s), put_eq F]
theorem J_eq {f f' : Fl} {t : P γ} (e : f = f') (h : J f' t K) : J f t K := e ▸ h
/-- o.n = e -/
theorem js_fset (F : Fld σ α n gt pt) (s : σ) {te : P α} {t : α → P γ} (h : Rp (m ρ) te) (hk : ∀ v, J (rest (ρ.set i (Option.some (enc (pt s v))))) (t v) K) (hx : getO ρ i = Option.some (enc s) := by rfl) : J (seqM (sFset (pN i) n m) rest ρ) (te.bind t) K := by
  rw [seq_eq]
  show J ((liftP (m ρ) ρ _).seq rest) _ K
  rw [seq_lift]
  refine j_lift h fun v => ?_
  exact J_eq (congrArg (Fl.seq · rest) (fset_eq F (v := v) hx)) (hk v)
theorem js_fsetk (F : Fld σ α n gt pt) (s : σ) {v : α} {t : P γ} (h : Rp (m ρ) (.ok v)) (hk : J (rest (ρ.set i (Option.some (enc (pt s v))))) t K) (hx : getO ρ i = Option.some (enc s) := by rfl) : J (seqM (sFset (pN i) n m) rest ρ) t K := by
  have h' : m ρ = .ok (enc v) := h
  rw [seq_eq]
  show J ((liftP (m ρ) ρ _).seq rest) _ K
  rw [h']
  exact J_eq (congrArg (Fl.seq · rest) (fset_eq F (v := v) hx)) hk
/-- o.n += e -/
theorem js_faug {gt : σ → Int} {pt : σ → Int → σ} (F : Fld σ Int n gt pt) (s : σ) {y : Int} {t : P γ} (h : Rp (m ρ) (.ok y)) (hk : J (rest (ρ.set i (Option.some (enc (pt s (gt s + y)))))) t K) (hx : getO ρ i = Option.some (enc s) := by rfl) : J (seqM (sFaug (pN i) n m) rest ρ) t K := by
  have h' : m ρ = .ok (enc y) := h
  rw [seq_eq]
  show J ((liftP (mPl (plF (pN i) n) ρ) ρ _).seq rest) _ K
  rw [show mPl (plF (pN i) n) ρ = .ok (enc (gt s)) from y_fld F s hx]
  show J ((liftP (m ρ) ρ _).seq rest) _ K
  rw [h']
  show J (Fl.seq (match getO ρ i with
    | Option.some (.dict kds) => if kds.length < 1000 then Fl.nx (ρ.set i (Option.some (.dict (putFD n (enc (gt s + y)) kds)))) else .stuck
    | _ => .stuck) rest) t K
  rw [hx]
  show J (Fl.seq (if (Ob.kds s).length < 1000 then Fl.nx (ρ.set i (Option.some (.dict (putFD n (enc (gt s + y)) (Ob.kds s))))) else .stuck) rest) t K
  rw [if_pos (Ob.short s), put_eq F]
  exact hk
/-- o.n.append(e) and the like -/
theorem js_fm1 {f : D → D → Option D} (F : Fld σ α n gt pt) (s : σ) {g : α → β → P α} {te : P β} {t : α → P γ} (hf : ∀ (x : α) (y : β), Rp (.ofO (f (enc x) (enc y))) (g x y)) (h : Rp (m ρ) te) (hk : ∀ z, J (rest (ρ.set i (Option.some (enc (pt s z))))) (t z) K) (hx : getO ρ i = Option.some (enc s) := by rfl) :
    J (seqM (sM1 (plF (pN i) n) f m) rest ρ) (te.bind fun y => (g (gt s) y).bind t) K := by
  rw [seq_eq]
  show J ((liftP (mPl (plF (pN i) n) ρ) ρ _).seq rest) _ K
  rw [show mPl (plF (pN i) n) ρ = .ok (enc (gt s)) from y_fld F s hx]
  show J ((liftP (m ρ) ρ _).seq rest) _ K
  rw [seq_lift]
  refine j_lift h fun y => ?_
  have hz := hf (gt s) y
  cases e : g (gt s) y with
  | ok z =>
    rw [e] at hz
    have hz' : P.ofO (f (enc (gt s)) (enc y)) = .ok (enc z) := hz
    cases e2 : f (enc (gt s)) (enc y) with
    | none => rw [e2] at hz'; cases hz'
    | some d =>
      rw [e2] at hz'
      obtain rfl : d = enc z := P.ok.inj hz'
      show J (Fl.seq (.nx ((plF (pN i) n).set ρ (enc z))) rest) (t z) K
      rw [plF_set F hx]
      exact hk z
  | exc c =>
    rw [e] at hz
    have hz' : P.ofO (f (enc (gt s)) (enc y)) = .exc c := hz
    cases e2 : f (enc (gt s)) (enc y) <;> rw [e2] at hz' <;> cases hz'
  | stuck => trivial
/-- o.n[k] = v -/
theorem js_fput {f : D → D → D → Option D} (F : Fld σ α n gt pt) (s : σ) {g : α → β → δ → P α} {tk : P β} {tv : P δ} {t : α → P γ} (hf : ∀ (x : α) (y : β) (z : δ), Rp (.ofO (f (enc x) (enc y) (enc z))) (g x y z)) (hv : Rp (mv ρ) tv) (h : Rp (mk ρ) tk) (hk : ∀ z, J (rest (ρ.set i (Option.some (enc (pt s z))))) (t z) K) (hx : getO ρ i = Option.some (enc s) := by rfl) :
    J (seqM (sPut (plF (pN i) n) f mk mv) rest ρ) (tv.bind fun v => tk.bind fun k => (g (gt s) k v).bind t) K := by
  rw [seq_eq]
  show J ((liftP (mv ρ) ρ _).seq rest) _ K
  rw [seq_lift]
  refine j_lift hv fun v => ?_
  show J (Fl.seq (liftP (mPl (plF (pN i) n) ρ) ρ _) rest) _ K
  rw [show mPl (plF (pN i) n) ρ = .ok (enc (gt s)) from y_fld F s hx]
  show J ((liftP (mk ρ) ρ _).seq rest) _ K
  rw [seq_lift]
  refine j_lift h fun y => ?_
  have hz := hf (gt s) y v
  cases e : g (gt s) y v with
  | ok z =>
    rw [e] at hz
    have hz' : P.ofO (f (enc (gt s)) (enc y) (enc v)) = .ok (enc z) := hz
    cases e2 : f (enc (gt s)) (enc y) (enc v) with
    | none => rw [e2] at hz'; cases hz'
    | some d =>
      rw [e2] at hz'
      obtain rfl : d = enc z := P.ok.inj hz'
      show J (Fl.seq (.nx ((plF (pN i) n).set ρ (enc z))) rest) (t z) K
      rw [plF_set F hx]
      exact hk z
  | exc c =>
    rw [e] at hz
    have hz' : P.ofO (f (enc (gt s)) (enc y) (enc v)) = .exc c := hz
    cases e2 : f (enc (gt s)) (enc y) (enc v) <;> rw [e2] at hz' <;> cases hz'
  | stuck => trivial
/-! ### defs that change what they are handed -/
def RsT (r : RS) (t : P (T2 α σ)) : Prop := match t with
  | .ok q => r = .ok (enc q.a) (enc q.b)
  | .exc c => ∃ o, r = .exc c o
  | .stuck => True
/-- the thing stays as it is -/
def RsR {σ : Type} [Nc σ] (r : RS) (s : σ) (t : P α) : Prop := match t with
  | .ok a => r = .ok (enc a) (enc s)
  | .exc c => ∃ o, r = .exc c o
  | .stuck => True
def KS (q : T2 α σ) (fl : Fl) : Prop := ∃ ρ, fl = .rt (enc q.a) ρ ∧ getO ρ 0 = Option.some (enc q.b)
def KSU (s : σ) (fl : Fl) : Prop := ∃ ρ, (fl = .nx ρ ∨ fl = .rt .none ρ) ∧ getO ρ 0 = Option.some (enc s)
def KSR {σ : Type} [Nc σ] (k : Nat) (s : σ) (a : α) (fl : Fl) : Prop := ∃ ρ, fl = .rt (enc a) ρ ∧ getO ρ k = Option.some (enc s)
/-- slots that are told stay told -/
def Ks (ρ ρ' : En) : Prop := ∀ k, (getO ρ k).isSome = true → (getO ρ' k).isSome = true
def KpF (ρ : En) (f : Fl) : Prop := match f with
  | .nx ρ' => Ks ρ ρ'
  | .rt _ ρ' => Ks ρ ρ'
  | .ct ρ' => Ks ρ ρ'
  | .ex _ ρ' => Ks ρ ρ'
  | .stuck => True
def Kp (b : En → Fl) : Prop := ∀ ρ, KpF ρ (b ρ)
theorem exc_out {k : Nat} {b : En → Fl} (h : Kp b) (h0 : (getO ρ k).isSome = true) {c : Str} {ρ' : En} (e : b ρ = .ex c ρ') : ∃ o, getO ρ' k = Option.some o := by
  have := h ρ
  rw [e] at this
  exact Option.isSome_iff_exists.mp (this k h0)
theorem r_ofS {N : Nat} {o : D} {ds : List D} {t : P (T2 α σ)} (kp : Kp body) (h : J (body ρ) t KS) (h0 : env0 N (o :: ds) = ρ := by rfl) (hs : (getO ρ 0).isSome = true := by rfl) : RsT (runS N body o ds) t := by
  subst h0
  unfold runS
  cases t with
  | ok q =>
    obtain ⟨ρ', e, e2⟩ := h
    show outS (body _) = _
    rw [e]
    show (match getO ρ' 0 with | Option.some o => RS.ok (enc q.a) o | none => .stuck) = _
    rw [e2]
  | exc c =>
    obtain ⟨ρ', e⟩ := h
    obtain ⟨o', e2⟩ := exc_out kp hs e
    refine ⟨o', ?_⟩
    rw [e]
    show (match getO ρ' 0 with | Option.some o => RS.exc c o | none => .stuck) = _
    rw [e2]
  | stuck => trivial
theorem r_ofSU {N : Nat} {o : D} {ds : List D} {t : P σ} (kp : Kp body) (h : J (body ρ) t KSU) (h0 : env0 N (o :: ds) = ρ := by rfl) (hs : (getO ρ 0).isSome = true := by rfl) : RsT (α := Unit) (runS N body o ds) (t.bind fun s => .ok ⟨(), s⟩) := by
  subst h0
  unfold runS
  cases t with
  | ok q =>
    obtain ⟨ρ', e, e2⟩ := h
    show outS (body _) = RS.ok .none (enc q)
    rcases e with e | e
    · rw [e]
      show (match getO ρ' 0 with | Option.some o => RS.ok .none o | none => .stuck) = _
      rw [e2]
    · rw [e]
      show (match getO ρ' 0 with | Option.some o => RS.ok .none o | none => .stuck) = _
      rw [e2]
  | exc c =>
    obtain ⟨ρ', e⟩ := h
    obtain ⟨o', e2⟩ := exc_out kp hs e
    refine ⟨o', ?_⟩
    rw [e]
    show (match getO ρ' 0 with | Option.some o => RS.exc c o | none => .stuck) = _
    rw [e2]
  | stuck => trivial
theorem r_ofSR {σ : Type} [Nc σ] {N : Nat} {s : σ} {ds : List D} {t : P α} (kp : Kp body) (h : J (body ρ) t (KSR 0 s)) (h0 : env0 N (enc s :: ds) = ρ := by rfl) (hs : (getO ρ 0).isSome = true := by rfl) : RsR (runS N body (enc s) ds) s t := by
  subst h0
  unfold runS
  cases t with
  | ok q =>
    obtain ⟨ρ', e, e2⟩ := h
    show outS (body _) = _
    rw [e]
    show (match getO ρ' 0 with | Option.some o => RS.ok (enc q) o | none => .stuck) = _
    rw [e2]
  | exc c =>
    obtain ⟨ρ', e⟩ := h
    obtain ⟨o', e2⟩ := exc_out kp hs e
    refine ⟨o', ?_⟩
    rw [e]
    show (match getO ρ' 0 with | Option.some o => RS.exc c o | none => .stuck) = _
    rw [e2]
  | stuck => trivial
theorem r_ofL {σ : Type} [Nc σ] {N : Nat} {s : σ} {ds : List D} {t : P α} (kp : Kp body) (h : J (body ρ) t (KSR ds.length s)) (h0 : env0 N (ds ++ [enc s]) = ρ := by rfl) (hs : (getO ρ ds.length).isSome = true := by rfl) : RsR (runL N body (enc s) ds) s t := by
  subst h0
  unfold runL
  cases t with
  | ok q =>
    obtain ⟨ρ', e, e2⟩ := h
    show outI ds.length (body _) = _
    rw [e]
    show (match getO ρ' ds.length with | Option.some o => RS.ok (enc q) o | none => .stuck) = _
    rw [e2]
  | exc c =>
    obtain ⟨ρ', e⟩ := h
    obtain ⟨o', e2⟩ := exc_out kp hs e
    refine ⟨o', ?_⟩
    rw [e]
    show (match getO ρ' ds.length with | Option.some o => RS.exc c o | none => .stuck) = _
    rw [e2]
  | stuck => trivial
/-! returns -/
theorem js_retS (s : σ) {te : P α} (h : Rp (m ρ) te) (hx : getO ρ 0 = Option.some (enc s) := by rfl) : J (seqM (sRet m) rest ρ) (te.bind fun a => .ok ⟨a, s⟩) (KS (α := α) (σ := σ)) := by
  rw [seq_eq]
  show J ((liftP (m ρ) ρ _).seq rest) _ _
  rw [seq_lift]
  exact j_lift h fun a => ⟨ρ, rfl, hx⟩
theorem j_retS (s : σ) {te : P α} (h : Rp (m ρ) te) (hx : getO ρ 0 = Option.some (enc s) := by rfl) : J (sRet m ρ) (te.bind fun a => .ok ⟨a, s⟩) (KS (α := α) (σ := σ)) := by
  show J (liftP (m ρ) ρ _) _ _
  exact j_lift h fun a => ⟨ρ, rfl, hx⟩
theorem js_retR {σ : Type} [Nc σ] {k : Nat} {s : σ} {te : P α} (h : Rp (m ρ) te) (hx : getO ρ k = Option.some (enc s) := by rfl) : J (seqM (sRet m) rest ρ) te (KSR (α := α) k s) := by
  rw [seq_eq]
  show J ((liftP (m ρ) ρ _).seq rest) _ _
  rw [seq_lift]
  have := j_lift (ρ := ρ) (K := KSR (α := α) k s) (k := fun d => Fl.seq (.rt d ρ) rest) (t := fun a => .ok a) h fun a => ⟨ρ, rfl, hx⟩
  rw [bind_id] at this
  exact this
theorem j_retR {σ : Type} [Nc σ] {k : Nat} {s : σ} {te : P α} (h : Rp (m ρ) te) (hx : getO ρ k = Option.some (enc s) := by rfl) : J (sRet m ρ) te (KSR (α := α) k s) := by
  have := j_lift (ρ := ρ) (K := KSR (α := α) k s) (k := fun d => (.rt d ρ)) (t := fun a => .ok a) h fun a => ⟨ρ, rfl, hx⟩
  rw [bind_id] at this
  exact this
theorem k_su {s : σ} (hx : getO ρ 0 = Option.some (enc s) := by rfl) : KSU s (.nx ρ) := ⟨ρ, .inl rfl, hx⟩
theorem j_rtS (a : α) (s : σ) (hx : getO ρ 0 = Option.some (enc s) := by rfl) : J (.rt (enc a) ρ) (.ok ⟨a, s⟩) (KS (α := α) (σ := σ)) := ⟨ρ, rfl, hx⟩
theorem j_rtR {σ : Type} [Nc σ] {k : Nat} {s : σ} (a : α) (hx : getO ρ k = Option.some (enc s) := by rfl) : J (.rt (enc a) ρ) (.ok a) (KSR (α := α) k s) := ⟨ρ, rfl, hx⟩
theorem j_rtF (a : α) : J (.rt (enc a) ρ) (.ok a) (KF (β := α)) := ⟨ρ, rfl⟩
theorem j_rtL {E : γ → Ou → En} (a : α) : J (.rt (enc a) ρ) (.ok (Lp.rt a)) (KR (β := α) E) := ⟨ρ, rfl⟩
theorem j_rtQ {E : γ → Ou → En} (a : α) : J (.rt (enc a) ρ) (.ok (Lp.rt a)) (KRn (β := α) E) := ⟨ρ, rfl⟩
end
end Pc

set_option maxRecDepth 100000
set_option maxHeartbeats 1000000
namespace Pc
open PySem L2
/-! ### slots that are told stay told -/
theorem Ks.rfl {ρ : En} : Ks ρ ρ := fun _ h => h
theorem Ks.tr {ρ ρ1 ρ2 : En} (h : Ks ρ ρ1) (h2 : Ks ρ1 ρ2) : Ks ρ ρ2 := fun k q => h2 k (h k q)
theorem ks_set (ρ : En) (i : Nat) (d : D) : Ks ρ (ρ.set i (some d)) := by
  intro k h
  show (((ρ.set i (some d))[k]?).bind id).isSome = true
  by_cases e : i = k
  · subst e
    have : i < ρ.length := by
      cases z : ρ[i]? with
      | none => rw [show getO ρ i = (ρ[i]?).bind id from (Eq.refl _), z] at h; cases h
      | some q => exact (List.getElem?_eq_some_iff.mp z).1
    rw [List.getElem?_set_self this]
    exact Eq.refl _
  · rw [List.getElem?_set_ne e]; exact h
def KpP (pl : Pl) : Prop := ∀ ρ d, Ks ρ (pl.set ρ d)
def KpRv {α : Type} (ρ : En) (x : R α) : Prop := match x with
  | .ok _ ρ' => Ks ρ ρ'
  | .exc _ ρ' => Ks ρ ρ'
  | .stuck => True
def KpR {α : Type} (x : En → R α) : Prop := ∀ ρ, KpRv ρ (x ρ)
section
variable {a b body : En → Fl} {m ma mb mk mv : En → P D} {ml : En → P (List D)} {mt : En → P Bool} {x xa xb : En → R D} {tx ty : En → R Bool} {pl : Pl} {n : Str} {i j l : Nat}
theorem kpF_lift {α : Type} {ρ : En} {p : P α} {k : α → Fl} (h : ∀ v, KpF ρ (k v)) : KpF ρ (liftP p ρ k) := by
  cases p with
  | ok a => exact h a
  | exc c => exact Ks.rfl
  | stuck => trivial
theorem KpF.tr {ρ ρ' : En} {f : Fl} (h : Ks ρ ρ') (h2 : KpF ρ' f) : KpF ρ f := by
  cases f with
  | nx _ => exact h.tr h2
  | rt _ _ => exact h.tr h2
  | ct _ => exact h.tr h2
  | ex _ _ => exact h.tr h2
  | stuck => trivial
theorem kpF_liftX {α : Type} {ρ : En} {x : En → R α} {k : α → En → Fl} (hx : KpR x) (h : ∀ v ρ', KpF ρ' (k v ρ')) : KpF ρ (liftX (x ρ) k) := by
  have := hx ρ
  cases e : x ρ with
  | ok a ρ' => rw [e] at this; exact (h a ρ').tr this
  | exc c ρ' => rw [e] at this; exact this
  | stuck => trivial
theorem kpp_N : KpP (pN i) := fun ρ d => ks_set ρ i d
theorem kpp_F (h : KpP pl) : KpP (plF pl n) := fun ρ d => by
  show Ks ρ (match pl.get ρ with | some o => pl.set ρ (fputO n o d) | none => ρ)
  cases pl.get ρ with
  | none => exact Ks.rfl
  | some o => exact h ρ _
theorem kp_seq (ha : Kp a) (hb : Kp b) : Kp (seqM a b) := fun ρ => by
  have h := ha ρ
  show KpF ρ (match a ρ with | .nx ρ' => b ρ' | .rt d ρ' => .rt d ρ' | .ct ρ' => .ct ρ' | .ex c ρ' => .ex c ρ' | .stuck => .stuck)
  cases e : a ρ with
  | nx ρ' => rw [e] at h; exact (hb ρ').tr h
  | rt _ _ => rw [e] at h; exact h
  | ct _ => rw [e] at h; exact h
  | ex _ _ => rw [e] at h; exact h
  | stuck => trivial
theorem kp_if (ha : Kp a) (hb : Kp b) : Kp (ifS mt a b) := fun ρ => kpF_lift fun v => by cases v <;> first | exact ha ρ | exact hb ρ
theorem kp_ifX (ht : KpR tx) (ha : Kp a) (hb : Kp b) : Kp (ifSX tx a b) := fun ρ => kpF_liftX ht fun v ρ' => by cases v <;> first | exact ha ρ' | exact hb ρ'
theorem kp_nx : Kp sNx := fun _ => Ks.rfl
theorem kp_ct : Kp Fl.ct := fun _ => Ks.rfl
theorem kp_stuck : Kp sStuck := fun _ => trivial
theorem kp_ex {c : Str} : Kp (sEx c) := fun _ => Ks.rfl
theorem kp_set : Kp (sSet i m) := fun ρ => kpF_lift fun _ => ks_set ρ i _
theorem kp_expr : Kp (sExpr m) := fun _ => kpF_lift fun _ => Ks.rfl
theorem kp_ret : Kp (sRet m) := fun _ => kpF_lift fun _ => Ks.rfl
theorem kp_setX (h : KpR x) : Kp (sSetX i x) := fun _ => kpF_liftX h fun _ ρ' => ks_set ρ' i _
theorem kp_exprX (h : KpR x) : Kp (sExprX x) := fun _ => kpF_liftX h fun _ _ => Ks.rfl
theorem kp_retX (h : KpR x) : Kp (sRetX x) := fun _ => kpF_liftX h fun _ _ => Ks.rfl
theorem kp_par : Kp (sPar i j ml) := fun ρ => kpF_lift fun v => by
  match v with
  | [d, d'] => exact (ks_set ρ i d).tr (ks_set _ j d')
  | [] => trivial
  | [_] => trivial
  | _ :: _ :: _ :: _ => trivial
theorem kp_aug {f : D → D → Option D} : Kp (sAug i f m) := fun ρ => kpF_lift fun u => kpF_lift fun v => by
  split
  · exact ks_set ρ i _
  · trivial
theorem kpF_put {ρ : En} {o v : D} (h : KpP pl) : KpF ρ (match o with
  | .dict kds => if kds.length < 1000 then Fl.nx (pl.set ρ (.dict (putFD n v kds))) else .stuck
  | _ => .stuck) := by
  split
  · split
    · exact h ρ _
    · trivial
  · trivial
theorem kp_fset (h : KpP pl) : Kp (sFset pl n m) := fun _ => kpF_lift fun _ => kpF_lift fun _ => kpF_put h
theorem kp_fsetX (h : KpP pl) (hx : KpR x) : Kp (sFsetX pl n x) := fun _ => kpF_liftX hx fun _ _ => kpF_lift fun _ => kpF_put h
theorem kp_faug (h : KpP pl) : Kp (sFaug pl n m) := fun ρ => kpF_lift fun u => kpF_lift fun v => by
  repeat' split
  all_goals first | exact h ρ _ | trivial
theorem kp_m1 {f : D → D → Option D} (h : KpP pl) : Kp (sM1 pl f m) := fun ρ => kpF_lift fun u => kpF_lift fun v => by
  show KpF ρ (match f u v with | some z => .nx (pl.set ρ z) | none => .stuck)
  cases f u v with
  | none => trivial
  | some z => exact h ρ _
theorem kp_put {f : D → D → D → Option D} (h : KpP pl) : Kp (sPut pl f mk mv) := fun ρ => kpF_lift fun v => kpF_lift fun u => kpF_lift fun k => by
  show KpF ρ (match f u k v with | some z => .nx (pl.set ρ z) | none => .stuck)
  cases f u k v with
  | none => trivial
  | some z => exact h ρ _
theorem kp_m1X {f : D → D → Option D} (h : KpR x) : Kp (sM1X i f x) := fun ρ => by
  show KpF ρ (match getO ρ i with
    | none => .stuck
    | some _ => liftX (x ρ) fun y ρ => match (getO ρ i).bind fun d => f d y with
      | some d' => .nx (ρ.set i (some d'))
      | none => .stuck)
  cases getO ρ i with
  | none => trivial
  | some w =>
    refine kpF_liftX h fun y ρ' => ?_
    show KpF ρ' (match (getO ρ' i).bind fun d => f d y with
      | some d' => .nx (ρ'.set i (some d'))
      | none => .stuck)
    cases (getO ρ' i).bind fun d => f d y with
    | none => trivial
    | some z => exact ks_set ρ' i _
def KpB (bd : D → En → Option En) : Prop := ∀ d ρ ρ', bd d ρ = some ρ' → Ks ρ ρ'
def KpBs (bd : List D → En → Option En) : Prop := ∀ d ρ ρ', bd d ρ = some ρ' → Ks ρ ρ'
theorem kpb_N : KpB (bN i) := fun d ρ ρ' h => by cases h; exact ks_set ρ i d
theorem kpb_nil : KpBs bNil := fun d ρ ρ' h => by
  cases d with
  | nil => cases h; exact Ks.rfl
  | cons _ _ => cases h
theorem kpb_cons {b : D → En → Option En} {bs : List D → En → Option En} (h : KpB b) (h2 : KpBs bs) : KpBs (bCons b bs) := fun d ρ ρ' e => by
  cases d with
  | nil => cases e
  | cons d ds =>
    replace e : (b d ρ).bind (bs ds) = some ρ' := e
    cases z : b d ρ with
    | none => rw [z] at e; cases e
    | some ρ1 => rw [z] at e; exact (h _ _ _ z).tr (h2 _ _ _ e)
theorem kpb_T {bs : List D → En → Option En} (h2 : KpBs bs) : KpB (bT n' bs) := fun d ρ ρ' e => by
  cases d with
  | tuple ds =>
    replace e : (if ds.length = n' then bs ds ρ else none) = some ρ' := e
    split at e
    · exact h2 _ _ _ e
    · cases e
  | _ => cases e
theorem kpF_bind {bd : D → En → Option En} {d : D} {ρ : En} (h : KpB bd) : KpF ρ (bindS bd d ρ) := by
  unfold bindS
  cases e : bd d ρ with
  | none => trivial
  | some ρ' => exact h _ _ _ e
theorem kp_asg {bd : D → En → Option En} (h : KpB bd) : Kp (sAsg bd m) := fun _ => kpF_lift fun _ => kpF_bind h
theorem kp_forL {bd : D → En → Option En} (h : KpB bd) (hb : Kp body) : ∀ (xs : List D) (ρ : En), KpF ρ (forL bd body xs ρ)
  | [], _ => Ks.rfl
  | x :: xs, ρ => by
    show KpF ρ (match bd x ρ with
      | none => .stuck
      | some ρ1 => match body ρ1 with
        | .nx ρ2 => forL bd body xs ρ2
        | .ct ρ2 => forL bd body xs ρ2
        | .rt d ρ2 => .rt d ρ2
        | .ex c ρ2 => .ex c ρ2
        | .stuck => .stuck)
    cases e : bd x ρ with
    | none => trivial
    | some ρ1 =>
      refine KpF.tr (h _ _ _ e) ?_
      have hq := hb ρ1
      show KpF ρ1 (match body ρ1 with
        | .nx ρ2 => forL bd body xs ρ2
        | .ct ρ2 => forL bd body xs ρ2
        | .rt d ρ2 => .rt d ρ2
        | .ex c ρ2 => .ex c ρ2
        | .stuck => .stuck)
      cases e2 : body ρ1 with
      | nx ρ2 => rw [e2] at hq; exact (kp_forL h hb xs ρ2).tr hq
      | ct ρ2 => rw [e2] at hq; exact (kp_forL h hb xs ρ2).tr hq
      | rt _ _ => rw [e2] at hq; exact hq
      | ex _ _ => rw [e2] at hq; exact hq
      | stuck => trivial
theorem kp_for {src : En → P (List D)} {bd : D → En → Option En} (h : KpB bd) (hb : Kp body) : Kp (sFor src bd body) := fun _ => kpF_lift fun xs => kp_forL h hb xs _
/-! effects -/
theorem kpr_up {α : Type} {m : En → P α} : KpR (xUp m) := fun ρ => by unfold xUp; cases m ρ <;> first | exact Ks.rfl | trivial
theorem kpr_bind {α β : Type} {x : En → R α} {k : α → En → R β} (h : KpR x) (h2 : ∀ v, KpR (k v)) : KpR (fun ρ => (x ρ).bind fun v ρ => k v ρ) := fun ρ => by
  have h1 := h ρ
  show KpRv ρ ((x ρ).bind fun v ρ => k v ρ)
  cases e : x ρ with
  | ok v ρ1 =>
    rw [e] at h1
    have h3 := h2 v ρ1
    show KpRv ρ (k v ρ1)
    cases e2 : k v ρ1 with
    | ok _ _ => rw [e2] at h3; exact Ks.tr h1 h3
    | exc _ _ => rw [e2] at h3; exact Ks.tr h1 h3
    | stuck => trivial
  | exc c ρ1 => rw [e] at h1; exact h1
  | stuck => trivial
theorem kpr_ok {α : Type} {v : α} : KpR (fun ρ => R.ok v ρ) := fun _ => Ks.rfl
theorem kpr_stuck {α : Type} : KpR (fun _ => (R.stuck : R α)) := fun _ => trivial
theorem kpr_2 {f : D → D → Option D} (h : KpR xa) (h2 : KpR xb) : KpR (x2 f xa xb) := kpr_bind h fun _ => kpr_bind h2 fun _ => kpr_up
theorem kpr_cmp {f : D → D → Option Bool} (h : KpR xa) (h2 : KpR xb) : KpR (xCmp f xa xb) := kpr_bind h fun _ => kpr_bind h2 fun _ => kpr_up
theorem kpr_tcmp {f : D → D → Option Bool} (h : KpR xa) (h2 : KpR xb) : KpR (xtCmp f xa xb) := kpr_bind h fun _ => kpr_bind h2 fun _ => kpr_up
theorem kpr_tru (h : KpR xa) : KpR (xtTru xa) := kpr_bind h fun _ => kpr_up
theorem kpr_not (h : KpR tx) : KpR (xtNot tx) := kpr_bind h fun _ => kpr_ok
theorem kpr_and (h : KpR tx) (h2 : KpR ty) : KpR (xAnd tx ty) := kpr_bind h fun t => by cases t <;> first | exact h2 | exact kpr_ok
theorem kpr_or (h : KpR tx) (h2 : KpR ty) : KpR (xOr tx ty) := kpr_bind h fun t => by cases t <;> first | exact h2 | exact kpr_ok
theorem kpr_if (h : KpR tx) (h2 : KpR xa) (h3 : KpR xb) : KpR (xIf tx xa xb) := kpr_bind h fun t => by cases t <;> first | exact h2 | exact h3
theorem kpr_S {g : D → List D → RS} {ok : D → Bool} (h : KpP pl) : KpR (xS pl g ok ml) := fun ρ => by
  unfold xS
  repeat' split
  all_goals first | exact h ρ _ | exact Ks.rfl | trivial
theorem kpr_L {g : D → List D → RS} (h : KpP pl) : KpR (xL pl g ml) := fun ρ => by
  unfold xL
  repeat' split
  all_goals first | exact h ρ _ | exact Ks.rfl | trivial
theorem kpr_lcX {src : En → R (List D)} {vs : List Nat} {bd : D → En → Option En} {cond : En → P Bool} {elt : En → P D} (h : KpR src) : KpR (lcX src vs bd cond elt) := kpr_bind h fun xs ρ => by
  split
  · cases lcG bd cond elt (wipeE ρ vs) xs with
    | ok ys => exact Ks.rfl
    | exc _ => trivial
    | stuck => trivial
  · trivial
theorem kpr_iLX (h : KpR x) : KpR (iLX x) := kpr_bind h fun d ρ => by cases d <;> first | exact Ks.rfl | trivial
end
end Pc

set_option maxRecDepth 100000
set_option maxHeartbeats 1000000
namespace Pc
open PySem L2
/-! ### effects, what follows handed on -/
section
variable {α β γ δ ε τ σ : Type} [Nc α] [Nc β] [Nc δ] [Nc ε] [Nc τ] [Ob σ] {K : γ → Fl → Prop} {ρ : En} {i j : Nat} {m ma mb : En → P D} {rest a b : En → Fl} {x xa xb : En → R D} {n : Str} {gt : σ → α} {pt : σ → α → σ} {ml : En → P (List D)} {k : D → En → Fl} {kb : Bool → En → Fl} {t : P γ} {tx ty : En → R Bool} {mt : En → P Bool}
theorem jx_up {te : P α} {u : α → P γ} (h : Rp (m ρ) te) (hk : ∀ v, J (k (enc v) ρ) (u v) K) : J (liftX (xUp m ρ) k) (te.bind u) K := by
  unfold xUp
  cases te with
  | ok a => have h' : m ρ = .ok (enc a) := h; rw [h']; exact hk a
  | exc c => have h' : m ρ = .exc c := h; rw [h']; exact ⟨ρ, rfl⟩
  | stuck => trivial
theorem jx_upk {v : α} (h : Rp (m ρ) (.ok v)) (hk : J (k (enc v) ρ) t K) : J (liftX (xUp m ρ) k) t K := by
  have h' : m ρ = .ok (enc v) := h
  unfold xUp
  rw [h']
  exact hk
theorem jx_upC {d : D} (hk : J (k d ρ) t K) : J (liftX (xUp (mC d) ρ) k) t K := hk
theorem jxt_up {tc : P Bool} {ta tb : P γ} (h : Rb (mt ρ) tc) (ha : J (kb true ρ) ta K) (hb : J (kb false ρ) tb K) : J (liftX (xUp mt ρ) kb) (tc.bind fun c => if c = true then ta else tb) K := by
  unfold xUp
  cases tc with
  | ok a =>
    have h' : mt ρ = .ok a := h
    rw [h']
    cases a
    · exact hb
    · exact ha
  | exc c => have h' : mt ρ = .exc c := h; rw [h']; exact ⟨ρ, rfl⟩
  | stuck => trivial
/-! methods -/
theorem xS_ok {g : D → List D → RS} {ok : D → Bool} {s : σ} {ds : List D} (hok : ok (enc s) = true) (hx : getO ρ j = some (enc s)) (hl : ml ρ = .ok ds) : xS (pN j) g ok ml ρ = match g (enc s) ds with
    | .ok d o' => .ok d (ρ.set j (some o'))
    | .exc c o' => .exc c (ρ.set j (some o'))
    | .stuck => .stuck := by
  unfold xS
  rw [show (pN j).get ρ = some (enc s) from hx]
  show (if ok (enc s) = true then _ else _) = _
  rw [if_pos hok, hl] <;> rfl
theorem j_RsT {r : RS} {tt : P (T2 α σ)} {u : T2 α σ → P γ} (hr : RsT r tt) (hk : ∀ q : T2 α σ, J (k (enc q.a) (ρ.set j (some (enc q.b)))) (u q) K) : J (liftX (match r with
    | .ok d o' => R.ok d (ρ.set j (some o'))
    | .exc c o' => .exc c (ρ.set j (some o'))
    | .stuck => .stuck) k) (tt.bind u) K := by
  cases tt with
  | ok q => have h' : r = .ok (enc q.a) (enc q.b) := hr; rw [h']; exact hk q
  | exc c => obtain ⟨o, h'⟩ := hr; rw [h']; exact ⟨_, rfl⟩
  | stuck => trivial
theorem jx_m0 {g : D → List D → RS} {ok : D → Bool} (s : σ) {tt : P (T2 α σ)} {u : T2 α σ → P γ} (hok : ok (enc s) = true) (hr : RsT (g (enc s) []) tt) (hk : ∀ q : T2 α σ, J (k (enc q.a) (ρ.set j (some (enc q.b)))) (u q) K) (hx : getO ρ j = some (enc s) := by rfl) : J (liftX (xS (pN j) g ok mNil ρ) k) (tt.bind u) K := by
  rw [xS_ok hok hx (ds := []) rfl]
  exact j_RsT hr hk
theorem jx_m1 {g : D → List D → RS} {ok : D → Bool} (s : σ) {ta : P β} {tt : β → P (T2 α σ)} {u : T2 α σ → P γ} (hok : ok (enc s) = true) (hr : ∀ b, RsT (g (enc s) [enc b]) (tt b)) (ha : Rp (ma ρ) ta) (hk : ∀ q : T2 α σ, J (k (enc q.a) (ρ.set j (some (enc q.b)))) (u q) K) (hx : getO ρ j = some (enc s) := by rfl) : J (liftX (xS (pN j) g ok (consM ma mNil) ρ) k) (ta.bind fun b => (tt b).bind u) K := by
  cases ta with
  | ok b =>
    have h' : ma ρ = .ok (enc b) := ha
    rw [xS_ok hok hx (ds := [enc b]) (by show (ma ρ).bind _ = _; rw [h']; rfl)]
    exact j_RsT (hr b) hk
  | exc c =>
    have h' : ma ρ = .exc c := ha
    unfold xS
    rw [show (pN j).get ρ = some (enc s) from hx]
    show J (liftX (if ok (enc s) = true then _ else _) k) _ K
    rw [if_pos hok, show consM ma mNil ρ = .exc c from by show (ma ρ).bind _ = _; rw [h']; rfl]
    exact ⟨ρ, rfl⟩
  | stuck => trivial
theorem jx_m2 {g : D → List D → RS} {ok : D → Bool} (s : σ) {ta : P β} {tb : P δ} {tt : β → δ → P (T2 α σ)} {u : T2 α σ → P γ} (hok : ok (enc s) = true) (hr : ∀ b d, RsT (g (enc s) [enc b, enc d]) (tt b d)) (ha : Rp (ma ρ) ta) (hb : Rp (mb ρ) tb) (hk : ∀ q : T2 α σ, J (k (enc q.a) (ρ.set j (some (enc q.b)))) (u q) K) (hx : getO ρ j = some (enc s) := by rfl) :
    J (liftX (xS (pN j) g ok (consM ma (consM mb mNil)) ρ) k) (ta.bind fun b => tb.bind fun d => (tt b d).bind u) K := by
  have ex : ∀ c, consM ma (consM mb mNil) ρ = .exc c → J (liftX (xS (pN j) g ok (consM ma (consM mb mNil)) ρ) k) (.exc c) K := by
    intro c hc
    unfold xS
    rw [show (pN j).get ρ = some (enc s) from hx]
    show J (liftX (if ok (enc s) = true then _ else _) k) _ K
    rw [if_pos hok, hc]
    exact ⟨ρ, rfl⟩
  cases ta with
  | ok b =>
    have h' : ma ρ = .ok (enc b) := ha
    cases tb with
    | ok d =>
      have h2 : mb ρ = .ok (enc d) := hb
      rw [xS_ok hok hx (ds := [enc b, enc d]) (by show (ma ρ).bind _ = _; rw [h']; show ((mb ρ).bind _).bind _ = _; rw [h2]; rfl)]
      exact j_RsT (hr b d) hk
    | exc c =>
      have h2 : mb ρ = .exc c := hb
      exact ex c (by show (ma ρ).bind _ = _; rw [h']; show ((mb ρ).bind _).bind _ = _; rw [h2]; rfl)
    | stuck => trivial
  | exc c =>
    have h' : ma ρ = .exc c := ha
    exact ex c (by show (ma ρ).bind _ = _; rw [h']; rfl)
  | stuck => trivial
/-- what is told leaves the thing -/
theorem jx_r0 {g : D → List D → RS} {ok : D → Bool} (s : σ) {tt : P α} {u : α → P γ} (hok : ok (enc s) = true) (hr : RsR (g (enc s) []) s tt) (hk : ∀ q : α, J (k (enc q) ρ) (u q) K) (hx : getO ρ j = some (enc s) := by rfl) (hE : ρ.set j (some (enc s)) = ρ := by rfl) : J (liftX (xS (pN j) g ok mNil ρ) k) (tt.bind u) K := by
  rw [xS_ok hok hx (ds := []) rfl]
  cases tt with
  | ok q =>
    have h' : g (enc s) [] = .ok (enc q) (enc s) := hr
    rw [h']
    show J (k (enc q) (ρ.set j (some (enc s)))) (u q) K
    rw [hE]
    exact hk q
  | exc c => obtain ⟨o, h'⟩ := hr; rw [h']; exact ⟨_, rfl⟩
  | stuck => trivial
theorem j_RsR {κ : Type} [Nc κ] {pl : Pl} {s : κ} {r : RS} {tt : P α} {u : α → P γ} (hr : RsR r s tt) (hk : ∀ q : α, J (k (enc q) ρ) (u q) K) (hE : pl.set ρ (enc s) = ρ) : J (liftX (match r with
    | .ok d o' => R.ok d (pl.set ρ o')
    | .exc c o' => .exc c (pl.set ρ o')
    | .stuck => .stuck) k) (tt.bind u) K := by
  cases tt with
  | ok q =>
    have h' : r = .ok (enc q) (enc s) := hr
    rw [h']
    show J (k (enc q) (pl.set ρ (enc s))) (u q) K
    rw [hE]
    exact hk q
  | exc c => obtain ⟨o, h'⟩ := hr; rw [h']; exact ⟨_, rfl⟩
  | stuck => trivial
theorem xL_ok {κ : Type} [Nc κ] {pl : Pl} {g : D → List D → RS} {s : κ} {ds : List D} (hx : pl.get ρ = some (enc s)) (hl : ml ρ = .ok ds) : xL pl g ml ρ = match g (enc s) ds with
    | .ok d o' => .ok d (pl.set ρ o')
    | .exc c o' => .exc c (pl.set ρ o')
    | .stuck => .stuck := by
  unfold xL
  rw [hl, hx] <;> rfl
theorem jx_L1 {κ : Type} [Nc κ] {pl : Pl} {g : D → List D → RS} (s : κ) {ta : P β} {tt : β → P α} {u : α → P γ} (hr : ∀ b, RsR (g (enc s) [enc b]) s (tt b)) (ha : Rp (ma ρ) ta) (hk : ∀ q : α, J (k (enc q) ρ) (u q) K) (hx : pl.get ρ = some (enc s) := by rfl) (hE : pl.set ρ (enc s) = ρ := by rfl) : J (liftX (xL pl g (consM ma mNil) ρ) k) (ta.bind fun b => (tt b).bind u) K := by
  cases ta with
  | ok b =>
    have h' : ma ρ = .ok (enc b) := ha
    rw [xL_ok hx (ds := [enc b]) (by show (ma ρ).bind _ = _; rw [h']; rfl)]
    exact j_RsR (tt := tt b) (u := u) (hr b) hk hE
  | exc c =>
    have h' : ma ρ = .exc c := ha
    unfold xL
    rw [show consM ma mNil ρ = .exc c from by show (ma ρ).bind _ = _; rw [h']; rfl]
    exact ⟨ρ, rfl⟩
  | stuck => trivial
theorem jx_L2 {κ : Type} [Nc κ] {pl : Pl} {g : D → List D → RS} (s : κ) {ta : P β} {tb : P δ} {tt : β → δ → P α} {u : α → P γ} (hr : ∀ b d, RsR (g (enc s) [enc b, enc d]) s (tt b d)) (ha : Rp (ma ρ) ta) (hb : Rp (mb ρ) tb) (hk : ∀ q : α, J (k (enc q) ρ) (u q) K) (hx : pl.get ρ = some (enc s) := by rfl) (hE : pl.set ρ (enc s) = ρ := by rfl) :
    J (liftX (xL pl g (consM ma (consM mb mNil)) ρ) k) (ta.bind fun b => tb.bind fun d => (tt b d).bind u) K := by
  have ex : ∀ c, consM ma (consM mb mNil) ρ = .exc c → J (liftX (xL pl g (consM ma (consM mb mNil)) ρ) k) (.exc c) K := by
    intro c hc
    unfold xL
    rw [hc]
    exact ⟨ρ, rfl⟩
  cases ta with
  | ok b =>
    have h' : ma ρ = .ok (enc b) := ha
    cases tb with
    | ok d =>
      have h2 : mb ρ = .ok (enc d) := hb
      rw [xL_ok hx (ds := [enc b, enc d]) (by show (ma ρ).bind _ = _; rw [h']; show ((mb ρ).bind _).bind _ = _; rw [h2]; rfl)]
      exact j_RsR (tt := tt b d) (u := u) (hr b d) hk hE
    | exc c =>
      have h2 : mb ρ = .exc c := hb
      exact ex c (by show (ma ρ).bind _ = _; rw [h']; show ((mb ρ).bind _).bind _ = _; rw [h2]; rfl)
    | stuck => trivial
  | exc c =>
    have h' : ma ρ = .exc c := ha
    exact ex c (by show (ma ρ).bind _ = _; rw [h']; rfl)
  | stuck => trivial
/-! made anew -/
theorem y_make {g : D → List D → RS} {ta : P β} {tt : β → P σ} (hr : ∀ b, RsT (α := Unit) (g (.dict []) [enc b]) ((tt b).bind fun s => .ok ⟨(), s⟩)) (ha : Rp (ma ρ) ta) : Rp (mMake g (consM ma mNil) ρ) (ta.bind tt) := by
  show Rp ((consM ma mNil ρ).bind _) _
  rw [args_cons]
  refine Rg.bind ha fun b => ?_
  have h := hr b
  show Rg _ ((P.ok []).bind fun xs => match g (.dict []) (enc b :: xs) with
    | .ok .none o => P.ok o
    | .exc c _ => .exc c
    | _ => .stuck) _
  cases e : tt b with
  | ok s => rw [e] at h; have h' : g (.dict []) [enc b] = .ok .none (enc s) := h; show (match g (.dict []) [enc b] with | .ok .none o => P.ok o | .exc c _ => .exc c | _ => .stuck) = _; rw [h']
  | exc c => rw [e] at h; obtain ⟨o, h'⟩ := h; show (match g (.dict []) [enc b] with | .ok .none o => P.ok o | .exc c _ => .exc c | _ => .stuck) = _; rw [h']
  | stuck => trivial
/-! joined ones -/
def vK {α : Type} (p : P α) (k : α → En → Fl) (ρ : En) : Fl := liftP p ρ fun z => k z ρ
def bvK (p : P Bool) (k : D → En → Fl) (ρ : En) : Fl := liftP p ρ fun z => k (.bool z) ρ
theorem jx_2 {f : D → D → Option D} (h : J (liftX (xa ρ) fun x ρ => liftX (xb ρ) fun y ρ => vK (.ofO (f x y)) k ρ) t K) : J (liftX (x2 f xa xb ρ) k) t K := by
  refine J_eq ?_ h
  unfold x2
  cases xa ρ with
  | ok v ρ1 =>
    show liftX ((xb ρ1).bind _) k = liftX (xb ρ1) _
    cases xb ρ1 with
    | ok w ρ2 => show liftX (xUp (fun _ => .ofO (f v w)) ρ2) k = liftP (.ofO (f v w)) ρ2 fun z => k z ρ2; unfold xUp; cases f v w <;> rfl
    | exc c ρ2 => rfl
    | stuck => rfl
  | exc c ρ1 => rfl
  | stuck => rfl
theorem jx_cmpT {f : D → D → Option Bool} (h : J (liftX (xa ρ) fun x ρ => liftX (xb ρ) fun y ρ => vK (.ofO (f x y)) kb ρ) t K) : J (liftX (xtCmp f xa xb ρ) kb) t K := by
  refine J_eq ?_ h
  unfold xtCmp
  cases xa ρ with
  | ok v ρ1 =>
    show liftX ((xb ρ1).bind _) kb = liftX (xb ρ1) _
    cases xb ρ1 with
    | ok w ρ2 => show liftX (xUp (fun _ => .ofO (f v w)) ρ2) kb = liftP (.ofO (f v w)) ρ2 fun z => kb z ρ2; unfold xUp; cases f v w <;> rfl
    | exc c ρ2 => rfl
    | stuck => rfl
  | exc c ρ1 => rfl
  | stuck => rfl
theorem jx_cmpV {f : D → D → Option Bool} (h : J (liftX (xa ρ) fun x ρ => liftX (xb ρ) fun y ρ => bvK (.ofO (f x y)) k ρ) t K) : J (liftX (xCmp f xa xb ρ) k) t K := by
  refine J_eq ?_ h
  unfold xCmp
  cases xa ρ with
  | ok v ρ1 =>
    show liftX ((xb ρ1).bind _) k = liftX (xb ρ1) _
    cases xb ρ1 with
    | ok w ρ2 => show liftX (xUp (fun _ => (P.ofO (f v w)).bind fun t => .ok (.bool t)) ρ2) k = liftP (.ofO (f v w)) ρ2 fun z => k (.bool z) ρ2; unfold xUp; cases f v w <;> rfl
    | exc c ρ2 => rfl
    | stuck => rfl
  | exc c ρ1 => rfl
  | stuck => rfl
theorem jx_tru (h : J (liftX (xa ρ) fun x ρ => vK (.ofO (truO x)) kb ρ) t K) : J (liftX (xtTru xa ρ) kb) t K := by
  refine J_eq ?_ h
  unfold xtTru
  cases xa ρ with
  | ok v ρ1 => show liftX (xUp (fun _ => .ofO (truO v)) ρ1) kb = liftP (.ofO (truO v)) ρ1 fun z => kb z ρ1; unfold xUp; cases truO v <;> rfl
  | exc c ρ1 => rfl
  | stuck => rfl
theorem jx_not (h : J (liftX (tx ρ) fun x ρ => kb (!x) ρ) t K) : J (liftX (xtNot tx ρ) kb) t K := by
  refine J_eq ?_ h
  unfold xtNot
  cases tx ρ <;> rfl
theorem jx_and (h : J (liftX (tx ρ) fun x ρ => if x = true then liftX (ty ρ) kb else kb false ρ) t K) : J (liftX (xAnd tx ty ρ) kb) t K := by
  refine J_eq ?_ h
  unfold xAnd
  cases tx ρ with
  | ok v ρ1 => cases v <;> rfl
  | exc c ρ1 => rfl
  | stuck => rfl
theorem jx_or (h : J (liftX (tx ρ) fun x ρ => if x = true then kb true ρ else liftX (ty ρ) kb) t K) : J (liftX (xOr tx ty ρ) kb) t K := by
  refine J_eq ?_ h
  unfold xOr
  cases tx ρ with
  | ok v ρ1 => cases v <;> rfl
  | exc c ρ1 => rfl
  | stuck => rfl
theorem jx_nil {kl : List D → En → Fl} (h : J (kl [] ρ) t K) : J (liftX (xNil ρ) kl) t K := h
theorem jx_cons {kl : List D → En → Fl} {xs : En → R (List D)} (h : J (liftX (xa ρ) fun x ρ => liftX (xs ρ) fun l ρ => kl (x :: l) ρ) t K) : J (liftX (xCons xa xs ρ) kl) t K := by
  refine J_eq ?_ h
  unfold xCons
  cases xa ρ with
  | ok v ρ1 => show liftX ((xs ρ1).bind _) kl = liftX (xs ρ1) _; cases xs ρ1 <;> rfl
  | exc c ρ1 => rfl
  | stuck => rfl
theorem jx_tup {xs : En → R (List D)} (h : J (liftX (xs ρ) fun l ρ => k (.tuple l) ρ) t K) : J (liftX (xTup xs ρ) k) t K := by
  refine J_eq ?_ h
  unfold xTup
  cases xs ρ <;> rfl
theorem jx_lst {xs : En → R (List D)} (h : J (liftX (xs ρ) fun l ρ => k (.list l) ρ) t K) : J (liftX (xLst xs ρ) k) t K := by
  refine J_eq ?_ h
  unfold xLst
  cases xs ρ <;> rfl
theorem jx_if (h : J (liftX (tx ρ) fun c ρ => if c = true then liftX (xa ρ) k else liftX (xb ρ) k) t K) : J (liftX (xIf tx xa xb ρ) k) t K := by
  refine J_eq ?_ h
  unfold xIf
  cases tx ρ with
  | ok v ρ1 => cases v <;> rfl
  | exc c ρ1 => rfl
  | stuck => rfl
def andK (xb : En → R D) (k : D → En → Fl) (x : D) (ρ : En) : Fl := match x with
  | .bool c => if c = true then liftX (xb ρ) k else k (.bool false) ρ
  | _ => .stuck
def orK (xb : En → R D) (k : D → En → Fl) (x : D) (ρ : En) : Fl := match x with
  | .bool c => if c = true then k (.bool true) ρ else liftX (xb ρ) k
  | _ => .stuck
theorem jx_andV (h : J (liftX (xa ρ) (andK xb k)) t K) : J (liftX (xAndV xa xb ρ) k) t K := by
  refine J_eq ?_ h
  unfold xAndV
  cases xa ρ with
  | ok v ρ1 =>
    cases v with
    | bool c => cases c <;> rfl
    | _ => rfl
  | exc c ρ1 => rfl
  | stuck => rfl
theorem jx_orV (h : J (liftX (xa ρ) (orK xb k)) t K) : J (liftX (xOrV xa xb ρ) k) t K := by
  refine J_eq ?_ h
  unfold xOrV
  cases xa ρ with
  | ok v ρ1 =>
    cases v with
    | bool c => cases c <;> rfl
    | _ => rfl
  | exc c ρ1 => rfl
  | stuck => rfl
theorem jl_andV {c : Bool} {ta tb : P γ} (ha : J (liftX (xb ρ) k) ta K) (hb : J (k (enc false) ρ) tb K) : J (andK xb k (enc c) ρ) (if c = true then ta else tb) K := by cases c <;> first | exact ha | exact hb
theorem jl_orV {c : Bool} {ta tb : P γ} (ha : J (k (enc true) ρ) ta K) (hb : J (liftX (xb ρ) k) tb K) : J (orK xb k (enc c) ρ) (if c = true then ta else tb) K := by cases c <;> first | exact ha | exact hb
/-! ends -/
theorem jl_2 {f : D → D → Option D} {g : α → β → P δ} {u : δ → P γ} (hf : ∀ x y, Rp (.ofO (f (enc x) (enc y))) (g x y)) (a : α) (b : β) (hk : ∀ z, J (k (enc z) ρ) (u z) K) : J (vK (.ofO (f (enc a) (enc b))) k ρ) ((g a b).bind u) K := j_lift (hf a b) hk
theorem jl_b {p : P Bool} {tc : P Bool} {ta tb : P γ} (h : Rb p tc) (ha : J (kb true ρ) ta K) (hb : J (kb false ρ) tb K) : J (vK p kb ρ) (tc.bind fun c => if c = true then ta else tb) K := by
  unfold vK
  refine j_lift h fun c => ?_
  cases c
  · exact hb
  · exact ha
theorem jl_v {p : P Bool} {tc : P Bool} {u : Bool → P γ} (h : Rb p tc) (hk : ∀ z : Bool, J (k (enc z) ρ) (u z) K) : J (bvK p k ρ) (tc.bind u) K := j_lift h hk
/-! statements -/
theorem jsx_expr (h : J (liftX (x ρ) fun _ ρ => rest ρ) t K) : J (seqM (sExprX x) rest ρ) t K := by
  rw [seq_eq]
  show J ((liftX (x ρ) _).seq rest) t K
  rw [seq_liftX]
  exact h
theorem jsx_set (h : J (liftX (x ρ) fun d ρ => rest (ρ.set i (some d))) t K) : J (seqM (sSetX i x) rest ρ) t K := by
  rw [seq_eq]
  show J ((liftX (x ρ) _).seq rest) t K
  rw [seq_liftX]
  exact h
theorem jsx_ret (h : J (liftX (x ρ) fun d ρ => .rt d ρ) t K) : J (seqM (sRetX x) rest ρ) t K := by
  rw [seq_eq]
  show J ((liftX (x ρ) _).seq rest) t K
  rw [seq_liftX]
  exact h
theorem jx_ret (h : J (liftX (x ρ) fun d ρ => .rt d ρ) t K) : J (sRetX x ρ) t K := h
theorem jsx_if (h : J (liftX (tx ρ) fun c ρ => if c = true then seqM a rest ρ else seqM b rest ρ) t K) : J (seqM (ifSX tx a b) rest ρ) t K := by
  rw [seq_eq]
  show J ((liftX (tx ρ) _).seq rest) t K
  rw [seq_liftX]
  refine J_eq ?_ h
  cases tx ρ with
  | ok c ρ1 =>
    cases c
    · exact (seq_eq b rest ρ1).symm
    · exact (seq_eq a rest ρ1).symm
  | exc c ρ1 => rfl
  | stuck => rfl
theorem jx_if0 (h : J (liftX (tx ρ) fun c ρ => if c = true then a ρ else b ρ) t K) : J (ifSX tx a b ρ) t K := h
def m1K (i : Nat) (f : D → D → Option D) (rest : En → Fl) (y : D) (ρ : En) : Fl := match (getO ρ i).bind fun d => f d y with
  | some d' => rest (ρ.set i (some d'))
  | none => .stuck
theorem jsx_m1 {f : D → D → Option D} (h : J (liftX (x ρ) (m1K i f rest)) t K) (hs : (getO ρ i).isSome = true := by rfl) : J (seqM (sM1X i f x) rest ρ) t K := by
  rw [seq_eq]
  unfold sM1X
  cases e : getO ρ i with
  | none => rw [e] at hs; cases hs
  | some w =>
    show J ((liftX (x ρ) _).seq rest) t K
    rw [seq_liftX]
    refine J_eq ?_ h
    cases x ρ with
    | ok y ρ1 =>
      show Fl.seq (match (getO ρ1 i).bind fun d => f d y with | some d' => .nx (ρ1.set i (some d')) | none => .stuck) rest = m1K i f rest y ρ1
      unfold m1K
      cases (getO ρ1 i).bind fun d => f d y <;> rfl
    | exc c ρ1 => rfl
    | stuck => rfl
theorem jl_m1 {f : D → D → Option D} {g : β → α → P δ} {u : δ → P γ} (w : β) (hf : ∀ (x : β) (y : α), Rp (.ofO (f (enc x) (enc y))) (g x y)) (a : α) (hk : ∀ z, J (rest (ρ.set i (some (enc z)))) (u z) K) (hx : getO ρ i = some (enc w) := by rfl) : J (m1K i f rest (enc a) ρ) ((g w a).bind u) K := by
  unfold m1K
  rw [hx]
  show J (match f (enc w) (enc a) with | some d' => rest (ρ.set i (some d')) | none => .stuck) _ K
  have hz := hf w a
  cases e : g w a with
  | ok z =>
    rw [e] at hz
    have hz' : P.ofO (f (enc w) (enc a)) = .ok (enc z) := hz
    cases e2 : f (enc w) (enc a) with
    | none => rw [e2] at hz'; cases hz'
    | some d => rw [e2] at hz'; obtain rfl : d = enc z := P.ok.inj hz'; exact hk z
  | exc c =>
    rw [e] at hz
    have hz' : P.ofO (f (enc w) (enc a)) = .exc c := hz
    cases e2 : f (enc w) (enc a) <;> rw [e2] at hz' <;> cases hz'
  | stuck => trivial
def fsK (i : Nat) (n : Str) (rest : En → Fl) (v : D) (ρ : En) : Fl := Fl.seq (liftP (mPl (pN i) ρ) ρ fun o => match o with
  | .dict kds => if kds.length < 1000 then .nx ((pN i).set ρ (.dict (putFD n v kds))) else .stuck
  | _ => .stuck) rest
theorem jsx_fset (h : J (liftX (x ρ) (fsK i n rest)) t K) : J (seqM (sFsetX (pN i) n x) rest ρ) t K := by
  rw [seq_eq]
  show J ((liftX (x ρ) _).seq rest) t K
  rw [seq_liftX]
  exact h
theorem jl_fset (F : Fld σ α n gt pt) (s : σ) (v : α) (hk : J (rest (ρ.set i (some (enc (pt s v))))) t K) (hx : getO ρ i = some (enc s) := by rfl) : J (fsK i n rest (enc v) ρ) t K :=
  J_eq (congrArg (Fl.seq · rest) (fset_eq F (v := v) hx)) hk
/-! comprehensions over what is told -/
def lcK (vs : List Nat) (bd : D → En → Option En) (cond : En → P Bool) (elt : En → P D) (k : D → En → Fl) (d : D) (ρ : En) : Fl := liftX (lcX (fun ρ => match d with
  | .list xs => .ok xs ρ
  | _ => .stuck) vs bd cond elt ρ) k
theorem jx_lc {vs : List Nat} {bd : D → En → Option En} {cond : En → P Bool} {elt : En → P D} (h : J (liftX (x ρ) (lcK vs bd cond elt k)) t K) : J (liftX (lcX (iLX x) vs bd cond elt ρ) k) t K := by
  refine J_eq ?_ h
  unfold lcX iLX
  cases x ρ with
  | ok d ρ1 => rfl
  | exc c ρ1 => rfl
  | stuck => rfl
theorem jl_lcT {vs : List Nat} {bd : D → En → Option En} {cond : En → P Bool} {elt : En → P D} {u : List β → P γ} (v : List α) (E : α → En) {c : α → Bool} {f : α → β} (hc : ∀ x, Rb (cond (E x)) (.ok (c x))) (hf : ∀ x, Rp (elt (E x)) (.ok (f x))) (hk : ∀ z : List β, J (k (enc z) ρ) (u z) K) (hb : ∀ x : α, bd (enc x) (wipeE ρ vs) = some (E x) := by exact fun _ => rfl) :
    J (lcK vs bd cond elt k (enc v) ρ) ((lcT c f v).bind u) K := by
  have h := lcB_h (c := fun x => .ok (c x)) (f := fun x => .ok (f x)) hb hc hf v
  rw [lcB_tot] at h
  have h' : lcG bd cond elt (wipeE ρ vs) (v.map enc) = .ok ((List.map f (List.filter c v)).map enc) := h
  unfold lcT
  split
  · rename_i hl
    unfold lcK lcX
    show J (liftX (if (v.map enc).length ≤ LIM then _ else _) k) _ K
    rw [List.length_map, if_pos hl, h']
    exact hk _
  · trivial
end
end Pc

set_option maxRecDepth 100000
set_option maxHeartbeats 1000000
namespace Pc
open PySem L2
@[irreducible] def remP (l : List Int) (k : Int) : P (List Int) := if k ∈ l then .ok (l.erase k) else .stuck
theorem f_rem (l : List Int) (k : Int) : Rp (.ofO (remO (enc l) (enc k))) (remP l k) := by
  unfold remP
  show Rp (.ofO ((intsD (l.map enc)).bind fun ns => if k ∈ ns then some (.list ((ns.erase k).map .int)) else none)) _
  rw [intsD_enc, Option.bind_some]
  split
  · rfl
  · trivial
@[irreducible] def srtKP {β : Type} (d : Dc Int β) : P (List Int) := if d.l.length < 64 then .ok (srtI (d.l.map (·.1))) else .stuck
theorem keysI_enc {β : Type} [Nc β] : ∀ l : List (Int × β), keysI (dcE l) = some (l.map (·.1))
  | [] => rfl
  | q :: l => by
    show (keysI (dcE l)).map (q.1 :: ·) = _
    rw [keysI_enc l]
    rfl
theorem b_sortK {β : Type} [Nc β] (d : Dc Int β) : Rp (.ofO (sortKO [enc d])) (srtKP d) := by
  unfold srtKP
  show Rp (.ofO ((keysI (dcE d.l)).bind fun ks => if ks.length < 64 then some (.list ((srtI ks).map .int)) else none)) _
  rw [keysI_enc, Option.bind_some, List.length_map]
  split
  · rfl
  · trivial
@[irreducible] def beyP (d : Dc Int Int) (n : Int) : P (Dc Int Int) := if d.l.length ≤ LIM ∧ (d.l.map (·.1)).Nodup then .ok ⟨d.l.filter fun q => decide (n < q.2)⟩ else .stuck
theorem dcVal_mem {l : List (Int × Int)} (nd : (l.map (·.1)).Nodup) {q : Int × Int} (h : q ∈ l) : dcVal l q.1 = some q.2 := by
  induction l with
  | nil => cases h
  | cons p l ih =>
    rw [List.map_cons, List.nodup_cons] at nd
    unfold dcVal
    rw [List.find?_cons]
    rcases List.mem_cons.mp h with rfl | h
    · simp
    · have hne : p.1 ≠ q.1 := fun e => nd.1 (e ▸ List.mem_map_of_mem (f := (·.1)) h)
      simp only [hne, decide_false]
      exact ih nd.2 h
theorem beyL_enc (l0 : List (Int × Int)) (n : Int) : ∀ (l : List (Int × Int)), (∀ q ∈ l, dcVal l0 q.1 = some q.2) → beyL (dcE l0) n (dcE l) = some ((l.filter fun q => decide (n < q.2)).map fun q => PyData.tuple [.int q.1, .int q.2])
  | [], _ => rfl
  | q :: l, h => by
    have ih := beyL_enc l0 n l fun p hp => h p (List.mem_cons_of_mem _ hp)
    have hq := h q List.mem_cons_self
    have hv : valD (dcE l0) (.inl q.1) = some (.int q.2) := by
      rw [show (Sum.inl q.1 : Key) = Kc.k q.1 from rfl, val_enc, hq]; rfl
    show (match valD (dcE l0) (.inl q.1) with
      | some (.int v) => (beyL (dcE l0) n (dcE l)).map fun l => if n < v then PyData.tuple [.int q.1, .int v] :: l else l
      | _ => none) = _
    rw [hv, ih, List.filter_cons]
    by_cases z : n < q.2
    · simp [z]
    · simp [z]
theorem dictL_enc : ∀ (l acc : List (Int × Int)), ((acc ++ l).map (·.1)).Nodup → dictL (l.map fun q => PyData.tuple [.int q.1, .int q.2]) (dcE acc) = some (dcE (acc ++ l))
  | [], acc, _ => by rw [List.append_nil]; rfl
  | q :: l, acc, h => by
    show dictL (l.map fun q => PyData.tuple [.int q.1, .int q.2]) (putD (dcE acc) (Kc.k q.1) (enc q.2)) = _
    rw [put_enc]
    have hn : (acc.any fun p => decide (p.1 = q.1)) = false := by
      rw [List.any_eq_false]
      intro p hp e
      rw [List.map_append, List.map_cons, List.nodup_append] at h
      exact h.2.2 p.1 (List.mem_map_of_mem (f := (·.1)) hp) q.1 List.mem_cons_self (of_decide_eq_true e)
    unfold dcPut
    rw [if_neg (by rw [hn]; decide)]
    have := dictL_enc l (acc ++ [(q.1, q.2)]) (by rw [List.append_assoc]; exact h)
    rw [this, List.append_assoc]
    rfl
theorem y_bey {ρ : En} {i it : Nat} (s : Plr) (hx : getO ρ i = some (enc s) := by rfl) (hl' : Nat.blt it ρ.length = true := by rfl) : Rp (mB dictO (consM (mBey (pN i) it "ends" "now") mNil) ρ) (beyP s.ends s.now) := by
  have hl : it < ρ.length := Nat.le_of_ble_eq_true hl'
  unfold beyP
  split
  · rename_i hc
    have e1 : mPl (plF (pN i) "ends") ρ = .ok (enc s.ends) := y_fld fd_ends s hx
    have e2 : mPl (plF (pN i) "now") ρ = .ok (enc s.now) := y_fld fd_now s hx
    have e3 : mBey (pN i) it "ends" "now" ρ = .ok (.list ((s.ends.l.filter fun q => decide (s.now < q.2)).map fun q => PyData.tuple [.int q.1, .int q.2])) := by
      unfold mBey
      rw [if_pos hl, e1, e2]
      show P.ofO (if (dcE s.ends.l).length ≤ LIM then (beyL (dcE s.ends.l) s.now (dcE s.ends.l)).map PyData.list else none) = _
      have : (dcE s.ends.l).length = s.ends.l.length := List.length_map _
      rw [this, if_pos hc.1, beyL_enc _ _ _ fun q hq => dcVal_mem hc.2 hq]
      rfl
    show ((mBey (pN i) it "ends" "now" ρ).bind _).bind _ = _
    rw [e3]
    show P.ofO ((dictL _ (dcE ([] : List (Int × Int)))).map PyData.dict) = _
    rw [dictL_enc _ [] (by
      rw [List.nil_append]
      exact List.Nodup.sublist (List.Sublist.map _ List.filter_sublist) hc.2)]
    rfl
  · trivial
/-! defs that tell nothing -/
section
variable {β γ δ σ : Type} [Nc β] [Nc δ] [Ob σ] {K : γ → Fl → Prop} {ρ : En} {j : Nat} {ma mb : En → P D} {k : D → En → Fl} {g : D → List D → RS} {ok : D → Bool}
theorem jx_u0 (s : σ) {tt : P σ} {u : σ → P γ} (hok : ok (enc s) = true) (hr : RsT (α := Unit) (g (enc s) []) (tt.bind fun s => .ok ⟨(), s⟩)) (hk : ∀ q : σ, J (k (enc ()) (ρ.set j (some (enc q)))) (u q) K) (hx : getO ρ j = some (enc s) := by rfl) : J (liftX (xS (pN j) g ok mNil ρ) k) (tt.bind u) K := by
  have h := jx_m0 (u := fun q : T2 Unit σ => u q.b) s hok hr (fun q => hk q.b) hx
  rw [bind_as] at h
  exact h
theorem jx_u1 (s : σ) {ta : P β} {tt : β → P σ} {u : σ → P γ} (hok : ok (enc s) = true) (hr : ∀ b, RsT (α := Unit) (g (enc s) [enc b]) ((tt b).bind fun s => .ok ⟨(), s⟩)) (ha : Rp (ma ρ) ta) (hk : ∀ q : σ, J (k (enc ()) (ρ.set j (some (enc q)))) (u q) K) (hx : getO ρ j = some (enc s) := by rfl) : J (liftX (xS (pN j) g ok (consM ma mNil) ρ) k) (ta.bind fun b => (tt b).bind u) K := by
  have h := jx_m1 (u := fun q : T2 Unit σ => u q.b) s hok hr ha (fun q => hk q.b) hx
  simp only [bind_as] at h
  exact h
theorem jx_u2 (s : σ) {ta : P β} {tb : P δ} {tt : β → δ → P σ} {u : σ → P γ} (hok : ok (enc s) = true) (hr : ∀ b d, RsT (α := Unit) (g (enc s) [enc b, enc d]) ((tt b d).bind fun s => .ok ⟨(), s⟩)) (ha : Rp (ma ρ) ta) (hb : Rp (mb ρ) tb) (hk : ∀ q : σ, J (k (enc ()) (ρ.set j (some (enc q)))) (u q) K) (hx : getO ρ j = some (enc s) := by rfl) :
    J (liftX (xS (pN j) g ok (consM ma (consM mb mNil)) ρ) k) (ta.bind fun b => tb.bind fun d => (tt b d).bind u) K := by
  have h := jx_m2 (u := fun q : T2 Unit σ => u q.b) s hok hr ha hb (fun q => hk q.b) hx
  simp only [bind_as] at h
  exact h
end
theorem lcB_ne {α β : Type} {c : α → P Bool} {f : α → P β} : ∀ (xs : List α) (e : Str), lcB c f xs ≠ .exc e
  | [], _ => fun h => by cases h
  | x :: xs, e => by
    rw [lcB]
    split
    · split
      · cases z : lcB c f xs with
        | ok ys => exact fun h => by cases h
        | exc k => exact absurd z (lcB_ne xs k)
        | stuck => exact fun h => by cases h
      · exact fun h => by cases h
    · exact lcB_ne xs e
    · exact fun h => by cases h
theorem jl_lcP {α β γ : Type} [Nc α] [Nc β] {K : γ → Fl → Prop} {ρ : En} {k : D → En → Fl} {vs : List Nat} {bd : D → En → Option En} {cond : En → P Bool} {elt : En → P D} {u : List β → P γ} (v : List α) (E : α → En) {c : α → P Bool} {f : α → P β} (hc : ∀ x, Rb (cond (E x)) (c x)) (hf : ∀ x, Rp (elt (E x)) (f x)) (hk : ∀ z : List β, J (k (enc z) ρ) (u z) K) (hb : ∀ x : α, bd (enc x) (wipeE ρ vs) = some (E x) := by exact fun _ => rfl) :
    J (lcK vs bd cond elt k (enc v) ρ) ((lcP c f v).bind u) K := by
  have h := lcB_h hb hc hf v
  unfold lcP
  split
  · rename_i hl
    cases e : lcB c f v with
    | ok ys =>
      rw [e] at h
      have h' : lcG bd cond elt (wipeE ρ vs) (v.map enc) = .ok (ys.map enc) := h
      unfold lcK lcX
      show J (liftX (if (v.map enc).length ≤ LIM then _ else _) k) _ K
      rw [List.length_map, if_pos hl, h']
      exact hk _
    | exc k => exact absurd e (lcB_ne v k)
    | stuck => trivial
  · trivial
section
variable {γ : Type} {K : γ → Fl → Prop} {A B : Fl} {t : P γ}
theorem jT (h : J A t K) : J (if true = true then A else B) t K := h
theorem jF (h : J B t K) : J (if false = true then A else B) t K := h
theorem jNT (h : J B t K) : J (if (!true) = true then A else B) t K := h
theorem jNF (h : J A t K) : J (if (!false) = true then A else B) t K := h
end
end Pc

set_option maxRecDepth 100000
set_option maxHeartbeats 1000000
namespace Pc
open PySem L2
@[irreducible] def minP (x : List Int) : P Int := if x.isEmpty = true then .stuck else .ok (minI x)
theorem b_minL (x : List Int) : Rp (.ofO (minLO [enc x])) (minP x) := by
  unfold minP
  show Rp (.ofO ((intsD (x.map enc)).bind fun ns => if ns.isEmpty = true then none else some (.int (minI ns)))) _
  rw [intsD_enc, Option.bind_some]
  split
  · trivial
  · rfl
end Pc

set_option maxRecDepth 100000
set_option maxHeartbeats 1000000
namespace Pc
open PySem L2
/-! ### records -/
structure Sta where
  setting : SetT
  held : List Int
  chord : List Int
  now : Int
  due : Option Int
  count : Int
  round : List Int
  ends : Dc Int Int
instance obSt : Ob Sta := ⟨fun p => [(.str "setting", enc p.setting), (.str "held", enc p.held), (.str "chord", enc p.chord), (.str "now", enc p.now), (.str "due", enc p.due), (.str "count", enc p.count), (.str "round", enc p.round), (.str "ends", enc p.ends)], fun _ => show (8 : Nat) < 1000 from by decide⟩
structure FldR (σ α : Type) [Ob σ] [Nc α] (n : Str) (get : σ → α) (put : σ → α → σ) : Prop extends Fld σ α n get put where
  ok : ∀ s : σ, okR n (Ob.kds s) = true
theorem fr_setting : FldR Sta SetT "setting" Sta.setting (fun p v => { p with setting := v }) := ⟨⟨fun _ => rfl, fun _ _ => rfl⟩, fun _ => rfl⟩
theorem fr_held : FldR Sta (List Int) "held" Sta.held (fun p v => { p with held := v }) := ⟨⟨fun _ => rfl, fun _ _ => rfl⟩, fun _ => rfl⟩
theorem fr_chord : FldR Sta (List Int) "chord" Sta.chord (fun p v => { p with chord := v }) := ⟨⟨fun _ => rfl, fun _ _ => rfl⟩, fun _ => rfl⟩
theorem fr_now : FldR Sta Int "now" Sta.now (fun p v => { p with now := v }) := ⟨⟨fun _ => rfl, fun _ _ => rfl⟩, fun _ => rfl⟩
theorem fr_due : FldR Sta (Option Int) "due" Sta.due (fun p v => { p with due := v }) := ⟨⟨fun _ => rfl, fun _ _ => rfl⟩, fun _ => rfl⟩
theorem fr_count : FldR Sta Int "count" Sta.count (fun p v => { p with count := v }) := ⟨⟨fun _ => rfl, fun _ _ => rfl⟩, fun _ => rfl⟩
theorem fr_round : FldR Sta (List Int) "round" Sta.round (fun p v => { p with round := v }) := ⟨⟨fun _ => rfl, fun _ _ => rfl⟩, fun _ => rfl⟩
theorem fr_ends : FldR Sta (Dc Int Int) "ends" Sta.ends (fun p v => { p with ends := v }) := ⟨⟨fun _ => rfl, fun _ _ => rfl⟩, fun _ => rfl⟩
section
variable {α β γ δ ε τ σ : Type} [Nc α] [Nc β] [Nc δ] [Nc ε] [Nc τ] [Ob σ] {K : γ → Fl → Prop} {ρ : En} {i j : Nat} {m ma mb mk mv : En → P D} {rest body a b : En → Fl} {x xa xb : En → R D} {n n1 n2 n3 : Str} {gt : σ → α} {pt : σ → α → σ} {ml : En → P (List D)} {k : D → En → Fl}
theorem kset_eq (F : FldR σ α n gt pt) {s : σ} {v : α} (hx : getO ρ i = some (enc s)) :
    (liftP (mPl (pN i) ρ) ρ fun o => match o with
      | .dict kds => if okR n kds = true then Fl.nx ((pN i).set ρ (.dict (putFD n (enc v) kds))) else .stuck
      | _ => .stuck) = .nx (ρ.set i (some (enc (pt s v)))) := by
  rw [show mPl (pN i) ρ = .ok (.dict (Ob.kds s)) from by show P.ofO (getO ρ i) = _; rw [hx]; rfl]
  show (if okR n (Ob.kds s) = true then Fl.nx (ρ.set i (some (.dict (putFD n (enc v) (Ob.kds s))))) else .stuck) = _
  rw [if_pos (F.ok s), put_eq F.toFld]
theorem js_kset (F : FldR σ α n gt pt) (s : σ) {te : P α} {t : α → P γ} (h : Rp (m ρ) te) (hk : ∀ v, J (rest (ρ.set i (some (enc (pt s v))))) (t v) K) (hx : getO ρ i = some (enc s) := by rfl) : J (seqM (sKset (pN i) n m) rest ρ) (te.bind t) K := by
  rw [seq_eq]
  show J ((liftP (m ρ) ρ _).seq rest) _ K
  rw [seq_lift]
  refine j_lift h fun v => ?_
  exact J_eq (congrArg (Fl.seq · rest) (kset_eq F (v := v) hx)) (hk v)
theorem js_ksetk (F : FldR σ α n gt pt) (s : σ) {v : α} {t : P γ} (h : Rp (m ρ) (.ok v)) (hk : J (rest (ρ.set i (some (enc (pt s v))))) t K) (hx : getO ρ i = some (enc s) := by rfl) : J (seqM (sKset (pN i) n m) rest ρ) t K := by
  have h' : m ρ = .ok (enc v) := h
  rw [seq_eq]
  show J ((liftP (m ρ) ρ _).seq rest) _ K
  rw [h']
  exact J_eq (congrArg (Fl.seq · rest) (kset_eq F (v := v) hx)) hk
theorem js_kaug {gt : σ → Int} {pt : σ → Int → σ} (F : FldR σ Int n gt pt) (s : σ) {y : Int} {t : P γ} (h : Rp (m ρ) (.ok y)) (hk : J (rest (ρ.set i (some (enc (pt s (gt s + y)))))) t K) (hx : getO ρ i = some (enc s) := by rfl) : J (seqM (sKaug (pN i) n m) rest ρ) t K := by
  have h' : m ρ = .ok (enc y) := h
  rw [seq_eq]
  show J ((liftP (mPl (plF (pN i) n) ρ) ρ _).seq rest) _ K
  rw [show mPl (plF (pN i) n) ρ = .ok (enc (gt s)) from y_fld F.toFld s hx]
  show J ((liftP (m ρ) ρ _).seq rest) _ K
  rw [h']
  show J (Fl.seq (match getO ρ i with
    | some (.dict kds) => if okR n kds = true then Fl.nx (ρ.set i (some (.dict (putFD n (enc (gt s + y)) kds)))) else .stuck
    | _ => .stuck) rest) t K
  rw [hx]
  show J (Fl.seq (if okR n (Ob.kds s) = true then Fl.nx (ρ.set i (some (.dict (putFD n (enc (gt s + y)) (Ob.kds s))))) else .stuck) rest) t K
  rw [if_pos (F.ok s), put_eq F.toFld]
  exact hk
theorem kput_eq (F : FldR σ α n gt pt) {s : σ} {v : α} {kk : En → Fl} (hx : getO ρ i = some (enc s)) : kput (pN i) n (enc v) ρ kk = kk (ρ.set i (some (enc (pt s v)))) := by
  unfold kput
  rw [show (pN i).get ρ = some (.dict (Ob.kds s)) from hx]
  show (if okR n (Ob.kds s) = true then kk (ρ.set i (some (.dict (putFD n (enc v) (Ob.kds s))))) else .stuck) = _
  rw [if_pos (F.ok s), put_eq F.toFld]
theorem getO_set {d : D} {e : D} (h : getO ρ i = some e) : getO (ρ.set i (some d)) i = some d := by
  show ((ρ.set i (some d))[i]?).bind id = _
  have hl : i < ρ.length := by
    cases z : ρ[i]? with
    | none => rw [show getO ρ i = (ρ[i]?).bind id from rfl, z] at h; cases h
    | some q => exact (List.getElem?_eq_some_iff.mp z).1
  rw [List.getElem?_set_self hl]
  rfl
theorem set_set {d e : D} : (ρ.set i (some d)).set i (some e) = ρ.set i (some e) := List.set_set ..
theorem js_kpar2 {gt2 : σ → β} {pt2 : σ → β → σ} (F1 : FldR σ α n1 gt pt) (F2 : FldR σ β n2 gt2 pt2) (s : σ) {va : α} {vb : β} {t : P γ} (ha : Rp (ma ρ) (.ok va)) (hb : Rp (mb ρ) (.ok vb)) (hk : J (rest (ρ.set i (some (enc (pt2 (pt s va) vb))))) t K) (hx : getO ρ i = some (enc s) := by rfl) : J (seqM (sKpar2 (pN i) n1 n2 ma mb) rest ρ) t K := by
  have h1 : ma ρ = .ok (enc va) := ha
  have h2 : mb ρ = .ok (enc vb) := hb
  rw [seq_eq]
  unfold sKpar2
  rw [h1, h2]
  show J (Fl.seq (kput (pN i) n1 (enc va) ρ fun ρ => kput (pN i) n2 (enc vb) ρ .nx) rest) t K
  rw [kput_eq F1 hx, kput_eq F2 (getO_set hx), set_set]
  exact hk
theorem js_kpar3 {gt2 : σ → β} {pt2 : σ → β → σ} {gt3 : σ → Dc Int Int} {pt3 : σ → Dc Int Int → σ} (F1 : FldR σ α n1 gt pt) (F2 : FldR σ β n2 gt2 pt2) (F3 : FldR σ (Dc Int Int) n3 gt3 pt3) (s : σ) {va : α} {vb : β} {t : P γ} (ha : Rp (ma ρ) (.ok va)) (hb : Rp (mb ρ) (.ok vb)) (hk : J (rest (ρ.set i (some (enc (pt3 (pt2 (pt s va) vb) ⟨[]⟩))))) t K) (hx : getO ρ i = some (enc s) := by rfl) : J (seqM (sKpar3 (pN i) n1 n2 n3 ma mb) rest ρ) t K := by
  have h1 : ma ρ = .ok (enc va) := ha
  have h2 : mb ρ = .ok (enc vb) := hb
  rw [seq_eq]
  unfold sKpar3
  rw [h1, h2]
  show J (Fl.seq (kput (pN i) n1 (enc va) ρ fun ρ => kput (pN i) n2 (enc vb) ρ fun ρ => kput (pN i) n3 (enc (Dc.mk ([] : List (Int × Int)))) ρ .nx) rest) t K
  rw [kput_eq F1 hx, kput_eq F2 (getO_set hx), set_set, kput_eq F3 (getO_set hx), set_set]
  exact hk
def ksK (i : Nat) (n : Str) (rest : En → Fl) (v : D) (ρ : En) : Fl := Fl.seq (liftP (mPl (pN i) ρ) ρ fun o => match o with
  | .dict kds => if okR n kds = true then .nx ((pN i).set ρ (.dict (putFD n v kds))) else .stuck
  | _ => .stuck) rest
theorem jsx_kset {t : P γ} (h : J (liftX (x ρ) (ksK i n rest)) t K) : J (seqM (sKsetX (pN i) n x) rest ρ) t K := by
  rw [seq_eq]
  show J ((liftX (x ρ) _).seq rest) t K
  rw [seq_liftX]
  exact h
theorem jl_kset (F : FldR σ α n gt pt) (s : σ) (v : α) {t : P γ} (hk : J (rest (ρ.set i (some (enc (pt s v))))) t K) (hx : getO ρ i = some (enc s) := by rfl) : J (ksK i n rest (enc v) ρ) t K :=
  J_eq (congrArg (Fl.seq · rest) (kset_eq F (v := v) hx)) hk
/-- o.n.pop(k) -/
theorem jx_fpop {f : D → D → Option (D × D)} (F : Fld σ α n gt pt) (s : σ) {g : α → β → P (T2 δ α)} {tk : P β} {u : T2 δ α → P γ} (hf : ∀ (x : α) (y : β), PopR (f (enc x) (enc y)) (g x y)) (h : Rp (m ρ) tk) (hk : ∀ q : T2 δ α, J (k (enc q.a) (ρ.set i (some (enc (pt s q.b))))) (u q) K) (hx : getO ρ i = some (enc s) := by rfl) :
    J (liftX (xPop1 (plF (pN i) n) f m ρ) k) (tk.bind fun y => (g (gt s) y).bind u) K := by
  unfold xPop1
  have e1 : xUp (mPl (plF (pN i) n)) ρ = .ok (enc (gt s)) ρ := by
    unfold xUp
    rw [show mPl (plF (pN i) n) ρ = .ok (enc (gt s)) from y_fld F s hx]
  rw [e1]
  show J (liftX ((xUp m ρ).bind _) k) _ K
  unfold xUp
  cases tk with
  | ok y =>
    have h' : m ρ = .ok (enc y) := h
    rw [h']
    have hz := hf (gt s) y
    show J (liftX (match f (enc (gt s)) (enc y) with | some (d', z) => R.ok z ((plF (pN i) n).set ρ d') | none => .stuck) k) ((g (gt s) y).bind u) K
    cases e : g (gt s) y with
    | ok q =>
      rw [e] at hz
      have hz' : f (enc (gt s)) (enc y) = some (enc q.b, enc q.a) := hz
      rw [hz']
      show J (k (enc q.a) ((plF (pN i) n).set ρ (enc q.b))) (u q) K
      rw [plF_set F hx]
      exact hk q
    | exc c => rw [e] at hz; exact hz.elim
    | stuck => trivial
  | exc c => have h' : m ρ = .exc c := h; rw [h']; exact ⟨ρ, rfl⟩
  | stuck => trivial
end
section
variable {pl : Pl} {n n1 n2 n3 : Str} {m ma mb : En → P D} {x : En → R D}
theorem kpF_kput {ρ : En} {v : D} {kk : En → Fl} (h : KpP pl) (hk : ∀ ρ', KpF ρ' (kk ρ')) : KpF ρ (kput pl n v ρ kk) := by
  unfold kput
  repeat' split
  · exact (hk _).tr (h ρ _)
  · trivial
  · trivial
theorem kp_kset (h : KpP pl) : Kp (sKset pl n m) := fun ρ => kpF_lift fun _ => kpF_lift fun o => by
  repeat' split
  all_goals first | exact h ρ _ | trivial
theorem kp_ksetX (h : KpP pl) (hx : KpR x) : Kp (sKsetX pl n x) := fun _ => kpF_liftX hx fun _ ρ => kpF_lift fun o => by
  repeat' split
  all_goals first | exact h ρ _ | trivial
theorem kp_kaug (h : KpP pl) : Kp (sKaug pl n m) := fun ρ => kpF_lift fun u => kpF_lift fun v => by
  repeat' split
  all_goals first | exact h ρ _ | trivial
theorem kp_kpar2 (h : KpP pl) : Kp (sKpar2 pl n1 n2 ma mb) := fun _ => kpF_lift fun _ => kpF_lift fun _ => kpF_kput h fun _ => kpF_kput h fun _ => Ks.rfl
theorem kp_kpar3 (h : KpP pl) : Kp (sKpar3 pl n1 n2 n3 ma mb) := fun _ => kpF_lift fun _ => kpF_lift fun _ => kpF_kput h fun _ => kpF_kput h fun _ => kpF_kput h fun _ => Ks.rfl
theorem kpr_pop1 {f : D → D → Option (D × D)} (h : KpP pl) : KpR (xPop1 pl f m) := fun ρ => by
  unfold xPop1
  have h1 := kpr_up (m := mPl pl) ρ
  cases e : xUp (mPl pl) ρ with
  | ok d ρ1 =>
    show KpRv ρ ((xUp m ρ).bind _)
    have h2 := kpr_up (m := m) ρ
    cases e2 : xUp m ρ with
    | ok y ρ2 =>
      show KpRv ρ (match f d y with | some (d', z) => R.ok z (pl.set ρ d') | none => .stuck)
      cases f d y with
      | none => trivial
      | some q => exact h ρ _
    | exc c ρ2 => rw [e2] at h2; exact h2
    | stuck => trivial
  | exc c ρ1 => rw [e] at h1; exact h1
  | stuck => trivial
theorem kp_while {c : En → P Bool} {body : En → Fl} (h : Kp body) : ∀ (n : Nat), Kp (fun ρ => whileN c body n ρ)
  | 0 => fun _ => trivial
  | n + 1 => fun ρ => by
    show KpF ρ (whileN c body (n + 1) ρ)
    rw [whileN]
    have hb := h ρ
    cases e : c ρ with
    | ok t =>
      cases t with
      | true =>
        dsimp only
        cases e2 : body ρ with
        | nx ρ2 => rw [e2] at hb; exact (kp_while h n ρ2).tr hb
        | ct ρ2 => rw [e2] at hb; exact (kp_while h n ρ2).tr hb
        | rt _ _ => rw [e2] at hb; exact hb
        | ex _ _ => rw [e2] at hb; exact hb
        | stuck => trivial
      | false => exact Ks.rfl
    | exc _ => exact Ks.rfl
    | stuck => trivial
end
theorem j_stk {γ : Type} {K : γ → Fl → Prop} {fl : Fl} : J fl (.stuck : P γ) K := trivial
end Pc

set_option maxRecDepth 100000
set_option maxHeartbeats 1000000
namespace Pc
open PySem L2
variable {α β : Type} [Nc α] [Nc β] {ρ : En} {m ma mb mc : En → P D}
def encP (l : List (Int × Int)) : List (T2 Int Int) := l.map fun q => ⟨q.1, q.2⟩
@[irreducible] def sitP (m : Dc Int Int) : P (List (T2 Int Int)) := if m.l.length < 60000 then .ok (encP (srtII m.l)) else .stuck
theorem pairsI_enc : ∀ l : List (Int × Int), pairsI (l.map fun q => (enc q.1, enc q.2)) = some l
  | [] => rfl
  | (i, j) :: l => by
    show (pairsI (l.map fun q => (enc q.1, enc q.2))).map ((i, j) :: ·) = _
    rw [pairsI_enc l]
    rfl
theorem f_sit (m : Dc Int Int) : Rp (.ofO (sitemsO (enc m))) (sitP m) := by
  unfold sitP
  show Rp (.ofO ((pairsI (m.l.map fun q => (enc q.1, enc q.2))).bind fun l => if l.length < 60000 then some (.list ((srtII l).map encII)) else none)) _
  rw [pairsI_enc, Option.bind_some]
  split
  · show P.ok (PyData.list ((srtII m.l).map encII)) = P.ok (.list ((encP (srtII m.l)).map enc))
    unfold encP
    rw [List.map_map]
    rfl
  · trivial
@[irreducible] def idxP (l : List Int) (k : Int) : P Int := if k ∈ l then .ok (l.idxOf k : Nat) else .stuck
theorem intsD_encL (l : List Int) : intsD (l.map enc) = some l := intsD_map l
theorem y_idx {ta : P (List Int)} {tb : P Int} (ha : Rp (ma ρ) ta) (hb : Rp (mb ρ) tb) : Rp (mL1 idxO ma mb ρ) (ta.bind fun x => tb.bind fun y => idxP x y) := by
  refine Rg.bind ha fun z => ?_
  show Rp ((mb ρ).bind fun y => .ofO (idxO (z.map enc) y)) _
  refine Rg.bind hb fun y => ?_
  unfold idxP
  show Rp (.ofO ((intsD (z.map enc)).bind fun ns => if y ∈ ns then some (.int (ns.idxOf y : Nat)) else none)) _
  rw [intsD_encL, Option.bind_some]
  split
  · rfl
  · trivial
theorem y_cnt {ta : P (List Int)} {tb : P Int} (ha : Rp (ma ρ) ta) (hb : Rp (mb ρ) tb) : Rp (mL1 cntO ma mb ρ) (ta.bind fun x => tb.bind fun y => .ok (x.count y : Int)) := by
  refine Rg.bind ha fun z => ?_
  show Rp ((mb ρ).bind fun y => .ofO (cntO (z.map enc) y)) _
  refine Rg.bind hb fun y => ?_
  show Rp (.ofO ((intsD (z.map enc)).bind fun ns => some (.int (ns.count y : Nat)))) _
  rw [intsD_encL, Option.bind_some]
  rfl
def zp {α β : Type} : List α → List β → List (T2 α β)
  | x :: xs, y :: ys => ⟨x, y⟩ :: zp xs ys
  | _, _ => []
theorem zp_enc : ∀ (l : List α) (k : List β), (zp l k).map enc = zpL (l.map enc) (k.map enc)
  | [], _ => by rw [zp]; rfl; simp
  | x :: xs, [] => by rw [zp]; rfl; simp
  | x :: xs, y :: ys => by rw [zp, List.map_cons, List.map_cons, List.map_cons, zpL, zp_enc xs ys]; rfl
theorem y_Zp {ta : P (List α)} {tb : P (List β)} (ha : Rp (ma ρ) ta) (hb : Rp (mb ρ) tb) : Rh (iZp ma mb ρ) (ta.bind fun x => tb.bind fun y => .ok (zp x y)) := by
  refine Rg.bind ha fun x => Rg.bind hb fun y => ?_
  show P.ok (zpL (x.map enc) (y.map enc)) = .ok ((zp x y).map enc)
  rw [zp_enc]
@[irreducible] def lrange2P (i j : Int) : P (List Int) := if (decide (0 ≤ i) && decide (i ≤ j) && decide (j ≤ 100000)) = true then .ok (rg i (j - i).toNat) else .stuck
theorem f_lrange2 (i j : Int) : Rp (.ofO (lrange2O (enc i) (enc j))) (lrange2P i j) := by
  unfold lrange2P
  show Rp (.ofO (if (decide (0 ≤ i) && decide (i ≤ j) && decide (j ≤ 100000)) = true then some (.list (intL i (j - i).toNat)) else none)) _
  split
  · show P.ok (PyData.list _) = P.ok (.list ((rg i (j - i).toNat).map enc)); rw [rg_enc]
  · trivial
def rgC (i c : Int) (n : Nat) : List Int := (List.range n).map fun (k : Nat) => i + (k : Int) * c
@[irreducible] def rg3P (i j c : Int) : P (List Int) := if c ≠ 0 ∧ c.natAbs < 1073741824 ∧ Builtin.Range.small i j c = true then .ok (rgC i c (Builtin.Range.rangeSize i j c).toNat) else .stuck
theorem y_R3 {t s r : P Int} (h : Rp (ma ρ) t) (h2 : Rp (mb ρ) s) (h3 : Rp (mc ρ) r) : Rh (iR3 (consM ma (consM mb (consM mc mNil))) ρ) (t.bind fun x => s.bind fun y => r.bind fun z => rg3P x y z) := by
  unfold iR3
  rw [args_consH]
  refine Rg.bind h fun x => ?_
  rw [args_consH]
  refine Rg.bind h2 fun y => ?_
  rw [args_consH]
  refine Rg.bind h3 fun z => ?_
  unfold rg3P
  show Rh (.ofO (if z ≠ 0 ∧ z.natAbs < 1073741824 ∧ Builtin.Range.small x y z = true then some ((List.range (Builtin.Range.rangeSize x y z).toNat).map fun k => PyData.int (x + (k : Nat) * z)) else none)) _
  split
  · show P.ok _ = P.ok ((rgC x z (Builtin.Range.rangeSize x y z).toNat).map enc)
    unfold rgC
    rw [List.map_map]
    rfl
  · trivial
theorem idxP_ok {l : List Int} {k : Int} (h : k ∈ l) : idxP l k = .ok (l.idxOf k : Nat) := by unfold idxP; rw [if_pos h]
theorem sitP_ok {m : Dc Int Int} (h : m.l.length < 60000) : sitP m = .ok (encP (srtII m.l)) := by unfold sitP; rw [if_pos h]
theorem lrange2P_ok {i j : Int} (h1 : 0 ≤ i) (h2 : i ≤ j) (h3 : j ≤ 100000) : lrange2P i j = .ok (rg i (j - i).toNat) := by unfold lrange2P; rw [if_pos (by simp [h1, h2, h3])]
end Pc

set_option maxRecDepth 100000
set_option maxHeartbeats 1000000
namespace Pc
open PySem L2
variable {α β γ δ : Type} [Nc α] [Nc β] [Nc γ] [Nc δ] {ρ : En} {m ma mb mc : En → P D}
theorem y_3 {f : D → D → D → Option D} {g : α → β → γ → P δ} {ta : P α} {tb : P β} {tc : P γ} (hf : ∀ x y z, Rp (.ofO (f (enc x) (enc y) (enc z))) (g x y z)) (ha : Rp (ma ρ) ta) (hb : Rp (mb ρ) tb) (hc : Rp (mc ρ) tc) : Rp (m3' f ma mb mc ρ) (ta.bind fun x => tb.bind fun y => tc.bind fun z => g x y z) :=
  Rg.bind ha fun x => Rg.bind hb fun y => Rg.bind hc fun z => hf x y z
@[irreducible] def lrange3P (i j c : Int) : P (List Int) := if c ≠ 0 ∧ c.natAbs < 1073741824 ∧ Builtin.Range.small i j c = true ∧ (Builtin.Range.rangeSize i j c).toNat ≤ 100000 then .ok (rgC i c (Builtin.Range.rangeSize i j c).toNat) else .stuck
theorem f_lrange3 (i j c : Int) : Rp (.ofO (lrange3O (enc i) (enc j) (enc c))) (lrange3P i j c) := by
  unfold lrange3P
  show Rp (.ofO (if c ≠ 0 ∧ c.natAbs < 1073741824 ∧ Builtin.Range.small i j c = true ∧ (Builtin.Range.rangeSize i j c).toNat ≤ 100000 then some (.list ((List.range (Builtin.Range.rangeSize i j c).toNat).map fun k => .int (i + (k : Nat) * c))) else none)) _
  split
  · show P.ok (PyData.list _) = P.ok (.list ((rgC i c (Builtin.Range.rangeSize i j c).toNat).map enc))
    unfold rgC
    rw [List.map_map]
    rfl
  · trivial
end Pc

set_option maxRecDepth 100000
set_option maxHeartbeats 1000000
namespace Pc
open PySem L2
variable {α β γ δ σ : Type} [Nc α] [Nc β] [Nc γ] [Nc δ] {ρ : En} {m ma mb mc : En → P D}
/-! ### a comprehension whose element changes an own thing -/
def lcEP {α β γ : Type} (step : β → α → P (T2 γ β)) : List α → β → P (T2 (List γ) β)
  | [], z => .ok ⟨[], z⟩
  | x :: xs, z => match step z x with
    | .ok q => match lcEP step xs q.b with
      | .ok r => .ok ⟨q.a :: r.a, r.b⟩
      | _ => .stuck
    | _ => .stuck
@[irreducible] def lcEQ {α β γ : Type} (step : β → α → P (T2 γ β)) (xs : List α) (z : β) : P (T2 (List γ) β) := if xs.length ≤ LIM then lcEP step xs z else .stuck
def KE (E : β → En) (q : T2 γ β) (fl : Fl) : Prop := fl = .rt (enc q.a) (E q.b)
theorem j_ke {E : β → En} {fl : Fl} (q : T2 γ β) (h : fl = .rt (enc q.a) (E q.b)) : J fl (.ok q) (KE E) := h
theorem lcEg_h {bd : D → En → Option En} {xe : En → R D} {vs : List Nat} (E : β → En) (E1 : β → α → En) (E2 : β → α → β → En) {step : β → α → P (T2 γ β)}
    (he : ∀ z x, J (liftX (xe (E1 z x)) fun d ρ => .rt d ρ) (step z x) (KE (E2 z x))) (hb : ∀ z (x : α), bd (enc x) (E z) = some (E1 z x)) (hw : ∀ z (x : α) z', wipeE (E2 z x z') vs = E z') :
    ∀ (xs : List α) (z : β) (r : T2 (List γ) β), lcEP step xs z = .ok r → lcEg bd xe vs (xs.map enc) (E z) = .ok (r.a.map enc) (E r.b)
  | [], z, r, h => by cases h; rfl
  | x :: xs, z, r, h => by
    rw [lcEP] at h
    have hx := he z x
    cases es : step z x with
    | stuck => rw [es] at h; cases h
    | exc c => rw [es] at h; cases h
    | ok q =>
      rw [es] at h hx
      dsimp only at h
      have hx' : liftX (xe (E1 z x)) (fun d ρ => .rt d ρ) = .rt (enc q.a) (E2 z x q.b) := hx
      have exe : xe (E1 z x) = .ok (enc q.a) (E2 z x q.b) := by
        cases e : xe (E1 z x) with
        | ok d ρ' => rw [e] at hx'; cases hx'; rfl
        | exc c ρ' => rw [e] at hx'; cases hx'
        | stuck => rw [e] at hx'; cases hx'
      cases er : lcEP step xs q.b with
      | stuck => rw [er] at h; cases h
      | exc c => rw [er] at h; cases h
      | ok r' =>
        rw [er] at h
        cases h
        have ih := lcEg_h E E1 E2 he hb hw xs q.b r' er
        rw [List.map_cons, lcEg, hb]
        dsimp only
        rw [exe]
        dsimp only
        rw [hw, ih]
        rfl
theorem jx_lcE {src : En → P (List D)} {bd : D → En → Option En} {xe : En → R D} {vs : List Nat} {κ : D → En → Fl} {K : δ → Fl → Prop} (E : β → En) (E1 : β → α → En) (E2 : β → α → β → En) {txs : P (List α)} {step : β → α → P (T2 γ β)} {t : T2 (List γ) β → P δ} (w : β) (hs : Rh (src ρ) txs)
    (he : ∀ z x, J (liftX (xe (E1 z x)) fun d ρ => .rt d ρ) (step z x) (KE (E2 z x))) (hk : ∀ q : T2 (List γ) β, J (κ (enc q.a) (E q.b)) (t q) K)
    (h0 : wipeE ρ vs = E w := by rfl) (hb : ∀ z (x : α), bd (enc x) (E z) = some (E1 z x) := by exact fun _ _ => rfl) (hw : ∀ z (x : α) z', wipeE (E2 z x z') vs = E z' := by exact fun _ _ _ => rfl)
    (hok : ∃ xs, txs = .ok xs := by exact ⟨_, rfl⟩) : J (liftX (lcE src vs bd xe ρ) κ) (txs.bind fun xs => (lcEQ step xs w).bind t) K := by
  obtain ⟨xs, rfl⟩ := hok
  have hs' : src ρ = .ok (xs.map enc) := hs
  show J _ ((lcEQ step xs w).bind t) K
  unfold lcEQ
  by_cases hl : xs.length ≤ LIM
  · rw [if_pos hl]
    cases er : lcEP step xs w with
    | stuck => trivial
    | exc c =>
      exfalso
      have : ∀ (xs : List α) (z : β), lcEP step xs z ≠ .exc c := by
        intro xs
        induction xs with
        | nil => intro z h; cases h
        | cons x xs ih =>
          intro z h
          rw [lcEP] at h
          cases e1 : step z x with
          | stuck => rw [e1] at h; cases h
          | exc c => rw [e1] at h; cases h
          | ok q =>
            rw [e1] at h
            dsimp only at h
            cases e2 : lcEP step xs q.b with
            | stuck => rw [e2] at h; cases h
            | exc c => rw [e2] at h; cases h
            | ok r => rw [e2] at h; cases h
      exact this xs w er
    | ok r =>
      have h := lcEg_h E E1 E2 he hb hw xs w r er
      have e : lcE src vs bd xe ρ = .ok (enc r.a) (E r.b) := by
        unfold lcE
        rw [hs']
        dsimp only
        rw [List.length_map, if_pos hl, h0, h]
        rfl
      rw [e]
      exact hk r
  · rw [if_neg hl]
    trivial
end Pc

set_option maxRecDepth 100000
set_option maxHeartbeats 1000000
namespace Pc
open PySem L2
variable {α β γ : Type} [Nc α] [Nc β] {ρ : En} {m ma mb mc me : En → P D} {ml : En → P (List D)} {K : γ → Fl → Prop} {i j : Nat} {rest : En → Fl} {mi : En → Option Int}
/-! ### a list within a list -/
def setP {α : Type} (x : List α) (k : Int) (z : α) : List α := match ixN x.length k with
  | some j => x.set j z
  | none => x
theorem y_plX (x : List α) (k : Int) (hx : getO ρ i = some (enc x) := by rfl) (hk : mi ρ = some k := by rfl) : Rp (mPl (plX (pN i) mi) ρ) (ixP x k) := by
  show Rp (P.ofO ((getO ρ i).bind fun o => (mi ρ).bind fun n => itO n o)) _
  rw [hx, hk, Option.bind_some, Option.bind_some]
  exact f_ix x k
theorem iput_enc (x : List α) (k : Int) (z : α) : iputO k (enc x) (enc z) = enc (setP x k z) := by
  show iputO k (.list (x.map enc)) (enc z) = PyData.list ((setP x k z).map enc)
  unfold iputO setP
  dsimp only
  rw [List.length_map]
  cases ixN x.length k with
  | none => rfl
  | some j => dsimp only; rw [List.map_set]
theorem js_xm1 {f : D → D → Option D} {g : α → β → P α} {te : P β} {t : List α → P γ} (x : List α) (k : Int) (hf : ∀ (x : α) (y : β), Rp (.ofO (f (enc x) (enc y))) (g x y)) (h : Rp (me ρ) te) (hk : ∀ w, J (rest (ρ.set i (some (enc w)))) (t w) K)
    (hx : getO ρ i = some (enc x) := by rfl) (hm : mi ρ = some k := by rfl) : J (seqM (sM1 (plX (pN i) mi) f me) rest ρ) ((ixP x k).bind fun e => te.bind fun y => (g e y).bind fun z => (P.ok (setP x k z)).bind t) K := by
  rw [seq_eq, w_sM1, seq_lift]
  refine j_lift (y_plX x k hx hm) fun e => ?_
  rw [seq_lift]
  refine j_lift h fun y => ?_
  have h1 := hf e y
  cases q : g e y with
  | stuck => trivial
  | exc c =>
    rw [q] at h1
    have h' : P.ofO (f (enc e) (enc y)) = .exc c := h1
    cases e2 : f (enc e) (enc y) <;> rw [e2] at h' <;> cases h'
  | ok z =>
    rw [q] at h1
    have h' : P.ofO (f (enc e) (enc y)) = .ok (enc z) := h1
    cases e2 : f (enc e) (enc y) with
    | none => rw [e2] at h'; cases h'
    | some d =>
      rw [e2] at h'; cases h'
      have es : (plX (pN i) mi).set ρ (enc z) = ρ.set i (some (enc (setP x k z))) := by
        show (match getO ρ i, mi ρ with
          | some o, some n => ρ.set i (some (iputO n o (enc z)))
          | _, _ => ρ) = _
        rw [hx, hm]
        dsimp only
        rw [iput_enc]
      show J (rest ((plX (pN i) mi).set ρ (enc z))) _ K
      rw [es]
      exact hk _
theorem y_EnTl {tl : P (List α)} (h : Rh (ml ρ) tl) : Rh (iEnT (mTup ml) ρ) (tl.bind fun l => .ok (enu 0 l)) := by
  have e : iEnT (mTup ml) ρ = (ml ρ).bind fun xs => .ok (enL 0 xs) := by
    show (((ml ρ).bind fun xs => P.ok (PyData.tuple xs)).bind fun d => (tupO d).bind fun xs => .ok (enL 0 xs)) = _
    cases ml ρ <;> rfl
  rw [e]
  refine Rg.bind h fun l => ?_
  show P.ok (enL 0 (l.map enc)) = .ok ((enu 0 l).map enc)
  rw [enu_enc]
/-- the signs of a text -/
def sgL (z : Str) : List Str := z.cps.toList.map fun c => ⟨#[c]⟩
@[irreducible] def sgP (z : Str) : P (List Str) := .ok (sgL z)
theorem sg_h (z : Str) : Rh (sgO (enc z)) (sgP z) := by
  unfold sgP
  show P.ok _ = P.ok ((sgL z).map enc)
  unfold sgL
  rw [List.map_map]
  rfl
theorem y_iS {ts : P Str} (h : Rp (m ρ) ts) : Rh (iS m ρ) (ts.bind sgP) := Rg.bind h fun z => sg_h z
theorem y_EnS {ts : P Str} (h : Rp (m ρ) ts) : Rh (iEnS m ρ) (ts.bind fun z => (sgP z).bind fun l => .ok (enu 0 l)) := by
  refine Rg.bind h fun z => ?_
  refine Rg.bind (e := List.map enc) (p := sgO (enc z)) ?_ fun l => ?_
  · exact sg_h z
  · show P.ok (enL 0 (l.map enc)) = .ok ((enu 0 l).map enc)
    rw [enu_enc]
end Pc

set_option maxRecDepth 100000
set_option maxHeartbeats 1000000
namespace Pc
open PySem L2
variable {α β γ : Type} [Nc α] [Nc β] {ρ : En} {m ma mb mc me : En → P D} {ml : En → P (List D)}
theorem c_uNot (a : Unit) : Rb (.ofO (notNO (enc a) .none)) (.ok false) := rfl
theorem c_uIs (a : Unit) : Rb (.ofO (isNO (enc a) .none)) (.ok true) := rfl
/-! ### items that may raise -/
def lcQ {α β : Type} (f : α → P β) : List α → P (List β)
  | [] => .ok []
  | x :: xs => (f x).bind fun y => (lcQ f xs).bind fun ys => .ok (y :: ys)
@[irreducible] def lcCP {α β : Type} (f : α → P β) (xs : List α) : P (List β) := if xs.length ≤ LIM then lcQ f xs else .stuck
theorem lcQ_h {bd : D → En → Option En} {elt : En → P D} {f : α → P β} {ρ : En} (E : α → En) (hb : ∀ x, bd (enc x) ρ = some (E x)) (hf : ∀ x, Rp (elt (E x)) (f x)) : ∀ xs : List α, Rh (lcGE bd elt ρ (xs.map enc)) (lcQ f xs)
  | [] => rfl
  | x :: xs => by
    show Rh (lcGE bd elt ρ (enc x :: xs.map enc)) _
    unfold lcGE
    rw [hb x]
    exact Rg.bind (hf x) fun y => Rg.bind (lcQ_h E hb hf xs) fun ys => rfl
theorem y_lcC {src : En → P (List D)} {vs : List Nat} {bd : D → En → Option En} {elt : En → P D} {ts : P (List α)} {f : α → P β} (E : α → En) (hs : Rh (src ρ) ts) (hf : ∀ x, Rp (elt (E x)) (f x)) (hb : ∀ x : α, bd (enc x) (wipeE ρ vs) = some (E x) := by exact fun _ => rfl) : Rp (lcC src vs bd elt ρ) (ts.bind fun xs => lcCP f xs) := by
  refine Rg.bind hs fun xs => ?_
  unfold lcCP
  rw [List.length_map]
  split
  · have h := lcQ_h E hb hf xs
    cases e : lcQ f xs with
    | ok l => rw [e] at h; have h' : lcGE bd elt (wipeE ρ vs) (xs.map enc) = .ok (l.map enc) := h; rw [h']; rfl
    | exc c => rw [e] at h; have h' : lcGE bd elt (wipeE ρ vs) (xs.map enc) = .exc c := h; rw [h']; rfl
    | stuck => trivial
  · trivial
end Pc


set_option maxRecDepth 100000
set_option maxHeartbeats 4000000
namespace Gn
open PySem L2 Pc
def t_is_one (thing : D) (words : (Tl Str)) : P Bool := (P.bind (.ofO (isiO "str" thing)) fun v1 => (if v1 = true then (.ofO (inO thing (enc words))) else .ok false))
theorem r_is_one (thing : D) (words : (Tl Str)) : Rp (m_is_one [enc thing, enc words]) (t_is_one thing words) := by
  have h : Rp (runF 2 b_is_one [enc thing, enc words]) _ := r_of2 (ρ := [some (enc thing), some (enc words)]) (j_ret (y_vand (y_isi (y_var thing)) (y_vcmp c_any (y_var thing) (y_D (y_var words)))))
  unfold t_is_one
  try simp only [bnd_ok, bind_as, bind_id] at h
  try simp only [bnd_ok, bind_as, bind_id]
  exact h

def t_is_within (thing : D) (low : Int) (high : Int) : P Bool := (P.bind (.ofO (isiO "int" thing)) fun v4 => (if v4 = true then (P.bind (P.bind (.ofO (isiO "bool" thing)) fun v1 => (.ok (!v1))) fun v3 => (if v3 = true then (P.bind (.ofO (leO (enc low) thing)) fun v2 => (if v2 = true then (.ofO (leO thing (enc high))) else .ok false)) else .ok false)) else .ok false))
theorem r_is_within (thing : D) (low : Int) (high : Int) : Rp (m_is_within [enc thing, enc low, enc high]) (t_is_within thing low high) := by
  have h : Rp (runF 3 b_is_within [enc thing, enc low, enc high]) _ := r_of2 (ρ := [some (enc thing), some (enc low), some (enc high)]) (j_ret (y_vand (y_isi (y_var thing)) (y_vand (y_vnot t_B (y_isi (y_var thing))) (y_asB (y_chain c_any c_any (y_D (y_var low)) (y_var thing) (y_D (y_var high)))))))
  unfold t_is_within
  try simp only [bnd_ok, bind_as, bind_id] at h
  try simp only [bnd_ok, bind_as, bind_id]
  exact h

def t_is_setting (thing : D) : P Bool := decB (m_is_setting [enc thing])
theorem r_is_setting (thing : D) : Rp (m_is_setting [enc thing]) (t_is_setting thing) := r_decB _

def t_number_of (word : Str) : P Int := (P.bind (P.bind (P.bind (P.bind (lenSP word) fun v1 => (if (decide ((1 : Int) ≤ v1)) = true then (.ok (decide (v1 ≤ (3 : Int)))) else .ok false)) fun v2 => (.ok (!v2))) fun v9 => (if v9 = true then .ok true else (P.bind (P.bind (P.bind (sgP word) fun v4 => (lcT (fun (x3 : Str) => (!strIn x3 ("0123456789" : Str))) (fun (x3 : Str) => x3) v4)) fun v5 => (.ok (!v5.isEmpty))) fun v8 => (if v8 = true then .ok true else (P.bind (P.bind (intSP word) fun v6 => (strP v6)) fun v7 => (.ok (!decide (v7 = word)))))))) fun v10 => (if v10 = true then (.exc "NoText") else (intSP word)))
theorem r_number_of (word : Str) : Rp (m_number_of [enc word]) (t_number_of word) := by
  have h : Rp (runF 2 b_number_of [enc word]) _ := r_of2 (ρ := [some (enc word), none]) (js_if (y_or (y_not (y_chain c_le c_le (y_C (1 : Int)) (y_B1 b_lenS (y_var word)) (y_C (3 : Int)))) (y_or (y_tru t_L (y_lcT (fun (x3 : Str) => [some (enc word), some (enc x3)]) (c := fun (x3 : Str) => (!strIn x3 ("0123456789" : Str))) (f := fun (x3 : Str) => x3) (y_iS (y_var word)) (fun (x3 : Str) => (y_cmp c_ninS (y_var x3) (y_C ("0123456789" : Str)))) (fun (x3 : Str) => (y_var x3)))) (y_cmp (c_ne) (y_B1 b_str (y_B1 b_intS (y_var word))) (y_var word)))) js_raise (js_nx (j_ret (y_B1 b_intS (y_var word)))))
  unfold t_number_of
  try simp only [bnd_ok, bind_as, bind_id] at h
  try simp only [bnd_ok, bind_as, bind_id]
  exact h

def t_look (setting : D) : P Unit := (P.bind (P.bind (P.bind (t_is_setting setting) fun v1 => (.ok v1)) fun v2 => (.ok (!v2))) fun v3 => (if v3 = true then (.exc "NoSetting") else (.ok ())))
theorem r_look (setting : D) : Rp (m_look [enc setting]) (t_look setting) := by
  have h : Rp (runF 1 b_look [enc setting]) _ := r_ofU2 (ρ := [some (enc setting)]) (j_if (y_not (y_tru t_B (y_F1 r_is_setting (y_var setting)))) j_raise (j_end () k_u))
  unfold t_look
  try simp only [bnd_ok, bind_as, bind_id] at h
  try simp only [bnd_ok, bind_as, bind_id]
  exact h

def t_setting_text (setting : (T7 Str Int Int Int Bool Str Bool)) : P Str := (P.bind (t_look (enc setting)) fun _ => (P.bind (P.bind (strP setting.b) fun v1 => (P.bind (strP setting.c) fun v2 => (P.bind (strP setting.d) fun v3 => (.ok ([setting.a, v1, v2, v3, setting.f] : List Str))))) fun v4 => (P.bind (P.bind (P.bind (repP ([("hold" : Str)] : List Str) (if setting.e = true then (1 : Int) else 0)) fun v5 => (catP v4 v5)) fun v6 => (P.bind (repP ([("wait" : Str)] : List Str) (if setting.g = true then (1 : Int) else 0)) fun v7 => (catP v6 v7))) fun v8 => (joinP (" " : Str) v8))))
theorem r_setting_text (setting : (T7 Str Int Int Int Bool Str Bool)) : Rp (m_setting_text [enc setting]) (t_setting_text setting) := by
  have h : Rp (runF 9 b_setting_text [enc setting]) _ := r_of2 (ρ := [some (enc setting), none, none, none, none, none, none, none, none]) (js_expr (y_F1 r_look (y_D (y_var setting))) (js_asgk [some (enc setting), some (enc setting.a), some (enc setting.b), some (enc setting.c), some (enc setting.d), some (enc setting.e), some (enc setting.f), some (enc setting.g), none] (y_var setting) (js_set (y_lst (y_hcons (y_var setting.a) (y_hcons (y_B1 b_str (y_var setting.b)) (y_hcons (y_B1 b_str (y_var setting.c)) (y_hcons (y_B1 b_str (y_var setting.d)) (y_hcons (y_var setting.f) (y_hnil (α := Str)))))))) (fun v4 => (j_ret (y_join (y_C (" " : Str)) (y_2 f_cat (y_2 f_cat (y_var v4) (y_2 f_rep (y_lst (y_hcons (y_C ("hold" : Str)) (y_hnil (α := Str)))) (y_B1 b_intB (y_var setting.e)))) (y_2 f_rep (y_lst (y_hcons (y_C ("wait" : Str)) (y_hnil (α := Str)))) (y_B1 b_intB (y_var setting.g))))))))))
  unfold t_setting_text
  try simp only [bnd_ok, bind_as, bind_id] at h
  try simp only [bnd_ok, bind_as, bind_id]
  exact h

def t__law_seed (seed : Int) (k : Int) : P Int := (P.bind (powP ((((seed * 1103515245) + (7919 * k)) + (12345 : Int)) % 2147483647) (5 : Int)) fun v1 => (.ok (v1 % 2147483647)))
theorem r__law_seed (seed : Int) (k : Int) : Rp (m__law_seed [enc seed, enc k]) (t__law_seed seed k) := by
  have h : Rp (runF 2 b__law_seed [enc seed, enc k]) _ := r_of2 (ρ := [some (enc seed), some (enc k)]) (j_ret (y_2c f_modc (y_2 f_pow (y_2c f_modc (y_2 f_add (y_2 f_add (y_2c f_mulc (y_var seed)) (y_c2 f_cmul (y_var k))) (y_C (12345 : Int)))) (y_C (5 : Int)))))
  unfold t__law_seed
  try simp only [bnd_ok, bind_as, bind_id] at h
  try simp only [bnd_ok, bind_as, bind_id]
  exact h

def t__law_pick (seed : Int) (many : Int) : P Int := (modP (seed / 97) many)
theorem r__law_pick (seed : Int) (many : Int) : Rp (m__law_pick [enc seed, enc many]) (t__law_pick seed many) := by
  have h : Rp (runF 2 b__law_pick [enc seed, enc many]) _ := r_of2 (ρ := [some (enc seed), some (enc many)]) (j_ret (y_2 f_mod (y_2c f_fdivc (y_var seed)) (y_var many)))
  unfold t__law_pick
  try simp only [bnd_ok, bind_as, bind_id] at h
  try simp only [bnd_ok, bind_as, bind_id]
  exact h

def t__law_setting (seed : Int) : P (T7 Str Int Int Int Bool Str Bool) := (P.bind (P.bind (P.bind (t__law_seed seed (1 : Int)) fun v1 => (t__law_pick v1 (7 : Int))) fun v2 => (ixP ([("up" : Str), ("down" : Str), ("both" : Str), ("bounce" : Str), ("in" : Str), ("thumb" : Str), ("played" : Str)] : List Str) v2)) fun v3 => (P.bind (P.bind (P.bind (t__law_seed seed (5 : Int)) fun v4 => (t__law_pick v4 (2 : Int))) fun v5 => (ixP ([("now" : Str), ("grid" : Str)] : List Str) v5)) fun v6 => (P.bind (P.bind (P.bind (t__law_seed seed (2 : Int)) fun v7 => (P.bind (ixP ([(8 : Int), (3 : Int)] : List Int) ((seed / 5) % 2)) fun v8 => (t__law_pick v7 v8))) fun v9 => (.ok ((1 : Int) + v9))) fun v12 => (P.bind (P.bind (P.bind (t__law_seed seed (3 : Int)) fun v10 => (t__law_pick v10 (16 : Int))) fun v11 => (.ok ((1 : Int) + v11))) fun v13 => (P.bind (P.bind (P.bind (t__law_seed seed (4 : Int)) fun v14 => (t__law_pick v14 (3 : Int))) fun v15 => (.ok (decide (v15 = (0 : Int))))) fun v18 => (P.bind (P.bind (P.bind (t__law_seed seed (6 : Int)) fun v16 => (t__law_pick v16 (3 : Int))) fun v17 => (.ok (decide (v17 = (0 : Int))))) fun v19 => (.ok (T7.mk v3 ((1 : Int) + ((seed / 7) % 3)) v12 v13 v18 v6 v19))))))))
theorem r__law_setting (seed : Int) : Rp (m__law_setting [enc seed]) (t__law_setting seed) := by
  have h : Rp (runF 7 b__law_setting [enc seed]) _ := r_of2 (ρ := [some (enc seed), none, none, none, none, none, none]) (js_set (y_2 f_ix (y_lst (y_hcons (y_C ("up" : Str)) (y_hcons (y_C ("down" : Str)) (y_hcons (y_C ("both" : Str)) (y_hcons (y_C ("bounce" : Str)) (y_hcons (y_C ("in" : Str)) (y_hcons (y_C ("thumb" : Str)) (y_hcons (y_C ("played" : Str)) (y_hnil (α := Str)))))))))) (y_F2 r__law_pick (y_F2 r__law_seed (y_var seed) (y_C (1 : Int))) (y_C (7 : Int)))) (fun v3 => (js_set (y_2 f_ix (y_lst (y_hcons (y_C ("now" : Str)) (y_hcons (y_C ("grid" : Str)) (y_hnil (α := Str))))) (y_F2 r__law_pick (y_F2 r__law_seed (y_var seed) (y_C (5 : Int))) (y_C (2 : Int)))) (fun v6 => (js_par (y_2 f_add (y_C (1 : Int)) (y_F2 r__law_pick (y_F2 r__law_seed (y_var seed) (y_C (2 : Int))) (y_2 f_ix (y_lst (y_hcons (y_C (8 : Int)) (y_hcons (y_C (3 : Int)) (y_hnil (α := Int))))) (y_2c f_modc (y_2c f_fdivc (y_var seed)))))) (y_2 f_add (y_C (1 : Int)) (y_F2 r__law_pick (y_F2 r__law_seed (y_var seed) (y_C (3 : Int))) (y_C (16 : Int)))) (fun v12 v13 => (js_par (y_vcmp (c_eq) (y_F2 r__law_pick (y_F2 r__law_seed (y_var seed) (y_C (4 : Int))) (y_C (3 : Int))) (y_C (0 : Int))) (y_vcmp (c_eq) (y_F2 r__law_pick (y_F2 r__law_seed (y_var seed) (y_C (6 : Int))) (y_C (3 : Int))) (y_C (0 : Int))) (fun v18 v19 => (j_ret (y_t7 (y_var v3) (y_2 f_add (y_C (1 : Int)) (y_2c f_modc (y_2c f_fdivc (y_var seed)))) (y_var v12) (y_var v13) (y_var v18) (y_var v6) (y_var v19)))))))))))
  unfold t__law_setting
  try simp only [bnd_ok, bind_as, bind_id] at h
  try simp only [bnd_ok, bind_as, bind_id]
  exact h

end Gn

set_option maxRecDepth 100000
set_option maxHeartbeats 1000000
namespace Gn
open PySem L2 Pc
/-! numbers -/
def seed (s k : Int) : Int := ((s * 1103515245 + 7919 * k + 12345) % 2147483647) ^ 5 % 2147483647
def pick (s many : Int) : Int := s / 97 % many
theorem seed_ok (s k : Int) : t__law_seed s k = .ok (seed s k) := by
  have h : (((s * 1103515245 + 7919 * k + 12345) % 2147483647)).natAbs < 18446744073709551616 := by omega
  unfold t__law_seed
  rw [powP_ok (by decide) (by decide) h]
  rfl
theorem seed_nn (s k : Int) : 0 ≤ seed s k := Int.emod_nonneg _ (by decide)
theorem pick_ok (s m : Int) (h : 0 < m) : t__law_pick s m = .ok (pick s m) := by
  unfold t__law_pick
  rw [modP_ok h]
  rfl
theorem pick_rg (s m : Int) (h : 0 < m) : 0 ≤ pick s m ∧ pick s m < m := ⟨Int.emod_nonneg _ (by omega), Int.emod_lt_of_pos _ h⟩
theorem nodup_len : ∀ (n : Nat) (l : List Int), l.Nodup → (∀ x ∈ l, 0 ≤ x ∧ x < (n : Int)) → l.length ≤ n
  | 0, l, _, h => by
    cases l with
    | nil => exact Nat.le_refl _
    | cons x l => have := h x List.mem_cons_self; omega
  | n + 1, l, nd, h => by
    have h1 := nodup_len n (l.erase (n : Int)) (nd.erase _) fun x hx => by
      have h2 := (nd.mem_erase_iff.mp hx)
      have h3 := h x h2.2
      have h4 := h2.1
      omega
    have h2 := List.length_erase_le (l := l) (a := (n : Int))
    by_cases hm : (n : Int) ∈ l
    · have := List.length_erase_of_mem hm; omega
    · rw [List.erase_of_not_mem hm] at h1; omega
structure Good (ks : List Int) : Prop where
  nd : ks.Nodup
  rg : ∀ x ∈ ks, 0 ≤ x ∧ x < 36
theorem Good.len {ks : List Int} (g : Good ks) : ks.length ≤ 36 := nodup_len 36 ks g.nd g.rg
/-! settings -/
def inR (d : D) (lo hi : Int) : Bool := match d with
  | .int i => decide (lo ≤ i) && decide (i ≤ hi)
  | _ => false
def oneOf (d : D) (l : List Str) : Bool := match d with
  | .str x => decide (x ∈ l)
  | _ => false
def isB : D → Bool
  | .bool _ => true
  | _ => false
def ORD : List Str := ["up", "down", "both", "bounce", "in", "thumb", "played"]
def STA : List Str := ["now", "grid"]
def isSet : D → Bool
  | .tuple [a, b, c, d, e, f, g] => oneOf a ORD && (inR b 1 3 && (inR c 1 8 && (inR d 1 16 && (isB e && (oneOf f STA && isB g)))))
  | _ => false
theorem p_within (d : D) (lo hi : Int) (h : isDict d = false) : m_is_within [d, .int lo, .int hi] = .ok (.bool (inR d lo hi)) := by
  cases d <;> try (simp [m_is_within, runF, b_is_within, isiO, tyN, isiB, inR]; done)
  · rename_i i
    by_cases h1 : lo ≤ i <;> simp [m_is_within, runF, b_is_within, isiO, tyN, isiB, inR, h1]
  · cases h
theorem p_one (d : D) (l : List Str) (h : isDict d = false) : m_is_one [d, .tuple (l.map .str)] = .ok (.bool (oneOf d l)) := by
  cases d <;> try (simp [m_is_one, runF, b_is_one, isiO, tyN, isiB, oneOf]; done)
  · rename_i i
    simp [m_is_one, runF, b_is_one, isiO, tyN, isiB, oneOf, in_strs]
  · cases h
theorem len7 (xs : List D) (h : xs.length = 7) : ∃ a b c d e f g, xs = [a, b, c, d, e, f, g] := by
  match xs, h with
  | [a, b, c, d, e, f, g], _ => exact ⟨a, b, c, d, e, f, g, rfl⟩
theorem isSet_len {xs : List D} (h : xs.length ≠ 7) : isSet (.tuple xs) = false := by
  unfold isSet
  split
  · rename_i heq; cases heq; exact absurd rfl h
  · rfl
theorem isi_ok (T : String) {d : D} (h : isDict d = false) : ∃ b, isiO T d = some b := by
  cases d <;> first | exact ⟨_, rfl⟩ | cases h
def isS : D → Bool
  | .str _ => true
  | _ => false
theorem isi_bool {d : D} (h : isDict d = false) : isiO "bool" d = some (isB d) := by cases d <;> first | rfl | cases h
theorem isi_str {d : D} (h : isDict d = false) : isiO "str" d = some (isS d) := by cases d <;> first | rfl | cases h
theorem oneOf_not {d : D} (l : List Str) (h : isS d = false) : oneOf d l = false := by cases d <;> first | rfl | cases h
theorem notin_one {d : D} (l : List Str) (h : isS d = true) : notInO d (.tuple (l.map .str)) = some (!oneOf d l) := by
  cases d <;> first | exact notin_strs _ _ | cases h
theorem p_isSet (d : D) (h : flat 3 d = true) : m_is_setting [d] = .ok (.bool (isSet d)) := by
  cases d with
  | dict _ => cases h
  | tuple xs =>
    by_cases hl : xs.length = 7
    · obtain ⟨a, b, c, d, e, f, g, rfl⟩ := len7 xs hl
      rw [flat_tuple 2] at h
      simp only [List.all_cons, List.all_nil, Bool.and_true, Bool.and_eq_true] at h
      obtain ⟨ha, hb, hc, hd, he, hf, hg⟩ := h
      have e1 : atI [a, b, c, d, e, f, g] 0 = some a := rfl
      have e2 : atI [a, b, c, d, e, f, g] 1 = some b := rfl
      have e3 : atI [a, b, c, d, e, f, g] 2 = some c := rfl
      have e4 : atI [a, b, c, d, e, f, g] 3 = some d := rfl
      have e5 : atI [a, b, c, d, e, f, g] 4 = some e := rfl
      have e6 : atI [a, b, c, d, e, f, g] 5 = some f := rfl
      have e7 : atI [a, b, c, d, e, f, g] 6 = some g := rfl
      have p1 : m_is_one [a, .tuple [.str "up", .str "down", .str "both", .str "bounce", .str "in", .str "thumb", .str "played"]] = .ok (.bool (oneOf a ORD)) := p_one a ORD (flat_nodict ha)
      have p6 : m_is_one [f, .tuple [.str "now", .str "grid"]] = .ok (.bool (oneOf f STA)) := p_one f STA (flat_nodict hf)
      have p2 := p_within b 1 3 (flat_nodict hb)
      have p3 := p_within c 1 8 (flat_nodict hc)
      have p4 := p_within d 1 16 (flat_nodict hd)
      have i1 : isiO "tuple" (.tuple [a, b, c, d, e, f, g]) = some true := rfl
      have i5 := isi_bool (flat_nodict he)
      have i7 := isi_bool (flat_nodict hg)
      simp only [m_is_setting, runF, b_is_setting, isSet]
      cases hA : oneOf a ORD <;> cases hB : inR b 1 3 <;> cases hC : inR c 1 8 <;> cases hD : inR d 1 16 <;> cases hE : isB e <;> cases hF : oneOf f STA <;>
        simp [i1, i5, i7, e1, e2, e3, e4, e5, e6, e7, p1, p2, p3, p4, p6, hA, hB, hC, hD, hE, hF]
    · have i1 : isiO "tuple" (.tuple xs) = some true := rfl
      have hl2 : ¬ ((xs.length : Int) = 7) := by omega
      rw [isSet_len hl]
      simp [m_is_setting, runF, b_is_setting, i1, hl2]
  | _ => simp [m_is_setting, runF, b_is_setting, isiO, tyN, isiB, isSet]
theorem p_look (d : D) (h : flat 3 d = true) : m_look [d] = if isSet d = true then .ok .none else .exc "NoSetting" := by
  have := p_isSet d h
  cases hs : isSet d <;> simp [m_look, runF, b_look, this, hs]
/-! a setting that is made -/
abbrev Setting := T7 Str Int Int Int Bool Str Bool
def ordOf (k : Int) : Str := ORD.getD k.toNat ""
def staOf (k : Int) : Str := STA.getD k.toNat ""
def settingOf (s : Int) : Setting := ⟨ordOf (pick (seed s 1) 7), 1 + s / 7 % 3, 1 + pick (seed s 2) (if s / 5 % 2 = 0 then 8 else 3), 1 + pick (seed s 3) 16, decide (pick (seed s 4) 3 = 0), staOf (pick (seed s 5) 2), decide (pick (seed s 6) 3 = 0)⟩
structure GoodS (t : Setting) : Prop where
  o : t.a ∈ ORD
  s : 1 ≤ t.b ∧ t.b ≤ 3
  p : 1 ≤ t.c ∧ t.c ≤ 8
  g : 1 ≤ t.d ∧ t.d ≤ 16
  t : t.f ∈ STA
theorem getD_mem {α : Type} {l : List α} {k : Nat} {d : α} (h : k < l.length) : l.getD k d ∈ l := by
  rw [List.getD_eq_getElem?_getD, List.getElem?_eq_getElem h]; exact List.getElem_mem h
theorem setting_good (s : Int) : GoodS (settingOf s) := by
  have h1 := pick_rg (seed s 1) 7 (by decide)
  have h2 := pick_rg (seed s 3) 16 (by decide)
  have h3 := pick_rg (seed s 5) 2 (by decide)
  have h4 : 0 ≤ pick (seed s 2) (if s / 5 % 2 = 0 then 8 else 3) ∧ pick (seed s 2) (if s / 5 % 2 = 0 then 8 else 3) < 8 := by
    split
    · exact pick_rg _ _ (by decide)
    · have := pick_rg (seed s 2) 3 (by decide); omega
  refine ⟨getD_mem (by show _ < 7; omega), ?_, ?_, ?_, getD_mem (by show _ < 2; omega)⟩
  · show 1 ≤ 1 + s / 7 % 3 ∧ 1 + s / 7 % 3 ≤ 3; omega
  · show 1 ≤ 1 + pick _ _ ∧ 1 + pick _ _ ≤ 8; omega
  · show 1 ≤ 1 + pick _ _ ∧ 1 + pick _ _ ≤ 16; omega
theorem setting_ok (s : Int) : t__law_setting s = .ok (settingOf s) := by
  have h1 := pick_rg (seed s 1) 7 (by decide)
  have h3 := pick_rg (seed s 5) 2 (by decide)
  have e1 : ixP ([(Str.ofString "up"), (Str.ofString "down"), (Str.ofString "both"), (Str.ofString "bounce"), (Str.ofString "in"), (Str.ofString "thumb"), (Str.ofString "played")] : List Str) (pick (seed s 1) 7) = .ok (ordOf (pick (seed s 1) 7)) := ixP_D _ h1.1 h1.2
  have e2 : ixP ([(Str.ofString "now"), (Str.ofString "grid")] : List Str) (pick (seed s 5) 2) = .ok (staOf (pick (seed s 5) 2)) := ixP_D _ h3.1 h3.2
  have e3 : ixP ([(8 : Int), (3 : Int)] : List Int) ((s / 5) % 2) = .ok (if s / 5 % 2 = 0 then 8 else 3) := by
    have h1 : s / 5 % 2 = 0 ∨ s / 5 % 2 = 1 := by omega
    unfold ixP
    rcases h1 with e | e <;> rw [e] <;> rfl
  have e4 : (0 : Int) < (if s / 5 % 2 = 0 then 8 else 3) := by split <;> decide
  unfold t__law_setting
  simp only [seed_ok, bnd_ok, pick_ok _ 7 (by decide), pick_ok _ 2 (by decide), pick_ok _ 16 (by decide), pick_ok _ 3 (by decide), e1, e2, e3, pick_ok _ _ e4]
  rfl
theorem isSet_good {t : Setting} (g : GoodS t) : isSet (enc t) = true := by
  obtain ⟨o, s, p, q, st⟩ := g
  show (oneOf (.str t.a) ORD && (inR (.int t.b) 1 3 && (inR (.int t.c) 1 8 && (inR (.int t.d) 1 16 && (isB (.bool t.e) && (oneOf (.str t.f) STA && isB (.bool t.g))))))) = true
  simp only [oneOf, inR, isB, o, st, decide_true, Bool.true_and, Bool.and_true, Bool.and_eq_true, decide_eq_true_eq]
  omega
theorem flat_set (t : Setting) : flat 2 (enc t) = true := rfl
end Gn

set_option maxRecDepth 100000
set_option maxHeartbeats 1000000
namespace Gn
open PySem L2 Pc
/-! ### settings written: words -/
open TL (tl joinL)
def nS (i : Int) : Str := (toString i : String)
def tailW (h w : Bool) : List Str := (if h then [("hold" : Str)] else []) ++ (if w then [("wait" : Str)] else [])
def wsOf (S : Setting) : List Str := S.a :: nS S.b :: nS S.c :: nS S.d :: S.f :: tailW S.e S.g
def Jw (ws : List Str) : Str := Txt.join " " ws
theorem tl_J (ws : List Str) : tl (Jw ws) = joinL [32] (ws.map tl) := by
  unfold Jw
  rw [TL.join_eq, TL.tl_join]
  rfl
def freeW (w : Str) : Bool := (tl w).all (· != 32)
theorem free_of {w : Str} (h : freeW w = true) : 32 ∉ tl w := fun hm => by
  have := List.all_eq_true.mp h 32 hm
  exact absurd this (by decide)
theorem split_J {ws : List Str} (hne : ws ≠ []) (h : ws.all freeW = true) : Txt.split (Jw ws) " " = ws :=
  TL.split_join (s := 32) (S := []) (by kernel_rfl) (by decide +kernel) hne fun p hp => free_of (List.all_eq_true.mp h p hp)
theorem inum (P : Int → Bool) (h : ((List.range 16).all fun k => P ((k : Int) + 1)) = true) {i : Int} (h1 : 1 ≤ i) (h2 : i ≤ 16) : P i = true := by
  have := List.all_eq_true.mp h (i.toNat - 1) (List.mem_range.mpr (by omega))
  rwa [show ((i.toNat - 1 : Nat) : Int) + 1 = i by omega] at this
theorem free_num {i : Int} (h1 : 1 ≤ i) (h2 : i ≤ 16) : freeW (nS i) = true := inum (fun i => freeW (nS i)) (by decide +kernel) h1 h2
theorem num_len {i : Int} (h1 : 1 ≤ i) (h2 : i ≤ 16) : decide ((tl (nS i)).length ≤ 2) = true := inum (fun i => decide ((tl (nS i)).length ≤ 2)) (by decide +kernel) h1 h2
def isOk (p : P Int) (i : Int) : Bool := match p with | .ok j => j == i | _ => false
def isEx (p : P Int) : Bool := match p with | .exc c => c == "NoText" | _ => false
theorem isOk_eq {p : P Int} {i : Int} (h : isOk p i = true) : p = .ok i := by
  unfold isOk at h
  split at h
  · rw [eq_of_beq h]
  · cases h
theorem isEx_eq {p : P Int} (h : isEx p = true) : p = .exc "NoText" := by
  unfold isEx at h
  split at h
  · rw [eq_of_beq h]
  · cases h
theorem num_m {i : Int} (h1 : 1 ≤ i) (h2 : i ≤ 16) : m_number_of [.str (nS i)] = .ok (.int i) := by
  have := r_number_of (nS i)
  rw [isOk_eq (inum (fun i => isOk (t_number_of (nS i)) i) (by decide +kernel) h1 h2)] at this
  exact this
theorem num0_m {i : Int} (h1 : 1 ≤ i) (h2 : i ≤ 16) : m_number_of [.str ("0" ++ nS i)] = .exc "NoText" := by
  have := r_number_of ("0" ++ nS i)
  rw [isEx_eq (inum (fun i => isEx (t_number_of ("0" ++ nS i))) (by decide +kernel) h1 h2)] at this
  exact this
/-! reading words -/
def rdT (t : Str) (ws : List Str) : P D := outF ((seqM (ifS (orB (tCmp ltO (mB lenO (consM (mVar 1) mNil)) (mC (.int 5))) (tCmp notInO (mCut cutO (mVar 1) (oSome (mC (.int 5))) oNone) (mTup (consM (mLst mNil) (consM (mLst (consM (mC (.str "hold")) mNil)) (consM (mLst (consM (mC (.str "wait")) mNil)) (consM (mLst (consM (mC (.str "hold")) (consM (mC (.str "wait")) mNil))) mNil))))))) (sEx "NoText") sNx) (seqM (sSet 2 (lcC (iL (mCut cutO (mVar 1) (oSome (mC (.int 1))) (oSome (mC (.int 4))))) [3] (bN 3) (mF m_number_of (consM (mVar 3) mNil)))) (seqM (sSet 4 (mTup (consM (m2 ixO (mVar 1) (mC (.int 0))) (consM (m2 ixO (mVar 2) (mC (.int 0))) (consM (m2 ixO (mVar 2) (mC (.int 1))) (consM (m2 ixO (mVar 2) (mC (.int 2))) (consM (mCmp inO (mC (.str "hold")) (mCut cutO (mVar 1) (oSome (mC (.int 5))) oNone)) (consM (m2 ixO (mVar 1) (mC (.int 4))) (consM (mCmp inO (mC (.str "wait")) (mCut cutO (mVar 1) (oSome (mC (.int 5))) oNone)) mNil))))))))) (seqM (ifS (tNot (tTru (mF m_is_setting (consM (mVar 4) mNil)))) (sEx "NoText") sNx) (sRet (mVar 4)))))) [some (.str t), some (.list (ws.map .str)), none, none, none])
theorem seq_nx {m1 m2 : En → Fl} {ρ ρ' : En} (h : m1 ρ = .nx ρ') : seqM m1 m2 ρ = m2 ρ' := by unfold seqM; rw [h]
theorem rd_split {t : Str} {ws : List Str} (h : Txt.split t " " = ws) (hl : t.length + 2 ≤ LIM) : m_read_setting [.str t] = rdT t ws := by
  have e : splitF t (.str " ") = some (.list (ws.map .str)) := by
    show (if ((" " : Str).length == 0) = false ∧ t.length + 2 ≤ LIM then some (PyData.list ((Txt.split t " ").map .str)) else none) = _
    rw [if_pos ⟨by decide, hl⟩, h]
  have e0 : sSet 1 (mS1 splitF (mVar 0) (mC (.str " "))) [some (.str t), none, none, none, none] = .nx [some (.str t), some (.list (ws.map .str)), none, none, none] := by
    unfold sSet
    rw [show mS1 splitF (mVar 0) (mC (.str " ")) [some (.str t), none, none, none, none] = P.ofO (splitF t (.str " ")) from rfl, e] <;> rfl
  have e1 : ifS (tNot (tTru (mIsi "str" (mVar 0)))) (sEx "NoText") sNx [some (.str t), none, none, none, none] = .nx [some (.str t), none, none, none, none] := rfl
  show outF (b_read_setting [some (.str t), none, none, none, none]) = _
  unfold b_read_setting
  rw [seq_nx e1, seq_nx e0]
  rfl
end Gn

set_option maxRecDepth 100000
set_option maxHeartbeats 1000000
namespace Gn
open PySem L2 Pc
open TL (tl joinL)
theorem cut_fr {α : Type} (xs : List α) (k : Nat) : cutL xs (some (k : Int)) none = xs.drop k := by
  unfold cutL
  have e1 : HT.sIx xs.length 0 (some (k : Int)) = min k xs.length := by
    exact HT.sIx_nat _ _ _
  have e2 : HT.sIx xs.length xs.length none = xs.length := rfl
  rw [e1, e2]
  by_cases h : k ≤ xs.length
  · rw [Nat.min_eq_left h, List.take_of_length_le (by rw [List.length_drop]; omega)]
  · rw [Nat.min_eq_right (by omega), List.drop_eq_nil_of_le (Nat.le_refl _), List.drop_eq_nil_of_le (by omega), List.take_nil]
/-! what words are read as -/
section
variable (t a b c d e : Str)
abbrev TAILS : D := (.tuple [.list [], .list [.str "hold"], .list [.str "wait"], .list [.str "hold", .str "wait"]])
theorem cut5 (tail : List Str) : cutL (PyData.str a :: .str b :: .str c :: .str d :: .str e :: tail.map .str) (some 5) none = tail.map .str := by
  have := cut_fr (PyData.str a :: .str b :: .str c :: .str d :: .str e :: tail.map .str) 5
  exact this
theorem cut14 (tail : List Str) : cutL (PyData.str a :: .str b :: .str c :: .str d :: .str e :: tail.map .str) (some 1) (some 4) = [.str b, .str c, .str d] := by
  unfold cutL
  have h : (PyData.str a :: .str b :: .str c :: .str d :: .str e :: tail.map .str).length = tail.length + 5 := by simp
  rw [h]
  have h1 : HT.sIx (tail.length + 5) 0 (some 1) = 1 := by unfold HT.sIx; simp <;> omega
  have h2 : HT.sIx (tail.length + 5) (tail.length + 5) (some 4) = 4 := by unfold HT.sIx; simp <;> omega
  rw [h1, h2]
  rfl
theorem len5 (n : Nat) : (5 : Int) ≤ (n : Int) + 1 + 1 + 1 + 1 + 1 := by omega
theorem lt5 (n : Nat) : ¬ ((n : Int) + 1 + 1 + 1 + 1 + 1 < (5 : Int)) := by omega
theorem rd_bad {tail : List Str} (h : notInO (.list (tail.map .str)) TAILS = some true) : rdT t (a :: b :: c :: d :: e :: tail) = .exc "NoText" := by
  unfold TAILS at h
  unfold rdT
  simp [cut5, h, len5]
theorem rd_good {tail : List Str} {i j k : Int} {hh ww : Bool} (h : notInO (.list (tail.map .str)) TAILS = some false) (e1 : m_number_of [.str b] = .ok (.int i)) (e2 : m_number_of [.str c] = .ok (.int j)) (e3 : m_number_of [.str d] = .ok (.int k))
    (eh : inO (.str "hold") (.list (tail.map .str)) = some hh) (ew : inO (.str "wait") (.list (tail.map .str)) = some ww) : rdT t (a :: b :: c :: d :: e :: tail) = (if isSet (.tuple [.str a, .int i, .int j, .int k, .bool hh, .str e, .bool ww]) = true then .ok (.tuple [.str a, .int i, .int j, .int k, .bool hh, .str e, .bool ww]) else .exc "NoText") := by
  have hs := p_isSet (.tuple [.str a, .int i, .int j, .int k, .bool hh, .str e, .bool ww]) rfl
  unfold TAILS at h
  have l3 : 3 ≤ LIM := by decide
  have a0 : atI (PyData.str a :: .str b :: .str c :: .str d :: .str e :: tail.map .str) 0 = some (.str a) := by rw [atI_nat _ _ (by decide) (by simp only [List.length_cons]; omega)]; rfl
  have a4 : atI (PyData.str a :: .str b :: .str c :: .str d :: .str e :: tail.map .str) 4 = some (.str e) := by rw [atI_nat _ _ (by decide) (by simp only [List.length_cons]; omega)]; rfl
  have b0 : atI [PyData.int i, .int j, .int k] 0 = some (.int i) := rfl
  have b1 : atI [PyData.int i, .int j, .int k] 1 = some (.int j) := rfl
  have b2 : atI [PyData.int i, .int j, .int k] 2 = some (.int k) := rfl
  unfold rdT
  cases hz : isSet (.tuple [.str a, .int i, .int j, .int k, .bool hh, .str e, .bool ww]) <;> rw [hz] at hs <;> simp [cut5, cut14, h, lt5, e1, e2, e3, eh, ew, lcC, lcGE, hs, l3, a0, a4, b0, b1, b2]
theorem rd_num {tail : List Str} (h : notInO (.list (tail.map .str)) TAILS = some false) (e1 : m_number_of [.str b] = .exc "NoText") : rdT t (a :: b :: c :: d :: e :: tail) = .exc "NoText" := by
  unfold TAILS at h
  have l3 : 3 ≤ LIM := by decide
  unfold rdT
  simp [cut5, cut14, h, lt5, e1, lcC, lcGE, l3]
end
/-! texts that are made -/
theorem J_sp {ws : List Str} (h : ws ≠ []) (w : Str) : Jw ws ++ (" " ++ w) = Jw (ws ++ [w]) := by
  refine TL.ext_tl ?_
  rw [TL.tl_append, TL.tl_append, tl_J, tl_J]
  have key : ∀ (l : List (List Nat)) (x : List Nat), l ≠ [] → joinL [32] l ++ ([32] ++ x) = joinL [32] (l ++ [x]) := by
    intro l x
    induction l with
    | nil => intro z; exact absurd rfl z
    | cons p r ih =>
      intro _
      cases r with
      | nil => rfl
      | cons q r =>
        have := ih (by simp)
        show p ++ ([32] ++ joinL [32] (q :: r)) ++ ([32] ++ x) = p ++ ([32] ++ joinL [32] ((q :: r) ++ [x]))
        rw [← this]
        simp only [List.append_assoc]
  have e : tl (" " : Str) = [32] := by kernel_rfl
  rw [e, key _ _ (by simpa using h), List.map_append]
  rfl
theorem J_cons {ws : List Str} (h : ws ≠ []) (w : Str) : w ++ (" " ++ Jw ws) = Jw (w :: ws) := by
  refine TL.ext_tl ?_
  rw [TL.tl_append, TL.tl_append, tl_J, tl_J]
  have e : tl (" " : Str) = [32] := by kernel_rfl
  rw [e]
  cases ws with
  | nil => exact absurd rfl h
  | cons a b => rfl
theorem J_end (ws : List Str) (w x : Str) : Jw (ws ++ [w]) ++ x = Jw (ws ++ [w ++ x]) := by
  refine TL.ext_tl ?_
  rw [TL.tl_append, tl_J, tl_J, List.map_append, List.map_append]
  show joinL [32] (ws.map tl ++ [tl w]) ++ tl x = joinL [32] (ws.map tl ++ [tl (w ++ x)])
  rw [TL.tl_append]
  generalize ws.map tl = l
  induction l with
  | nil => rfl
  | cons p r ih =>
    cases r with
    | nil =>
      show p ++ ([32] ++ tl w) ++ tl x = p ++ ([32] ++ (tl w ++ tl x))
      simp only [List.append_assoc]
    | cons q r =>
      show p ++ ([32] ++ joinL [32] ((q :: r) ++ [tl w])) ++ tl x = p ++ ([32] ++ joinL [32] ((q :: r) ++ [tl w ++ tl x]))
      rw [← ih]
      simp only [List.append_assoc]
/-! upper -/
def upL (l : List Nat) : List Nat := l.flatMap fun c => Unicode.upperOf c
theorem tl_upper (x : Str) : tl (Txt.upper x) = upL (tl x) := by
  unfold Txt.upper upL
  show (placed x fun _ c => Unicode.upperOf c).toList = _
  unfold placed
  rw [Array.toList_flatten, Array.toList_mapIdx, List.flatMap_def]
  congr 1
  exact List.ext_getElem (by simp) fun i h1 h2 => by simp
theorem up_J (ws : List Str) (h : upL [32] = [32]) : Txt.upper (Jw ws) = Jw (ws.map Txt.upper) := by
  refine TL.ext_tl ?_
  rw [tl_upper, tl_J, tl_J, List.map_map]
  have : (ws.map (tl ∘ Txt.upper)) = (ws.map tl).map upL := by
    rw [List.map_map]
    exact List.map_congr_left fun x _ => tl_upper x
  rw [this]
  generalize ws.map tl = l
  have ap : ∀ a b, upL (a ++ b) = upL a ++ upL b := fun a b => List.flatMap_append
  induction l with
  | nil => rfl
  | cons p r ih =>
    cases r with
    | nil => rfl
    | cons q r =>
      show upL (p ++ ([32] ++ joinL [32] (q :: r))) = upL p ++ ([32] ++ joinL [32] ((q :: r).map upL))
      rw [ap, ap, h, ih]
theorem up_sp : upL [32] = [32] := by decide +kernel
end Gn

set_option maxRecDepth 100000
set_option maxHeartbeats 1000000
namespace Gn
open PySem L2 Pc
open TL (tl joinL)
open PySem.Builtin PySem.Builtin.Str
/-! replaced once -/
theorem occ_one {x y : Str} {i : Nat} (ha : StrLaws.At x y x.length i) (hn : ∀ k, k < i → ¬ StrLaws.At x y x.length k) : occurrences x y 0 x.length 1 = [i] := by
  have hl := StrLaws.occ_length_le x y 0 x.length 1
  rcases StrLaws.occ_head x y 1 (Nat.le_refl 1) with ⟨e, n⟩ | ⟨j, r, e, a, n⟩
  · exact absurd ha (n i)
  · rw [e] at hl ⊢
    have hr : r = [] := List.eq_nil_of_length_eq_zero (by simpa using hl)
    subst hr
    have : j = i := by
      rcases Nat.lt_trichotomy j i with h | h | h
      · exact absurd a (hn j h)
      · exact h
      · exact absurd ha (n i h)
    rw [this]
theorem repl1 (a b z : Str) (hz : (z.length == 0) = false) (h : 32 ∉ tl a) : replN (a ++ (" " ++ b)) " " z 1 = a ++ (z ++ b) := by
  have es : tl (" " : Str) = [32] := by kernel_rfl
  have hy : tl (" " : Str) ≠ [] := by rw [es]; simp
  have ex : tl (a ++ (" " ++ b)) = tl a ++ ([32] ++ tl b) := by rw [TL.tl_append, TL.tl_append, es]
  have hA : StrLaws.At (a ++ (" " ++ b)) " " (a ++ (" " ++ b)).length (tl a).length := by
    rw [TL.at_iff hy, es, ex, List.drop_left]
    exact TL.pre_self [32] (tl b)
  have hN : ∀ k, k < (tl a).length → ¬ StrLaws.At (a ++ (" " ++ b)) " " (a ++ (" " ++ b)).length k := by
    intro k hk
    rw [TL.at_iff hy, es, ex, TL.free_of (s := 32) (S := []) h k hk]
    decide
  have eo := occ_one hA hN
  unfold replN
  rw [eo]
  have hc : (([(tl a).length] : List Nat).isEmpty || ((" " : Str).length == 0 && z.length == 0)) = false := by
    rw [hz]; rfl
  rw [hc, if_neg (by decide), StrLaws.partsBetween_eq]
  have e1 : (" " : Str).length = 1 := by kernel_rfl
  rw [e1]
  refine TL.ext_tl ?_
  show tl (glued z [strSub (a ++ (" " ++ b)) 0 (tl a).length, strSub (a ++ (" " ++ b)) ((tl a).length + 1) (a ++ (" " ++ b)).length]) = _
  have g : glued z [strSub (a ++ (" " ++ b)) 0 (tl a).length, strSub (a ++ (" " ++ b)) ((tl a).length + 1) (a ++ (" " ++ b)).length] = Txt.join z [strSub (a ++ (" " ++ b)) 0 (tl a).length, strSub (a ++ (" " ++ b)) ((tl a).length + 1) (a ++ (" " ++ b)).length] := rfl
  rw [g, TL.join_eq, TL.tl_join]
  show tl (strSub (a ++ (" " ++ b)) 0 (tl a).length) ++ (tl z ++ tl (strSub (a ++ (" " ++ b)) ((tl a).length + 1) (a ++ (" " ++ b)).length)) = _
  rw [TL.tl_strSub, TL.tl_strSub_end, ex, TL.tl_append, TL.tl_append]
  simp only [List.drop_zero, Nat.sub_zero, List.take_left]
  congr 2
  rw [← List.append_assoc]
  exact List.drop_left' (by simp)
/-! the text and its spoilt ones -/
theorem wsOf_ne (S : Setting) : wsOf S ≠ [] := by unfold wsOf; simp
theorem ord_free {o : Str} (h : o ∈ ORD) : freeW o = true := List.all_eq_true.mp (show (ORD.all freeW) = true by decide +kernel) o h
theorem sta_free {o : Str} (h : o ∈ STA) : freeW o = true := List.all_eq_true.mp (show (STA.all freeW) = true by decide +kernel) o h
theorem tail_free (h w : Bool) : (tailW h w).all freeW = true := by cases h <;> cases w <;> decide +kernel
theorem ws_free {S : Setting} (g : GoodS S) : (wsOf S).all freeW = true := by
  obtain ⟨o, s, p, q, st⟩ := g
  unfold wsOf
  simp only [List.all_cons, Bool.and_eq_true]
  exact ⟨ord_free o, free_num s.1 (by omega), free_num p.1 (by omega), free_num q.1 q.2, sta_free st, tail_free _ _⟩
def sum (l : List Nat) : Nat := l.foldr (· + ·) 0
theorem joinL_len : ∀ (l : List (List Nat)) (k : Nat), (∀ x ∈ l, x.length ≤ k) → (joinL [32] l).length ≤ l.length * (k + 1)
  | [], k, _ => Nat.zero_le _
  | [p], k, h => by
    have := h p (List.mem_singleton.mpr rfl)
    show p.length ≤ 1 * (k + 1)
    omega
  | p :: q :: r, k, h => by
    have h1 := h p (List.mem_cons_self ..)
    have ih := joinL_len (q :: r) k fun x hx => h x (List.mem_cons_of_mem _ hx)
    show (p ++ ([32] ++ joinL [32] (q :: r))).length ≤ (r.length + 1 + 1) * (k + 1)
    rw [List.length_append, List.length_append]
    have e : (r.length + 1 + 1) * (k + 1) = (r.length + 1) * (k + 1) + (k + 1) := by rw [Nat.add_mul, Nat.one_mul]
    rw [e]
    have ih' : (joinL [32] (q :: r)).length ≤ (r.length + 1) * (k + 1) := ih
    show p.length + (1 + (joinL [32] (q :: r)).length) ≤ _
    omega
theorem J_len {ws : List Str} (h : ws.all (fun w => decide ((tl w).length ≤ 20)) = true) (hl : ws.length ≤ 10) : (Jw ws).length ≤ 210 := by
  rw [TL.len_tl, tl_J]
  have := joinL_len (ws.map tl) 20 (fun x hx => by
    obtain ⟨w, hw, rfl⟩ := List.mem_map.mp hx
    exact of_decide_eq_true (List.all_eq_true.mp h w hw))
  rw [List.length_map] at this
  have : ws.length * 21 ≤ 10 * 21 := Nat.mul_le_mul_right _ hl
  omega
/-- a text of few short words without a space is read by its words -/
def okW (w : Str) : Bool := freeW w && decide ((tl w).length ≤ 20)
theorem rd_J {ws : List Str} (hne : ws ≠ []) (hl : ws.length ≤ 10) (h : ws.all okW = true) : m_read_setting [.str (Jw ws)] = rdT (Jw ws) ws := by
  have h1 : ws.all freeW = true := List.all_eq_true.mpr fun w hw => (Bool.and_eq_true _ _ ▸ List.all_eq_true.mp h w hw).1
  have h2 : ws.all (fun w => decide ((tl w).length ≤ 20)) = true := List.all_eq_true.mpr fun w hw => (Bool.and_eq_true _ _ ▸ List.all_eq_true.mp h w hw).2
  have h3 := J_len h2 hl
  have h4 : 1000 ≤ LIM := by decide
  exact rd_split (split_J hne h1) (by omega)
end Gn

set_option maxRecDepth 100000
set_option maxHeartbeats 1000000
namespace Gn
open PySem L2 Pc
open TL (tl joinL)
/-! what is read of each text -/
theorem okw_ord {o : Str} (h : o ∈ ORD) : okW o = true := List.all_eq_true.mp (show (ORD.all okW) = true by decide +kernel) o h
theorem okw_ordU {o : Str} (h : o ∈ ORD) : okW (Txt.upper o) = true := List.all_eq_true.mp (show (ORD.all fun o => okW (Txt.upper o)) = true by decide +kernel) o h
theorem okw_sta {o : Str} (h : o ∈ STA) : okW o = true := List.all_eq_true.mp (show (STA.all okW) = true by decide +kernel) o h
theorem okw_staU {o : Str} (h : o ∈ STA) : okW (Txt.upper o) = true := List.all_eq_true.mp (show (STA.all fun o => okW (Txt.upper o)) = true by decide +kernel) o h
theorem okw_staX {o : Str} (h : o ∈ STA) : okW (o ++ "x") = true := List.all_eq_true.mp (show (STA.all fun o => okW (o ++ "x")) = true by decide +kernel) o h
theorem okw_num {i : Int} (h1 : 1 ≤ i) (h2 : i ≤ 16) : okW (nS i) = true := inum (fun i => okW (nS i)) (by decide +kernel) h1 h2
theorem okw_num0 {i : Int} (h1 : 1 ≤ i) (h2 : i ≤ 16) : okW ("0" ++ nS i) = true := inum (fun i => okW ("0" ++ nS i)) (by decide +kernel) h1 h2
theorem up_num {i : Int} (h1 : 1 ≤ i) (h2 : i ≤ 16) : Txt.upper (nS i) = nS i := of_decide_eq_true (inum (fun i => decide (Txt.upper (nS i) = nS i)) (by decide +kernel) h1 h2)
abbrev NoT : P D := .exc "NoText"
section
variable {S : Setting} (g : GoodS S)
include g
theorem good_words (tail : List Str) (ht : tail.all okW = true) : (S.a :: nS S.b :: nS S.c :: nS S.d :: S.f :: tail).all okW = true := by
  obtain ⟨o, s, p, q, st⟩ := g
  simp only [List.all_cons, Bool.and_eq_true]
  exact ⟨okw_ord o, okw_num s.1 (by omega), okw_num p.1 (by omega), okw_num q.1 q.2, okw_sta st, ht⟩
theorem rd_self : m_read_setting [.str (Jw (wsOf S))] = .ok (enc S) := by
  have gw := good_words g (tailW S.e S.g)
  have hs := isSet_good g
  obtain ⟨a, b, c, d, e, f, w⟩ := S
  obtain ⟨o, s, p, q, st⟩ := g
  replace s : 1 ≤ b ∧ b ≤ 3 := s
  replace p : 1 ≤ c ∧ c ≤ 8 := p
  have key : ∀ tail : List Str, tail.all okW = true → tail.length ≤ 5 → notInO (.list (tail.map .str)) TAILS = some false → inO (.str "hold") (.list (tail.map .str)) = some e → inO (.str "wait") (.list (tail.map .str)) = some w → m_read_setting [.str (Jw (a :: nS b :: nS c :: nS d :: f :: tail))] = .ok (enc (⟨a, b, c, d, e, f, w⟩ : Setting)) := by
    intro tail h1 h2 h3 h4 h5
    rw [rd_J (by simp) (by simp only [List.length_cons]; omega) (by
      simp only [List.all_cons, Bool.and_eq_true]
      exact ⟨okw_ord o, okw_num s.1 (by omega), okw_num p.1 (by omega), okw_num q.1 q.2, okw_sta st, h1⟩), rd_good _ _ _ _ _ _ h3 (num_m s.1 (by omega)) (num_m p.1 (by omega)) (num_m q.1 q.2) h4 h5]
    exact if_pos hs
  cases e <;> cases w
  · exact key [] (by decide +kernel) (by decide) (by rfl) (by rfl) (by rfl)
  · exact key ["wait"] (by decide +kernel) (by decide) (by rfl) (by rfl) (by rfl)
  · exact key ["hold"] (by decide +kernel) (by decide) (by rfl) (by rfl) (by rfl)
  · exact key ["hold", "wait"] (by decide +kernel) (by decide) (by rfl) (by rfl) (by rfl)
end
theorem rd_bad' {a b c d e : Str} {tail : List Str} (h0 : (a :: b :: c :: d :: e :: tail).all okW = true) (hl : tail.length ≤ 5) (h : notInO (.list (tail.map .str)) TAILS = some true) : m_read_setting [.str (Jw (a :: b :: c :: d :: e :: tail))] = NoT := by
  rw [rd_J (by simp) (by simp only [List.length_cons]; omega) h0]
  exact rd_bad _ _ _ _ _ _ h
theorem rd_unset {a b c d e : Str} {tail : List Str} {i j k : Int} {hh ww : Bool} (h0 : (a :: b :: c :: d :: e :: tail).all okW = true) (hl : tail.length ≤ 5) (h : notInO (.list (tail.map .str)) TAILS = some false) (e1 : m_number_of [.str b] = .ok (.int i)) (e2 : m_number_of [.str c] = .ok (.int j)) (e3 : m_number_of [.str d] = .ok (.int k))
    (eh : inO (.str "hold") (.list (tail.map .str)) = some hh) (ew : inO (.str "wait") (.list (tail.map .str)) = some ww) (hs : isSet (.tuple [.str a, .int i, .int j, .int k, .bool hh, .str e, .bool ww]) = false) : m_read_setting [.str (Jw (a :: b :: c :: d :: e :: tail))] = NoT := by
  rw [rd_J (by simp) (by simp only [List.length_cons]; omega) h0, rd_good _ _ _ _ _ _ h e1 e2 e3 eh ew, hs]
  rfl
end Gn

set_option maxRecDepth 100000
set_option maxHeartbeats 1000000
namespace Gn
open PySem L2 Pc
open TL (tl joinL)
/-! each spoilt text -/
def ordTl (o : Str) : Str := cutS o (some 1) none
theorem cutS_tl (x : Str) : tl (cutS x (some 1) none) = (tl x).drop 1 := by
  show ((tl x).drop (HT.sIx x.length 0 (some 1))).take (HT.sIx x.length x.length none - HT.sIx x.length 0 (some 1)) = _
  rw [TL.len_tl]
  exact cut_fr (tl x) 1
theorem tl_inj_str {x y : Str} (h : tl x = tl y) : x = y := TL.ext_tl h
theorem nil_app (x : Str) : ("" : Str) ++ x = x := TL.ext_tl (by rw [TL.tl_append]; rfl)
theorem app_nil (x : Str) : x ++ ("" : Str) = x := TL.ext_tl (by rw [TL.tl_append]; exact List.append_nil _)
theorem app_asc (x y z : Str) : x ++ y ++ z = x ++ (y ++ z) := TL.ext_tl (by simp only [TL.tl_append, List.append_assoc])
def uns (o : Str) : Bool := !decide (o ∈ ORD)
theorem isSet_ord {a : Str} (b c d e f g : D) (h : uns a = true) : isSet (.tuple [.str a, b, c, d, e, f, g]) = false := by
  unfold isSet
  show (decide (a ∈ ORD) && _) = false
  unfold uns at h
  rw [Bool.not_eq_true'] at h
  rw [h]
  rfl
theorem isSet_sta {f : Str} (a b c d e g : D) (h : decide (f ∈ STA) = false) : isSet (.tuple [a, b, c, d, e, .str f, g]) = false := by
  unfold isSet
  show (_ && (_ && (_ && (_ && (_ && (decide (f ∈ STA) && _)))))) = false
  rw [h]
  simp
section
variable {S : Setting} (g : GoodS S)
include g
theorem sp0 : m_read_setting [.str (Jw (wsOf S) ++ " ")] = NoT := by
  have e : Jw (wsOf S) ++ " " = Jw (wsOf S ++ [("" : Str)]) := by rw [← J_sp (wsOf_ne S), app_nil]
  rw [e]
  obtain ⟨a, b, c, d, hh, f, w⟩ := S
  have G := fun t h => good_words g t h
  cases hh <;> cases w
  · exact rd_bad' (a := a) (b := nS b) (c := nS c) (d := nS d) (e := f) (tail := [""]) (G [""] (by decide +kernel)) (by decide) (by rfl)
  · exact rd_bad' (a := a) (b := nS b) (c := nS c) (d := nS d) (e := f) (tail := ["wait", ""]) (G ["wait", ""] (by decide +kernel)) (by decide) (by rfl)
  · exact rd_bad' (a := a) (b := nS b) (c := nS c) (d := nS d) (e := f) (tail := ["hold", ""]) (G ["hold", ""] (by decide +kernel)) (by decide) (by rfl)
  · exact rd_bad' (a := a) (b := nS b) (c := nS c) (d := nS d) (e := f) (tail := ["hold", "wait", ""]) (G ["hold", "wait", ""] (by decide +kernel)) (by decide) (by rfl)
theorem shift_words {x : Str} (hx : okW x = true) (tail : List Str) (ht : tail.all okW = true) : (x :: S.a :: nS S.b :: nS S.c :: nS S.d :: S.f :: tail).all okW = true := by
  rw [List.all_cons, hx, good_words g tail ht]; rfl
theorem sp1 : m_read_setting [.str (" " ++ Jw (wsOf S))] = NoT := by
  have e : " " ++ Jw (wsOf S) = Jw ("" :: wsOf S) := by rw [← J_cons (wsOf_ne S), nil_app]
  rw [e]
  obtain ⟨a, b, c, d, hh, f, w⟩ := S
  have G := fun t h => shift_words g (x := "") (by decide +kernel) t h
  have st := g.t
  have st : f = "now" ∨ f = "grid" := by
    rcases List.mem_cons.mp st with h | h
    · exact .inl h
    · exact .inr (List.mem_singleton.mp h)
  rcases st with rfl | rfl <;> cases hh <;> cases w
  · exact rd_bad' (tail := ["now"]) (G [] rfl) (by decide) (by rfl)
  · exact rd_bad' (tail := ["now", "wait"]) (G ["wait"] (by decide +kernel)) (by decide) (by rfl)
  · exact rd_bad' (tail := ["now", "hold"]) (G ["hold"] (by decide +kernel)) (by decide) (by rfl)
  · exact rd_bad' (tail := ["now", "hold", "wait"]) (G ["hold", "wait"] (by decide +kernel)) (by decide) (by rfl)
  · exact rd_bad' (tail := ["grid"]) (G [] rfl) (by decide) (by rfl)
  · exact rd_bad' (tail := ["grid", "wait"]) (G ["wait"] (by decide +kernel)) (by decide) (by rfl)
  · exact rd_bad' (tail := ["grid", "hold"]) (G ["hold"] (by decide +kernel)) (by decide) (by rfl)
  · exact rd_bad' (tail := ["grid", "hold", "wait"]) (G ["hold", "wait"] (by decide +kernel)) (by decide) (by rfl)
theorem wait_eq : Jw (wsOf S) ++ " wait" = Jw (wsOf S ++ [("wait" : Str)]) := by
  rw [← J_sp (wsOf_ne S), show (" wait" : Str) = " " ++ "wait" by kernel_rfl]
theorem sp2 (hw : S.g = true) : m_read_setting [.str (Jw (wsOf S) ++ " wait")] = NoT := by
  rw [wait_eq g]
  obtain ⟨a, b, c, d, hh, f, w⟩ := S
  have G := fun t h => good_words g t h
  replace hw : w = true := hw
  subst hw
  cases hh
  · exact rd_bad' (a := a) (b := nS b) (c := nS c) (d := nS d) (e := f) (tail := ["wait", "wait"]) (G ["wait", "wait"] (by decide +kernel)) (by decide) (by rfl)
  · exact rd_bad' (a := a) (b := nS b) (c := nS c) (d := nS d) (e := f) (tail := ["hold", "wait", "wait"]) (G ["hold", "wait", "wait"] (by decide +kernel)) (by decide) (by rfl)
theorem sp2w (hw : S.g = false) : m_read_setting [.str (Jw (wsOf S) ++ " wait")] = .ok (enc (⟨S.a, S.b, S.c, S.d, S.e, S.f, true⟩ : Setting)) := by
  rw [wait_eq g]
  have := rd_self (S := ⟨S.a, S.b, S.c, S.d, S.e, S.f, true⟩) ⟨g.o, g.s, g.p, g.g, g.t⟩
  rw [← this]
  unfold wsOf tailW
  rw [hw]
  simp
theorem sp3 : m_read_setting [.str (Txt.upper (Jw (wsOf S)))] = NoT := by
  rw [up_J _ up_sp]
  have h0 := g
  obtain ⟨a, b, c, d, hh, f, w⟩ := S
  obtain ⟨o, s, p, q, st⟩ := g
  replace s : 1 ≤ b ∧ b ≤ 3 := s
  replace p : 1 ≤ c ∧ c ≤ 8 := p
  replace q : 1 ≤ d ∧ d ≤ 16 := q
  have e : ∀ tail : List Str, (a :: nS b :: nS c :: nS d :: f :: tail).map Txt.upper = Txt.upper a :: nS b :: nS c :: nS d :: Txt.upper f :: tail.map Txt.upper := by
    intro tail
    simp only [List.map_cons, up_num s.1 (by omega), up_num p.1 (by omega), up_num q.1 (by omega)]
  have G : ∀ tail : List Str, tail.all okW = true → (Txt.upper a :: nS b :: nS c :: nS d :: Txt.upper f :: tail).all okW = true := by
    intro tail ht
    simp only [List.all_cons, Bool.and_eq_true]
    exact ⟨okw_ordU o, okw_num s.1 (by omega), okw_num p.1 (by omega), okw_num q.1 q.2, okw_staU st, ht⟩
  have u : uns (Txt.upper a) = true := List.all_eq_true.mp (show (ORD.all fun o => uns (Txt.upper o)) = true by decide +kernel) a o
  show m_read_setting [.str (Jw ((a :: nS b :: nS c :: nS d :: f :: tailW hh w).map Txt.upper))] = NoT
  rw [e]
  have t1 : (tailW false true).map Txt.upper = [("WAIT" : Str)] := by decide +kernel
  have t2 : (tailW true false).map Txt.upper = [("HOLD" : Str)] := by decide +kernel
  have t3 : (tailW true true).map Txt.upper = [("HOLD" : Str), ("WAIT" : Str)] := by decide +kernel
  have t0 : (tailW false false).map Txt.upper = [] := rfl
  cases hh <;> cases w <;> simp only [t0, t1, t2, t3]
  · exact rd_unset (tail := []) (G [] rfl) (by decide) (by rfl) (num_m s.1 (by omega)) (num_m p.1 (by omega)) (num_m q.1 q.2) (hh := false) (ww := false) (by rfl) (by rfl) (isSet_ord _ _ _ _ _ _ u)
  · exact rd_bad' (tail := ["WAIT"]) (G ["WAIT"] (by decide +kernel)) (by decide) (by rfl)
  · exact rd_bad' (tail := ["HOLD"]) (G ["HOLD"] (by decide +kernel)) (by decide) (by rfl)
  · exact rd_bad' (tail := ["HOLD", "WAIT"]) (G ["HOLD", "WAIT"] (by decide +kernel)) (by decide) (by rfl)
theorem ws_cons : Jw (wsOf S) = S.a ++ (" " ++ Jw (nS S.b :: nS S.c :: nS S.d :: S.f :: tailW S.e S.g)) := (J_cons (by simp) _).symm
theorem sp4 : m_read_setting [.str (replN (Jw (wsOf S)) " " "  " 1)] = NoT := by
  have e : replN (Jw (wsOf S)) " " "  " 1 = Jw (S.a :: "" :: nS S.b :: nS S.c :: nS S.d :: S.f :: tailW S.e S.g) := by
    rw [ws_cons g, repl1 _ _ _ (by decide +kernel) (free_of (ord_free g.o)), ← J_cons (w := S.a) (by simp), ← J_cons (w := "") (by simp), nil_app, show ("  " : Str) = " " ++ " " by kernel_rfl, app_asc]
  rw [e]
  obtain ⟨a, b, c, d, hh, f, w⟩ := S
  obtain ⟨o, s, p, q, st⟩ := g
  replace s : 1 ≤ b ∧ b ≤ 3 := s
  replace p : 1 ≤ c ∧ c ≤ 8 := p
  replace q : 1 ≤ d ∧ d ≤ 16 := q
  have G : ∀ tail : List Str, tail.all okW = true → (a :: "" :: nS b :: nS c :: nS d :: tail).all okW = true := by
    intro tail ht
    simp only [List.all_cons, Bool.and_eq_true]
    exact ⟨okw_ord o, by decide +kernel, okw_num s.1 (by omega), okw_num p.1 (by omega), okw_num q.1 q.2, ht⟩
  have st : f = "now" ∨ f = "grid" := by
    rcases List.mem_cons.mp st with h | h
    · exact .inl h
    · exact .inr (List.mem_singleton.mp h)
  rcases st with rfl | rfl <;> cases hh <;> cases w
  · exact rd_bad' (tail := ["now"]) (G ["now"] (by decide +kernel)) (by decide) (by rfl)
  · exact rd_bad' (tail := ["now", "wait"]) (G ["now", "wait"] (by decide +kernel)) (by decide) (by rfl)
  · exact rd_bad' (tail := ["now", "hold"]) (G ["now", "hold"] (by decide +kernel)) (by decide) (by rfl)
  · exact rd_bad' (tail := ["now", "hold", "wait"]) (G ["now", "hold", "wait"] (by decide +kernel)) (by decide) (by rfl)
  · exact rd_bad' (tail := ["grid"]) (G ["grid"] (by decide +kernel)) (by decide) (by rfl)
  · exact rd_bad' (tail := ["grid", "wait"]) (G ["grid", "wait"] (by decide +kernel)) (by decide) (by rfl)
  · exact rd_bad' (tail := ["grid", "hold"]) (G ["grid", "hold"] (by decide +kernel)) (by decide) (by rfl)
  · exact rd_bad' (tail := ["grid", "hold", "wait"]) (G ["grid", "hold", "wait"] (by decide +kernel)) (by decide) (by rfl)
theorem sp5 : m_read_setting [.str (Jw (wsOf S) ++ "x")] = NoT := by
  have h0 := g
  obtain ⟨a, b, c, d, hh, f, w⟩ := S
  obtain ⟨o, s, p, q, st⟩ := g
  replace s : 1 ≤ b ∧ b ≤ 3 := s
  replace p : 1 ≤ c ∧ c ≤ 8 := p
  replace q : 1 ≤ d ∧ d ≤ 16 := q
  have ux : decide ((f ++ "x") ∈ STA) = false := by
    have := List.all_eq_true.mp (show (STA.all fun o => !decide ((o ++ "x") ∈ STA)) = true by decide +kernel) f st
    simpa using this
  have G := fun t h => good_words h0 t h
  cases hh <;> cases w
  · have e : Jw (wsOf ⟨a, b, c, d, false, f, false⟩) ++ "x" = Jw (a :: nS b :: nS c :: nS d :: (f ++ "x") :: []) := J_end [a, nS b, nS c, nS d] f "x"
    rw [e]
    refine rd_unset (tail := []) (by
      simp only [List.all_cons, Bool.and_eq_true]
      exact ⟨okw_ord o, okw_num s.1 (by omega), okw_num p.1 (by omega), okw_num q.1 q.2, okw_staX st, rfl⟩) (by decide) (by rfl) (num_m s.1 (by omega)) (num_m p.1 (by omega)) (num_m q.1 q.2) (hh := false) (ww := false) (by rfl) (by rfl) (isSet_sta _ _ _ _ _ _ ux)
  · have e : Jw (wsOf ⟨a, b, c, d, false, f, true⟩) ++ "x" = Jw (a :: nS b :: nS c :: nS d :: f :: ["waitx"]) := (J_end [a, nS b, nS c, nS d, f] "wait" "x").trans (by rw [show ("wait" : Str) ++ "x" = "waitx" by kernel_rfl] <;> rfl)
    rw [e]
    exact rd_bad' (tail := ["waitx"]) (G ["waitx"] (by decide +kernel)) (by decide) (by rfl)
  · have e : Jw (wsOf ⟨a, b, c, d, true, f, false⟩) ++ "x" = Jw (a :: nS b :: nS c :: nS d :: f :: ["holdx"]) := (J_end [a, nS b, nS c, nS d, f] "hold" "x").trans (by rw [show ("hold" : Str) ++ "x" = "holdx" by kernel_rfl] <;> rfl)
    rw [e]
    exact rd_bad' (tail := ["holdx"]) (G ["holdx"] (by decide +kernel)) (by decide) (by rfl)
  · have e : Jw (wsOf ⟨a, b, c, d, true, f, true⟩) ++ "x" = Jw (a :: nS b :: nS c :: nS d :: f :: ["hold", "waitx"]) := (J_end [a, nS b, nS c, nS d, f, "hold"] "wait" "x").trans (by rw [show ("wait" : Str) ++ "x" = "waitx" by kernel_rfl] <;> rfl)
    rw [e]
    exact rd_bad' (tail := ["hold", "waitx"]) (G ["hold", "waitx"] (by decide +kernel)) (by decide) (by rfl)
theorem tail_good (h w : Bool) : notInO (.list ((tailW h w).map .str)) TAILS = some false ∧ (tailW h w).length ≤ 5 ∧ (tailW h w).all okW = true ∧ inO (.str "hold") (.list ((tailW h w).map .str)) = some h ∧ inO (.str "wait") (.list ((tailW h w).map .str)) = some w := by
  cases h <;> cases w <;> exact ⟨by rfl, by decide, by decide +kernel, by rfl, by rfl⟩
theorem sp6 : m_read_setting [.str (replN (Jw (wsOf S)) " " " 0" 1)] = NoT := by
  have e : replN (Jw (wsOf S)) " " " 0" 1 = Jw (S.a :: ("0" ++ nS S.b) :: nS S.c :: nS S.d :: S.f :: tailW S.e S.g) := by
    rw [ws_cons g, repl1 _ _ _ (by decide +kernel) (free_of (ord_free g.o)), ← J_cons (w := S.a) (by simp), ← J_cons (w := nS S.b) (by simp), ← J_cons (w := "0" ++ nS S.b) (by simp), show (" 0" : Str) = " " ++ "0" by kernel_rfl, app_asc, app_asc]
  rw [e]
  obtain ⟨h1, h2, h3, h4, h5⟩ := tail_good g S.e S.g
  obtain ⟨o, s, p, q, st⟩ := g
  rw [rd_J (by simp) (by simp only [List.length_cons]; omega) (by
    simp only [List.all_cons, Bool.and_eq_true]
    exact ⟨okw_ord o, okw_num0 s.1 (by omega), okw_num p.1 (by omega), okw_num q.1 q.2, okw_sta st, h3⟩)]
  exact rd_num _ _ _ _ _ _ h1 (num0_m s.1 (by omega))
theorem sp10 : m_read_setting [.str (cutS (Jw (wsOf S)) (some 1) none)] = NoT := by
  obtain ⟨h1, h2, h3, h4, h5⟩ := tail_good g S.e S.g
  obtain ⟨o, s, p, q, st⟩ := g
  have on : decide (1 ≤ (tl S.a).length) = true := List.all_eq_true.mp (show (ORD.all fun o => decide (1 ≤ (tl o).length)) = true by decide +kernel) S.a o
  have on := of_decide_eq_true on
  have e : cutS (Jw (wsOf S)) (some 1) none = Jw (ordTl S.a :: nS S.b :: nS S.c :: nS S.d :: S.f :: tailW S.e S.g) := by
    refine TL.ext_tl ?_
    rw [cutS_tl, tl_J, tl_J]
    show (tl S.a ++ ([32] ++ joinL [32] _)).drop 1 = tl (ordTl S.a) ++ ([32] ++ joinL [32] _)
    unfold ordTl
    rw [cutS_tl, List.drop_append_of_le_length on]
  have ot : okW (ordTl S.a) = true := List.all_eq_true.mp (show (ORD.all fun o => okW (ordTl o)) = true by decide +kernel) S.a o
  have u : uns (ordTl S.a) = true := List.all_eq_true.mp (show (ORD.all fun o => uns (ordTl o)) = true by decide +kernel) S.a o
  rw [e]
  exact rd_unset (by
    simp only [List.all_cons, Bool.and_eq_true]
    exact ⟨ot, okw_num s.1 (by omega), okw_num p.1 (by omega), okw_num q.1 q.2, okw_sta st, h3⟩) h2 h1 (num_m s.1 (by omega)) (num_m p.1 (by omega)) (num_m q.1 q.2) h4 h5 (isSet_ord _ _ _ _ _ _ u)
end
theorem sp7 : m_read_setting [.none] = NoT := by rfl
theorem sp8 (l : List D) : m_read_setting [.list l] = NoT := by rfl
end Gn

set_option maxRecDepth 100000
set_option maxHeartbeats 1000000
namespace Gn
open PySem L2 Pc
open TL (tl joinL)
/-! the law -/
theorem seed_m (s m : Int) : m__law_seed [.int s, .int m] = .ok (.int (seed s m)) := by
  have := r__law_seed s m
  rw [seed_ok s m] at this
  exact this
theorem setting_m (s : Int) : m__law_setting [.int s] = .ok (enc (settingOf s)) := by
  have := r__law_setting s
  rw [setting_ok s] at this
  exact this
theorem nS_str {i : Int} (h1 : 1 ≤ i) (h2 : i ≤ 16) : strO [.int i] = some (.str (nS i)) := by
  have : decide (i.natAbs.log2 < 1920) = true := inum (fun i => decide (i.natAbs.log2 < 1920)) (by decide +kernel) h1 h2
  show (if i.natAbs.log2 < 1920 then some (PyData.str (toString i : String)) else none) = _
  rw [if_pos (of_decide_eq_true this)]
  rfl
theorem caught_ok {d v : D} (h : m_read_setting [d] = .ok v) : m__law_caught [.int 14, .list [d]] = .ok (.str "") := by
  have e : atI [d] 0 = some d := rfl
  simp [m__law_caught, runF, b__law_caught, m__law_called_then, b__law_called_then, h, e]
theorem caught_no {d : D} (h : m_read_setting [d] = NoT) : m__law_caught [.int 14, .list [d]] = .ok (.str "text") := by
  have e : atI [d] 0 = some d := rfl
  simp [m__law_caught, runF, b__law_caught, m__law_called_then, b__law_called_then, h, e]
  rfl
theorem lens {S : Setting} (g : GoodS S) : (tl S.a).length ≤ 20 ∧ (tl (nS S.b)).length ≤ 20 ∧ (tl (nS S.c)).length ≤ 20 ∧ (tl (nS S.d)).length ≤ 20 ∧ (tl S.f).length ≤ 20 := by
  obtain ⟨o, s, p, q, st⟩ := g
  have f : ∀ {w : Str}, okW w = true → (tl w).length ≤ 20 := fun h => of_decide_eq_true (Bool.and_eq_true _ _ ▸ h).2
  exact ⟨f (okw_ord o), f (okw_num s.1 (by omega)), f (okw_num p.1 (by omega)), f (okw_num q.1 q.2), f (okw_sta st)⟩
theorem join_m {S : Setting} (g : GoodS S) (tail : List Str) (ht : tail.all okW = true) (hl : tail.length ≤ 2) : (((S.a :: nS S.b :: nS S.c :: nS S.d :: S.f :: tail).map (·.length)).sum + (S.a :: nS S.b :: nS S.c :: nS S.d :: S.f :: tail).length * (" " : Str).length ≤ 16777216) := by
  obtain ⟨h1, h2, h3, h4, h5⟩ := lens g
  rw [← TL.len_tl] at h1 h2 h3 h4 h5
  have e1 : (" " : Str).length = 1 := by kernel_rfl
  have ht' : (tail.map (·.length)).sum ≤ tail.length * 20 := by
    clear hl
    induction tail with
    | nil => exact Nat.zero_le _
    | cons a r ih =>
      rw [List.all_cons, Bool.and_eq_true] at ht
      have := ih ht.2
      have h6 : a.length ≤ 20 := by rw [TL.len_tl]; exact of_decide_eq_true (Bool.and_eq_true _ _ ▸ ht.1).2
      simp only [List.map_cons, List.sum_cons, List.length_cons]
      omega
  rw [e1]
  simp only [List.map_cons, List.sum_cons, List.length_cons]
  omega
theorem text_len {S : Setting} (g : GoodS S) : (Jw (wsOf S)).length ≤ 210 := by
  have := good_words g (tailW S.e S.g) (tail_good g S.e S.g).2.2.1
  refine J_len (List.all_eq_true.mpr fun w hw => (Bool.and_eq_true _ _ ▸ List.all_eq_true.mp this w hw).2) ?_
  have := (tail_good g S.e S.g).2.1
  unfold wsOf
  simp only [List.length_cons]
  omega
theorem strP_n {i : Int} (h1 : 1 ≤ i) (h2 : i ≤ 16) : strP i = .ok (nS i) := by
  have : decide (i.natAbs.log2 < 1920) = true := inum (fun i => decide (i.natAbs.log2 < 1920)) (by decide +kernel) h1 h2
  unfold strP
  rw [if_pos (of_decide_eq_true this)]
  rfl
theorem stext_m {S : Setting} (g : GoodS S) : m_setting_text [enc S] = .ok (.str (Jw (wsOf S))) := by
  have := r_setting_text S
  have e : t_setting_text S = .ok (Jw (wsOf S)) := by
    have hs : t_look (enc S) = .ok () := by
      have h1 := p_isSet (enc S) rfl
      rw [isSet_good g] at h1
      unfold t_look
      have h2 : t_is_setting (enc S) = .ok true := by
        unfold t_is_setting
        show decB (m_is_setting [enc S]) = _
        rw [h1]
        rfl
      rw [h2]
      rfl
    obtain ⟨a, b, c, d, hh, f, w⟩ := S
    have jm := fun t h1 h2 => join_m g t h1 h2
    obtain ⟨o, s, p, q, st⟩ := g
    replace s : 1 ≤ b ∧ b ≤ 3 := s
    replace p : 1 ≤ c ∧ c ≤ 8 := p
    replace q : 1 ≤ d ∧ d ≤ 16 := q
    unfold t_setting_text
    rw [hs, strP_n s.1 (by omega), strP_n p.1 (by omega), strP_n q.1 q.2]
    have L : 10 ≤ LIM := by decide
    have r1 : ∀ (x : Str), repP [x] 1 = .ok [x] := by intro x; unfold repP; rfl
    have r0 : ∀ (x : Str), repP [x] 0 = .ok [] := by intro x; unfold repP; rfl
    have cat : ∀ x y : List Str, x.length + y.length ≤ 10 → catP x y = .ok (x ++ y) := by
      intro x y h
      unfold catP
      rw [if_pos (by omega)]
    have jn : ∀ t : List Str, t.all okW = true → t.length ≤ 2 → joinP " " (a :: nS b :: nS c :: nS d :: f :: t) = .ok (Jw (a :: nS b :: nS c :: nS d :: f :: t)) := by
      intro t h1 h2
      unfold joinP
      rw [if_pos (jm t h1 h2)]
      rfl
    cases hh <;> cases w <;> simp only [bnd_ok, if_true, Bool.false_eq_true, if_false, r0, r1]
    · rw [cat _ _ (by simp), bnd_ok, cat _ _ (by simp), bnd_ok]; exact jn [] rfl (by decide)
    · rw [cat _ _ (by simp), bnd_ok, cat _ _ (by simp), bnd_ok]; exact jn ["wait"] (by decide +kernel) (by decide)
    · rw [cat _ _ (by simp), bnd_ok, cat _ _ (by simp), bnd_ok]; exact jn ["hold"] (by decide +kernel) (by decide)
    · rw [cat _ _ (by simp), bnd_ok, cat _ _ (by simp), bnd_ok]; exact jn ["hold", "wait"] (by decide +kernel) (by decide)
  rw [e] at this
  exact this
theorem ltext_m {S : Setting} (g : GoodS S) : m__law_setting_text [enc S] = .ok (.str (Jw (wsOf S))) := by
  obtain ⟨a, b, c, d, hh, f, w⟩ := S
  have jm := join_m g [] rfl (by decide)
  have tl5 := text_len (S := ⟨a, b, c, d, false, f, false⟩) ⟨g.o, g.s, g.p, g.g, g.t⟩
  obtain ⟨o, s, p, q, st⟩ := g
  replace s : 1 ≤ b ∧ b ≤ 3 := s
  replace p : 1 ≤ c ∧ c ≤ 8 := p
  replace q : 1 ≤ d ∧ d ≤ 16 := q
  have L : 1000 ≤ LIM := by decide
  have n1 := nS_str s.1 (by omega)
  have n2 := nS_str p.1 (by omega)
  have n3 := nS_str q.1 q.2
  have jn : joinF " " (.list [.str a, .str (nS b), .str (nS c), .str (nS d), .str f]) = some (.str (Jw [a, nS b, nS c, nS d, f])) := by
    show (if _ then some (PyData.str (Txt.join " " [a, nS b, nS c, nS d, f])) else none) = _
    rw [if_pos jm]
    rfl
  have h0 : srepO (.str " hold") (.int 0) = some (.str "") := by rfl
  have h1 : srepO (.str " hold") (.int 1) = some (.str " hold") := by rfl
  have w0 : srepO (.str " wait") (.int 0) = some (.str "") := by rfl
  have w1 : srepO (.str " wait") (.int 1) = some (.str " wait") := by rfl
  have ad : ∀ x y : Str, x.length + y.length ≤ 1000 → addO (.str x) (.str y) = some (.str (x ++ y)) := by
    intro x y h
    show (if x.length + y.length ≤ LIM then some (PyData.str (x ++ y)) else none) = _
    rw [if_pos (by omega)]
  have tl5 : (Jw [a, nS b, nS c, nS d, f]).length ≤ 210 := tl5
  have la : ∀ x y : Str, (x ++ y).length = x.length + y.length := fun x y => by rw [TL.len_tl, TL.len_tl, TL.len_tl, TL.tl_append, List.length_append]
  have lz : ("" : Str).length = 0 := by kernel_rfl
  have lh : (" hold" : Str).length = 5 := by kernel_rfl
  have lw : (" wait" : Str).length = 5 := by kernel_rfl
  have i0 : ∀ x0 x1 x2 x3 x4 x5 x6 : D, atI [x0, x1, x2, x3, x4, x5, x6] 0 = some x0 ∧ atI [x0, x1, x2, x3, x4, x5, x6] 1 = some x1 ∧ atI [x0, x1, x2, x3, x4, x5, x6] 2 = some x2 ∧ atI [x0, x1, x2, x3, x4, x5, x6] 3 = some x3 ∧ atI [x0, x1, x2, x3, x4, x5, x6] 4 = some x4 ∧ atI [x0, x1, x2, x3, x4, x5, x6] 5 = some x5 ∧ atI [x0, x1, x2, x3, x4, x5, x6] 6 = some x6 := fun _ _ _ _ _ _ _ => ⟨rfl, rfl, rfl, rfl, rfl, rfl, rfl⟩
  have a1 := ad (Jw [a, nS b, nS c, nS d, f]) "" (by rw [lz]; omega)
  have a2 := ad (Jw [a, nS b, nS c, nS d, f]) " hold" (by rw [lh]; omega)
  have a3 := ad (Jw [a, nS b, nS c, nS d, f] ++ "") "" (by rw [la, lz]; omega)
  have a4 := ad (Jw [a, nS b, nS c, nS d, f] ++ "") " wait" (by rw [la, lz, lw]; omega)
  have a5 := ad (Jw [a, nS b, nS c, nS d, f] ++ " hold") "" (by rw [la, lz, lh]; omega)
  have a6 := ad (Jw [a, nS b, nS c, nS d, f] ++ " hold") " wait" (by rw [la, lh, lw]; omega)
  clear ad
  have b0 : intO [.bool false] = some (.int 0) := rfl
  have b1 : intO [.bool true] = some (.int 1) := rfl
  show m__law_setting_text [.tuple [.str a, .int b, .int c, .int d, .bool hh, .str f, .bool w]] = _
  have wa := J_sp (ws := [a, nS b, nS c, nS d, f]) (by simp)
  have fin : m__law_setting_text [.tuple [.str a, .int b, .int c, .int d, .bool hh, .str f, .bool w]] = .ok (.str (Jw [a, nS b, nS c, nS d, f] ++ (if hh then " hold" else "") ++ (if w then " wait" else ""))) := by
    cases hh <;> cases w <;> simp [m__law_setting_text, runF, b__law_setting_text, (i0 _ _ _ _ _ _ _).1, (i0 _ _ _ _ _ _ _).2.1, (i0 _ _ _ _ _ _ _).2.2.1, (i0 _ _ _ _ _ _ _).2.2.2.1, (i0 _ _ _ _ _ _ _).2.2.2.2.1, (i0 _ _ _ _ _ _ _).2.2.2.2.2.1, (i0 _ _ _ _ _ _ _).2.2.2.2.2.2, n1, n2, n3, jn, h0, h1, w0, w1, a1, a2, a3, a4, a5, a6, b0, b1, strD]
  rw [fin]
  have e1 : Jw [a, nS b, nS c, nS d, f] ++ " hold" = Jw [a, nS b, nS c, nS d, f, "hold"] := by rw [show (" hold" : Str) = " " ++ "hold" by kernel_rfl]; exact wa "hold"
  have e2 : Jw [a, nS b, nS c, nS d, f] ++ " wait" = Jw [a, nS b, nS c, nS d, f, "wait"] := by rw [show (" wait" : Str) = " " ++ "wait" by kernel_rfl]; exact wa "wait"
  have e3 : Jw [a, nS b, nS c, nS d, f, "hold"] ++ " wait" = Jw [a, nS b, nS c, nS d, f, "hold", "wait"] := by rw [show (" wait" : Str) = " " ++ "wait" by kernel_rfl]; exact J_sp (ws := [a, nS b, nS c, nS d, f, "hold"]) (by simp) "wait"
  cases hh <;> cases w
  · show P.ok (PyData.str (Jw [a, nS b, nS c, nS d, f] ++ "" ++ "")) = _
    rw [app_nil, app_nil]; rfl
  · show P.ok (PyData.str (Jw [a, nS b, nS c, nS d, f] ++ "" ++ " wait")) = _
    rw [app_nil, e2]; rfl
  · show P.ok (PyData.str (Jw [a, nS b, nS c, nS d, f] ++ " hold" ++ "")) = _
    rw [app_nil, e1]; rfl
  · show P.ok (PyData.str (Jw [a, nS b, nS c, nS d, f] ++ " hold" ++ " wait")) = _
    rw [e1, e3]; rfl
end Gn

set_option maxRecDepth 100000
set_option maxHeartbeats 1000000
namespace Gn
open PySem L2 Pc
open TL (tl joinL)
theorem J_inj {S O : Setting} (g : GoodS S) (h : GoodS O) (e : Jw (wsOf O) = Jw (wsOf S)) : enc O = enc S := by
  have h1 := rd_self g
  have h2 := rd_self h
  rw [e, h1] at h2
  exact ((P.ok.injEq _ _).mp h2).symm
abbrev rest24 : En → Fl := (seqM (ifS (tCmp neO (mF m__law_caught (consM (mC (.int 14)) (consM (mLst (consM (m2 ixO (mVar 3) (mVar 4)) mNil)) mNil))) (mC (.str "text"))) (sRet (mC (.bool false))) sNx) (seqM (sSet 5 (mF m__law_setting (consM (mF m__law_seed (consM (m2 cellO (mVar 0) (mC (.int 2))) (consM (mC (.int 0)) mNil))) mNil))) (sRet (mCmp eqO (mCmp eqO (mF m_setting_text (consM (mVar 5) mNil)) (mVar 2)) (mCmp eqO (mVar 5) (mVar 1))))))
def cel (ns : List Int) (k : Nat) : Int := ns.getD k 0
theorem cell_m (ns : List Int) (k : Nat) : cellO (.list (ns.map .int)) (.int (k : Int)) = some (.int (cel ns k)) := by
  show (if 0 ≤ (k : Int) then some ((ns.map PyData.int).getD (k : Int).toNat (.int 0)) else none) = _
  rw [if_pos (by omega), Int.toNat_natCast, List.getD_eq_getElem?_getD, List.getElem?_map]
  unfold cel
  rw [List.getD_eq_getElem?_getD]
  cases ns[k]? <;> rfl
theorem rest_ok {ns : List Int} {S : Setting} (g : GoodS S) {sp : List D} {a : Int} {d : D} (ha : atI sp a = some d) (hd : m_read_setting [d] = NoT) : outF (rest24 [some (.list (ns.map .int)), some (enc S), some (.str (Jw (wsOf S))), some (.list sp), some (.int a), none]) = .ok (.bool true) := by
  have hc := caught_no hd
  have n1 : neO (.str "text") (.str "text") = some false := rfl
  have c2 := cell_m ns 2
  have hO : GoodS (settingOf (seed (cel ns 2) 0)) := setting_good _
  generalize hO' : settingOf (seed (cel ns 2) 0) = O at hO
  have s1 := seed_m (cel ns 2) 0
  have s2 := setting_m (seed (cel ns 2) 0)
  rw [hO'] at s2
  have s3 := stext_m hO
  have q1 : eqO (.str (Jw (wsOf O))) (.str (Jw (wsOf S))) = some (decide (Jw (wsOf O) = Jw (wsOf S))) := eqO_enc (Jw (wsOf O)) (Jw (wsOf S)) (by decide)
  have q2 : eqO (enc O) (enc S) = some (decide (O = S)) := eqO_enc O S (by decide)
  have q3 : decide (Jw (wsOf O) = Jw (wsOf S)) = decide (O = S) := by
    by_cases h : O = S
    · rw [h]; simp
    · have : Jw (wsOf O) ≠ Jw (wsOf S) := fun e => h (by
        have := J_inj g hO e
        obtain ⟨a, b, c, d, e, f, w⟩ := O
        obtain ⟨a', b', c', d', e', f', w'⟩ := S
        cases this
        rfl)
      rw [decide_eq_false h, decide_eq_false this]
  have q4 : ∀ b : Bool, eqO (.bool b) (.bool b) = some true := by intro b; cases b <;> rfl
  have c2 : cellO (.list (ns.map .int)) (.int 2) = some (.int (cel ns 2)) := c2
  simp [ha, hc, n1, c2, s1, s2, s3, q1, q2, q3, q4]
end Gn

set_option maxRecDepth 100000
set_option maxHeartbeats 1000000
namespace Gn
open PySem L2 Pc
open TL (tl joinL)
section
variable {S : Setting} (g : GoodS S) (ns : List Int)
abbrev T24 (S : Setting) : Str := Jw (wsOf S)
abbrev spo (S : Setting) : List D := [.str (T24 S ++ " "), .str (" " ++ T24 S), .str (T24 S ++ " wait"), .str (Txt.upper (T24 S)), .str (replN (T24 S) " " "  " 1), .str (T24 S ++ "x"), .str (replN (T24 S) " " " 0" 1), .none, .list ((Txt.split (T24 S) " ").map .str), .str "", .str (cutS (T24 S) (some 1) none), .str "in 4 1 1 now", .str "in 1 9 1 now"]
include g
theorem adS (x y : Str) (h : x.length + y.length ≤ 1000) : addO (.str x) (.str y) = some (.str (x ++ y)) := by
  have L : 1000 ≤ LIM := by decide
  show (if x.length + y.length ≤ LIM then some (PyData.str (x ++ y)) else none) = _
  rw [if_pos (by omega)]
theorem mk_spo : (seqM (sSet 3 (mLst (consM (m2 addO (mVar 2) (mC (.str " "))) (consM (m2 addO (mC (.str " ")) (mVar 2)) (consM (m2 addO (mVar 2) (mC (.str " wait"))) (consM (mS0 upperF (mVar 2)) (consM (m1 (replNO " " "  " 1) (mVar 2)) (consM (m2 addO (mVar 2) (mC (.str "x"))) mNil)))))))) (sSet 3 (m2 addO (mVar 3) (mLst (consM (m1 (replNO " " " 0" 1) (mVar 2)) (consM (mC .none) (consM (mS1 splitF (mVar 2) (mC (.str " "))) (consM (mC (.str "")) (consM (mCut cutO (mVar 2) (oSome (mC (.int 1))) oNone) (consM (mC (.str "in 4 1 1 now")) (consM (mC (.str "in 1 9 1 now")) mNil)))))))))))
    [some (.list (ns.map .int)), some (enc S), some (.str (T24 S)), none, none, none] = .nx [some (.list (ns.map .int)), some (enc S), some (.str (T24 S)), some (.list (spo S)), none, none] := by
  have tl5 : (T24 S).length ≤ 210 := text_len g
  have L : 1000 ≤ LIM := by decide
  have l1 : (" " : Str).length = 1 := by kernel_rfl
  have l2 : (" wait" : Str).length = 5 := by kernel_rfl
  have l3 : ("x" : Str).length = 1 := by kernel_rfl
  have l4 : ("  " : Str).length = 2 := by kernel_rfl
  have l5 : (" 0" : Str).length = 2 := by kernel_rfl
  have a1 := adS g (T24 S) " " (by rw [l1]; omega)
  have a2 := adS g " " (T24 S) (by rw [l1]; omega)
  have a3 := adS g (T24 S) " wait" (by rw [l2]; omega)
  have a4 := adS g (T24 S) "x" (by rw [l3]; omega)
  have u : upperF (T24 S) = some (.str (Txt.upper (T24 S))) := by unfold upperF; rw [if_pos (by omega)]
  have r1 : replNO " " "  " 1 (.str (T24 S)) = some (.str (replN (T24 S) " " "  " 1)) := by
    show (if (T24 S).length + 1 * ("  " : Str).length ≤ 16777216 then _ else none) = _
    rw [if_pos (by rw [l4]; omega)]
  have r2 : replNO " " " 0" 1 (.str (T24 S)) = some (.str (replN (T24 S) " " " 0" 1)) := by
    show (if (T24 S).length + 1 * (" 0" : Str).length ≤ 16777216 then _ else none) = _
    rw [if_pos (by rw [l5]; omega)]
  have sp : splitF (T24 S) (.str " ") = some (.list ((Txt.split (T24 S) " ").map .str)) := by
    show (if ((" " : Str).length == 0) = false ∧ (T24 S).length + 2 ≤ LIM then _ else none) = _
    rw [if_pos ⟨by decide, by omega⟩]
  have cu : cutO (.str (T24 S)) (some 1) none = some (.str (cutS (T24 S) (some 1) none)) := by
    show (if (T24 S).length ≤ LIM then _ else none) = _
    rw [if_pos (by omega)]
  have la : ∀ x y : List D, x.length + y.length ≤ 100 → addO (.list x) (.list y) = some (.list (x ++ y)) := by
    intro x y h
    show (if x.length + y.length ≤ LIM then _ else none) = _
    rw [if_pos (by omega)]
  have ll := la [.str (T24 S ++ " "), .str (" " ++ T24 S), .str (T24 S ++ " wait"), .str (Txt.upper (T24 S)), .str (replN (T24 S) " " "  " 1), .str (T24 S ++ "x")] [.str (replN (T24 S) " " " 0" 1), .none, .list ((Txt.split (T24 S) " ").map .str), .str "", .str (cutS (T24 S) (some 1) none), .str "in 4 1 1 now", .str "in 1 9 1 now"] (by simp)
  have e1 : sSet 3 (mLst (consM (m2 addO (mVar 2) (mC (.str " "))) (consM (m2 addO (mC (.str " ")) (mVar 2)) (consM (m2 addO (mVar 2) (mC (.str " wait"))) (consM (mS0 upperF (mVar 2)) (consM (m1 (replNO " " "  " 1) (mVar 2)) (consM (m2 addO (mVar 2) (mC (.str "x"))) mNil))))))) [some (.list (ns.map .int)), some (enc S), some (.str (T24 S)), none, none, none] = .nx [some (.list (ns.map .int)), some (enc S), some (.str (T24 S)), some (.list [.str (T24 S ++ " "), .str (" " ++ T24 S), .str (T24 S ++ " wait"), .str (Txt.upper (T24 S)), .str (replN (T24 S) " " "  " 1), .str (T24 S ++ "x")]), none, none] := by
    simp only [T24] at a1 a2 a3 a4 u r1 ⊢
    simp [a1, a2, a3, a4, u, r1, strD]
  rw [seq_nx e1]
  simp only [T24, spo] at r2 sp cu ll ⊢
  simp [r2, sp, cu, ll, strD]
end
theorem rd_few {t : Str} {ws : List Str} (h : t = Jw ws) (hne : ws ≠ []) (hl : ws.length ≤ 10) (h2 : ws.all okW = true) : m_read_setting [.str t] = rdT t ws := by
  subst h; exact rd_J hne hl h2
theorem sp9 : m_read_setting [.str ""] = NoT := by
  rw [rd_few (ws := [""]) (by kernel_rfl) (by simp) (by decide) (by decide +kernel)]
  rfl
theorem sp11 : m_read_setting [.str "in 4 1 1 now"] = NoT := by
  rw [show ("in 4 1 1 now" : Str) = Jw ["in", nS 4, nS 1, nS 1, "now"] by kernel_rfl]
  exact rd_unset (tail := []) (by decide +kernel) (by decide) (by rfl) (num_m (i := 4) (by decide) (by decide)) (num_m (i := 1) (by decide) (by decide)) (num_m (i := 1) (by decide) (by decide)) (hh := false) (ww := false) (by rfl) (by rfl) (by decide +kernel)
theorem sp12 : m_read_setting [.str "in 1 9 1 now"] = NoT := by
  rw [show ("in 1 9 1 now" : Str) = Jw ["in", nS 1, nS 9, nS 1, "now"] by kernel_rfl]
  exact rd_unset (tail := []) (by decide +kernel) (by decide) (by rfl) (num_m (i := 1) (by decide) (by decide)) (num_m (i := 9) (by decide) (by decide)) (num_m (i := 1) (by decide) (by decide)) (hh := false) (ww := false) (by rfl) (by rfl) (by decide +kernel)
end Gn

set_option maxRecDepth 100000
set_option maxHeartbeats 1000000
namespace Gn
open PySem L2 Pc
open TL (tl joinL)
theorem seq_two {d e r : En → Fl} {ρ ρ' : En} (h : seqM d e ρ = .nx ρ') : seqM d (seqM e r) ρ = r ρ' := by
  unfold seqM at h ⊢
  cases hd : d ρ with
  | nx ρ1 =>
    rw [hd] at h
    simp only at h ⊢
    rw [h]
  | _ => rw [hd] at h; cases h
theorem law_done (ns : List Int) (hl : ns.length ≤ 63) : m_law [.list (ns.map .int)] = .ok (.bool true) := by
  have c0 : cellO (.list (ns.map .int)) (.int 0) = some (.int (cel ns 0)) := cell_m ns 0
  have c1 : cellO (.list (ns.map .int)) (.int 1) = some (.int (cel ns 1)) := cell_m ns 1
  have s1 := seed_m (cel ns 0) 0
  have s2 := setting_m (seed (cel ns 0) 0)
  have g : GoodS (settingOf (seed (cel ns 0) 0)) := setting_good _
  generalize settingOf (seed (cel ns 0) 0) = S at s2 g
  have t1 := ltext_m g
  have t2 := stext_m g
  have r0 := rd_self g
  have k0 := caught_ok r0
  have n0 : neO (.str "") (.str "") = some false := rfl
  have n1 : neO (.str (Jw (wsOf S))) (.str (Jw (wsOf S))) = some false := (neO_enc (Jw (wsOf S)) (Jw (wsOf S)) (by decide)).trans (by simp)
  have n2 : neO (enc S) (enc S) = some false := (neO_enc S S (by decide)).trans (by simp)
  show outF (b_law [some (.list (ns.map .int)), none, none, none, none, none]) = _
  unfold b_law
  have e1 : sSet 1 (mF m__law_setting (consM (mF m__law_seed (consM (m2 cellO (mVar 0) (mC (.int 0))) (consM (mC (.int 0)) mNil))) mNil)) [some (.list (ns.map .int)), none, none, none, none, none] = .nx [some (.list (ns.map .int)), some (enc S), none, none, none, none] := by
    simp [c0, s1, s2]
  have e2 : sSet 2 (mF m__law_setting_text (consM (mVar 1) mNil)) [some (.list (ns.map .int)), some (enc S), none, none, none, none] = .nx [some (.list (ns.map .int)), some (enc S), some (.str (T24 S)), none, none, none] := by
    simp [t1]
  have e3 : ifS (orB (tCmp neO (mF m_setting_text (consM (mVar 1) mNil)) (mVar 2)) (orB (tCmp neO (mF m__law_caught (consM (mC (.int 14)) (consM (mLst (consM (mVar 2) mNil)) mNil))) (mC (.str ""))) (tCmp neO (mF m_read_setting (consM (mVar 2) mNil)) (mVar 1)))) (sRet (mC (.bool false))) sNx [some (.list (ns.map .int)), some (enc S), some (.str (T24 S)), none, none, none] = .nx [some (.list (ns.map .int)), some (enc S), some (.str (T24 S)), none, none, none] := by
    simp [t2, k0, r0, n0, n1, n2]
  have e6 : sSet 4 (m2 modO (m2 cellO (mVar 0) (mC (.int 1))) (mC (.int 13))) [some (.list (ns.map .int)), some (enc S), some (.str (T24 S)), some (.list (spo S)), none, none] = .nx [some (.list (ns.map .int)), some (enc S), some (.str (T24 S)), some (.list (spo S)), some (.int (cel ns 1 % 13)), none] := by
    have m1 : modO (.int (cel ns 1)) (.int 13) = some (.int (cel ns 1 % 13)) := rfl
    simp [c1, m1]
  rw [seq_nx e1, seq_nx e2, seq_nx e3, seq_two (mk_spo g ns), seq_nx e6]
  have hi : 0 ≤ cel ns 1 % 13 ∧ cel ns 1 % 13 < 13 := by omega
  generalize cel ns 1 % 13 = a at hi
  have i6 : ixO (enc S) (.int 6) = some (.bool S.g) := rfl
  by_cases h2 : a = 2 ∧ S.g = false
  · obtain ⟨rfl, hg⟩ := h2
    have w := sp2w g hg
    have tl5 : (T24 S).length ≤ 210 := text_len g
    have l2 : (" wait" : Str).length = 5 := by kernel_rfl
    have a3 : addO (.str (Jw (wsOf S))) (.str " wait") = some (.str (Jw (wsOf S) ++ " wait")) := adS g (T24 S) " wait" (by rw [l2]; omega)
    have cu : cutO (enc S) none (some 6) = some (.tuple [.str S.a, .int S.b, .int S.c, .int S.d, .bool S.e, .str S.f]) := rfl
    have ad : addO (.tuple [.str S.a, .int S.b, .int S.c, .int S.d, .bool S.e, .str S.f]) (.tuple [.bool true]) = some (enc (⟨S.a, S.b, S.c, S.d, S.e, S.f, true⟩ : Setting)) := rfl
    have eq : eqO (enc (⟨S.a, S.b, S.c, S.d, S.e, S.f, true⟩ : Setting)) (enc (⟨S.a, S.b, S.c, S.d, S.e, S.f, true⟩ : Setting)) = some true := (eqO_enc _ _ (by decide)).trans (by simp)
    rw [hg] at i6
    simp [i6, a3, w, cu, ad, eq]
  · have e7 : ifS (andB (tCmp eqO (mVar 4) (mC (.int 2))) (tNot (tTru (m2 ixO (mVar 1) (mC (.int 6)))))) (sRet (mCmp eqO (mF m_read_setting (consM (m2 addO (mVar 2) (mC (.str " wait"))) mNil)) (m2 addO (mCut cutO (mVar 1) oNone (oSome (mC (.int 6)))) (mTup (consM (mC (.bool true)) mNil))))) sNx [some (.list (ns.map .int)), some (enc S), some (.str (T24 S)), some (.list (spo S)), some (.int a), none] = .nx [some (.list (ns.map .int)), some (enc S), some (.str (T24 S)), some (.list (spo S)), some (.int a), none] := by
      by_cases ha : a = 2
      · have hg : S.g = true := by
          cases hh : S.g
          · exact absurd ⟨ha, hh⟩ h2
          · rfl
        rw [hg] at i6
        simp [i6, ha]
      · simp [ha]
    rw [seq_nx e7]
    have hd : ∃ d, atI (spo S) a = some d ∧ m_read_setting [d] = NoT := by
      have : a = 0 ∨ a = 1 ∨ a = 2 ∨ a = 3 ∨ a = 4 ∨ a = 5 ∨ a = 6 ∨ a = 7 ∨ a = 8 ∨ a = 9 ∨ a = 10 ∨ a = 11 ∨ a = 12 := by omega
      rcases this with rfl | rfl | rfl | rfl | rfl | rfl | rfl | rfl | rfl | rfl | rfl | rfl | rfl
      · exact ⟨_, rfl, sp0 g⟩
      · exact ⟨_, rfl, sp1 g⟩
      · refine ⟨_, rfl, sp2 g ?_⟩
        cases hh : S.g
        · exact absurd ⟨rfl, hh⟩ h2
        · rfl
      · exact ⟨_, rfl, sp3 g⟩
      · exact ⟨_, rfl, sp4 g⟩
      · exact ⟨_, rfl, sp5 g⟩
      · exact ⟨_, rfl, sp6 g⟩
      · exact ⟨_, rfl, sp7⟩
      · exact ⟨_, rfl, sp8 _⟩
      · exact ⟨_, rfl, sp9⟩
      · exact ⟨_, rfl, sp10 g⟩
      · exact ⟨_, rfl, sp11⟩
      · exact ⟨_, rfl, sp12⟩
    obtain ⟨d, h3, h4⟩ := hd
    exact rest_ok g h3 h4
end Gn


set_option maxRecDepth 100000
set_option maxHeartbeats 4000000
open PySem.W PySem.Calls
open PySem PySem.Spec PyProof.Rows L2 Pc
theorem Gn.law_true (ns : List Int) (hl : ns.length ≤ 63) : Pc.runF Gn.N_law.length Gn.b_law [.list (ns.map .int)] = .ok (.bool true) := Gn.law_done ns hl
theorem PySem.Challenge.cw_heldturns_k24_settings_written_holds : PySem.Challenge.rw_heldturns_k24_settings_written.Holds := by
  w_on; o_law
  refine HandSHeadRun.head_any (r := OpenLaw.row PySem.Challenge.rw_heldturns_k24_settings_written) (q := view (OpenLaw.row PySem.Challenge.rw_heldturns_k24_settings_written).prog [69]) (H := Gn.hk) (ob := Gn.ob) (M := 40000) (loose := Gn.loose) (d := HandSHeadRun.topDef (OpenLaw.row PySem.Challenge.rw_heldturns_k24_settings_written).prog 69) (kwd := []) Gn.ob_eq
    (by kernel_rfl) (fun s => by kernel_rfl) Gn.run (by kernel_rfl) (by kernel_rfl) (by kernel_rfl) (by rfl) (by first | assumption | decide +kernel) (by decide +kernel) ⟨rfl, rfl, rfl, rfl, rfl, by decide +kernel⟩ ?hw ?hc
  case hw => w_witness2
  case hc =>
    refine Pc.walkW (l := PySem.Challenge.rw_heldturns_k24_settings_written) (n := 63) (k := 7) (x := "script") rfl (by decide) (by kernel_rfl) ⟨rfl, by decide, by decide⟩ ?_
    intro w mg fa h Y G hmg0
    obtain ⟨K, KX, c⟩ := Y
    have hmg : mg ("law" : PySem.Str) = some (.ref fa) := by
      have e : (HandSHeadRun.topDef (OpenLaw.row PySem.Challenge.rw_heldturns_k24_settings_written).prog 69).name = ("law" : PySem.Str) := by kernel_rfl
      rw [← e]
      exact hmg0
    obtain ⟨fd, F⟩ := c.t.d.def_ 14 (d := Gn.hd_law) rfl
    have e := hmg.symm.trans (He.glo_ok KX G (c.t.d.fact 58 (f := .glo "law") rfl))
    cases e
    have b := L2.FunD.bindsA (ps := ["script"]) F fun _ _ _ _ _ _ us hl => match us, hl with | [_], _ => rfl
    have T := Gn.tx_of KX G c
    refine ⟨K, fd, Pc.spLaw K Gn.N_law.length Gn.b_law, KX, fun s v => b s [v] rfl, fun H a ns hl hS => ⟨a, ns, rfl, hS, ?_⟩, fun base _ _ => Gn.ok_law T F⟩
    rw [show Pc.runF Gn.N_law.length Gn.b_law [.list (ns.map .int)] = .ok (.bool true) from Gn.law_true ns hl]
    exact fun v F' H' _ q => by cases q; rfl
