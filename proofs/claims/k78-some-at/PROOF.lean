import PyProof.Rows.All
import Wide.All
import OpenK.AllK
import Wide.FinOn
import KE.KStateDown
import HandS.ForMost
import HandS.Exc
import HandS.More
import HandS.Words
import HandS.WordsExc
import HandS.WordsDict
import HandS.Defaults
import HandS.Deep
import HandS.Wide
import HandS.IsInst
import HandS.TupAny
import HandS.TupLe
import HandS.Zip
import HandS.SortInts
import HandS.SetFor
import HandS.Conv
import HandS.Style
import HandS.SortRule
import HandS.Strs
import Lean
import HandS.Head0
import HandS.Head1
import HandS.Head2
import HandS.HeadEnd
import HandS.HeadHook1
import HandS.HeadHook2
import PySem.Challenge.RW_likebook_k78_some_at_a_number
set_option Elab.async false
set_option linter.all false
set_option maxRecDepth 100000
set_option maxHeartbeats 4000000
/-! part VL1: a layer of values as trees over HandS: data, what stands for it in a heap, what an expression's reading comes to. -/
namespace VL
open PySem PySem.Spec PyProof.Rows L2

abbrev D := PyData
abbrev St := List (Option V)

/-! ### results -/
/-- an exception: its class by its name, perhaps a field -/
structure Exn where
  cls : Str
  fld : Option (Str × D) := none
inductive Rs (α : Type) where
  | ok (a : α)
  | ex (x : Exn)
  | bad
def Rs.bind {α β : Type} : Rs α → (α → Rs β) → Rs β
  | .ok a, f => f a
  | .ex x, _ => .ex x
  | .bad, _ => .bad
@[simp] theorem Rs.bind_ok {α β : Type} (a : α) (f : α → Rs β) : (Rs.ok a).bind f = f a := rfl
@[simp] theorem Rs.bind_ex {α β : Type} (x : Exn) (f : α → Rs β) : (Rs.ex x : Rs α).bind f = .ex x := rfl
@[simp] theorem Rs.bind_bad {α β : Type} (f : α → Rs β) : (Rs.bad : Rs α).bind f = .bad := rfl

/-- a value told: shared (nobody changes it any more), new (a list or dict of the asker's own), an own variable's (read where it stands) -/
inductive RV where
  | sh (d : D)
  | fr (d : D)
  | ow (d : D)
def RV.val : RV → D
  | .sh d => d
  | .fr d => d
  | .ow d => d
@[simp] theorem RV.val_sh (d : D) : (RV.sh d).val = d := rfl
@[simp] theorem RV.val_fr (d : D) : (RV.fr d).val = d := rfl
@[simp] theorem RV.val_ow (d : D) : (RV.ow d).val = d := rfl
/-- as a shared thing -/
def RV.shd : RV → Rs D
  | .sh d => .ok d
  | .fr d => .ok d
  | .ow _ => .bad
@[simp] theorem RV.shd_sh (d : D) : (RV.sh d).shd = .ok d := rfl
@[simp] theorem RV.shd_fr (d : D) : (RV.fr d).shd = .ok d := rfl
@[simp] theorem RV.shd_ow (d : D) : (RV.ow d).shd = .bad := rfl

/-- a slot: nothing known, a shared thing, an own list or dict -/
inductive Sl where
  | un
  | sh (d : D)
  | ow (d : D)
abbrev Env := List Sl
def gt (ρ : Env) (i : Nat) : Sl := ρ.getD i .un
def pt (ρ : Env) (i : Nat) (s : Sl) : Env := ρ.set i s
@[simp] theorem gt_zero (s : Sl) (ρ : Env) : gt (s :: ρ) 0 = s := rfl
@[simp] theorem gt_succ (s : Sl) (ρ : Env) (i : Nat) : gt (s :: ρ) (i + 1) = gt ρ i := rfl
@[simp] theorem pt_zero (s t : Sl) (ρ : Env) : pt (s :: ρ) 0 t = t :: ρ := rfl
@[simp] theorem pt_succ (s t : Sl) (ρ : Env) (i : Nat) : pt (s :: ρ) (i + 1) t = s :: pt ρ i t := rfl
@[simp] theorem pt_nil (t : Sl) (i : Nat) : pt [] i t = [] := rfl
theorem gt_pt_same {ρ : Env} {i : Nat} {s : Sl} (h : i < ρ.length) : gt (pt ρ i s) i = s := by
  unfold gt pt
  rw [List.getD_eq_getElem?_getD, List.getElem?_set_self h]
  rfl
theorem gt_pt_ne {ρ : Env} {i j : Nat} {s : Sl} (h : i ≠ j) : gt (pt ρ i s) j = gt ρ j := by
  unfold gt pt
  rw [List.getD_eq_getElem?_getD, List.getElem?_set_ne h, List.getD_eq_getElem?_getD]
theorem pt_length (ρ : Env) (i : Nat) (s : Sl) : (pt ρ i s).length = ρ.length := List.length_set
theorem gt_far {ρ : Env} {i : Nat} (h : ρ.length ≤ i) : gt ρ i = .un := by
  unfold gt
  rw [List.getD_eq_getElem?_getD, List.getElem?_eq_none h]
  rfl
def ptAll (ρ : Env) : List Nat → Env
  | [] => ρ
  | i :: is => pt (ptAll ρ is) i .un
@[simp] theorem ptAll_nil (ρ : Env) : ptAll ρ [] = ρ := rfl
@[simp] theorem ptAll_cons (ρ : Env) (i : Nat) (is : List Nat) : ptAll ρ (i :: is) = pt (ptAll ρ is) i .un := rfl
theorem ptAll_length (ρ : Env) (is : List Nat) : (ptAll ρ is).length = ρ.length := by
  induction is with
  | nil => rfl
  | cons i is ih => rw [ptAll_cons, pt_length, ih]

/-! ### what stands for a thing -/
def kD : Key → D
  | .inl i => .int i
  | .inr x => .str x
def ktD (ks : List Key) : D := .tuple (ks.map kD)
mutual
inductive Rep (K : PySem.W.Frag) (G : Hp) : D → V → Prop
  | non : Rep K G .none .non
  | bl (b : Bool) : Rep K G (.bool b) (.bl b)
  | int (i : Int) : Rep K G (.int i) (.int i)
  | str (x : Str) : Rep K G (.str x) (.str x)
  | lst {a : Addr} {vs : List V} {ds : List D} : SqL K G a vs → Reps K G ds vs → Rep K G (.list ds) (.ref a)
  | tup {a : Addr} {vs : List V} {ds : List D} : SqT K G a vs → Reps K G ds vs → Rep K G (.tuple ds) (.ref a)
  | dK {a : Addr} {kvs : List (Key × V)} {ds : List (D × D)} : G a = some (.dK kvs) → RepK K G ds kvs → Rep K G (.dict ds) (.ref a)
  | dT {a : Addr} {kvs : List (List Key × V)} {ds : List (D × D)} : G a = some (.dT kvs) → RepT K G ds kvs → Rep K G (.dict ((.none, .none) :: ds)) (.ref a)
inductive Reps (K : PySem.W.Frag) (G : Hp) : List D → List V → Prop
  | nil : Reps K G [] []
  | cons {d : D} {ds : List D} {v : V} {vs : List V} : Rep K G d v → Reps K G ds vs → Reps K G (d :: ds) (v :: vs)
inductive RepK (K : PySem.W.Frag) (G : Hp) : List (D × D) → List (Key × V) → Prop
  | nil : RepK K G [] []
  | cons {k : Key} {d : D} {ds : List (D × D)} {v : V} {vs : List (Key × V)} : Rep K G d v → RepK K G ds vs → RepK K G ((kD k, d) :: ds) ((k, v) :: vs)
inductive RepT (K : PySem.W.Frag) (G : Hp) : List (D × D) → List (List Key × V) → Prop
  | nil : RepT K G [] []
  | cons {k : List Key} {d : D} {ds : List (D × D)} {v : V} {vs : List (List Key × V)} : Rep K G d v → RepT K G ds vs → RepT K G ((ktD k, d) :: ds) ((k, v) :: vs)
end

/-- what may be read there may be read here -/
def RdLe (G G' : Hp) : Prop := ∀ a u, Rd G a u → Rd G' a u
theorem Same.rd {G G' : Hp} (h : Same G G') : RdLe G G' := fun a u r => by
  rcases r with r | ⟨o, r⟩
  · exact .inl (h _ _ r)
  · exact .inr ⟨o, h _ _ r⟩
theorem RdLe.seq {K : PySem.W.Frag} {G G' : Hp} (h : RdLe G G') {a : Addr} {xs : List V} (q : SqL K G a xs) : SqL K G' a xs := by
  rcases q with q | q
  · exact .inl (h _ _ q)
  · exact .inr q
theorem RdLe.tup {K : PySem.W.Frag} {G G' : Hp} (h : RdLe G G') {a : Addr} {xs : List V} (q : SqT K G a xs) : SqT K G' a xs := by
  rcases q with q | q
  · exact .inl (h _ _ q)
  · exact .inr q
section
variable {K : PySem.W.Frag} {G G' : Hp}
mutual
theorem Rep.mono (h : Same G G') : ∀ {d : D} {v : V}, Rep K G d v → Rep K G' d v
  | _, _, .non => .non
  | _, _, .bl b => .bl b
  | _, _, .int i => .int i
  | _, _, .str x => .str x
  | _, _, .lst q r => .lst ((Same.rd h).seq q) (Reps.mono h r)
  | _, _, .tup q r => .tup ((Same.rd h).tup q) (Reps.mono h r)
  | _, _, .dK q r => .dK (h _ _ q) (RepK.mono h r)
  | _, _, .dT q r => .dT (h _ _ q) (RepT.mono h r)
theorem Reps.mono (h : Same G G') : ∀ {ds : List D} {vs : List V}, Reps K G ds vs → Reps K G' ds vs
  | _, _, .nil => .nil
  | _, _, .cons a b => .cons (Rep.mono h a) (Reps.mono h b)
theorem RepK.mono (h : Same G G') : ∀ {ds : List (D × D)} {vs : List (Key × V)}, RepK K G ds vs → RepK K G' ds vs
  | _, _, .nil => .nil
  | _, _, .cons a b => .cons (Rep.mono h a) (RepK.mono h b)
theorem RepT.mono (h : Same G G') : ∀ {ds : List (D × D)} {vs : List (List Key × V)}, RepT K G ds vs → RepT K G' ds vs
  | _, _, .nil => .nil
  | _, _, .cons a b => .cons (Rep.mono h a) (RepT.mono h b)
end
theorem Rep.up (h : Same G G') {d : D} {v : V} (r : Rep K G d v) : Rep K G' d v := r.mono h
theorem Reps.up (h : Same G G') {d : List D} {v : List V} (r : Reps K G d v) : Reps K G' d v := r.mono h
theorem RepK.up (h : Same G G') {d : List (D × D)} {v : List (Key × V)} (r : RepK K G d v) : RepK K G' d v := r.mono h
theorem RepT.up (h : Same G G') {d : List (D × D)} {v : List (List Key × V)} (r : RepT K G d v) : RepT K G' d v := r.mono h
theorem Reps.length : ∀ {ds : List D} {vs : List V}, Reps K G ds vs → vs.length = ds.length
  | _, _, .nil => rfl
  | _, _, .cons _ b => by rw [List.length_cons, List.length_cons, b.length]
theorem RepK.length : ∀ {ds : List (D × D)} {vs : List (Key × V)}, RepK K G ds vs → vs.length = ds.length
  | _, _, .nil => rfl
  | _, _, .cons _ b => by rw [List.length_cons, List.length_cons, b.length]
theorem RepT.length : ∀ {ds : List (D × D)} {vs : List (List Key × V)}, RepT K G ds vs → vs.length = ds.length
  | _, _, .nil => rfl
  | _, _, .cons _ b => by rw [List.length_cons, List.length_cons, b.length]
theorem Reps.append : ∀ {ds es : List D} {vs us : List V}, Reps K G ds vs → Reps K G es us → Reps K G (ds ++ es) (vs ++ us)
  | _, _, _, _, .nil, q => q
  | _, _, _, _, .cons a b, q => .cons a (b.append q)
theorem Reps.get : ∀ {ds : List D} {vs : List V} {i : Nat} {d : D}, Reps K G ds vs → ds[i]? = some d → ∃ v, vs[i]? = some v ∧ Rep K G d v
  | _, _, _, _, .nil, e => by simp at e
  | _, _, 0, _, .cons a _, e => by
    simp at e
    subst e
    exact ⟨_, rfl, a⟩
  | _, _, i + 1, _, .cons _ b, e => by
    obtain ⟨v, h1, h2⟩ := Reps.get (i := i) b (by simpa using e)
    exact ⟨v, by simpa using h1, h2⟩
theorem Reps.take : ∀ {ds : List D} {vs : List V} (n : Nat), Reps K G ds vs → Reps K G (ds.take n) (vs.take n)
  | _, _, 0, _ => .nil
  | _, _, _ + 1, .nil => .nil
  | _, _, n + 1, .cons a b => .cons a (b.take n)
theorem Reps.drop : ∀ {ds : List D} {vs : List V} (n : Nat), Reps K G ds vs → Reps K G (ds.drop n) (vs.drop n)
  | _, _, 0, q => q
  | _, _, _ + 1, .nil => .nil
  | _, _, n + 1, .cons _ b => b.drop n
theorem Reps.set {d : D} {v : V} (r : Rep K G d v) : ∀ {ds : List D} {vs : List V} (i : Nat), Reps K G ds vs → Reps K G (ds.set i d) (vs.set i v)
  | _, _, _, .nil => .nil
  | _, _, 0, .cons _ b => .cons r b
  | _, _, i + 1, .cons a b => .cons a (Reps.set r i b)
theorem Reps.snoc {ds : List D} {vs : List V} {d : D} {v : V} (a : Reps K G ds vs) (r : Rep K G d v) : Reps K G (ds ++ [d]) (vs ++ [v]) := a.append (.cons r .nil)
theorem Reps.reverse : ∀ {ds : List D} {vs : List V}, Reps K G ds vs → Reps K G ds.reverse vs.reverse
  | _, _, .nil => .nil
  | _, _, .cons a b => by
    rw [List.reverse_cons, List.reverse_cons]
    exact b.reverse.snoc a
theorem Reps.flat (k : Nat) {ds : List D} {vs : List V} (a : Reps K G ds vs) : Reps K G (List.replicate k ds).flatten (List.replicate k vs).flatten := by
  induction k with
  | zero => exact .nil
  | succ k ih =>
    rw [List.replicate_succ, List.replicate_succ, List.flatten_cons, List.flatten_cons]
    exact a.append ih
/-- ints -/
theorem Reps.ints : ∀ {ns : List Int} {vs : List V}, Reps K G (ns.map PyData.int) vs → vs = ns.map V.int
  | [], _, .nil => rfl
  | _ :: _, _, .cons (.int _) b => by rw [List.map_cons, b.ints]
theorem Reps.of_ints : ∀ (ns : List Int), Reps K G (ns.map PyData.int) (ns.map V.int)
  | [] => .nil
  | n :: ns => .cons (.int n) (Reps.of_ints ns)
theorem Reps.bls : ∀ {ns : List Bool} {vs : List V}, Reps K G (ns.map PyData.bool) vs → vs = ns.map V.bl
  | [], _, .nil => rfl
  | _ :: _, _, .cons (.bl _) b => by rw [List.map_cons, b.bls]
theorem Reps.strs : ∀ {ns : List Str} {vs : List V}, Reps K G (ns.map PyData.str) vs → vs = ns.map V.str
  | [], _, .nil => rfl
  | _ :: _, _, .cons (.str _) b => by rw [List.map_cons, b.strs]
theorem Reps.of_strs : ∀ (ns : List Str), Reps K G (ns.map PyData.str) (ns.map V.str)
  | [] => .nil
  | n :: ns => .cons (.str n) (Reps.of_strs ns)
/-! for == -/
mutual
theorem Rep.dp {d : D} {v : V} (h : d.canLay0 = true) (r : Rep K G d v) : Dp K G v d := by
  cases r with
  | non => exact .non
  | bl b => exact .bl b
  | int i => exact .int i
  | str x => exact .str x
  | lst q r =>
    rw [PyData.canLay0] at h
    exact .lst q (Reps.dp h r)
  | tup q r =>
    rw [PyData.canLay0] at h
    exact .tup q (Reps.dp h r)
  | dK _ _ => rw [PyData.canLay0] at h; cases h
  | dT _ _ => rw [PyData.canLay0] at h; cases h
theorem Reps.dp {ds : List D} {vs : List V} (h : PyData.canLayAll0 ds = true) (r : Reps K G ds vs) : DpAll K G vs ds := by
  cases r with
  | nil => exact .nil
  | cons a b =>
    rw [PyData.canLayAll0, Bool.and_eq_true] at h
    exact .cons (Rep.dp h.1 a) (Reps.dp h.2 b)
end
end

/-! ### cells of one's own -/
/-- what stands at an own address; the items are shared things -/
def Cell (K : PySem.W.Frag) (G H : Hp) (p : Addr) : D → Prop
  | .list ds => ∃ vs, H p = some (.lst vs) ∧ Reps K G ds vs
  | .dict ds => (∃ kvs, H p = some (.dK kvs) ∧ RepK K G ds kvs) ∨ (∃ kvs es, ds = (.none, .none) :: es ∧ H p = some (.dT kvs) ∧ RepT K G es kvs)
  | _ => False
theorem Cell.there {K : PySem.W.Frag} {G H : Hp} {p : Addr} : ∀ {d : D}, Cell K G H p d → ∃ o, H p = some o
  | .list _, ⟨_, h, _⟩ => ⟨_, h⟩
  | .dict _, .inl ⟨_, h, _⟩ => ⟨_, h⟩
  | .dict _, .inr ⟨_, _, _, h, _⟩ => ⟨_, h⟩
theorem Cell.mono {K : PySem.W.Frag} {G H G' H' : Hp} {p : Addr} (hg : Same G G') (hh : H' p = H p) : ∀ {d : D}, Cell K G H p d → Cell K G' H' p d
  | .list _, ⟨_, h, r⟩ => ⟨_, hh.trans h, r.up hg⟩
  | .dict _, .inl ⟨_, h, r⟩ => .inl ⟨_, hh.trans h, r.up hg⟩
  | .dict _, .inr ⟨_, _, e, h, r⟩ => .inr ⟨_, _, e, hh.trans h, r.up hg⟩
theorem Cell.rep {K : PySem.W.Frag} {G G' H : Hp} {p : Addr} (hg : Same G G') (hp : G' p = H p) : ∀ {d : D}, Cell K G H p d → Rep K G' d (.ref p)
  | .list _, ⟨_, h, r⟩ => .lst (.inl (.inl (hp.trans h))) (r.up hg)
  | .dict _, .inl ⟨_, h, r⟩ => .dK (hp.trans h) (r.up hg)
  | .dict _, .inr ⟨_, _, e, h, r⟩ => by subst e; exact .dT (hp.trans h) (r.up hg)

/-! ### growth of heaps -/
/-- from (G, H) on to (G', H'): all that is shared stays, all that is tracked stays, what is tracked and not shared isn't shared later -/
structure Mon (G H G' H' : Hp) : Prop where
  g : Same G G'
  h : Same H H'
  k : ∀ a, H a ≠ none → G a = none → G' a = none
theorem Mon.refl (G H : Hp) : Mon G H G H := ⟨Same.refl _, Same.refl _, fun _ _ h => h⟩
theorem Same.some {H H' : Hp} (h : Same H H') {a : Addr} (n : H a ≠ Option.none) : H' a = H a := by
  cases e : H a with
  | none => exact absurd e n
  | some o => exact h _ _ e
theorem Mon.trans {G H G1 H1 G2 H2 : Hp} (a : Mon G H G1 H1) (b : Mon G1 H1 G2 H2) : Mon G H G2 H2 :=
  ⟨a.g.trans b.g, a.h.trans b.h, fun x n e => b.k x (by rw [Same.some a.h n]; exact n) (a.k x n e)⟩
def SlOk (K : PySem.W.Frag) (H0 G H : Hp) : Sl → Option (Option V) → Prop
  | .un, _ => True
  | .sh d, o => ∃ v, o = some (some v) ∧ Rep K G d v
  | .ow d, o => ∃ p, o = some (some (.ref p)) ∧ H0 p = none ∧ G p = none ∧ Cell K G H p d
/-- the state of a body: G0, H0 at its entry -/
structure RE (K : PySem.W.Frag) (G0 H0 G H : Hp) (σ : St) (ρ : Env) : Prop where
  mon : Mon G0 H0 G H
  gh : Same G H
  len : σ.length = ρ.length
  slot : ∀ i, SlOk K H0 G H (gt ρ i) σ[i]?
  dis : ∀ i j d d' p, i ≠ j → gt ρ i = .ow d → gt ρ j = .ow d' → σ[i]? = some (some (.ref p)) → σ[j]? = some (some (.ref p)) → False
section
variable {K : PySem.W.Frag} {G0 H0 G H G' H' : Hp} {σ : St} {ρ : Env}
theorem RE.step (I : RE K G0 H0 G H σ ρ) (m : Mon G H G' H') (gh : Same G' H') : RE K G0 H0 G' H' σ ρ := by
  refine ⟨I.mon.trans m, gh, I.len, fun i => ?_, I.dis⟩
  have h := I.slot i
  cases e : gt ρ i with
  | un => exact trivial
  | sh d =>
    rw [e] at h
    obtain ⟨v, h1, h2⟩ := h
    exact ⟨v, h1, h2.up m.g⟩
  | ow d =>
    rw [e] at h
    obtain ⟨p, h1, h2, h3, h4⟩ := h
    obtain ⟨o, h5⟩ := h4.there
    have hn : H p ≠ none := by rw [h5]; exact fun z => nomatch z
    exact ⟨p, h1, h2, m.k p hn h3, h4.mono m.g (Same.some m.h hn)⟩
/-- a new object that is shared at once -/
theorem RE.new (I : RE K G0 H0 G H σ ρ) {p : Addr} {o : HO} (np : H p = none) : RE K G0 H0 (upd G p o) (upd H p o) σ ρ ∧ Mon G H (upd G p o) (upd H p o) := by
  have ng : G p = none := I.gh.free np
  have m : Mon G H (upd G p o) (upd H p o) := by
    refine ⟨fun b u e => ?_, fun b u e => ?_, fun a n e => ?_⟩
    · rw [upd_ne (ne_of_none e ng)]; exact e
    · rw [upd_ne (ne_of_none e np)]; exact e
    · have : a ≠ p := fun z => by rw [z] at n; exact n np
      rw [upd_ne this]; exact e
  refine ⟨I.step m fun b u e => ?_, m⟩
  by_cases hb : b = p
  · subst hb; rw [upd_same] at e; rw [upd_same]; exact e
  · rw [upd_ne hb] at e; rw [upd_ne hb]; exact I.gh _ _ e
/-- a new object that is one's own -/
theorem RE.newOwn (I : RE K G0 H0 G H σ ρ) {p : Addr} {o : HO} (np : H p = none) : RE K G0 H0 G (upd H p o) σ ρ ∧ Mon G H G (upd H p o) := by
  have m : Mon G H G (upd H p o) := by
    refine ⟨Same.refl _, fun b u e => ?_, fun a n e => e⟩
    rw [upd_ne (ne_of_none e np)]; exact e
  exact ⟨I.step m (I.gh.trans m.h), m⟩
end

/-! ### what a result stands for -/
/-- Hb: the heap ahead of what told it -/
def RVal (K : PySem.W.Frag) (H0 Hb G H : Hp) : RV → V → Prop
  | .sh d, v => Rep K G d v
  | .fr d, v => ∃ p, v = .ref p ∧ Hb p = none ∧ G p = none ∧ Cell K G H p d
  | .ow d, v => ∃ p, v = .ref p ∧ H0 p = none ∧ G p = none ∧ Cell K G H p d
/-- read where it stands -/
def View (K : PySem.W.Frag) (G H : Hp) : D → V → Prop
  | .list ds, v => ∃ p vs, v = .ref p ∧ SqL K H p vs ∧ Reps K G ds vs
  | .dict ds, v => ∃ p, v = .ref p ∧ ((∃ kvs, H p = some (.dK kvs) ∧ RepK K G ds kvs) ∨ (∃ kvs es, ds = (.none, .none) :: es ∧ H p = some (.dT kvs) ∧ RepT K G es kvs))
  | d, v => Rep K G d v
section
variable {K : PySem.W.Frag} {H0 Hb G H G' H' : Hp}
theorem Rep.view (gh : Same G H) : ∀ {d : D} {v : V}, Rep K G d v → View K G H d v
  | _, _, .non => .non
  | _, _, .bl b => .bl b
  | _, _, .int i => .int i
  | _, _, .str x => .str x
  | _, _, .lst q r => ⟨_, _, rfl, (Same.rd gh).seq q, r⟩
  | _, _, .tup q r => .tup q r
  | _, _, .dK q r => ⟨_, rfl, .inl ⟨_, gh _ _ q, r⟩⟩
  | _, _, .dT q r => ⟨_, rfl, .inr ⟨_, _, rfl, gh _ _ q, r⟩⟩
theorem Cell.view {p : Addr} : ∀ {d : D}, Cell K G H p d → View K G H d (.ref p)
  | .list _, ⟨_, h, r⟩ => ⟨_, _, rfl, .inl (.inl h), r⟩
  | .dict _, .inl ⟨_, h, r⟩ => ⟨_, rfl, .inl ⟨_, h, r⟩⟩
  | .dict _, .inr ⟨_, _, e, h, r⟩ => ⟨_, rfl, .inr ⟨_, _, e, h, r⟩⟩
theorem RVal.view (gh : Same G H) : ∀ {r : RV} {v : V}, RVal K H0 Hb G H r v → View K G H r.val v
  | .sh _, _, h => Rep.view gh h
  | .fr _, _, ⟨_, e, _, _, c⟩ => by subst e; exact c.view
  | .ow _, _, ⟨_, e, _, _, c⟩ => by subst e; exact c.view
theorem View.mono (hg : Same G G') (hh : Same H H') : ∀ {d : D} {v : V}, View K G H d v → View K G' H' d v
  | .list _, _, ⟨_, _, e, q, r⟩ => ⟨_, _, e, (Same.rd hh).seq q, r.up hg⟩
  | .dict _, _, ⟨_, e, .inl ⟨_, q, r⟩⟩ => ⟨_, e, .inl ⟨_, hh _ _ q, r.up hg⟩⟩
  | .dict _, _, ⟨_, e, .inr ⟨_, _, e2, q, r⟩⟩ => ⟨_, e, .inr ⟨_, _, e2, hh _ _ q, r.up hg⟩⟩
  | .none, _, h => Rep.up hg h
  | .bool _, _, h => Rep.up hg h
  | .int _, _, h => Rep.up hg h
  | .str _, _, h => Rep.up hg h
  | .tuple _, _, h => Rep.up hg h
theorem View.int {i : Int} {v : V} (h : View K G H (.int i) v) : v = .int i := by cases (show Rep K G (.int i) v from h); rfl
theorem View.bl {i : Bool} {v : V} (h : View K G H (.bool i) v) : v = .bl i := by cases (show Rep K G (.bool i) v from h); rfl
theorem View.str {i : Str} {v : V} (h : View K G H (.str i) v) : v = .str i := by cases (show Rep K G (.str i) v from h); rfl
theorem View.non {v : V} (h : View K G H .none v) : v = .non := by cases (show Rep K G .none v from h); rfl
theorem View.tup {ds : List D} {v : V} (gh : Same G H) (h : View K G H (.tuple ds) v) : ∃ a vs, v = .ref a ∧ SqT K H a vs ∧ SqT K G a vs ∧ Reps K G ds vs := by
  cases (show Rep K G (.tuple ds) v from h) with
  | tup q r => exact ⟨_, _, rfl, (Same.rd gh).tup q, q, r⟩
theorem View.dp (gh : Same G H) : ∀ {d : D} {v : V}, d.canLay0 = true → View K G H d v → Dp K H v d
  | .none, _, c, h => ((show Rep K G _ _ from h).up gh).dp c
  | .bool _, _, c, h => ((show Rep K G _ _ from h).up gh).dp c
  | .int _, _, c, h => ((show Rep K G _ _ from h).up gh).dp c
  | .str _, _, c, h => ((show Rep K G _ _ from h).up gh).dp c
  | .tuple _, _, c, h => ((show Rep K G _ _ from h).up gh).dp c
  | .list ds, _, c, ⟨_, _, e, q, r⟩ => by
    subst e
    rw [PyData.canLay0] at c
    exact .lst q ((r.up gh).dp c)
  | .dict _, _, c, _ => by rw [PyData.canLay0] at c; cases c
end
end VL

set_option Elab.async false
set_option linter.all false
set_option maxRecDepth 100000
set_option maxHeartbeats 4000000
/-! part VL2: the judgements over trees: expressions, arguments; how they are put together. -/
namespace VL
open PySem PySem.Spec PyProof.Rows L2

/-- what stands for an exception that leaves -/
def XRep (K : PySem.W.Frag) (mg : Str → Option Value) (G' H' : Hp) (x : Exn) (c : Value) (dx : Option Addr) : Prop :=
  ∃ C, mg x.cls = some (.ref C) ∧ c = .ref C ∧ (match x.fld with
    | none => dx = none
    | some (n, d) => ∃ a v, dx = some a ∧ H' a = some (.xd [(n, v)]) ∧ Rep K G' d v)
/-- the exceptional way out -/
def XPost (K : PySem.W.Frag) (mg : Str → Option Value) (E : XK) (G0 H0 : Hp) (x : Exn) : Prop :=
  ∀ G' H' c dx, Mon G0 H0 G' H' → Same G' H' → XRep K mg G' H' x c dx → E c dx H'
/-- what is to be shown of a result -/
def Post (K : PySem.W.Frag) (mg : Str → Option Value) (E : XK) (G0 H0 G H : Hp) (σ : St) (ρ : Env) (Q : VK) : Rs RV → Prop
  | .bad => False
  | .ex x => XPost K mg E G0 H0 x
  | .ok r => ∀ G' H' v, RE K G0 H0 G' H' σ ρ → Mon G H G' H' → RVal K H0 H G' H' r v → Q v H'
def tEV (K : PySem.W.Frag) (mg : Str → Option Value) (E : XK) (f : Env → Rs RV) : TE := fun σ H Q =>
  ∃ G0 H0 G ρ, RE K G0 H0 G H σ ρ ∧ Post K mg E G0 H0 G H σ ρ Q (f ρ)
/-- THE JUDGEMENT of an expression: what f tells of the slots' things is its value -/
def EV (X : Cx) (E : XK) (e : Expr) (f : Env → Rs RV) : Prop := PE X e (tEV X.K X.mg E f)

theorem PE.weak {X : Cx} {e : Expr} {t t' : TE} (h : PE X e t) (hw : ∀ σ H Q, t' σ H Q → t σ H Q) : PE X e t' :=
  ⟨fun pins s σ H Q I q => h.run pins s σ H Q I (hw _ _ _ q)⟩
theorem PT.weak {X : Cx} {e : Expr} {t t' : TT} (h : PT X e t) (hw : ∀ σ H Q, t' σ H Q → t σ H Q) : PT X e t' :=
  ⟨fun pins s σ H Q I q => h.run pins s σ H Q I (hw _ _ _ q)⟩
theorem PA.weak {X : Cx} {e : List Expr} {t t' : TA} (h : PA X e t) (hw : ∀ σ H Q, t' σ H Q → t σ H Q) : PA X e t' :=
  ⟨fun pos pins s σ H Q I q => h.run pos pins s σ H Q I (hw _ _ _ q)⟩
theorem PSs.weak {X : Cx} {e : List Stmt} {t t' : TS} (h : PSs X e t) (hw : ∀ D σ H, t' D σ H → t D σ H) : PSs X e t' :=
  ⟨fun pins s σ H D I q => h.run pins s σ H D I (hw _ _ _ q)⟩
theorem PS.weak {X : Cx} {e : Stmt} {t t' : TS} (h : PS X e t) (hw : ∀ D σ H, t' D σ H → t D σ H) : PS X e t' :=
  ⟨fun pins s σ H D I q => h.run pins s σ H D I (hw _ _ _ q)⟩
/-- by cases on which of two readings holds -/
theorem PE.or {X : Cx} {e : Expr} {t t' : TE} (h : PE X e t) (h' : PE X e t') : PE X e (fun σ H Q => t σ H Q ∨ t' σ H Q) :=
  ⟨fun pins s σ H Q I q => q.elim (h.run pins s σ H Q I) (h'.run pins s σ H Q I)⟩

section
variable {X : Cx} {E : XK} {K : PySem.W.Frag} {mg : Str → Option Value} {G0 H0 G H G1 H1 G' H' Hb Hb' : Hp} {σ : St} {ρ : Env} {Q : VK}
theorem ev_of {e : Expr} {t : TE} {f : Env → Rs RV} (h : PE X e t) (hw : ∀ G0 H0 G H σ ρ Q, RE X.K G0 H0 G H σ ρ → Post X.K X.mg E G0 H0 G H σ ρ Q (f ρ) → t σ H Q) : EV X E e f :=
  PE.weak h fun σ H Q ⟨_, _, _, _, I, p⟩ => hw _ _ _ _ _ _ _ I p
theorem ev_weak {e : Expr} {f g : Env → Rs RV} (h : EV X E e f) (hw : ∀ G0 H0 G H σ ρ Q, RE X.K G0 H0 G H σ ρ → Post X.K X.mg E G0 H0 G H σ ρ Q (g ρ) → Post X.K X.mg E G0 H0 G H σ ρ Q (f ρ)) : EV X E e g :=
  ev_of h fun _ _ _ _ _ _ _ I p => ⟨_, _, _, _, I, hw _ _ _ _ _ _ _ I p⟩
theorem ev_congr {e : Expr} {f g : Env → Rs RV} (h : EV X E e f) (hw : ∀ ρ, f ρ = g ρ) : EV X E e g :=
  ev_weak h fun _ _ _ _ _ _ _ _ p => by rw [hw]; exact p
theorem Post.bad {P : Prop} (p : Post K mg E G0 H0 G H σ ρ Q .bad) : P := False.elim p
theorem RVal.base (h : Same Hb Hb') : ∀ {r : RV} {v : V}, RVal K H0 Hb' G H r v → RVal K H0 Hb G H r v
  | .sh _, _, q => q
  | .fr _, _, ⟨p, a, b, c⟩ => ⟨p, a, h.free b, c⟩
  | .ow _, _, q => q
theorem RVal.up (m : Mon G H G' H') : ∀ {r : RV} {v : V}, RVal K H0 Hb G H r v → RVal K H0 Hb G' H' r v
  | .sh _, _, q => Rep.up m.g q
  | .fr _, _, ⟨p, a, b, c, d⟩ => by
    obtain ⟨o, e⟩ := d.there
    have n : H p ≠ none := by rw [e]; exact fun z => nomatch z
    exact ⟨p, a, b, m.k p n c, d.mono m.g (Same.some m.h n)⟩
  | .ow _, _, ⟨p, a, b, c, d⟩ => by
    obtain ⟨o, e⟩ := d.there
    have n : H p ≠ none := by rw [e]; exact fun z => nomatch z
    exact ⟨p, a, b, m.k p n c, d.mono m.g (Same.some m.h n)⟩
/-- from a later state on -/
theorem Post.up (m : Mon G H G1 H1) : ∀ {r : Rs RV}, Post K mg E G0 H0 G H σ ρ Q r → Post K mg E G0 H0 G1 H1 σ ρ Q r
  | .bad, p => p
  | .ex _, p => p
  | .ok _, p => fun G' H' v I m' q => p G' H' v I (m.trans m') (q.base m.h)
/-- the reading of a part, in the frame of the whole -/
theorem tEV_bind {f : Env → Rs RV} {g : RV → Rs RV} {R : VK} (I : RE K G0 H0 G H σ ρ) (p : Post K mg E G0 H0 G H σ ρ Q ((f ρ).bind g))
    (h : ∀ r G1 H1 v, f ρ = .ok r → RE K G0 H0 G1 H1 σ ρ → Mon G H G1 H1 → RVal K H0 H G1 H1 r v → Post K mg E G0 H0 G1 H1 σ ρ Q (g r) → R v H1) : tEV K mg E f σ H R := by
  refine ⟨G0, H0, G, ρ, I, ?_⟩
  cases e : f ρ with
  | bad => rw [e] at p; exact p
  | ex x => rw [e] at p; exact p
  | ok r =>
    rw [e] at p
    exact fun G1 H1 v I1 m1 q => h r G1 H1 v e I1 m1 q (Post.up m1 p)
/-- a new list or dict is put among what is shared -/
theorem RE.freeze (I : RE K G0 H0 G' H' σ ρ) (I0 : RE K G0 H0 G H σ ρ) (m : Mon G H G' H') {p : Addr} {d : D} (np : H p = none) (ng : G' p = none) (c : Cell K G' H' p d) :
    ∃ G2, RE K G0 H0 G2 H' σ ρ ∧ Mon G H G2 H' ∧ Rep K G2 d (.ref p) := by
  obtain ⟨o, e⟩ := c.there
  have s2 : Same G' (upd G' p o) := fun b u q => by rw [upd_ne (ne_of_none q ng)]; exact q
  have gh : Same (upd G' p o) H' := fun b u q => by
    by_cases hb : b = p
    · subst hb; rw [upd_same] at q; rw [e]; exact q
    · rw [upd_ne hb] at q; exact I.gh _ _ q
  have m2 : Mon G H (upd G' p o) H' := ⟨m.g.trans s2, m.h, fun a n z => by
    have hp : a ≠ p := fun q => by rw [q] at n; exact n np
    rw [upd_ne hp]; exact m.k a n z⟩
  exact ⟨upd G' p o, I0.step m2 gh, m2, c.rep s2 (by rw [upd_same, e])⟩
/-- new things as shared ones -/
def RV.frz : RV → RV
  | .fr d => .sh d
  | r => r
@[simp] theorem RV.frz_sh (d : D) : (RV.sh d).frz = .sh d := rfl
@[simp] theorem RV.frz_fr (d : D) : (RV.fr d).frz = .sh d := rfl
@[simp] theorem RV.frz_ow (d : D) : (RV.ow d).frz = .ow d := rfl
@[simp] theorem RV.frz_val (r : RV) : r.frz.val = r.val := by cases r <;> rfl
def cFrz (f : Env → Rs RV) : Env → Rs RV := fun ρ => (f ρ).bind fun r => .ok r.frz
theorem ev_frz {e : Expr} {f : Env → Rs RV} (h : EV X E e f) : EV X E e (cFrz f) := by
  refine ev_weak h fun G0 H0 G H σ ρ Q I p => ?_
  unfold cFrz at p
  cases e : f ρ with
  | bad => rw [e] at p; exact p
  | ex x => rw [e] at p; exact p
  | ok r =>
    rw [e] at p
    intro G' H' v I' m q
    cases r with
    | sh d => exact p G' H' v I' m q
    | ow d => exact p G' H' v I' m q
    | fr d =>
      obtain ⟨a, rfl, b, c, z⟩ := q
      obtain ⟨G2, I2, m2, r2⟩ := I'.freeze I m b c z
      exact p G2 H' _ I2 m2 r2

/-! ### operators by values -/
/-- op tells of what two things come to what the rule r asks -/
def OpD (X : Cx) (E : XK) (op : D → D → Rs RV) (r : R2) : Prop :=
  ∀ G0 H0 G H σ ρ (x y : D) (v u : V) Q, RE X.K G0 H0 G H σ ρ → View X.K G H x v → View X.K G H y u → Post X.K X.mg E G0 H0 G H σ ρ Q (op x y) → r v u H Q
def cBin (op : D → D → Rs RV) (f g : Env → Rs RV) : Env → Rs RV := fun ρ => (f ρ).bind fun a => (g ρ).bind fun b => op a.val b.val
theorem tOp_of {op : D → D → Rs RV} {r : R2} {f g : Env → Rs RV} (hd : OpD X E op r) (I : RE X.K G0 H0 G H σ ρ) (p : Post X.K X.mg E G0 H0 G H σ ρ Q (cBin op f g ρ)) :
    tOp r (tEV X.K X.mg E f) (tEV X.K X.mg E g) σ H Q :=
  tEV_bind I p fun a G1 H1 v ea I1 m1 q1 p1 => tEV_bind I1 p1 fun b G2 H2 u eb I2 m2 q2 p2 =>
    hd _ _ _ _ _ _ _ _ _ _ _ I2 ((q1.view I1.gh).mono m2.g m2.h) (q2.view I2.gh) p2
theorem ev_op {a b : Expr} {o : Operator} {pos : Pos} {op : D → D → Rs RV} {r : R2} {f g : Env → Rs RV} (ho : OpR X (binaryOp o) r) (hd : OpD X E op r) (ha : EV X E a f) (hb : EV X E b g) :
    EV X E (.BinOp a o b pos) (cBin op f g) :=
  ev_of (pe_op ho ha hb) fun _ _ _ _ _ _ _ I p => tOp_of hd I p
theorem ev_cmp {a b : Expr} {o : CmpOp} {pos : Pos} {op : D → D → Rs RV} {r : R2} {f g : Env → Rs RV} (ho : OpR X (compareOp o) r) (hd : OpD X E op r) (ha : EV X E a f) (hb : EV X E b g) (hm : behindInMarks o b = false) :
    EV X E (.Compare a [o] [b] pos) (cBin op f g) :=
  ev_of (pe_cmpR ho ha hb hm) fun _ _ _ _ _ _ _ I p => tOp_of hd I p
theorem ev_ix {a b : Expr} {pos : Pos} {op : D → D → Rs RV} {r : R2} {f g : Env → Rs RV} (ho : IxR X r) (hd : OpD X E op r) (ha : EV X E a f) (hb : EV X E b g) (hm : PlainIx b) :
    EV X E (.Subscript a b pos) (cBin op f g) :=
  ev_of (pe_ix ho ha hb hm) fun _ _ _ _ _ _ _ I p => tOp_of hd I p
def cUn (op : D → Rs RV) (f : Env → Rs RV) : Env → Rs RV := fun ρ => (f ρ).bind fun a => op a.val
/-- of two rules either, by which of them serves -/
theorem OpD.or {op : D → D → Rs RV} {r r' : R2} (h : ∀ G0 H0 G H σ ρ (x y : D) (v u : V) Q, RE X.K G0 H0 G H σ ρ → View X.K G H x v → View X.K G H y u → Post X.K X.mg E G0 H0 G H σ ρ Q (op x y) → r v u H Q ∨ r' v u H Q) :
    OpD X E op (fun x y H Q => r x y H Q ∨ r' x y H Q) := h

/-! ### names, constants -/
def cVar (i : Nat) : Env → Rs RV := fun ρ => match gt ρ i with
  | .un => .bad
  | .sh d => .ok (.sh d)
  | .ow d => .ok (.ow d)
theorem ev_var {i : Nat} {x : Str} {pos : Pos} (hN : X.N[i]? = some x) (hv : Vis X.env.scope x) (hd : (x == ("__debug__" : Str)) = false) (hcd : (x == ("__classdict__" : Str)) = false) : EV X E (.Name x pos) (cVar i) := by
  refine ev_of (pe_var hN hv hd hcd) fun G0 H0 G H σ ρ Q I p => ?_
  have s := I.slot i
  unfold cVar at p
  cases e : gt ρ i with
  | un => rw [e] at p; exact p.bad
  | sh d =>
    rw [e] at p s
    obtain ⟨v, h1, h2⟩ := s
    exact ⟨v, h1, p G H v I (Mon.refl _ _) h2⟩
  | ow d =>
    rw [e] at p s
    obtain ⟨a, h1, h2, h3, h4⟩ := s
    exact ⟨_, h1, p G H _ I (Mon.refl _ _) ⟨a, rfl, h2, h3, h4⟩⟩
def cCon (d : D) : Env → Rs RV := fun _ => .ok (.sh d)
theorem ev_con {e : Expr} {d : D} {v : V} (h : PE X e (tC v)) (r : ∀ G, Rep X.K G d v) : EV X E e (cCon d) :=
  ev_of h fun G0 H0 G H σ ρ Q I p => p G H v I (Mon.refl _ _) (r G)
theorem ev_int {i : Int} {j pos} : EV X E (.Constant (.int i) j pos) (cCon (.int i)) := ev_con pe_int fun _ => .int i
theorem ev_str {x : Str} {j pos} : EV X E (.Constant (.str x) j pos) (cCon (.str x)) := ev_con pe_str fun _ => .str x
theorem ev_bl {b : Bool} {j pos} : EV X E (.Constant (.bool b) j pos) (cCon (.bool b)) := ev_con pe_bl fun _ => .bl b
theorem ev_non {j pos} : EV X E (.Constant .none j pos) (cCon .none) := ev_con pe_non fun _ => .non
/-- a constant of the module -/
theorem ev_glob {x : Str} {d : D} {v : V} {u : Value} {pos : Pos} (hg : Gl X x) (hm : X.mg x = some u) (rv : RelV v u) (r : ∀ G, Rep X.K G d v) (hd : (x == ("__debug__" : Str)) = false) : EV X E (.Name x pos) (cCon d) :=
  ev_con (pe_glob hg hm rv hd) r

/-! ### and, or, not, if -/
def cAnd (f g : Env → Rs RV) : Env → Rs RV := fun ρ => (f ρ).bind fun a => match a.val with
  | .bool true => g ρ
  | .bool false => .ok (.sh (.bool false))
  | _ => .bad
def cOr (f g : Env → Rs RV) : Env → Rs RV := fun ρ => (f ρ).bind fun a => match a.val with
  | .bool false => g ρ
  | .bool true => .ok (.sh (.bool true))
  | _ => .bad
def cNot (f : Env → Rs RV) : Env → Rs RV := fun ρ => (f ρ).bind fun a => match a.val with
  | .bool b => .ok (.sh (.bool !b))
  | _ => .bad
def cIf (c f g : Env → Rs RV) : Env → Rs RV := fun ρ => (c ρ).bind fun a => match a.val with
  | .bool true => f ρ
  | .bool false => g ρ
  | _ => .bad
theorem View.bool_of {x : D} {v : V} (gh : Same G H) (h : View K G H x v) : (∃ b, x = .bool b ∧ v = .bl b) ∨ ∀ b, x ≠ .bool b := by
  cases x with
  | bool b => exact .inl ⟨b, rfl, h.bl⟩
  | _ => exact .inr fun _ z => nomatch z
theorem ev_one {a : Expr} {op : BoolOp} {pos : Pos} {f : Env → Rs RV} (ha : EV X E a f) : EV X E (.BoolOp op [a] pos) f := pe_one ha
theorem ev_and {a b : Expr} {rest : List Expr} {pos : Pos} {f g : Env → Rs RV} (ha : EV X E a f) (hb : EV X E (.BoolOp .And (b :: rest) pos) g) : EV X E (.BoolOp .And (a :: b :: rest) pos) (cAnd f g) := by
  refine ev_of (pe_and ha hb) fun G0 H0 G H σ ρ Q I p => tEV_bind I p fun r G1 H1 v er I1 m1 q1 p1 => ?_
  have w := q1.view I1.gh
  revert p1 w
  cases r.val <;> intro p1 w
  case bool b =>
    refine ⟨b, w.bl, ?_⟩
    cases b with
    | true => rw [if_pos rfl]; exact ⟨_, _, _, _, I1, p1⟩
    | false => rw [if_neg (by decide)]; exact p1 G1 H1 _ I1 (Mon.refl _ _) (.bl false)
  all_goals exact p1.bad
theorem ev_or {a b : Expr} {rest : List Expr} {pos : Pos} {f g : Env → Rs RV} (ha : EV X E a f) (hb : EV X E (.BoolOp .Or (b :: rest) pos) g) : EV X E (.BoolOp .Or (a :: b :: rest) pos) (cOr f g) := by
  refine ev_of (pe_or ha hb) fun G0 H0 G H σ ρ Q I p => tEV_bind I p fun r G1 H1 v er I1 m1 q1 p1 => ?_
  have w := q1.view I1.gh
  revert p1 w
  cases r.val <;> intro p1 w
  case bool b =>
    refine ⟨b, w.bl, ?_⟩
    cases b with
    | true => rw [if_pos rfl]; exact p1 G1 H1 _ I1 (Mon.refl _ _) (.bl true)
    | false => rw [if_neg (by decide)]; exact ⟨_, _, _, _, I1, p1⟩
  all_goals exact p1.bad
theorem ev_not {a : Expr} {pos : Pos} {f : Env → Rs RV} (ha : EV X E a f) : EV X E (.UnaryOp .Not a pos) (cNot f) := by
  refine ev_of (pe_not ha) fun G0 H0 G H σ ρ Q I p => tEV_bind I p fun r G1 H1 v er I1 m1 q1 p1 => ?_
  have w := q1.view I1.gh
  revert p1 w
  cases r.val <;> intro p1 w
  case bool b => exact ⟨b, w.bl, p1 G1 H1 _ I1 (Mon.refl _ _) (.bl _)⟩
  all_goals exact p1.bad
theorem ev_neg {a : Expr} {pos : Pos} {f : Env → Rs RV} (ha : EV X E a f) : EV X E (.UnaryOp .USub a pos) (cUn (fun x => match x with
    | .int i => .ok (.sh (.int (-i)))
    | _ => .bad) f) := by
  refine ev_of (pe_un un_neg ha) fun G0 H0 G H σ ρ Q I p => tEV_bind I p fun r G1 H1 v er I1 m1 q1 p1 => ?_
  have w := q1.view I1.gh
  revert p1 w
  cases r.val <;> intro p1 w
  case int i => exact ⟨i, w.int, p1 G1 H1 _ I1 (Mon.refl _ _) (.int _)⟩
  all_goals exact p1.bad

/-! ### tests -/
/-- a test -/
def tTV (K : PySem.W.Frag) (mg : Str → Option Value) (E : XK) (f : Env → Rs RV) : TT := fun σ H Q =>
  ∃ G0 H0 G ρ, RE K G0 H0 G H σ ρ ∧ Post K mg E G0 H0 G H σ ρ (fun v H' => ∃ b, v = .bl b ∧ Q b H') (f ρ)
def TV (X : Cx) (E : XK) (e : Expr) (f : Env → Rs RV) : Prop := PT X e (tTV X.K X.mg E f)
theorem tv_val {e : Expr} {f : Env → Rs RV} (h : EV X E e f) (he : ∀ whole, isTrue e X.env whole = (do let v ← whole; standAt e.pos; holding [v] (truthy v))) : TV X E e f :=
  PT.weak (pt_val h he) fun σ H Q ⟨_, _, _, _, I, p⟩ => ⟨_, _, _, _, I, p⟩
theorem tv_cmp {a b : Expr} {o : CmpOp} {pos : Pos} {op : D → D → Rs RV} {r : R2} {f g : Env → Rs RV} (ho : OpR X (compareOp o) r) (hd : OpD X E op r) (ha : EV X E a f) (hb : EV X E b g) (hm : behindInMarks o b = false) :
    TV X E (.Compare a [o] [b] pos) (cBin op f g) :=
  PT.weak (pt_cmpR ho ha hb hm) fun σ H Q ⟨_, _, _, _, I, p⟩ => tOp_of hd I p
theorem tv_not {a : Expr} {pos : Pos} {f : Env → Rs RV} (ha : TV X E a f) : TV X E (.UnaryOp .Not a pos) (cNot f) := by
  refine PT.weak (pt_not ha) fun σ H Q ⟨G0, H0, G, ρ, I, p⟩ => tEV_bind I p fun r G1 H1 v er I1 m1 q1 p1 => ?_
  have w := q1.view I1.gh
  revert p1 w
  cases r.val <;> intro p1 w
  case bool b =>
    obtain ⟨c, e, q⟩ := p1 G1 H1 _ I1 (Mon.refl _ _) (.bl _)
    cases e
    exact ⟨b, w.bl, q⟩
  all_goals exact p1.bad
def WV (X : Cx) (E : XK) (e : Expr) (f : Env → Rs RV) : Prop := PW X e (tTV X.K X.mg E f)
theorem PW.weak {X : Cx} {e : Expr} {t t' : TT} (h : PW X e t) (hw : ∀ σ H Q, t' σ H Q → t σ H Q) : PW X e t' :=
  ⟨fun wh pins s σ H Q I q => h.run wh pins s σ H Q I (hw _ _ _ q)⟩
theorem wv_and1 {a : Expr} {pos : Pos} {f : Env → Rs RV} (ha : TV X E a f) : WV X E (.BoolOp .And [a] pos) f := pw_and1 ha
theorem wv_or1 {a : Expr} {pos : Pos} {f : Env → Rs RV} (ha : TV X E a f) : WV X E (.BoolOp .Or [a] pos) f := pw_or1 ha
theorem wv_and {a b : Expr} {rest : List Expr} {pos : Pos} {f g : Env → Rs RV} (ha : TV X E a f) (hb : WV X E (.BoolOp .And (b :: rest) pos) g) : WV X E (.BoolOp .And (a :: b :: rest) pos) (cAnd f g) := by
  refine PW.weak (pw_and ha hb) fun σ H Q ⟨G0, H0, G, ρ, I, p⟩ => tEV_bind I p fun r G1 H1 v er I1 m1 q1 p1 => ?_
  have w := q1.view I1.gh
  revert p1 w
  cases r.val <;> intro p1 w
  case bool b =>
    refine ⟨b, w.bl, ?_⟩
    cases b with
    | true => rw [if_pos rfl]; exact ⟨_, _, _, _, I1, p1⟩
    | false =>
      obtain ⟨c, e, q⟩ := p1 G1 H1 _ I1 (Mon.refl _ _) (.bl false)
      cases e
      rw [if_neg (by decide)]; exact q
  all_goals exact p1.bad
theorem wv_or {a b : Expr} {rest : List Expr} {pos : Pos} {f g : Env → Rs RV} (ha : TV X E a f) (hb : WV X E (.BoolOp .Or (b :: rest) pos) g) : WV X E (.BoolOp .Or (a :: b :: rest) pos) (cOr f g) := by
  refine PW.weak (pw_or ha hb) fun σ H Q ⟨G0, H0, G, ρ, I, p⟩ => tEV_bind I p fun r G1 H1 v er I1 m1 q1 p1 => ?_
  have w := q1.view I1.gh
  revert p1 w
  cases r.val <;> intro p1 w
  case bool b =>
    refine ⟨b, w.bl, ?_⟩
    cases b with
    | true =>
      obtain ⟨c, e, q⟩ := p1 G1 H1 _ I1 (Mon.refl _ _) (.bl true)
      cases e
      rw [if_pos rfl]; exact q
    | false => rw [if_neg (by decide)]; exact ⟨_, _, _, _, I1, p1⟩
  all_goals exact p1.bad
theorem ev_ife {c a b : Expr} {pos : Pos} {h f g : Env → Rs RV} (hc : TV X E c h) (ha : EV X E a f) (hb : EV X E b g) : EV X E (.IfExp c a b pos) (cIf h f g) := by
  refine ev_of (pe_ifExp hc ha hb) fun G0 H0 G H σ ρ Q I p => tEV_bind I p fun r G1 H1 v er I1 m1 q1 p1 => ?_
  have w := q1.view I1.gh
  revert p1 w
  cases r.val <;> intro p1 w
  case bool b =>
    refine ⟨b, w.bl, ?_⟩
    cases b with
    | true => rw [if_pos rfl]; exact ⟨_, _, _, _, I1, p1⟩
    | false => rw [if_neg (by decide)]; exact ⟨_, _, _, _, I1, p1⟩
  all_goals exact p1.bad

/-! ### arguments -/
def RVals (K : PySem.W.Frag) (H0 Hb G H : Hp) : List RV → List V → Prop
  | [], vs => vs = []
  | r :: rs, vs => ∃ v us, vs = v :: us ∧ RVal K H0 Hb G H r v ∧ RVals K H0 Hb G H rs us
theorem RVals.up (m : Mon G H G' H') : ∀ {rs : List RV} {vs : List V}, RVals K H0 Hb G H rs vs → RVals K H0 Hb G' H' rs vs
  | [], _, h => h
  | _ :: _, _, ⟨v, us, e, a, b⟩ => ⟨v, us, e, a.up m, RVals.up m b⟩
theorem RVals.base (h : Same Hb Hb') : ∀ {rs : List RV} {vs : List V}, RVals K H0 Hb' G H rs vs → RVals K H0 Hb G H rs vs
  | [], _, q => q
  | _ :: _, _, ⟨v, us, e, a, b⟩ => ⟨v, us, e, a.base h, RVals.base h b⟩
def PostA (K : PySem.W.Frag) (mg : Str → Option Value) (E : XK) (G0 H0 G H : Hp) (σ : St) (ρ : Env) (Q : List V → Hp → Prop) : Rs (List RV) → Prop
  | .bad => False
  | .ex x => XPost K mg E G0 H0 x
  | .ok rs => ∀ G' H' vs, RE K G0 H0 G' H' σ ρ → Mon G H G' H' → RVals K H0 H G' H' rs vs → Q vs H'
def tAV (K : PySem.W.Frag) (mg : Str → Option Value) (E : XK) (f : Env → Rs (List RV)) : TA := fun σ H Q =>
  ∃ G0 H0 G ρ, RE K G0 H0 G H σ ρ ∧ PostA K mg E G0 H0 G H σ ρ Q (f ρ)
def AV (X : Cx) (E : XK) (es : List Expr) (f : Env → Rs (List RV)) : Prop := PA X es (tAV X.K X.mg E f)
def cNil : Env → Rs (List RV) := fun _ => .ok []
def cCons (f : Env → Rs RV) (g : Env → Rs (List RV)) : Env → Rs (List RV) := fun ρ => (f ρ).bind fun r => (g ρ).bind fun rs => .ok (r.frz :: rs)
theorem av_nil : AV X E [] cNil := PA.weak pa_nil fun σ H Q ⟨_, _, G, _, I, p⟩ => p G H [] I (Mon.refl _ _) rfl
theorem PostA.up (m : Mon G H G1 H1) {Q : List V → Hp → Prop} : ∀ {r : Rs (List RV)}, PostA K mg E G0 H0 G H σ ρ Q r → PostA K mg E G0 H0 G1 H1 σ ρ Q r
  | .bad, p => p
  | .ex _, p => p
  | .ok _, p => fun G' H' v I m' q => p G' H' v I (m.trans m') (q.base m.h)
theorem av_cons {e : Expr} {es : List Expr} {f : Env → Rs RV} {g : Env → Rs (List RV)} (ha : EV X E e f) (hr : AV X E es g) (hs : starEach (e :: es) X.env = (false, eval e X.env) :: starEach es X.env) : AV X E (e :: es) (cCons f g) := by
  refine PA.weak (pa_cons (ev_frz ha) hr hs) fun σ H Q ⟨G0, H0, G, ρ, I, p⟩ => ?_
  refine ⟨G0, H0, G, ρ, I, ?_⟩
  unfold cCons at p
  unfold cFrz
  cases er : f ρ with
  | bad => rw [er] at p; exact p
  | ex x => rw [er] at p; exact p
  | ok r =>
    rw [er] at p
    intro G1 H1 v I1 m1 q1
    have p1 := PostA.up m1 p
    refine ⟨G0, H0, G1, ρ, I1, ?_⟩
    simp only [Rs.bind_ok] at p1
    cases es : g ρ with
    | bad => rw [es] at p1; exact p1
    | ex x => rw [es] at p1; exact p1
    | ok rs =>
      rw [es] at p1
      have p2 : PostA X.K X.mg E G0 H0 G H σ ρ Q (.ok (r.frz :: rs)) := by
        rw [es] at p
        exact p
      intro G2 H2 vs I2 m2 q2
      exact p2 G2 H2 (v :: vs) I2 (m1.trans m2) ⟨v, vs, rfl, q1.up m2, q2.base m1.h⟩

/-! ### tuples and lists written -/
/-- shared things -/
def shds : List RV → Rs (List D)
  | [] => .ok []
  | r :: rs => (r.shd).bind fun d => (shds rs).bind fun ds => .ok (d :: ds)
@[simp] theorem shds_nil : shds [] = .ok [] := rfl
@[simp] theorem shds_cons (r : RV) (rs : List RV) : shds (r :: rs) = (r.shd).bind fun d => (shds rs).bind fun ds => .ok (d :: ds) := rfl
theorem shds_reps : ∀ {rs : List RV} {ds : List D} {vs : List V}, (∀ r ∈ rs, ∀ d, r ≠ .fr d) → shds rs = .ok ds → RVals K H0 Hb G H rs vs → Reps K G ds vs
  | [], _, _, _, e, q => by
    cases e
    cases (show _ = [] from q)
    exact .nil
  | r :: rs, ds, _, hn, e, ⟨v, us, ev, a, b⟩ => by
    subst ev
    rw [shds_cons] at e
    cases r with
    | ow d => cases e
    | fr d => exact absurd rfl (hn _ List.mem_cons_self d)
    | sh d =>
      rw [RV.shd_sh, Rs.bind_ok] at e
      cases es : shds rs with
      | bad => rw [es] at e; cases e
      | ex x => rw [es] at e; cases e
      | ok ds2 =>
        rw [es] at e
        cases e
        exact .cons a (shds_reps (fun r h d => hn r (List.mem_cons_of_mem _ h) d) es b)
/-- the results of arguments are never new ones -/
def NoFr (f : Env → Rs (List RV)) : Prop := ∀ ρ rs, f ρ = .ok rs → ∀ r ∈ rs, ∀ d, r ≠ .fr d
theorem noFr_nil : NoFr cNil := fun ρ rs h r m => by
  cases h
  cases m
theorem noFr_cons {f : Env → Rs RV} {g : Env → Rs (List RV)} (hg : NoFr g) : NoFr (cCons f g) := fun ρ rs h r m d => by
  unfold cCons at h
  cases er : f ρ with
  | bad => rw [er] at h; cases h
  | ex x => rw [er] at h; cases h
  | ok a =>
    rw [er, Rs.bind_ok] at h
    cases es : g ρ with
    | bad => rw [es] at h; cases h
    | ex x => rw [es] at h; cases h
    | ok as =>
      rw [es] at h
      cases h
      rcases List.mem_cons.mp m with z | z
      · subst z
        cases a <;> intro q <;> cases q
      · exact hg ρ as es r z d
def cTup (f : Env → Rs (List RV)) : Env → Rs RV := fun ρ => (f ρ).bind fun rs => (shds rs).bind fun ds => if ds.length ≤ sizeLine then .ok (.sh (.tuple ds)) else .bad
def cLst (f : Env → Rs (List RV)) : Env → Rs RV := fun ρ => (f ρ).bind fun rs => (shds rs).bind fun ds => if ds.length ≤ sizeLine then .ok (.fr (.list ds)) else .bad
theorem tAV_bind {f : Env → Rs (List RV)} {g : List RV → Rs RV} {R : List V → Hp → Prop} (I : RE K G0 H0 G H σ ρ) (p : Post K mg E G0 H0 G H σ ρ Q ((f ρ).bind g))
    (h : ∀ rs G1 H1 vs, f ρ = .ok rs → RE K G0 H0 G1 H1 σ ρ → Mon G H G1 H1 → RVals K H0 H G1 H1 rs vs → Post K mg E G0 H0 G1 H1 σ ρ Q (g rs) → R vs H1) : tAV K mg E f σ H R := by
  refine ⟨G0, H0, G, ρ, I, ?_⟩
  cases e : f ρ with
  | bad => rw [e] at p; exact p
  | ex x => rw [e] at p; exact p
  | ok r =>
    rw [e] at p
    exact fun G1 H1 v I1 m1 q => h r G1 H1 v e I1 m1 q (Post.up m1 p)
theorem ev_tup {es : List Expr} {k : Nat} {pos : Pos} {f : Env → Rs (List RV)} (h : AV X E es f) (hn : NoFr f) : EV X E (.Tuple es k pos) (cTup f) := by
  refine ev_of (pe_tup h) fun G0 H0 G H σ ρ Q I p => tAV_bind I p fun rs G1 H1 vs er I1 m1 q1 p1 => ?_
  cases es : shds rs with
  | bad => rw [es] at p1; exact p1.bad
  | ex x =>
    exfalso
    have : ∀ (rs : List RV) x, shds rs ≠ .ex x := by
      intro rs
      induction rs with
      | nil => intro x h; cases h
      | cons r rs ih =>
        intro x h
        rw [shds_cons] at h
        cases r with
        | ow d => cases h
        | _ =>
          simp only [RV.shd_sh, RV.shd_fr, Rs.bind_ok] at h
          cases e2 : shds rs with
          | bad => rw [e2] at h; cases h
          | ok _ => rw [e2] at h; cases h
          | ex y => exact ih y e2
    exact this rs x es
  | ok ds =>
    rw [es] at p1
    simp only [Rs.bind_ok] at p1
    have rr := shds_reps (hn ρ rs er) es q1
    have hl := rr.length
    by_cases hz : ds.length ≤ sizeLine
    · rw [if_pos hz] at p1
      refine ⟨by omega, fun q nq => ?_⟩
      obtain ⟨I2, m2⟩ := I1.new (o := .tup vs) nq
      exact p1 _ _ _ I2 m2 (.tup (.inl (.inl upd_same)) (rr.up m2.g))
    · rw [if_neg hz] at p1
      exact p1.bad
theorem shds_noex : ∀ (rs : List RV) (x : Exn), shds rs ≠ .ex x := by
  intro rs
  induction rs with
  | nil => intro x h; cases h
  | cons r rs ih =>
    intro x h
    rw [shds_cons] at h
    cases r with
    | ow d => cases h
    | _ =>
      simp only [RV.shd_sh, RV.shd_fr, Rs.bind_ok] at h
      cases e2 : shds rs with
      | bad => rw [e2] at h; cases h
      | ok _ => rw [e2] at h; cases h
      | ex y => exact ih y e2
theorem ev_lst {es : List Expr} {pos : Pos} {f : Env → Rs (List RV)} (h : AV X E es f) (hn : NoFr f) : EV X E (.List es pos) (cLst f) := by
  refine ev_of (pe_lst h) fun G0 H0 G H σ ρ Q I p => tAV_bind I p fun rs G1 H1 vs er I1 m1 q1 p1 => ?_
  cases es : shds rs with
  | bad => rw [es] at p1; exact p1.bad
  | ex x => exact absurd es (shds_noex rs x)
  | ok ds =>
    rw [es] at p1
    simp only [Rs.bind_ok] at p1
    have rr := shds_reps (hn ρ rs er) es q1
    have hl := rr.length
    by_cases hz : ds.length ≤ sizeLine
    · rw [if_pos hz] at p1
      refine ⟨by omega, fun q nq => ?_⟩
      obtain ⟨I2, m2⟩ := I1.newOwn (o := .lst vs) nq
      exact p1 _ _ _ I2 m2 ⟨q, rfl, nq, I1.gh.free nq, vs, upd_same, rr.up m2.g⟩
    · rw [if_neg hz] at p1
      exact p1.bad

/-! ### calls of built-ins by values -/
/-- φ tells of what the arguments come to what the rule asks -/
def CallD (X : Cx) (E : XK) (φ : List D → Rs RV) (r : List V → Hp → VK → Prop) : Prop :=
  ∀ G0 H0 G H σ ρ (ds : List D) (vs : List V) Q, RE X.K G0 H0 G H σ ρ → Paired (fun d v => View X.K G H d v) ds vs → Post X.K X.mg E G0 H0 G H σ ρ Q (φ ds) → r vs H Q
def cBlt (φ : List D → Rs RV) (f : Env → Rs (List RV)) : Env → Rs RV := fun ρ => (f ρ).bind fun rs => φ (rs.map RV.val)
theorem RVals.views (gh : Same G H) : ∀ {rs : List RV} {vs : List V}, RVals K H0 Hb G H rs vs → Paired (fun d v => View K G H d v) (rs.map RV.val) vs
  | [], _, h => by
    cases (show _ = [] from h)
    exact .nil
  | _ :: _, _, ⟨v, us, e, a, b⟩ => by
    subst e
    exact .cons (a.view gh) (RVals.views gh b)
theorem ev_callB {x : Str} {e : Expr} {es : List Expr} {p pos : Pos} {id : String} {r : List V → Hp → VK → Prop} {φ : List D → Rs RV} {f : Env → Rs (List RV)} (hc : CallR X (.builtin id) r) (hd : CallD X E φ r) (hg : Gl X x) (hm : X.mg x = none)
    (hv : bootBuiltins x = some (.builtin id)) (ha : AV X E (e :: es) f) (hn : x ≠ "__name__") (hdb : (x == ("__debug__" : Str)) = false)
    (he : starEach (e :: es) X.env = (false, eval e X.env) :: starEach es X.env) (hpl : (backTo pos (starEach es X.env)).any (·.1) = false) : EV X E (.Call (.Name x p) (e :: es) [] pos) (cBlt φ f) :=
  ev_of (pe_callB hc hg hm hv ha hn hdb he hpl) fun _ _ _ _ _ _ _ I p => tAV_bind I p fun _ _ _ _ _ I1 _ q1 p1 => hd _ _ _ _ _ _ _ _ _ I1 (q1.views I1.gh) p1
theorem ev_callT {x : Str} {e : Expr} {es : List Expr} {p pos : Pos} {id : String} {r : List V → Hp → VK → Prop} {φ : List D → Rs RV} {f : Env → Rs (List RV)} (hc : CallR X (.type id) r) (hd : CallD X E φ r) (hg : Gl X x) (hm : X.mg x = none)
    (hv : bootBuiltins x = some (.type id)) (ha : AV X E (e :: es) f) (hn : x ≠ "__name__") (hdb : (x == ("__debug__" : Str)) = false)
    (he : starEach (e :: es) X.env = (false, eval e X.env) :: starEach es X.env) (hpl : (backTo pos (starEach es X.env)).any (·.1) = false) : EV X E (.Call (.Name x p) (e :: es) [] pos) (cBlt φ f) :=
  ev_of (pe_callTy hc hg hm hv ha hn hdb he hpl) fun _ _ _ _ _ _ _ I p => tAV_bind I p fun _ _ _ _ _ I1 _ q1 p1 => hd _ _ _ _ _ _ _ _ _ I1 (q1.views I1.gh) p1
end
end VL

set_option Elab.async false
set_option linter.all false
set_option maxRecDepth 100000
set_option maxHeartbeats 4000000
/-! part VL3: operators, comparisons, subscripts, slices, built-ins, over trees. -/
namespace VL
open PySem PySem.Spec PyProof.Rows L2

/-! ### arithmetic -/
def dAdd : D → D → Rs RV
  | .int i, .int j => .ok (.sh (.int (i + j)))
  | .str x, .str y => if x.length + y.length ≤ sizeLine then .ok (.sh (.str (x ++ y))) else .bad
  | .list xs, .list ys => if xs.length + ys.length ≤ sizeLine then .ok (.fr (.list (xs ++ ys))) else .bad
  | .tuple xs, .tuple ys => if xs.length + ys.length ≤ sizeLine then .ok (.sh (.tuple (xs ++ ys))) else .bad
  | _, _ => .bad
def dSub : D → D → Rs RV
  | .int i, .int j => .ok (.sh (.int (i - j)))
  | _, _ => .bad
def dMul : D → D → Rs RV
  | .int i, .int j => if i.natAbs.log2 + j.natAbs.log2 < 1000000 then .ok (.sh (.int (i * j))) else .bad
  | .str z, .int k => if 1 ≤ k ∧ k ≤ 1000000 ∧ z.length * k.toNat ≤ sizeLine then .ok (.sh (.str ⟨(List.replicate k.toNat z.cps.toList).flatten.toArray⟩)) else .bad
  | _, _ => .bad
def dMod : D → D → Rs RV
  | .int i, .int j => if 0 < j then .ok (.sh (.int (i % j))) else .bad
  | _, _ => .bad
def dDiv : D → D → Rs RV
  | .int i, .int j => if 0 < j ∧ j.natAbs.log2 < 9000 then .ok (.sh (.int (i / j))) else .bad
  | _, _ => .bad
def dPow : D → D → Rs RV
  | .int i, .int j => if 0 ≤ j ∧ j ≤ 1000000 ∧ i.natAbs < 2 ^ 64 then .ok (.sh (.int (i ^ j.toNat))) else .bad
  | _, _ => .bad

/-! ### comparisons -/
/-- two things that are compared without a look into them -/
def scD : D → D → Bool
  | .none, .none => true | .none, .int _ => true | .int _, .none => true | .none, .bool _ => true | .bool _, .none => true | .none, .str _ => true | .str _, .none => true
  | .int _, .int _ => true | .bool _, .bool _ => true | .str _, .str _ => true
  | .int _, .str _ => true | .str _, .int _ => true | .bool _, .str _ => true | .str _, .bool _ => true
  | _, _ => false
def eqOk (x y : D) : Bool := scD x y || (SeqAt.shaped x && SeqAt.shaped y)
def dEq (x y : D) : Rs RV := if eqOk x y = true then .ok (.sh (.bool (PyData.eqv x y))) else .bad
def dNe (x y : D) : Rs RV := if eqOk x y = true then .ok (.sh (.bool (!PyData.eqv x y))) else .bad
def dLt : D → D → Rs RV
  | .int i, .int j => .ok (.sh (.bool (decide (i < j))))
  | .str x, .str y => .ok (.sh (.bool (decide (x.cps.toList < y.cps.toList))))
  | _, _ => .bad
def dGt : D → D → Rs RV
  | .int i, .int j => .ok (.sh (.bool (decide (j < i))))
  | .str x, .str y => .ok (.sh (.bool (decide (y.cps.toList < x.cps.toList))))
  | _, _ => .bad
def tupInts : List D → Option (List Int)
  | [] => some []
  | .int i :: r => (tupInts r).map (i :: ·)
  | _ :: _ => none
def dLe : D → D → Rs RV
  | .int i, .int j => .ok (.sh (.bool (decide (i ≤ j))))
  | .str x, .str y => .ok (.sh (.bool (!decide (y.cps.toList < x.cps.toList))))
  | _, _ => .bad
def dGe : D → D → Rs RV
  | .int i, .int j => .ok (.sh (.bool (decide (j ≤ i))))
  | .str x, .str y => .ok (.sh (.bool (!decide (x.cps.toList < y.cps.toList))))
  | _, _ => .bad
def flatD : D → Bool
  | .none | .bool _ | .int _ | .str _ => true
  | _ => false
def dKey : D → Option Key
  | .int i => some (.inl i)
  | .str x => some (.inr x)
  | _ => none
def dLook (k : Key) : List (D × D) → Option D
  | [] => none
  | p :: r => if dKey p.1 = some k then some p.2 else dLook k r
def dHas (k : Key) (ds : List (D × D)) : Bool := ds.any fun p => decide (dKey p.1 = some k)
def dPut (k : Key) (d : D) (ds : List (D × D)) : List (D × D) :=
  if dHas k ds = true then ds.map (fun p => if dKey p.1 = some k then (p.1, d) else p) else ds ++ [(kD k, d)]
/-- a dict with tuples as keys bears a mark ahead -/
def isT : List (D × D) → Bool
  | (.none, _) :: _ => true
  | _ => false
/-- x in c -/
def memB : D → D → Option Bool
  | x, .list ds => if (flatD x && ds.all flatD) || (SeqAt.shaped x && SeqAt.shaped (.list ds)) then some (ds.any fun z => PyData.eqv z x) else none
  | x, .tuple ds => if flatD x && ds.all flatD then some (ds.any fun z => PyData.eqv z x) else none
  | .str x, .str z => match x.cps.toList with
    | [c] => some (decide (c ∈ z.cps.toList))
    | _ => none
  | x, .dict ds => if isT ds then none else (dKey x).map fun k => dHas k ds
  | _, _ => none
def dIn (x c : D) : Rs RV := match memB x c with
  | some b => .ok (.sh (.bool b))
  | none => .bad
def dNotIn (x c : D) : Rs RV := match memB x c with
  | some b => .ok (.sh (.bool !b))
  | none => .bad
def dIsN (x : D) (y : D) : Rs RV := match y with
  | .none => .ok (.sh (.bool (match x with
    | .none => true
    | _ => false)))
  | _ => .bad
def dNotN (x : D) (y : D) : Rs RV := match y with
  | .none => .ok (.sh (.bool (match x with
    | .none => false
    | _ => true)))
  | _ => .bad

/-! ### subscripts, slices -/
def dIx : D → D → Rs RV
  | .list xs, .int i => match atI xs i with
    | some d => .ok (.sh d)
    | none => .bad
  | .tuple xs, .int i => match atI xs i with
    | some d => .ok (.sh d)
    | none => .bad
  | .str z, .int i => if z.length ≤ sizeLine then (match atI z.cps.toList i with
    | some c => .ok (.sh (.str ⟨#[c]⟩))
    | none => .bad) else .bad
  | .dict ds, k => if isT ds then .bad else match dKey k with
    | some k => (match dLook k ds with
      | some d => .ok (.sh d)
      | none => .bad)
    | none => .bad
  | _, _ => .bad
def cutD (xs : List D) (lo hi : Option Int) : List D := (xs.drop (HT.sIx xs.length 0 lo)).take (HT.sIx xs.length xs.length hi - HT.sIx xs.length 0 lo)
def dSl (x : D) (lo hi : Option Int) : Rs RV := match x with
  | .list xs => .ok (.fr (.list (cutD xs lo hi)))
  | .tuple xs => .ok (.sh (.tuple (cutD xs lo hi)))
  | .str z => if z.length ≤ sizeLine then .ok (.sh (.str (cutS z lo hi))) else .bad
  | _ => .bad

section
variable {X : Cx} {E : XK} {K : PySem.W.Frag} {mg : Str → Option Value} {G0 H0 G H G1 H1 G' H' : Hp} {σ : St} {ρ : Env} {Q : VK}
theorem Post.fin (I : RE K G0 H0 G H σ ρ) {d : D} {v : V} (p : Post K mg E G0 H0 G H σ ρ Q (.ok (.sh d))) (r : Rep K G d v) : Q v H := p G H v I (Mon.refl _ _) r
theorem Post.own (I : RE K G0 H0 G H σ ρ) {ds : List D} {vs : List V} (p : Post K mg E G0 H0 G H σ ρ Q (.ok (.fr (.list ds)))) (r : Reps K G ds vs) : ∀ q, H q = none → Q (.ref q) (upd H q (.lst vs)) := fun q nq => by
  obtain ⟨I2, m2⟩ := I.newOwn (o := .lst vs) nq
  exact p _ _ _ I2 m2 ⟨q, rfl, nq, I.gh.free nq, vs, upd_same, r⟩
theorem Post.newT (I : RE K G0 H0 G H σ ρ) {ds : List D} {vs : List V} (p : Post K mg E G0 H0 G H σ ρ Q (.ok (.sh (.tuple ds)))) (r : Reps K G ds vs) : ∀ q, H q = none → Q (.ref q) (upd H q (.tup vs)) := fun q nq => by
  obtain ⟨I2, m2⟩ := I.new (o := .tup vs) nq
  exact p _ _ _ I2 m2 (.tup (.inl (.inl upd_same)) (r.up m2.g))

theorem op_catL : OpR X (binaryOp .Add) (fun x y H Q => ∃ l b xs zs, x = .ref l ∧ y = .ref b ∧ SqL X.K H l xs ∧ SqL X.K H b zs ∧ xs.length + zs.length ≤ sizeLine ∧ ∀ p, H p = none → Q (.ref p) (upd H p (.lst (xs ++ zs)))) := by
  intro pins s σ H x y v u Q I rx ry h
  obtain ⟨l, b, xs, zs, rfl, rfl, hH, hB, hz, q⟩ := h
  cases rx
  cases ry
  obtain ⟨its, r, ⟨⟨c1, d1, t1, s1⟩, n, h1, hc1, hd1, ht1⟩, hz1⟩ := I.list hH
  obtain ⟨its2, r2, ⟨⟨c2, d2, t2, s2⟩, n2, h2, hc2, hd2, ht2⟩, hz2⟩ := I.list hB
  simp only at hc1 hd1 ht1 hc2 hd2 ht2
  subst hc1 hd1 ht1 hc2 hd2 ht2
  have l1 := r.length
  have l2 := r2.length
  refine concat_meets ⟨_, h1, rfl⟩ ⟨_, h2, rfl⟩ noFill_list_add seq_list_add PySem.F.slot_list_add PySem.F.entry_list_add (PySem.F.args_list_add_2 _ _)
    (list_addW l b its.toArray its2.toArray n n2 none none s1 s2 (by rw [List.size_toArray, List.size_toArray]; omega)) ⟨h1, h2, ?_⟩
  have ea : its.toArray ++ its2.toArray = (its ++ its2).toArray := by simp
  rw [ea]
  exact ⟨.ref _, _, I.lnew (t' := s.toks) (r.append r2) (by rw [List.length_append]; omega), rfl, q _ I.fresh⟩

abbrev rCatL (K : PySem.W.Frag) : R2 := fun x y H Q => ∃ l b xs zs, x = .ref l ∧ y = .ref b ∧ SqL K H l xs ∧ SqL K H b zs ∧ xs.length + zs.length ≤ sizeLine ∧ ∀ p, H p = none → Q (.ref p) (upd H p (.lst (xs ++ zs)))
def rAddD (K : PySem.W.Frag) : R2 := fun x y H Q => (rI0 (fun i j => .int (i + j)) x y H Q ∨ (∃ i j, x = .str i ∧ y = .str j ∧ i.length + j.length ≤ sizeLine ∧ Q (.str (i ++ j)) H)) ∨ (rCatL K x y H Q ∨ rCatA K x y H Q)
theorem op_addD : OpR X (binaryOp .Add) (rAddD X.K) := OpR.or (OpR.or op_add op_add_str) (OpR.or op_catL op_catA)
theorem od_add : OpD X E dAdd (rAddD X.K) := by
  intro G0 H0 G H σ ρ x y v u Q I wx wy p
  cases x <;> cases y
  case int.int i j => exact .inl (.inl ⟨i, j, wx.int, wy.int, p.fin I (.int _)⟩)
  case str.str a b =>
    by_cases h : a.length + b.length ≤ sizeLine
    · simp only [dAdd, if_pos h] at p
      exact .inl (.inr ⟨a, b, wx.str, wy.str, h, p.fin I (.str _)⟩)
    · simp only [dAdd, if_neg h] at p
      exact p.bad
  case list.list xs ys =>
    obtain ⟨a, vs, rfl, q1, r1⟩ := wx
    obtain ⟨b, us, rfl, q2, r2⟩ := wy
    by_cases h : xs.length + ys.length ≤ sizeLine
    · simp only [dAdd, if_pos h] at p
      have l1 := r1.length
      have l2 := r2.length
      exact .inr (.inl ⟨a, b, vs, us, rfl, rfl, q1, q2, by omega, p.own I (r1.append r2)⟩)
    · simp only [dAdd, if_neg h] at p
      exact p.bad
  case tuple.tuple xs ys =>
    obtain ⟨a, vs, rfl, q1, q1', r1⟩ := wx.tup I.gh
    obtain ⟨b, us, rfl, q2, q2', r2⟩ := wy.tup I.gh
    by_cases h : xs.length + ys.length ≤ sizeLine
    · simp only [dAdd, if_pos h] at p
      have l1 := r1.length
      have l2 := r2.length
      refine .inr (.inr ⟨a, b, vs, us, rfl, rfl, q1, q2, by omega, fun e => ?_, fun _ e => ?_, fun _ _ => p.newT I (r1.append r2)⟩)
      · subst e
        cases r1
        exact p.fin I (.tup q2' r2)
      · subst e
        cases r2
        rw [List.append_nil] at p
        exact p.fin I (.tup q1' r1)
    · simp only [dAdd, if_neg h] at p
      exact p.bad
  all_goals exact p.bad
theorem od_sub : OpD X E dSub (rI0 fun i j => .int (i - j)) := by
  intro G0 H0 G H σ ρ x y v u Q I wx wy p
  cases x <;> cases y
  case int.int i j => exact ⟨i, j, wx.int, wy.int, p.fin I (.int _)⟩
  all_goals exact p.bad
/-- by results (new things among them) -/
def OpDR (X : Cx) (E : XK) (op : RV → RV → Rs RV) (r : R2) : Prop :=
  ∀ G0 H0 Hb G H σ ρ (x y : RV) (v u : V) Q, RE X.K G0 H0 G H σ ρ → RVal X.K H0 Hb G H x v → RVal X.K H0 Hb G H y u → Post X.K X.mg E G0 H0 G H σ ρ Q (op x y) → r v u H Q
def cBinR (op : RV → RV → Rs RV) (f g : Env → Rs RV) : Env → Rs RV := fun ρ => (f ρ).bind fun a => (g ρ).bind fun b => op a b
theorem ev_opR {a b : Expr} {o : Operator} {pos : Pos} {op : RV → RV → Rs RV} {r : R2} {f g : Env → Rs RV} (ho : OpR X (binaryOp o) r) (hd : OpDR X E op r) (ha : EV X E a f) (hb : EV X E b g) :
    EV X E (.BinOp a o b pos) (cBinR op f g) :=
  ev_of (pe_op ho ha hb) fun _ _ _ _ _ _ _ I p => tEV_bind I p fun a G1 H1 v ea I1 m1 q1 p1 => tEV_bind I1 p1 fun b G2 H2 u eb I2 m2 q2 p2 =>
    hd _ _ _ _ _ _ _ _ _ _ _ _ I2 (q1.up m2) (q2.base m1.h) p2
def mulR : RV → RV → Rs RV
  | .fr (.list xs), y => match y.val with
    | .int k => if -1000000 ≤ k ∧ k ≤ 1000000 ∧ xs.length * k.toNat ≤ sizeLine then .ok (.fr (.list (List.replicate k.toNat xs).flatten)) else .bad
    | _ => .bad
  | x, y => dMul x.val y.val
theorem op_mul_str : OpR X (binaryOp .Mult) (fun x y H Q => ∃ z k, x = .str z ∧ y = .int k ∧ 1 ≤ k ∧ k ≤ 1000000 ∧ z.length * k.toNat ≤ sizeLine ∧ Q (.str ⟨(List.replicate k.toNat z.cps.toList).flatten.toArray⟩) H) := by
  intro pins s σ H x y v u Q I rx ry h
  obtain ⟨z, k, rfl, rfl, h1, h2, hz, q⟩ := h
  obtain ⟨t, rfl⟩ := rx
  obtain ⟨t', rfl⟩ := ry
  have hs := sizeLine_eq
  have rep0 : ∀ (m : Nat) (acc : List Nat), (List.replicate m z.cps).foldl (fun a b => a ++ b) acc.toArray = (acc ++ (List.replicate m z.cps.toList).flatten).toArray := by
    intro m
    induction m with
    | zero => intro acc; simp
    | succ m ih =>
      intro acc
      have e : acc.toArray ++ z.cps = (acc ++ z.cps.toList).toArray := by simp
      rw [List.replicate_succ, List.replicate_succ, List.foldl_cons, e, ih, List.flatten_cons, List.append_assoc]
  refine PySem.P.mul_str ?_ (fun _ _ => ?_) (fun _ _ => ?_) ?_
  · rw [decide_eq_false (by omega), decide_eq_false (by omega)]
    rfl
  · have e1 : (1 : Int) ≤ (2 ^ 63 - 1) / k := Int.le_ediv_of_mul_le (by omega) (by omega)
    have e2 : (z.length : Int) * k ≤ 2 ^ 63 - 1 := by
      have e3 : ((z.length * k.toNat : Nat) : Int) = (z.length : Int) * k := by rw [Int.natCast_mul, Int.toNat_of_nonneg (by omega)]
      omega
    have e3 : (z.length : Int) ≤ (2 ^ 63 - 1) / k := Int.le_ediv_of_mul_le (by omega) e2
    omega
  · unfold Builtin.Str.tooLong
    exact decide_eq_false (by omega)
  · rw [if_neg (by omega)]
    by_cases h0 : (k == 1 || z.length == 0) = true
    · rw [if_pos h0]
      have e : (⟨(List.replicate k.toNat z.cps.toList).flatten.toArray⟩ : Str) = z := by
        rcases Bool.or_eq_true_iff.mp h0 with h0 | h0
        · have : k = 1 := by simpa using h0
          subst this
          simp
        · have : z.cps.size = 0 := by simpa [Str.length] using h0
          have : z.cps = #[] := Array.eq_empty_of_size_eq_zero this
          obtain ⟨c⟩ := z
          simp only at this
          subst this
          simp
      rw [e] at q
      exact ⟨.str z, H, I, ⟨_, rfl⟩, q⟩
    · rw [if_neg h0]
      have e := rep0 k.toNat []
      rw [List.nil_append] at e
      have len : ∀ m : Nat, ((List.replicate m z.cps.toList).flatten).length = z.length * m := by
        intro m
        induction m with
        | zero => rfl
        | succ m ih =>
          rw [List.replicate_succ, List.flatten_cons, List.length_append, ih, Nat.mul_succ, Nat.add_comm]
          rfl
      refine ⟨?_, .str _, H, I.tok _, ⟨_, rfl⟩, ?_⟩
      · have e2 : (List.replicate k.toNat z.cps).foldl (fun a b => a ++ b) #[] = (List.replicate k.toNat z.cps.toList).flatten.toArray := e
        show ((List.replicate k.toNat z.cps).foldl (fun a b => a ++ b) #[]).size ≤ sizeLine
        rw [e2, List.size_toArray, len]
        exact hz
      · have e2 : (List.replicate k.toNat z.cps).foldl (fun a b => a ++ b) #[] = (List.replicate k.toNat z.cps.toList).flatten.toArray := e
        show Q (.str ⟨(List.replicate k.toNat z.cps).foldl (fun a b => a ++ b) #[]⟩) H
        rw [e2]
        exact q
def rMulD : R2 := fun x y H Q => (rI CMulW (fun i j => .int (i * j)) x y H Q ∨ rRep x y H Q) ∨ (∃ z k, x = .str z ∧ y = .int k ∧ 1 ≤ k ∧ k ≤ 1000000 ∧ z.length * k.toNat ≤ sizeLine ∧ Q (.str ⟨(List.replicate k.toNat z.cps.toList).flatten.toArray⟩) H)
theorem op_mulD : OpR X (binaryOp .Mult) rMulD := OpR.or (OpR.or op_mulW op_rep) op_mul_str
theorem od_mulD : ∀ G0 H0 G H σ ρ (x y : D) (v u : V) Q, RE X.K G0 H0 G H σ ρ → View X.K G H x v → View X.K G H y u → Post X.K X.mg E G0 H0 G H σ ρ Q (dMul x y) → rMulD v u H Q := by
  intro G0 H0 G H σ ρ x y v u Q I wx wy p
  cases x <;> cases y
  case int.int i j =>
    by_cases h : i.natAbs.log2 + j.natAbs.log2 < 1000000
    · simp only [dMul, if_pos h] at p
      exact .inl (.inl ⟨i, j, wx.int, wy.int, h, p.fin I (.int _)⟩)
    · simp only [dMul, if_neg h] at p
      exact p.bad
  case str.int z k =>
    by_cases h : 1 ≤ k ∧ k ≤ 1000000 ∧ z.length * k.toNat ≤ sizeLine
    · simp only [dMul, if_pos h] at p
      exact .inr ⟨z, k, wx.str, wy.int, h.1, h.2.1, h.2.2, p.fin I (.str _)⟩
    · simp only [dMul, if_neg h] at p
      exact p.bad
  all_goals exact p.bad
theorem od_mul : OpDR X E mulR rMulD := by
  intro G0 H0 Hb G H σ ρ x y v u Q I wx wy p
  by_cases h : ∃ xs k, x = .fr (.list xs) ∧ y.val = .int k
  · obtain ⟨xs, k, rfl, e⟩ := h
    have wy' := wy.view I.gh
    rw [e] at wy'
    simp only [mulR, e] at p
    by_cases h : -1000000 ≤ k ∧ k ≤ 1000000 ∧ xs.length * k.toNat ≤ sizeLine
    · rw [if_pos h] at p
      obtain ⟨a, rfl, _, _, vs, h1, r1⟩ := wx
      have l1 := r1.length
      exact .inl (.inr ⟨a, k, vs, rfl, wy'.int, h1, by omega, by omega, by rw [l1]; exact h.2.2, p.own I (r1.flat _)⟩)
    · rw [if_neg h] at p
      exact p.bad
  · have e : mulR x y = dMul x.val y.val ∨ mulR x y = .bad := by
      cases x with
      | sh d => exact .inl (by unfold mulR; rfl)
      | ow d => exact .inl (by unfold mulR; rfl)
      | fr d =>
        cases d with
        | list xs =>
          right
          cases e : y.val with
          | int k => exact absurd ⟨xs, k, rfl, e⟩ h
          | _ => simp only [mulR, e]
        | _ => exact .inl (by unfold mulR; rfl)
    rcases e with e | e
    · rw [e] at p
      exact od_mulD _ _ _ _ _ _ _ _ _ _ _ I (wx.view I.gh) (wy.view I.gh) p
    · rw [e] at p
      exact p.bad
theorem od_mod : OpD X E dMod (rI (fun _ j => 0 < j) fun i j => .int (i % j)) := by
  intro G0 H0 G H σ ρ x y v u Q I wx wy p
  cases x <;> cases y
  case int.int i j =>
    by_cases h : 0 < j
    · simp only [dMod, if_pos h] at p
      exact ⟨i, j, wx.int, wy.int, h, p.fin I (.int _)⟩
    · simp only [dMod, if_neg h] at p
      exact p.bad
  all_goals exact p.bad
theorem od_div : OpD X E dDiv (rI CDivW fun i j => .int (i / j)) := by
  intro G0 H0 G H σ ρ x y v u Q I wx wy p
  cases x <;> cases y
  case int.int i j =>
    by_cases h : 0 < j ∧ j.natAbs.log2 < 9000
    · simp only [dDiv, if_pos h] at p
      exact ⟨i, j, wx.int, wy.int, h, p.fin I (.int _)⟩
    · simp only [dDiv, if_neg h] at p
      exact p.bad
  all_goals exact p.bad
theorem od_pow : OpD X E dPow (rI CPow fun i j => .int (i ^ j.toNat)) := by
  intro G0 H0 G H σ ρ x y v u Q I wx wy p
  cases x <;> cases y
  case int.int i j =>
    by_cases h : 0 ≤ j ∧ j ≤ 1000000 ∧ i.natAbs < 2 ^ 64
    · simp only [dPow, if_pos h] at p
      exact ⟨i, j, wx.int, wy.int, h, p.fin I (.int _)⟩
    · simp only [dPow, if_neg h] at p
      exact p.bad
  all_goals exact p.bad

/-! comparisons -/
theorem scal_of (gh : Same G H) {x y : D} {v u : V} (h : scD x y = true) (wx : View K G H x v) (wy : View K G H y u) : scal v u = true ∧ decide (v = u) = PyData.eqv x y := by
  cases x <;> cases y <;> first
    | (exfalso; revert h; simp [scD]; done)
    | (first
        | cases wx.int
        | cases wx.str
        | cases wx.bl
        | cases wx.non
       first
        | cases wy.int
        | cases wy.str
        | cases wy.bl
        | cases wy.non
       refine ⟨rfl, ?_⟩
       simp [PyData.eqv, dec_int, dec_str, dec_bl, Bool.beq_eq_decide_eq])
def rEqA (K : PySem.W.Frag) : R2 := fun x y H Q => rEq x y H Q ∨ rEqD K x y H Q
def rNeA (K : PySem.W.Frag) : R2 := fun x y H Q => rNe x y H Q ∨ rNeD K x y H Q
theorem op_eqA (hu : X.A.units + 64 < cLine) : OpR X (compareOp .Eq) (rEqA X.K) := OpR.or op_eq (op_eqD hu)
theorem op_neA (hu : X.A.units + 64 < cLine) : OpR X (compareOp .NotEq) (rNeA X.K) := OpR.or op_ne (op_neD hu)
theorem od_eq : OpD X E dEq (rEqA X.K) := by
  intro G0 H0 G H σ ρ x y v u Q I wx wy p
  unfold dEq at p
  by_cases h : eqOk x y = true
  · rw [if_pos h] at p
    unfold eqOk at h
    rcases Bool.or_eq_true_iff.mp h with h | h
    · obtain ⟨h1, h2⟩ := scal_of I.gh h wx wy
      exact .inl ⟨h1, by rw [h2]; exact p.fin I (.bl _)⟩
    · obtain ⟨h1, h2⟩ := Bool.and_eq_true_iff.mp h
      exact .inr ⟨x, y, wx.dp I.gh (SeqAt.canLay_of_shaped h1), wy.dp I.gh (SeqAt.canLay_of_shaped h2), h1, h2, p.fin I (.bl _)⟩
  · rw [if_neg h] at p
    exact p.bad
theorem od_ne : OpD X E dNe (rNeA X.K) := by
  intro G0 H0 G H σ ρ x y v u Q I wx wy p
  unfold dNe at p
  by_cases h : eqOk x y = true
  · rw [if_pos h] at p
    unfold eqOk at h
    rcases Bool.or_eq_true_iff.mp h with h | h
    · obtain ⟨h1, h2⟩ := scal_of I.gh h wx wy
      exact .inl ⟨h1, by rw [h2]; exact p.fin I (.bl _)⟩
    · obtain ⟨h1, h2⟩ := Bool.and_eq_true_iff.mp h
      exact .inr ⟨x, y, wx.dp I.gh (SeqAt.canLay_of_shaped h1), wy.dp I.gh (SeqAt.canLay_of_shaped h2), h1, h2, p.fin I (.bl _)⟩
  · rw [if_neg h] at p
    exact p.bad
def rCmp (f : Int → Int → Bool) (g : Str → Str → Bool) : R2 := fun x y H Q => rI0 (fun i j => .bl (f i j)) x y H Q ∨ ∃ i j, x = .str i ∧ y = .str j ∧ Q (.bl (g i j)) H
theorem op_ltA : OpR X (compareOp .Lt) (rCmp (fun i j => decide (i < j)) fun i j => decide (i.cps.toList < j.cps.toList)) := OpR.or op_lt op_lt_str
theorem op_leA : OpR X (compareOp .LtE) (rCmp (fun i j => decide (i ≤ j)) fun i j => !decide (j.cps.toList < i.cps.toList)) := OpR.or op_le op_le_str
theorem op_gtA : OpR X (compareOp .Gt) (rCmp (fun i j => decide (j < i)) fun i j => decide (j.cps.toList < i.cps.toList)) := OpR.or op_gt op_gt_str
theorem op_geA : OpR X (compareOp .GtE) (rCmp (fun i j => decide (j ≤ i)) fun i j => !decide (i.cps.toList < j.cps.toList)) := OpR.or op_ge op_ge_str
theorem od_lt : OpD X E dLt (rCmp (fun i j => decide (i < j)) fun i j => decide (i.cps.toList < j.cps.toList)) := by
  intro G0 H0 G H σ ρ x y v u Q I wx wy p
  cases x <;> cases y
  case int.int i j => exact .inl ⟨i, j, wx.int, wy.int, p.fin I (.bl _)⟩
  case str.str i j => exact .inr ⟨i, j, wx.str, wy.str, p.fin I (.bl _)⟩
  all_goals exact p.bad
theorem od_le : OpD X E dLe (rCmp (fun i j => decide (i ≤ j)) fun i j => !decide (j.cps.toList < i.cps.toList)) := by
  intro G0 H0 G H σ ρ x y v u Q I wx wy p
  cases x <;> cases y
  case int.int i j => exact .inl ⟨i, j, wx.int, wy.int, p.fin I (.bl _)⟩
  case str.str i j => exact .inr ⟨i, j, wx.str, wy.str, p.fin I (.bl _)⟩
  all_goals exact p.bad
theorem od_gt : OpD X E dGt (rCmp (fun i j => decide (j < i)) fun i j => decide (j.cps.toList < i.cps.toList)) := by
  intro G0 H0 G H σ ρ x y v u Q I wx wy p
  cases x <;> cases y
  case int.int i j => exact .inl ⟨i, j, wx.int, wy.int, p.fin I (.bl _)⟩
  case str.str i j => exact .inr ⟨i, j, wx.str, wy.str, p.fin I (.bl _)⟩
  all_goals exact p.bad
theorem od_ge : OpD X E dGe (rCmp (fun i j => decide (j ≤ i)) fun i j => !decide (i.cps.toList < j.cps.toList)) := by
  intro G0 H0 G H σ ρ x y v u Q I wx wy p
  cases x <;> cases y
  case int.int i j => exact .inl ⟨i, j, wx.int, wy.int, p.fin I (.bl _)⟩
  case str.str i j => exact .inr ⟨i, j, wx.str, wy.str, p.fin I (.bl _)⟩
  all_goals exact p.bad

/-! dicts -/
theorem dKey_kD (k : Key) : dKey (kD k) = some k := by cases k <;> rfl
theorem kD_dKey {d : D} {k : Key} (h : dKey d = some k) : d = kD k := by
  cases d <;> simp [dKey] at h <;> subst h <;> rfl
theorem dKey_view {d : D} {k : Key} {v : V} (h : dKey d = some k) (w : View K G H d v) : v = kV k := by
  rw [kD_dKey h] at w
  cases k with
  | inl i => exact w.int
  | inr x => exact w.str
theorem dHas_look (k : Key) : ∀ ds : List (D × D), dHas k ds = (dLook k ds).isSome
  | [] => rfl
  | p :: r => by
    unfold dHas dLook
    rw [List.any_cons]
    by_cases e : dKey p.1 = some k
    · rw [if_pos e, decide_eq_true e]; rfl
    · rw [if_neg e, decide_eq_false e, Bool.false_or]; exact dHas_look k r
theorem RepK.look (k : Key) : ∀ {ds : List (D × D)} {kvs : List (Key × V)}, RepK K G ds kvs → (dLook k ds = none ∧ valV kvs k = none) ∨ ∃ d v, dLook k ds = some d ∧ valV kvs k = some v ∧ Rep K G d v
  | _, _, .nil => .inl ⟨rfl, rfl⟩
  | _, _, .cons (k := k') (d := d) (v := v) (ds := ds) a b => by
    unfold dLook
    rw [dKey_kD]
    by_cases e : k' = k
    · subst e
      rw [if_pos rfl, valV_pos rfl]
      exact .inr ⟨d, v, rfl, rfl, a⟩
    · rw [if_neg (fun z => e (Option.some.inj z)), valV_neg (by exact e)]
      exact RepK.look k b
theorem RepK.snoc {k : Key} {d : D} {v : V} (r : Rep K G d v) : ∀ {ds : List (D × D)} {kvs : List (Key × V)}, RepK K G ds kvs → RepK K G (ds ++ [(kD k, d)]) (kvs ++ [(k, v)])
  | _, _, .nil => .cons r .nil
  | _, _, .cons a b => .cons a (RepK.snoc r b)
theorem RepK.rep {k : Key} {d : D} {v : V} (r : Rep K G d v) : ∀ {ds : List (D × D)} {kvs : List (Key × V)}, RepK K G ds kvs →
    RepK K G (ds.map fun p => if dKey p.1 = some k then (p.1, d) else p) (kvs.map fun kv => if kv.1 = k then (kv.1, v) else kv)
  | _, _, .nil => .nil
  | _, _, .cons (k := k') a b => by
    rw [List.map_cons, List.map_cons]
    show RepK K G ((if dKey (kD k') = some k then (kD k', d) else _) :: _) _
    rw [dKey_kD]
    by_cases e : k' = k
    · subst e
      rw [if_pos rfl, if_pos rfl]
      exact .cons r (RepK.rep r b)
    · rw [if_neg (fun z => e (Option.some.inj z)), if_neg (show ¬ k' = k from e)]
      exact .cons a (RepK.rep r b)
theorem RepK.put {k : Key} {d : D} {v : V} (r : Rep K G d v) {ds : List (D × D)} {kvs : List (Key × V)} (h : RepK K G ds kvs) : RepK K G (dPut k d ds) (putK kvs k v) := by
  unfold dPut putK
  rw [dHas_look, valV_any]
  rcases h.look k with ⟨e1, e2⟩ | ⟨d', v', e1, e2, _⟩
  · rw [e1, e2, if_neg (by simp), if_neg (by simp)]
    exact h.snoc r
  · rw [e1, e2, if_pos (show (some d').isSome = true from rfl), if_pos (show (some v').isSome = true from rfl)]
    exact h.rep r
theorem View.dK {ds : List (D × D)} {v : V} (h : isT ds = false) (w : View K G H (.dict ds) v) : ∃ a kvs, v = .ref a ∧ H a = some (.dK kvs) ∧ RepK K G ds kvs := by
  obtain ⟨a, e, ⟨kvs, h1, h2⟩ | ⟨kvs, es, e2, h1, h2⟩⟩ := w
  · exact ⟨a, kvs, e, h1, h2⟩
  · subst e2
    cases h

/-! membership -/
theorem flat_view {x : D} {v : V} (h : flatD x = true) (w : View K G H x v) : flatV v = true := by
  cases x <;> first
    | (cases w.int; rfl)
    | (cases w.str; rfl)
    | (cases w.bl; rfl)
    | (cases w.non; rfl)
    | (revert h; simp [flatD]; done)
theorem eqV_view {x y : D} {v u : V} (hx : flatD x = true) (hy : flatD y = true) (wx : View K G H x v) (wy : View K G H y u) : eqV v u = PyData.eqv x y := by
  cases x <;> cases y <;> first
    | (exfalso; revert hx hy; simp [flatD]; done)
    | (first
        | cases wx.int
        | cases wx.str
        | cases wx.bl
        | cases wx.non
       first
        | cases wy.int
        | cases wy.str
        | cases wy.bl
        | cases wy.non
       simp [PyData.eqv, eqV])
theorem Reps.flat_all (gh : Same G H) : ∀ {ds : List D} {vs : List V}, Reps K G ds vs → ds.all flatD = true → vs.all flatV = true
  | _, _, .nil, _ => rfl
  | _, _, .cons a b, h => by
    rw [List.all_cons, Bool.and_eq_true] at h
    rw [List.all_cons, Bool.and_eq_true]
    exact ⟨flat_view h.1 (a.view gh), b.flat_all gh h.2⟩
theorem Reps.inV (gh : Same G H) {x : D} {v : V} (hx : flatD x = true) (wx : View K G H x v) : ∀ {ds : List D} {vs : List V}, Reps K G ds vs → ds.all flatD = true → L2.inV v vs = ds.any fun z => PyData.eqv z x
  | _, _, .nil, _ => rfl
  | _, _, .cons a b, h => by
    rw [List.all_cons, Bool.and_eq_true] at h
    have ih := b.inV gh hx wx h.2
    unfold L2.inV at ih ⊢
    rw [List.any_cons, List.any_cons, ih, eqV_view h.1 hx (a.view gh) wx]
def rMem (K : PySem.W.Frag) (neg : Bool) : R2 := fun x y H Q => (rIn K neg x y H Q ∨ (∃ d ds, Dp K H x d ∧ Dp K H y (.list ds) ∧ SeqAt.shaped d = true ∧ SeqAt.shaped (.list ds) = true ∧ Q (.bl (if neg then !(ds.any fun z => PyData.eqv z d) else ds.any fun z => PyData.eqv z d)) H)) ∨
  ∃ (c : Nat) (z : Str), x = .str ⟨#[c]⟩ ∧ y = .str z ∧ Q (.bl (if neg then !decide (c ∈ z.cps.toList) else decide (c ∈ z.cps.toList))) H
theorem op_memI (hu : X.A.units + 65 < cLine) : OpR X (compareOp .In) (rMem X.K false) := OpR.or (OpR.or op_in_seq (op_inD hu)) op_in_sign
theorem op_memN (hu : X.A.units + 65 < cLine) : OpR X (compareOp .NotIn) (rMem X.K true) := OpR.or (OpR.or op_notIn_seq (op_notInD hu)) op_notIn_sign
theorem mem_of (neg : Bool) {x c : D} {v u : V} {b : Bool} (I : RE K G0 H0 G H σ ρ) (wx : View K G H x v) (wy : View K G H c u) (h : memB x c = some b) (hd : ∀ ds, c ≠ .dict ds) (q : Q (.bl (if neg then !b else b)) H) : rMem K neg v u H Q := by
  cases c with
  | list ds =>
    obtain ⟨a, vs, rfl, q1, r1⟩ := wy
    unfold memB at h
    by_cases h1 : (flatD x && ds.all flatD || SeqAt.shaped x && SeqAt.shaped (.list ds)) = true
    · simp only [h1, if_true, Option.some.injEq] at h
      subst h
      rcases Bool.or_eq_true_iff.mp h1 with h2 | h2
      · obtain ⟨h3, h4⟩ := Bool.and_eq_true_iff.mp h2
        exact .inl (.inl ⟨a, vs, rfl, .inl q1, flat_view h3 wx, r1.flat_all I.gh h4, by rw [r1.inV I.gh h3 wx h4]; exact q⟩)
      · obtain ⟨h3, h4⟩ := Bool.and_eq_true_iff.mp h2
        have w2 : View K G H (.list ds) (.ref a) := ⟨a, vs, rfl, q1, r1⟩
        exact .inl (.inr ⟨x, ds, wx.dp I.gh (SeqAt.canLay_of_shaped h3), w2.dp I.gh (SeqAt.canLay_of_shaped h4), h3, h4, q⟩)
    · simp only [h1] at h
      cases h
  | tuple ds =>
    obtain ⟨a, vs, rfl, q1, _, r1⟩ := wy.tup I.gh
    unfold memB at h
    by_cases h1 : (flatD x && ds.all flatD) = true
    · simp only [h1, if_true, Option.some.injEq] at h
      subst h
      obtain ⟨h3, h4⟩ := Bool.and_eq_true_iff.mp h1
      exact .inl (.inl ⟨a, vs, rfl, .inr q1, flat_view h3 wx, r1.flat_all I.gh h4, by rw [r1.inV I.gh h3 wx h4]; exact q⟩)
    · simp only [h1] at h
      cases h
  | str z =>
    cases x with
    | str y =>
      unfold memB at h
      obtain ⟨⟨l⟩⟩ := y
      cases l with
      | nil => cases h
      | cons c r =>
        cases r with
        | nil =>
          simp only [Option.some.injEq] at h
          subst h
          exact .inr ⟨c, z, wx.str, wy.str, q⟩
        | cons _ _ => cases h
    | _ => cases h
  | dict ds => exact absurd rfl (hd ds)
  | none => cases x <;> cases h
  | bool _ => cases x <;> cases h
  | int _ => cases x <;> cases h
end
end VL

set_option Elab.async false
set_option linter.all false
set_option maxRecDepth 100000
set_option maxHeartbeats 4000000
/-! part VL4: membership, subscripts, slices, built-in functions, calls of defs, over trees. -/
namespace VL
open PySem PySem.Spec PyProof.Rows L2

section
variable {X : Cx} {E : XK} {K : PySem.W.Frag} {mg : Str → Option Value} {G0 H0 G H G1 H1 G' H' Hb : Hp} {σ : St} {ρ : Env} {Q : VK}
theorem PT.or {e : Expr} {t t' : TT} (h : PT X e t) (h' : PT X e t') : PT X e (fun σ H Q => t σ H Q ∨ t' σ H Q) :=
  ⟨fun pins s σ H Q I q => q.elim (h.run pins s σ H Q I) (h'.run pins s σ H Q I)⟩
/-- is the second thing a dict -/
def dictAt (g : Env → Rs RV) (ρ : Env) : Prop := ∃ r ds, g ρ = .ok r ∧ r.val = .dict ds
theorem in_left {neg : Bool} {f g : Env → Rs RV} {R : VK} (I : RE X.K G0 H0 G H σ ρ) (hn : ¬ dictAt g ρ) (p : Post X.K X.mg E G0 H0 G H σ ρ R (cBin (if neg then dNotIn else dIn) f g ρ)) :
    tOp (rMem X.K neg) (tEV X.K X.mg E f) (tEV X.K X.mg E g) σ H R := by
  refine tEV_bind I p fun a G1 H1 v ea I1 m1 q1 p1 => tEV_bind I1 p1 fun b G2 H2 u eb I2 m2 q2 p2 => ?_
  have w1 := (q1.view I1.gh).mono m2.g m2.h
  have w2 := q2.view I2.gh
  cases e : memB a.val b.val with
  | none =>
    cases neg with
    | true => simp only [if_true, dNotIn, e] at p2; exact p2.bad
    | false => simp only [if_neg Bool.false_ne_true, dIn, e] at p2; exact p2.bad
  | some k =>
    refine mem_of neg I2 w1 w2 e (fun ds z => hn ⟨b, ds, eb, z⟩) ?_
    cases neg with
    | true => simp only [if_true, dNotIn, e] at p2; exact p2.fin I2 (.bl _)
    | false => simp only [if_neg Bool.false_ne_true, dIn, e] at p2; exact p2.fin I2 (.bl _)
theorem in_right {f g : Env → Rs RV} {R : VK} {op : D → D → Rs RV} {kk : Bool → Bool} (hop : ∀ x c, op x c = match memB x c with
    | some b => .ok (.sh (.bool (kk b)))
    | none => .bad) (I : RE X.K G0 H0 G H σ ρ) (hn : dictAt g ρ) (p : Post X.K X.mg E G0 H0 G H σ ρ R (cBin op f g ρ)) :
    (tEV X.K X.mg E f) σ H fun y H1 => (tEV X.K X.mg E g) σ H1 fun x H2 => ∃ a o, x = .ref a ∧ DGet H2 a y o ∧ R (.bl (kk o.isSome)) H2 := by
  obtain ⟨r, ds, er, ed⟩ := hn
  refine tEV_bind I p fun a G1 H1 v ea I1 m1 q1 p1 => tEV_bind I1 p1 fun b G2 H2 u eb I2 m2 q2 p2 => ?_
  rw [er] at eb
  cases eb
  have w1 := (q1.view I1.gh).mono m2.g m2.h
  have w2 := q2.view I2.gh
  rw [hop] at p2
  rw [ed] at w2 p2
  cases ht : isT ds with
  | true =>
    exfalso
    have e : memB a.val (.dict ds) = none := by
      cases a.val <;> simp [memB, ht]
    rw [e] at p2
    exact p2
  | false =>
    obtain ⟨x, kvs, rfl, h1, h2⟩ := w2.dK ht
    have e : memB a.val (.dict ds) = (dKey a.val).map fun k => dHas k ds := by
      cases a.val <;> simp [memB, ht]
    rw [e] at p2
    cases hk : dKey a.val with
    | none => rw [hk] at p2; exact p2.bad
    | some k =>
      rw [hk] at p2
      refine ⟨x, valV kvs k, rfl, .inl ⟨kvs, k, .inl h1, dKey_view hk w1, rfl⟩, ?_⟩
      have e2 : dHas k ds = (valV kvs k).isSome := by
        rw [dHas_look]
        rcases h2.look k with ⟨e1, e2⟩ | ⟨d', v', e1, e2, _⟩
        · rw [e1, e2]; rfl
        · rw [e1, e2]; rfl
      simp only [Option.map_some, e2] at p2
      exact p2.fin I2 (.bl _)
theorem ev_in {a b : Expr} {pos : Pos} {f g : Env → Rs RV} (hu : X.A.units + 65 < cLine) (ha : EV X E a f) (hb : EV X E b g) (hm : behindInMarks .In b = false) : EV X E (.Compare a [.In] [b] pos) (cBin dIn f g) := by
  refine ev_of (PE.or (pe_cmpR (op_memI hu) ha hb hm) (pe_cmp (pc_din (by omega) ha hb) hm)) fun G0 H0 G H σ ρ Q I p => ?_
  by_cases h : dictAt g ρ
  · exact .inr (in_right (kk := fun b => b) (fun x c => rfl) I h p)
  · exact .inl (in_left (neg := false) I h p)
theorem ev_notin {a b : Expr} {pos : Pos} {f g : Env → Rs RV} (hu : X.A.units + 65 < cLine) (ha : EV X E a f) (hb : EV X E b g) (hm : behindInMarks .NotIn b = false) : EV X E (.Compare a [.NotIn] [b] pos) (cBin dNotIn f g) := by
  refine ev_of (PE.or (pe_cmpR (op_memN hu) ha hb hm) (pe_cmp (pc_dnotin (by omega) ha hb) hm)) fun G0 H0 G H σ ρ Q I p => ?_
  by_cases h : dictAt g ρ
  · exact .inr (in_right (kk := fun b => !b) (fun x c => rfl) I h p)
  · exact .inl (in_left (neg := true) I h p)
theorem tv_in {a b : Expr} {pos : Pos} {f g : Env → Rs RV} (hu : X.A.units + 65 < cLine) (ha : EV X E a f) (hb : EV X E b g) (hm : behindInMarks .In b = false) : TV X E (.Compare a [.In] [b] pos) (cBin dIn f g) := by
  refine PT.weak (PT.or (pt_cmpR (op_memI hu) ha hb hm) (pt_cmp (pc_din (by omega) ha hb) hm)) fun σ H Q ⟨G0, H0, G, ρ, I, p⟩ => ?_
  by_cases h : dictAt g ρ
  · exact .inr (in_right (kk := fun b => b) (fun x c => rfl) I h p)
  · exact .inl (in_left (neg := false) I h p)
theorem tv_notin {a b : Expr} {pos : Pos} {f g : Env → Rs RV} (hu : X.A.units + 65 < cLine) (ha : EV X E a f) (hb : EV X E b g) (hm : behindInMarks .NotIn b = false) : TV X E (.Compare a [.NotIn] [b] pos) (cBin dNotIn f g) := by
  refine PT.weak (PT.or (pt_cmpR (op_memN hu) ha hb hm) (pt_cmp (pc_dnotin (by omega) ha hb) hm)) fun σ H Q ⟨G0, H0, G, ρ, I, p⟩ => ?_
  by_cases h : dictAt g ρ
  · exact .inr (in_right (kk := fun b => !b) (fun x c => rfl) I h p)
  · exact .inl (in_left (neg := true) I h p)

/-! is None -/
theorem od_isN : OpD X E dIsN (fun x y H Q => y = .non ∧ Q (.bl (decide (x = .non))) H) := by
  intro G0 H0 G H σ ρ x y v u Q I wx wy p
  cases y <;> first | exact p.bad | skip
  refine ⟨wy.non, ?_⟩
  cases x with
  | none => rw [wx.non]; exact p.fin I (.bl _)
  | bool b => rw [wx.bl]; exact p.fin I (.bl _)
  | int b => rw [wx.int]; exact p.fin I (.bl _)
  | str b => rw [wx.str]; exact p.fin I (.bl _)
  | list ds => obtain ⟨_, _, rfl, _⟩ := wx; exact p.fin I (.bl _)
  | tuple ds => obtain ⟨_, _, rfl, _⟩ := wx.tup I.gh; exact p.fin I (.bl _)
  | dict ds => obtain ⟨_, rfl, _⟩ := wx; exact p.fin I (.bl _)
theorem od_notN : OpD X E dNotN (fun x y H Q => y = .non ∧ Q (.bl (!decide (x = .non))) H) := by
  intro G0 H0 G H σ ρ x y v u Q I wx wy p
  cases y <;> first | exact p.bad | skip
  refine ⟨wy.non, ?_⟩
  cases x with
  | none => rw [wx.non]; exact p.fin I (.bl _)
  | bool b => rw [wx.bl]; exact p.fin I (.bl _)
  | int b => rw [wx.int]; exact p.fin I (.bl _)
  | str b => rw [wx.str]; exact p.fin I (.bl _)
  | list ds => obtain ⟨_, _, rfl, _⟩ := wx; exact p.fin I (.bl _)
  | tuple ds => obtain ⟨_, _, rfl, _⟩ := wx.tup I.gh; exact p.fin I (.bl _)
  | dict ds => obtain ⟨_, rfl, _⟩ := wx; exact p.fin I (.bl _)

/-! subscripts -/
theorem atI_rep {xs : List D} {vs : List V} (r : Reps K G xs vs) {i : Int} : (atI xs i = none) ∨ ∃ d v, atI xs i = some d ∧ atI vs i = some v ∧ Rep K G d v := by
  unfold atI
  rw [r.length]
  cases e : ixN xs.length i with
  | none => exact .inl rfl
  | some j =>
    cases h : xs[j]? with
    | none => left; simp [h]
    | some d =>
      obtain ⟨v, h1, h2⟩ := r.get h
      exact .inr ⟨d, v, by simp [h], by simp [h1], h2⟩
theorem ev_sub {a b : Expr} {pos : Pos} {f g : Env → Rs RV} (hu : X.A.units + 65 < cLine) (ha : EV X E a f) (hb : EV X E b g) (hs : PlainIx b) : EV X E (.Subscript a b pos) (cBin dIx f g) := by
  refine ev_of (PE.or (pe_ix ix_seq ha hb hs) (pe_dget (by omega) ha hb hs)) fun G0 H0 G H σ ρ Q I p => ?_
  by_cases h : dictAt f ρ
  · right
    obtain ⟨r, ds, er, ed⟩ := h
    refine tEV_bind I p fun a G1 H1 v ea I1 m1 q1 p1 => tEV_bind I1 p1 fun b G2 H2 u eb I2 m2 q2 p2 => ?_
    rw [er] at ea
    cases ea
    have w1 := (q1.view I1.gh).mono m2.g m2.h
    have w2 := q2.view I2.gh
    rw [ed] at w1 p2
    unfold dIx at p2
    cases ht : isT ds with
    | true => simp only [ht, if_true] at p2; exact p2.bad
    | false =>
      simp only [ht, if_neg Bool.false_ne_true] at p2
      obtain ⟨x, kvs, rfl, h1, h2⟩ := w1.dK ht
      cases hk : dKey b.val with
      | none => rw [hk] at p2; exact p2.bad
      | some k =>
        rw [hk] at p2
        rcases h2.look k with ⟨e1, e2⟩ | ⟨d', v', e1, e2, rr⟩
        · simp only [e1] at p2; exact p2.bad
        · simp only [e1] at p2
          exact ⟨x, v', rfl, .inl ⟨kvs, k, .inl h1, dKey_view hk w2, e2.symm⟩, p2.fin I2 rr⟩
  · left
    refine tEV_bind I p fun a G1 H1 v ea I1 m1 q1 p1 => tEV_bind I1 p1 fun b G2 H2 u eb I2 m2 q2 p2 => ?_
    have w1 := (q1.view I1.gh).mono m2.g m2.h
    have w2 := q2.view I2.gh
    have hnd : ∀ ds, a.val ≠ .dict ds := fun ds z => h ⟨a, ds, ea, z⟩
    revert p2 w1 w2 hnd
    cases a.val <;> cases b.val <;> intro p2 w1 w2 hnd
    case list.int xs i =>
      obtain ⟨x, vs, rfl, h1, h2⟩ := w1
      rcases atI_rep (i := i) h2 with e | ⟨d, z, e1, e2, rr⟩
      · simp only [dIx, e] at p2; exact p2.bad
      · simp only [dIx, e1] at p2
        exact .inl ⟨x, vs, i, z, rfl, w2.int, h1, e2, p2.fin I2 rr⟩
    case tuple.int xs i =>
      obtain ⟨x, vs, rfl, h1, h1', h2⟩ := w1.tup I2.gh
      rcases atI_rep (i := i) h2 with e | ⟨d, z, e1, e2, rr⟩
      · simp only [dIx, e] at p2; exact p2.bad
      · simp only [dIx, e1] at p2
        exact .inr (.inl ⟨x, vs, i, z, rfl, w2.int, h1, e2, p2.fin I2 rr⟩)
    case str.int z i =>
      by_cases hz : z.length ≤ sizeLine
      · cases e : atI z.cps.toList i with
        | none => simp only [dIx, e, if_pos hz] at p2; exact p2.bad
        | some c =>
          simp only [dIx, e, if_pos hz] at p2
          exact .inr (.inr ⟨z, i, c, w1.str, w2.int, hz, e, p2.fin I2 (.str _)⟩)
      · simp only [dIx, if_neg hz] at p2; exact p2.bad
    all_goals first
      | exact absurd rfl (hnd _)
      | exact p2.bad

/-! slices -/
def tOV (K : PySem.W.Frag) (mg : Str → Option Value) (E : XK) : Option (Env → Rs RV) → TO
  | none => tNoPart
  | some f => tPart (tEV K mg E f)
def OV (X : Cx) (E : XK) (e : Option Expr) (f : Option (Env → Rs RV)) : Prop := PO X e (tOV X.K X.mg E f)
theorem ov_none : OV X E none none := po_none
theorem ov_some {e : Expr} {f : Env → Rs RV} (h : EV X E e f) : OV X E (some e) (some f) := po_some h
def cPart (f : Option (Env → Rs RV)) (ρ : Env) : Rs (Option Int) := match f with
  | none => .ok none
  | some f => (f ρ).bind fun r => match r.val with
    | .int i => .ok (some i)
    | _ => .bad
def cSl (f : Env → Rs RV) (lo hi : Option (Env → Rs RV)) : Env → Rs RV := fun ρ => (f ρ).bind fun a => (cPart lo ρ).bind fun l => (cPart hi ρ).bind fun h => dSl a.val l h
theorem part_bind {f : Option (Env → Rs RV)} {g : Option Int → Rs RV} {R : Option Int → Hp → Prop} (I : RE X.K G0 H0 G H σ ρ) (p : Post X.K X.mg E G0 H0 G H σ ρ Q ((cPart f ρ).bind g))
    (h : ∀ i G1 H1, RE X.K G0 H0 G1 H1 σ ρ → Mon G H G1 H1 → Post X.K X.mg E G0 H0 G1 H1 σ ρ Q (g i) → R i H1) : tOV X.K X.mg E f σ H R := by
  cases f with
  | none => exact h none G H I (Mon.refl _ _) p
  | some f =>
    have p' : Post X.K X.mg E G0 H0 G H σ ρ Q ((f ρ).bind fun r => match r.val with
      | .int i => g (some i)
      | _ => .bad) := by
      cases e : f ρ with
      | bad => simp only [cPart, e] at p; exact p
      | ex x => simp only [cPart, e] at p; exact p
      | ok r =>
        simp only [cPart, e, Rs.bind_ok] at p ⊢
        revert p
        cases r.val <;> intro p <;> exact p
    refine tEV_bind I p' fun r G1 H1 v er I1 m1 q1 p1 => ?_
    have w := q1.view I1.gh
    revert p1 w
    cases r.val <;> intro p1 w
    case int i => exact ⟨i, w.int, h (some i) G1 H1 I1 m1 p1⟩
    all_goals exact p1.bad
theorem cut_rep {xs : List D} {vs : List V} (r : Reps K G xs vs) (lo hi : Option Int) : Reps K G (cutD xs lo hi) (cutV vs lo hi) := by
  unfold cutD cutV
  rw [r.length]
  exact (r.drop _).take _
theorem ev_slice {e : Expr} {lo hi : Option Expr} {pos p2 : Pos} {f : Env → Rs RV} {l h : Option (Env → Rs RV)} (he : EV X E e f) (hl : OV X E lo l) (hh : OV X E hi h) : EV X E (.Subscript e (.Slice lo hi none p2) pos) (cSl f l h) := by
  refine ev_of (pe_slice (SlR.or sl_list (SlR.or sl_tupA sl_str)) he hl hh) fun G0 H0 G H σ ρ Q I p => ?_
  refine tEV_bind I p fun a G1 H1 v ea I1 m1 q1 p1 => part_bind I1 p1 fun i G2 H2 I2 m2 p2 => part_bind I2 p2 fun j G3 H3 I3 m3 p3 => ?_
  have w := ((q1.view I1.gh).mono m2.g m2.h).mono m3.g m3.h
  revert p3 w
  cases a.val <;> intro p3 w
  case list xs =>
    obtain ⟨x, vs, rfl, h1, h2⟩ := w
    exact .inl ⟨x, vs, rfl, h1, p3.own I3 (cut_rep h2 i j)⟩
  case tuple xs =>
    obtain ⟨x, vs, rfl, h1, h1', h2⟩ := w.tup I3.gh
    refine .inr (.inl ⟨x, vs, rfl, h1, fun hw => ?_, fun _ => p3.newT I3 (cut_rep h2 i j)⟩)
    have e : cutD xs i j = xs := by
      unfold cutD
      rw [h2.length] at hw
      rw [hw.1, hw.2, List.drop_zero, Nat.sub_zero, List.take_length]
    have p4 : Post X.K X.mg E G0 H0 G3 H3 σ ρ Q (.ok (.sh (.tuple (cutD xs i j)))) := p3
    rw [e] at p4
    exact p4.fin I3 (.tup h1' h2)
  case str z =>
    by_cases hz : z.length ≤ sizeLine
    · simp only [dSl, if_pos hz] at p3
      exact .inr (.inr ⟨z, w.str, hz, p3.fin I3 (.str _)⟩)
    · simp only [dSl, if_neg hz] at p3; exact p3.bad
  all_goals exact p3.bad
def dRev (x : D) : Rs RV := match x with
  | .list xs => .ok (.fr (.list xs.reverse))
  | _ => .bad
theorem ev_rev {e : Expr} {k : Nat} {p1 p2 p3 pos : Pos} {f : Env → Rs RV} (he : EV X E e f) : EV X E (.Subscript e (.Slice none none (some (.UnaryOp .USub (.Constant (.int 1) k p1) p2)) p3) pos) (cUn dRev f) := by
  refine ev_of (pe_revL he) fun G0 H0 G H σ ρ Q I p => tEV_bind I p fun a G1 H1 v ea I1 m1 q1 p1 => ?_
  have w := q1.view I1.gh
  revert p1 w
  cases a.val <;> intro p1 w
  case list xs =>
    obtain ⟨x, vs, rfl, h1, h2⟩ := w
    exact ⟨x, vs, rfl, h1, p1.own I1 h2.reverse⟩
  all_goals exact p1.bad

/-! ### built-in functions -/
def intsOf : List D → Option (List Int)
  | [] => some []
  | .int i :: r => (intsOf r).map (i :: ·)
  | _ :: _ => none
def blsOf : List D → Option (List Bool)
  | [] => some []
  | .bool i :: r => (blsOf r).map (i :: ·)
  | _ :: _ => none
theorem intsOf_some : ∀ {ds : List D} {ns : List Int}, intsOf ds = some ns → ds = ns.map PyData.int
  | [], ns, h => by
    cases h
    rfl
  | d :: r, ns, h => by
    cases d <;> simp only [intsOf, Option.map_eq_some_iff] at h <;> first | cases h | skip
    rename_i i ms h
    obtain ⟨h1, rfl⟩ := h
    rw [intsOf_some h1]
    rfl
theorem blsOf_some : ∀ {ds : List D} {ns : List Bool}, blsOf ds = some ns → ds = ns.map PyData.bool
  | [], ns, h => by
    cases h
    rfl
  | d :: r, ns, h => by
    cases d <;> simp only [blsOf, Option.map_eq_some_iff] at h <;> first | cases h | skip
    rename_i i ms h
    obtain ⟨h1, rfl⟩ := h
    rw [blsOf_some h1]
    rfl
@[simp] theorem intsOf_map (ns : List Int) : intsOf (ns.map PyData.int) = some ns := by
  induction ns with
  | nil => rfl
  | cons n ns ih => rw [List.map_cons, intsOf, ih]; rfl
@[simp] theorem blsOf_map (ns : List Bool) : blsOf (ns.map PyData.bool) = some ns := by
  induction ns with
  | nil => rfl
  | cons n ns ih => rw [List.map_cons, blsOf, ih]; rfl
def dLen : List D → Rs RV
  | [.list xs] => .ok (.sh (.int xs.length))
  | [.tuple xs] => .ok (.sh (.int xs.length))
  | [.str z] => if z.length ≤ sizeLine then .ok (.sh (.int z.length)) else .bad
  | _ => .bad
def dList : List D → Rs RV
  | [.list xs] => .ok (.fr (.list xs))
  | [.tuple xs] => .ok (.fr (.list xs))
  | _ => .bad
def dTuple : List D → Rs RV
  | [.list xs] => .ok (.sh (.tuple xs))
  | [.tuple xs] => .ok (.sh (.tuple xs))
  | _ => .bad
def dSum : List D → Rs RV
  | [.list xs] => match intsOf xs with
    | some ns => .ok (.sh (.int ns.sum))
    | none => .bad
  | _ => .bad
def dAll : List D → Rs RV
  | [.list xs] => match blsOf xs with
    | some ns => .ok (.sh (.bool (ns.all id)))
    | none => .bad
  | _ => .bad
def dAny : List D → Rs RV
  | [.list xs] => match blsOf xs with
    | some ns => .ok (.sh (.bool (ns.any id)))
    | none => .bad
  | _ => .bad
def dMax : List D → Rs RV
  | [.int i, .int j] => .ok (.sh (.int (max i j)))
  | _ => .bad
def dMin : List D → Rs RV
  | [.int i, .int j] => .ok (.sh (.int (min i j)))
  | _ => .bad
def dAbs : List D → Rs RV
  | [.int i] => .ok (.sh (.int i.natAbs))
  | _ => .bad
def dInt : List D → Rs RV
  | [.int i] => .ok (.sh (.int i))
  | [.bool b] => .ok (.sh (.int (if b then 1 else 0)))
  | _ => .bad
def dStr : List D → Rs RV
  | [.int i] => if i.natAbs.log2 < 1920 then .ok (.sh (.str (toString i))) else .bad
  | _ => .bad
/-- sorted whole numbers -/
def sortI (ns : List Int) : List Int := ns.mergeSort (fun a b => decide (a ≤ b))
def dSorted : List D → Rs RV
  | [.list xs] => match intsOf xs with
    | some ns => .ok (.fr (.list ((sortI ns).map PyData.int)))
    | none => .bad
  | _ => .bad
theorem paired1 {d : D} {vs : List V} {P : D → V → Prop} (h : Paired P [d] vs) : ∃ v, vs = [v] ∧ P d v := by
  cases h with
  | cons a b =>
    cases b
    exact ⟨_, rfl, a⟩
theorem paired2 {d e : D} {vs : List V} {P : D → V → Prop} (h : Paired P [d, e] vs) : ∃ v u, vs = [v, u] ∧ P d v ∧ P e u := by
  cases h with
  | cons a b =>
    cases b with
    | cons c d =>
      cases d
      exact ⟨_, _, rfl, a, c⟩
theorem cd_len : CallD X E dLen (fun xs H Q => ∃ x n, xs = [x] ∧ LenV X.K x H n ∧ Q (.int n) H) := by
  intro G0 H0 G H σ ρ ds vs Q I w p
  match ds, w, p with
  | [.list xs], w, p =>
    obtain ⟨v, rfl, a, us, rfl, h1, h2⟩ := paired1 w
    exact ⟨_, us.length, rfl, .inl ⟨us, h1, rfl⟩, by rw [h2.length]; exact p.fin I (.int _)⟩
  | [.tuple xs], w, p =>
    obtain ⟨v, rfl, w1⟩ := paired1 w
    obtain ⟨a, us, rfl, h1, _, h2⟩ := w1.tup I.gh
    exact ⟨_, us.length, rfl, .inr ⟨us, h1, rfl⟩, by rw [h2.length]; exact p.fin I (.int _)⟩
  | [.str z], w, p =>
    obtain ⟨v, rfl, w1⟩ := paired1 w
    by_cases hz : z.length ≤ sizeLine
    · simp only [dLen, if_pos hz] at p
      exact ⟨.str z, z.length, by rw [w1.str], ⟨hz, rfl⟩, p.fin I (.int _)⟩
    · simp only [dLen, if_neg hz] at p; exact p.bad
  | [], w, p => exact p.bad
  | [.none], w, p => exact p.bad
  | [.bool _], w, p => exact p.bad
  | [.int _], w, p => exact p.bad
  | [.dict _], w, p => exact p.bad
  | _ :: _ :: _, w, p => exact (by simpa [dLen, Post] using p : False).elim
theorem cd_list : CallD X E dList (fun xs H Q => ∃ p ys, xs = [.ref p] ∧ (SqL X.K H p ys ∨ SqT X.K H p ys) ∧ ∀ l, H l = none → Q (.ref l) (upd H l (.lst ys))) := by
  intro G0 H0 G H σ ρ ds vs Q I w p
  match ds, w, p with
  | [.list xs], w, p =>
    obtain ⟨v, rfl, a, us, rfl, h1, h2⟩ := paired1 w
    exact ⟨_, us, rfl, .inl h1, p.own I h2⟩
  | [.tuple xs], w, p =>
    obtain ⟨v, rfl, w1⟩ := paired1 w
    obtain ⟨a, us, rfl, h1, _, h2⟩ := w1.tup I.gh
    exact ⟨_, us, rfl, .inr h1, p.own I h2⟩
  | [], w, p => exact p.bad
  | [.none], w, p => exact p.bad
  | [.bool _], w, p => exact p.bad
  | [.int _], w, p => exact p.bad
  | [.str _], w, p => exact p.bad
  | [.dict _], w, p => exact p.bad
  | _ :: _ :: _, w, p => exact (by simpa [dList, Post] using p : False).elim
theorem cd_tuple : CallD X E dTuple (fun xs H Q => ∃ p ys, xs = [.ref p] ∧ ((SqL X.K H p ys ∧ ∀ l, H l = none → Q (.ref l) (upd H l (.tup ys))) ∨ (SqT X.K H p ys ∧ Q (.ref p) H))) := by
  intro G0 H0 G H σ ρ ds vs Q I w p
  match ds, w, p with
  | [.list xs], w, p =>
    obtain ⟨v, rfl, a, us, rfl, h1, h2⟩ := paired1 w
    exact ⟨_, us, rfl, .inl ⟨h1, p.newT I h2⟩⟩
  | [.tuple xs], w, p =>
    obtain ⟨v, rfl, w1⟩ := paired1 w
    obtain ⟨a, us, rfl, h1, h1', h2⟩ := w1.tup I.gh
    exact ⟨_, us, rfl, .inr ⟨h1, p.fin I (.tup h1' h2)⟩⟩
  | [], w, p => exact p.bad
  | [.none], w, p => exact p.bad
  | [.bool _], w, p => exact p.bad
  | [.int _], w, p => exact p.bad
  | [.str _], w, p => exact p.bad
  | [.dict _], w, p => exact p.bad
  | _ :: _ :: _, w, p => exact (by simpa [dTuple, Post] using p : False).elim
theorem one_list {φ : List D → Rs RV} (h : ∀ ds, (∀ xs, ds ≠ [.list xs]) → φ ds = .bad) {r : List V → Hp → VK → Prop}
    (hl : ∀ G0 H0 G H σ ρ xs a us Q, RE X.K G0 H0 G H σ ρ → SqL X.K H a us → Reps X.K G xs us → Post X.K X.mg E G0 H0 G H σ ρ Q (φ [.list xs]) → r [.ref a] H Q) : CallD X E φ r := by
  intro G0 H0 G H σ ρ ds vs Q I w p
  by_cases e : ∃ xs, ds = [.list xs]
  · obtain ⟨xs, rfl⟩ := e
    obtain ⟨v, rfl, a, us, rfl, h1, h2⟩ := paired1 w
    exact hl _ _ _ _ _ _ _ _ _ _ I h1 h2 p
  · rw [h ds fun xs z => e ⟨xs, z⟩] at p
    exact p.bad
theorem only_list {φ : List D → Rs RV} (h0 : φ [] = .bad) (h1 : ∀ d, (∀ xs, d ≠ .list xs) → φ [d] = .bad) (h2 : ∀ d e r, φ (d :: e :: r) = .bad) : ∀ ds, (∀ xs, ds ≠ [.list xs]) → φ ds = .bad
  | [], _ => h0
  | [d], h => h1 d fun xs z => h xs (by rw [z])
  | d :: e :: r, _ => h2 d e r
theorem cd_sum : CallD X E dSum (rSum X.K) := by
  refine one_list (only_list rfl (fun d h => ?_) fun d e r => by cases d <;> rfl) fun G0 H0 G H σ ρ xs a us Q I h1 h2 p => ?_
  · cases d <;> first | rfl | exact absurd rfl (h _)
  · cases e : intsOf xs with
    | none => simp only [dSum, e] at p; exact p.bad
    | some ns =>
      simp only [dSum, e] at p
      have := intsOf_some e
      subst this
      have e2 := h2.ints
      subst e2
      exact ⟨a, ns, rfl, h1, p.fin I (.int _)⟩
theorem cd_all : CallD X E dAll (rAll X.K) := by
  refine one_list (only_list rfl (fun d h => ?_) fun d e r => by cases d <;> rfl) fun G0 H0 G H σ ρ xs a us Q I h1 h2 p => ?_
  · cases d <;> first | rfl | exact absurd rfl (h _)
  · cases e : blsOf xs with
    | none => simp only [dAll, e] at p; exact p.bad
    | some ns =>
      simp only [dAll, e] at p
      have := blsOf_some e
      subst this
      have e2 := h2.bls
      subst e2
      exact ⟨a, ns, rfl, h1, p.fin I (.bl _)⟩
theorem cd_any : CallD X E dAny (rAny X.K) := by
  refine one_list (only_list rfl (fun d h => ?_) fun d e r => by cases d <;> rfl) fun G0 H0 G H σ ρ xs a us Q I h1 h2 p => ?_
  · cases d <;> first | rfl | exact absurd rfl (h _)
  · cases e : blsOf xs with
    | none => simp only [dAny, e] at p; exact p.bad
    | some ns =>
      simp only [dAny, e] at p
      have := blsOf_some e
      subst this
      have e2 := h2.bls
      subst e2
      exact ⟨a, ns, rfl, h1, p.fin I (.bl _)⟩
theorem sortI_perm (ns : List Int) : (sortI ns).Perm ns := List.mergeSort_perm _ _
theorem sortI_ord (ns : List Int) : (sortI ns).Pairwise (· ≤ ·) := by
  have h := List.pairwise_mergeSort (le := fun a b : Int => decide (a ≤ b)) (by intro a b c; simp; omega) (by intro a b; simp; omega) ns
  exact h.imp fun z => of_decide_eq_true z
theorem sorted_uniq : ∀ {l m : List Int}, l.Perm m → l.Pairwise (· ≤ ·) → m.Pairwise (· ≤ ·) → l = m
  | [], m, p, _, _ => (List.Perm.nil_eq p)
  | x :: l, [], p, _, _ => absurd p.length_eq (by simp)
  | x :: l, y :: m, p, hl, hm => by
    have h1 : x ≤ y := by
      rcases List.mem_cons.mp (p.mem_iff.mpr (List.mem_cons_self (a := y) (l := m))) with e | h
      · omega
      · exact (List.pairwise_cons.mp hl).1 y h
    have h2 : y ≤ x := by
      rcases List.mem_cons.mp (p.mem_iff.mp (List.mem_cons_self (a := x) (l := l))) with e | h
      · omega
      · exact (List.pairwise_cons.mp hm).1 x h
    have e : x = y := by omega
    subst e
    rw [sorted_uniq p.cons_inv (List.pairwise_cons.mp hl).2 (List.pairwise_cons.mp hm).2]
theorem cd_sorted : CallD X E dSorted (rSortedI X.K) := by
  refine one_list (only_list rfl (fun d h => ?_) fun d e r => by cases d <;> rfl) fun G0 H0 G H σ ρ xs a us Q I h1 h2 p => ?_
  · cases d <;> first | rfl | exact absurd rfl (h _)
  · cases e : intsOf xs with
    | none => simp only [dSorted, e] at p; exact p.bad
    | some ns =>
      simp only [dSorted, e] at p
      have := intsOf_some e
      subst this
      have e2 := h2.ints
      subst e2
      refine ⟨a, ns, rfl, h1, fun ns' q hp hs nq => ?_⟩
      have e3 : ns' = sortI ns := sorted_uniq (hp.trans (sortI_perm ns).symm) hs (sortI_ord ns)
      subst e3
      exact p.own I (.of_ints _) q nq
theorem cd_max : CallD X E dMax (fun xs H Q => ∃ i j, xs = [.int i, .int j] ∧ Q (.int (if j > i then j else i)) H) := by
  intro G0 H0 G H σ ρ ds vs Q I w p
  by_cases e : ∃ i j, ds = [.int i, .int j]
  · obtain ⟨i, j, rfl⟩ := e
    obtain ⟨v, u, rfl, w1, w2⟩ := paired2 w
    refine ⟨i, j, by rw [w1.int, w2.int], ?_⟩
    have e : (if j > i then j else i) = max i j := by omega
    rw [e]
    exact p.fin I (.int _)
  · have : dMax ds = .bad := by
      unfold dMax
      split
      · rename_i i j
        exact absurd ⟨i, j, rfl⟩ e
      · rfl
    rw [this] at p
    exact p.bad
theorem cd_min : CallD X E dMin (fun xs H Q => ∃ i j, xs = [.int i, .int j] ∧ Q (.int (if j < i then j else i)) H) := by
  intro G0 H0 G H σ ρ ds vs Q I w p
  by_cases e : ∃ i j, ds = [.int i, .int j]
  · obtain ⟨i, j, rfl⟩ := e
    obtain ⟨v, u, rfl, w1, w2⟩ := paired2 w
    refine ⟨i, j, by rw [w1.int, w2.int], ?_⟩
    have e : (if j < i then j else i) = min i j := by omega
    rw [e]
    exact p.fin I (.int _)
  · have : dMin ds = .bad := by
      unfold dMin
      split
      · rename_i i j
        exact absurd ⟨i, j, rfl⟩ e
      · rfl
    rw [this] at p
    exact p.bad
theorem cd_abs : CallD X E dAbs (fun xs H Q => ∃ i, xs = [.int i] ∧ Q (.int (if i < 0 then -i else i)) H) := by
  intro G0 H0 G H σ ρ ds vs Q I w p
  by_cases e : ∃ i, ds = [.int i]
  · obtain ⟨i, rfl⟩ := e
    obtain ⟨v, rfl, w1⟩ := paired1 w
    refine ⟨i, by rw [w1.int], ?_⟩
    have e : (if i < 0 then -i else i) = ((i.natAbs : Nat) : Int) := by omega
    rw [e]
    exact p.fin I (.int _)
  · have : dAbs ds = .bad := by
      unfold dAbs
      split
      · rename_i i
        exact absurd ⟨i, rfl⟩ e
      · rfl
    rw [this] at p
    exact p.bad
theorem cd_int : CallD X E dInt (fun xs H Q => (∃ i, xs = [.int i] ∧ Q (.int i) H) ∨ ∃ k, xs = [.bl k] ∧ Q (.int (if k then 1 else 0)) H) := by
  intro G0 H0 G H σ ρ ds vs Q I w p
  by_cases e : ∃ i, ds = [.int i]
  · obtain ⟨i, rfl⟩ := e
    obtain ⟨v, rfl, w1⟩ := paired1 w
    exact .inl ⟨i, by rw [w1.int], p.fin I (.int _)⟩
  · by_cases e' : ∃ b, ds = [.bool b]
    · obtain ⟨i, rfl⟩ := e'
      obtain ⟨v, rfl, w1⟩ := paired1 w
      exact .inr ⟨i, by rw [w1.bl], p.fin I (.int _)⟩
    · have : dInt ds = .bad := by
        unfold dInt
        split
        · rename_i i
          exact absurd ⟨i, rfl⟩ e
        · rename_i i
          exact absurd ⟨i, rfl⟩ e'
        · rfl
      rw [this] at p
      exact p.bad
theorem cd_str : CallD X E dStr (fun xs H Q => ∃ i, xs = [.int i] ∧ i.natAbs.log2 < 1920 ∧ Q (.str (toString i)) H) := by
  intro G0 H0 G H σ ρ ds vs Q I w p
  by_cases e : ∃ i, ds = [.int i]
  · obtain ⟨i, rfl⟩ := e
    obtain ⟨v, rfl, w1⟩ := paired1 w
    by_cases h : i.natAbs.log2 < 1920
    · simp only [dStr, if_pos h] at p
      exact ⟨i, by rw [w1.int], h, p.fin I (.str _)⟩
    · simp only [dStr, if_neg h] at p
      exact p.bad
  · have : dStr ds = .bad := by
      unfold dStr
      split
      · rename_i i
        exact absurd ⟨i, rfl⟩ e
      · rfl
    rw [this] at p
    exact p.bad
end
end VL

set_option Elab.async false
set_option linter.all false
set_option maxRecDepth 100000
set_option maxHeartbeats 4000000
/-! part VL5: isinstance, calls of defs, what is walked, targets, comprehensions, over trees. -/
namespace VL
open PySem PySem.Spec PyProof.Rows L2

/-- no exception -/
abbrev Eno : XK := fun _ _ _ => False
def tyD : D → String
  | .none => "NoneType"
  | .bool _ => "bool"
  | .int _ => "int"
  | .str _ => "str"
  | .list _ => "list"
  | .tuple _ => "tuple"
  | .dict _ => "dict"
/-- isinstance(x, n), n a built-in class -/
def isiB (n : String) (d : D) : Bool := tyD d == n || (n == "int" && tyD d == "bool")
def isiOk (n : String) : Bool := ["int", "bool", "str", "list", "tuple", "dict"].contains n
def dIsi (n : String) (d : D) : Rs RV := match d with
  | .dict ds => if isT ds then .bad else .ok (.sh (.bool (isiB n d)))
  | _ => .ok (.sh (.bool (isiB n d)))

section
variable {X : Cx} {E : XK} {K : PySem.W.Frag} {mg : Str → Option Value} {G0 H0 G H G1 H1 G' H' Hb : Hp} {σ : St} {ρ : Env} {Q : VK}
theorem tyx_of (gh : Same G H) {d : D} {v : V} (w : View K G H d v) (hn : ∀ ds, d = .dict ds → isT ds = false) : TyX K H v (.type (tyD d)) := by
  cases d with
  | none => rw [w.non]; exact .base .non
  | bool b => rw [w.bl]; exact .base (.bl _)
  | int i => rw [w.int]; exact .base (.int _)
  | str x => rw [w.str]; exact .base (.str _)
  | list ds =>
    obtain ⟨a, vs, rfl, h, _⟩ := w
    rcases h with (h | ⟨o, h⟩) | ⟨o, its, n, h1, h2, _⟩
    · exact .base (.lst h)
    · exact .base (.frz h)
    · exact .kList h1 h2
  | tuple ds =>
    obtain ⟨a, vs, rfl, h, _⟩ := w.tup gh
    rcases h with (h | ⟨o, h⟩) | ⟨o, its, n, h1, h2, _⟩
    · exact .base (.tup h)
    · exact .fTuple h
    · exact .kTuple h1 h2
  | dict ds =>
    obtain ⟨a, kvs, rfl, h, _⟩ := w.dK (hn ds rfl)
    exact .base (.dK h)
theorem kit_table : ∀ n ∈ ["int", "bool", "str", "list", "tuple", "dict"], ∀ t ∈ ["NoneType", "bool", "int", "str", "list", "tuple", "dict"], kitB t n = some (t == n || (n == "int" && t == "bool")) := by decide +kernel
theorem kit_all {n : String} (hn : isiOk n = true) (d : D) : kitB (tyD d) n = some (isiB n d) := by
  unfold isiOk at hn
  rw [List.contains_eq_mem, decide_eq_true_eq] at hn
  exact kit_table n hn _ (by cases d <;> simp [tyD])
theorem ev_isi {n : String} {x : Str} {e : Expr} {p p2 pos : Pos} {f : Env → Rs RV} (hn : isiOk n = true) (hg : Gl X "isinstance") (hm : X.mg "isinstance" = none) (hg2 : Gl X x) (hm2 : X.mg x = none) (hv : bootBuiltins x = some (.type n)) (ha : EV X E e f)
    (he : starEach [e, .Name x p2] X.env = (false, eval e X.env) :: starEach [.Name x p2] X.env) (hx : x ≠ "__name__") (hdb : (x == ("__debug__" : Str)) = false) :
    EV X E (.Call (.Name "isinstance" p) [e, .Name x p2] [] pos) (cUn (dIsi n) f) := by
  have hp : PA X [.Name x p2] (tCons (tC (.ty n)) tNil) := pa_cons (pe_bltn (v := .ty n) hg2 hm2 hv rfl hx hdb) pa_nil rfl
  refine ev_of (pe_callB call_isi hg hm boot_isinstance (pa_cons ha hp he) (by decide) (by decide) he (by rfl)) fun G0 H0 G H σ ρ Q I p => ?_
  refine tEV_bind I p fun a G1 H1 v ea I1 m1 q1 p1 => ?_
  have w := q1.view I1.gh
  have fin : ∀ {d : D}, View X.K G1 H1 d v → (∀ ds, d = .dict ds → isT ds = false) → Q (.bl (isiB n d)) H1 → rIsi X.K [v, .ty n] H1 Q := fun {d} w hd q => ⟨v, _, _, _, _, rfl, .ty n, tyx_of I1.gh w hd, kit_ty (kit_all hn d), q⟩
  revert p1 w
  generalize a.val = d
  intro p1 w
  cases d with
  | dict ds =>
    cases ht : isT ds with
    | true => simp only [dIsi, ht, if_true] at p1; exact p1.bad
    | false =>
      simp only [dIsi, ht, if_neg Bool.false_ne_true] at p1
      exact fin w (fun ds' e => by cases e; exact ht) (p1.fin I1 (.bl _))
  | _ => exact fin w (fun ds' e => by cases e) (p1.fin I1 (.bl _))

/-! ### calls of defs -/
def retRV : RV → RV
  | .ow d => .fr d
  | r => r
@[simp] theorem retRV_sh (d : D) : retRV (.sh d) = .sh d := rfl
@[simp] theorem retRV_fr (d : D) : retRV (.fr d) = .fr d := rfl
@[simp] theorem retRV_ow (d : D) : retRV (.ow d) = .fr d := rfl
/-- what a def promises that tells φ of its n arguments -/
def spO (K : PySem.W.Frag) (mg : Str → Option Value) (n : Nat) (φ : List D → Rs RV) : Sp := fun vs H Q E => vs.length = n ∧ ∃ G ds, Same G H ∧ Reps K G ds vs ∧ (match φ ds with
  | .bad => False
  | .ex x => XPost K mg E G H x
  | .ok r => ∀ G' H' v, Mon G H G' H' → Same G' H' → RVal K H H G' H' r v → Q v H')
/-- a def that keeps to it, known by the name x -/
structure FnD (P : Program) (w : World) (K : PySem.W.Frag) (mg : Str → Option Value) (base : Heap) (k : Nat) (x : Str) (n : Nat) (φ : List D → Rs RV) : Prop where
  ok : ∃ f fd ps, FnOk P w K mg base (L2.CX P w) k f fd ps (spO K mg n φ) ∧ mg x = some (.ref f) ∧ PySem.W.keepIn K (.ref f) = true ∧ Binds K fd ps []
mutual
/-- no list (dict) stands in it -/
def noL : D → Bool
  | .list _ => false
  | .tuple ds => noLs ds
  | .dict ds => noLk ds
  | _ => true
def noLs : List D → Bool
  | [] => true
  | d :: ds => noL d && noLs ds
def noLk : List (D × D) → Bool
  | [] => true
  | (_, d) :: ds => noL d && noLk ds
end
mutual
def noD : D → Bool
  | .dict _ => false
  | .tuple ds => noDs ds
  | .list ds => noDs ds
  | _ => true
def noDs : List D → Bool
  | [] => true
  | d :: ds => noD d && noDs ds
end
def RV.owL : RV → Bool
  | .ow (.list _) => true
  | _ => false
def RV.owD : RV → Bool
  | .ow (.dict _) => true
  | _ => false
/-- a result that can't hold one of the own things that were handed on -/
def safeB (rs : List RV) : RV → Bool
  | .sh d => (!rs.any RV.owL || noL d) && (!rs.any RV.owD || noD d)
  | .fr (.list ds) => (!rs.any RV.owL || noLs ds) && (!rs.any RV.owD || noDs ds)
  | _ => false
/-- own lists are handed to a def only where what it tells can't hold them -/
def cCall (φ : List D → Rs RV) (f : Env → Rs (List RV)) : Env → Rs RV := fun ρ => (f ρ).bind fun rs => match shds rs with
  | .ok ds => (φ ds).bind fun r => .ok (retRV r)
  | _ => match φ (rs.map RV.val) with
    | .ok r => if safeB rs r then .ok r else .bad
    | _ => .bad
def ArN (f : Env → Rs (List RV)) (n : Nat) : Prop := ∀ ρ rs, f ρ = .ok rs → rs.length = n
theorem arN_nil : ArN cNil 0 := fun ρ rs h => by
  cases h
  rfl
theorem arN_cons {f : Env → Rs RV} {g : Env → Rs (List RV)} {n : Nat} (hg : ArN g n) : ArN (cCons f g) (n + 1) := fun ρ rs h => by
  unfold cCons at h
  cases er : f ρ with
  | bad => rw [er] at h; cases h
  | ex x => rw [er] at h; cases h
  | ok a =>
    rw [er, Rs.bind_ok] at h
    cases es : g ρ with
    | bad => rw [es] at h; cases h
    | ex x => rw [es] at h; cases h
    | ok as =>
      rw [es] at h
      cases h
      rw [List.length_cons, hg ρ as es]
theorem RVals.length : ∀ {rs : List RV} {vs : List V}, RVals K H0 Hb G H rs vs → vs.length = rs.length
  | [], _, h => by
    cases (show _ = [] from h)
    rfl
  | _ :: _, _, ⟨_, _, e, _, b⟩ => by
    subst e
    rw [List.length_cons, List.length_cons, RVals.length b]
/-- all own things put among the shared ones, for the time of a call; S tells which -/
theorem RVals.thaw (gh : Same G H) : ∀ {rs : List RV} {vs : List V}, (∀ r ∈ rs, ∀ d, r ≠ .fr d) → RVals K H0 Hb G H rs vs → ∃ (S : Addr → Prop) (G2 : Hp), Same G G2 ∧ Same G2 H ∧ Reps K G2 (rs.map RV.val) vs ∧ (∀ a, S a → G a = none ∧ H a ≠ none) ∧ (∀ a, G2 a ≠ none → G a = none → S a) ∧
    (rs.any RV.owL = false → ∀ a, S a → ∀ xs, H a ≠ some (.lst xs)) ∧ (rs.any RV.owD = false → ∀ a, S a → ∀ kvs, H a ≠ some (.dK kvs) ∧ ∀ kvs, H a ≠ some (.dT kvs)) ∧ (∀ a, S a → (∃ xs, H a = some (.lst xs)) ∨ (∃ xs, H a = some (.dK xs)) ∨ ∃ xs, H a = some (.dT xs))
  | [], _, _, h => by
    cases (show _ = [] from h)
    exact ⟨fun _ => False, G, Same.refl _, gh, .nil, fun a z => z.elim, fun a n z => absurd z n, fun _ a z => z.elim, fun _ a z => z.elim, fun a z => z.elim⟩
  | r :: rs, _, hn, ⟨v, us, e, a, b⟩ => by
    subst e
    obtain ⟨S, G2, s1, s2, r2, q1, q2, q3, q4, q5⟩ := RVals.thaw gh (fun r h d => hn r (List.mem_cons_of_mem _ h) d) b
    cases r with
    | fr d => exact absurd rfl (hn _ List.mem_cons_self d)
    | sh d =>
      exact ⟨S, G2, s1, s2, .cons (Rep.up s1 a) r2, q1, q2, fun h => q3 (by simpa [RV.owL] using h), fun h => q4 (by simpa [RV.owD] using h), q5⟩
    | ow d =>
      obtain ⟨p, rfl, _, gp, c⟩ := a
      obtain ⟨o, e⟩ := c.there
      have s3 : Same G2 (upd G2 p o) := fun b u q => by
        by_cases hb : b = p
        · subst hb
          rw [upd_same, ← e]
          exact s2 _ _ q
        · rw [upd_ne hb]; exact q
      have kind : (∃ xs ds, d = .list ds ∧ H p = some (.lst xs)) ∨ (∃ ds, d = .dict ds ∧ ((∃ xs, H p = some (.dK xs)) ∨ ∃ xs, H p = some (.dT xs))) := by
        cases d with
        | list ds =>
          obtain ⟨vs, h, _⟩ := c
          exact .inl ⟨vs, ds, rfl, h⟩
        | dict ds =>
          rcases c with ⟨kvs, h, _⟩ | ⟨kvs, _, _, h, _⟩
          · exact .inr ⟨ds, rfl, .inl ⟨kvs, h⟩⟩
          · exact .inr ⟨ds, rfl, .inr ⟨kvs, h⟩⟩
        | _ => exact c.elim
      refine ⟨fun a => S a ∨ a = p, upd G2 p o, s1.trans s3, fun b u q => ?_, .cons (c.rep (s1.trans s3) (by rw [upd_same, e])) (r2.up s3), fun a h => ?_, fun a n z => ?_, fun h a hs => ?_, fun h a hs => ?_, fun a hs => ?_⟩
      · by_cases hb : b = p
        · subst hb
          rw [upd_same] at q
          rw [e]
          exact q
        · rw [upd_ne hb] at q
          exact s2 _ _ q
      · rcases h with h | h
        · exact q1 a h
        · subst h
          exact ⟨gp, by rw [e]; exact fun z => nomatch z⟩
      · by_cases ha : a = p
        · exact .inr ha
        · rw [upd_ne ha] at n
          exact .inl (q2 a n z)
      · simp only [List.any_cons, Bool.or_eq_false_iff] at h
        rcases hs with hs | hs
        · exact q3 h.2 a hs
        · subst hs
          rcases kind with ⟨xs, ds, rfl, h2⟩ | ⟨ds, rfl, ⟨xs, h2⟩ | ⟨xs, h2⟩⟩
          · exact absurd h.1 (by simp [RV.owL])
          · exact fun ys z => by rw [h2] at z; cases z
          · exact fun ys z => by rw [h2] at z; cases z
      · simp only [List.any_cons, Bool.or_eq_false_iff] at h
        rcases hs with hs | hs
        · exact q4 h.2 a hs
        · subst hs
          rcases kind with ⟨xs, ds, rfl, h2⟩ | ⟨ds, rfl, _⟩
          · exact fun ys => ⟨(fun z => by rw [h2] at z; cases z), fun ys z => by rw [h2] at z; cases z⟩
          · exact absurd h.1 (by simp [RV.owD])
      · rcases hs with hs | hs
        · exact q5 a hs
        · subst hs
          rcases kind with ⟨xs, ds, _, h2⟩ | ⟨ds, _, h2⟩
          · exact .inl ⟨xs, h2⟩
          · exact .inr h2
/-- without the addresses S -/
noncomputable def minus (G : Hp) (S : Addr → Prop) : Hp := fun a => by
  classical
  exact if S a then none else G a
theorem minus_no {G : Hp} {S : Addr → Prop} {a : Addr} (h : ¬ S a) : minus G S a = G a := by
  unfold minus
  simp [h]
theorem minus_yes {G : Hp} {S : Addr → Prop} {a : Addr} (h : S a) : minus G S a = none := by
  unfold minus
  simp [h]
theorem minus_rd {S : Addr → Prop} {a : Addr} {u : HO} (h : Rd G a u) (hs : ¬ S a) : Rd (minus G S) a u := by
  rcases h with h | ⟨o, h⟩
  · exact .inl (by rw [minus_no hs]; exact h)
  · exact .inr ⟨o, by rw [minus_no hs]; exact h⟩
/-- what holds none of the kinds of S stands without S -/
structure Avoid (G : Hp) (S : Addr → Prop) (l d : Bool) : Prop where
  tup : ∀ a, S a → ∀ xs, ¬ Rd G a (.tup xs)
  lst : l = false → ∀ a, S a → ∀ xs, ¬ Rd G a (.lst xs)
  dic : d = false → ∀ a, S a → (∀ kvs, G a ≠ some (.dK kvs)) ∧ ∀ kvs, G a ≠ some (.dT kvs)
mutual
theorem Rep.minus {S : Addr → Prop} {l dd : Bool} (A : Avoid G S l dd) : ∀ {d : D} {v : V}, Rep K G d v → (l = true → noL d = true) → (dd = true → noD d = true) → Rep K (minus G S) d v
  | _, _, .non, _, _ => .non
  | _, _, .bl b, _, _ => .bl b
  | _, _, .int i, _, _ => .int i
  | _, _, .str x, _, _ => .str x
  | _, _, .lst (a := a) (vs := vs) q r, h1, h2 => by
    cases l with
    | true => exact absurd (h1 rfl) (by simp [noL])
    | false =>
      refine .lst ?_ (Reps.minus A r (fun z => nomatch z) fun z => by have := h2 z; rw [noD] at this; exact this)
      rcases q with q | q
      · exact .inl (minus_rd q fun hs => A.lst rfl a hs vs q)
      · exact .inr q
  | _, _, .tup (a := a) (vs := vs) q r, h1, h2 => by
    refine .tup ?_ (Reps.minus A r (fun z => by have := h1 z; rw [noL] at this; exact this) fun z => by have := h2 z; rw [noD] at this; exact this)
    rcases q with q | q
    · exact .inl (minus_rd q fun hs => A.tup a hs vs q)
    · exact .inr q
  | _, _, .dK (a := a) (kvs := kvs) q r, h1, h2 => by
    cases dd with
    | true => exact absurd (h2 rfl) (by simp [noD])
    | false => exact .dK (by rw [minus_no fun hs => (A.dic rfl a hs).1 kvs q]; exact q) (RepK.minus A r (fun z => by have := h1 z; rw [noL] at this; exact this) rfl)
  | _, _, .dT (a := a) (kvs := kvs) q r, h1, h2 => by
    cases dd with
    | true => exact absurd (h2 rfl) (by simp [noD])
    | false => exact .dT (by rw [minus_no fun hs => (A.dic rfl a hs).2 kvs q]; exact q) (RepT.minus A r (fun z => by have := h1 z; rw [noL, noLk] at this; exact (Bool.and_eq_true_iff.mp this).2) rfl)
theorem Reps.minus {S : Addr → Prop} {l dd : Bool} (A : Avoid G S l dd) : ∀ {ds : List D} {vs : List V}, Reps K G ds vs → (l = true → noLs ds = true) → (dd = true → noDs ds = true) → Reps K (minus G S) ds vs
  | _, _, .nil, _, _ => .nil
  | _, _, .cons a b, h1, h2 => .cons (Rep.minus A a (fun z => by have := h1 z; rw [noLs] at this; exact (Bool.and_eq_true_iff.mp this).1) fun z => by have := h2 z; rw [noDs] at this; exact (Bool.and_eq_true_iff.mp this).1)
      (Reps.minus A b (fun z => by have := h1 z; rw [noLs] at this; exact (Bool.and_eq_true_iff.mp this).2) fun z => by have := h2 z; rw [noDs] at this; exact (Bool.and_eq_true_iff.mp this).2)
theorem RepK.minus {S : Addr → Prop} {l dd : Bool} (A : Avoid G S l dd) : ∀ {ds : List (D × D)} {vs : List (Key × V)}, RepK K G ds vs → (l = true → noLk ds = true) → (dd = false) → RepK K (minus G S) ds vs
  | _, _, .nil, _, _ => .nil
  | _, _, .cons a b, h1, h2 => .cons (Rep.minus A a (fun z => by have := h1 z; rw [noLk] at this; exact (Bool.and_eq_true_iff.mp this).1) fun z => by rw [h2] at z; cases z)
      (RepK.minus A b (fun z => by have := h1 z; rw [noLk] at this; exact (Bool.and_eq_true_iff.mp this).2) h2)
theorem RepT.minus {S : Addr → Prop} {l dd : Bool} (A : Avoid G S l dd) : ∀ {ds : List (D × D)} {vs : List (List Key × V)}, RepT K G ds vs → (l = true → noLk ds = true) → (dd = false) → RepT K (minus G S) ds vs
  | _, _, .nil, _, _ => .nil
  | _, _, .cons a b, h1, h2 => .cons (Rep.minus A a (fun z => by have := h1 z; rw [noLk] at this; exact (Bool.and_eq_true_iff.mp this).1) fun z => by rw [h2] at z; cases z)
      (RepT.minus A b (fun z => by have := h1 z; rw [noLk] at this; exact (Bool.and_eq_true_iff.mp this).2) h2)
end
theorem flat_any {d : D} {v : V} (h : flatD d = true) (r : Rep K G d v) : Rep K G' d v := by
  cases r <;> first
    | exact .non
    | exact .bl _
    | exact .int _
    | exact .str _
    | (revert h; simp [flatD]; done)
theorem RVal.of_ret {r : RV} {v : V} (h : RVal K H1 H1 G' H' r v) : RVal K H0 H1 G' H' (retRV r) v := by
  cases r with
  | sh d => exact h
  | fr d => exact h
  | ow d =>
    obtain ⟨p, a, b, c, e⟩ := h
    exact ⟨p, a, b, c, e⟩
theorem callee_of {φ : List D → Rs RV} {f : Env → Rs (List RV)} {rs : List RV} {vs : List V} {n : Nat} (hn : ∀ r ∈ rs, ∀ d, r ≠ .fr d) (hl : rs.length = n) (I1 : RE X.K G0 H0 G1 H1 σ ρ) (q1 : RVals X.K H0 Hb G1 H1 rs vs)
    (p1 : Post X.K X.mg E G0 H0 G1 H1 σ ρ Q (match shds rs with
      | .ok ds => (φ ds).bind fun r => .ok (retRV r)
      | _ => match φ (rs.map RV.val) with
        | .ok r => if safeB rs r then .ok r else .bad
        | _ => .bad)) : spO X.K X.mg n φ vs H1 Q E := by
  refine ⟨by rw [q1.length, hl], ?_⟩
  have ow_way : (Post X.K X.mg E G0 H0 G1 H1 σ ρ Q (match φ (rs.map RV.val) with
        | .ok r => if safeB rs r then .ok r else .bad
        | _ => .bad)) → ∃ G ds, Same G H1 ∧ Reps X.K G ds vs ∧ (match φ ds with
  | .bad => False
  | .ex x => XPost X.K X.mg E G H1 x
  | .ok r => ∀ G' H' v, Mon G H1 G' H' → Same G' H' → RVal X.K H1 H1 G' H' r v → Q v H') := fun p2 => by
    obtain ⟨S, G2, s1, s2, r2, t1, t2, t3, t4, t5⟩ := RVals.thaw I1.gh hn q1
    refine ⟨G2, _, s2, r2, ?_⟩
    revert p2
    cases φ (rs.map RV.val) with
    | bad => exact fun p2 => p2
    | ex x => exact fun p2 => p2.bad
    | ok r =>
      intro p2
      by_cases hf : safeB rs r = true
      · simp only [hf, if_true] at p2
        intro G' H' v m gh q
        -- what is kept behind the call: without the own things
        have sS : ∀ a, S a → H' a = H1 a := fun a h => Same.some m.h (t1 a h).2
        have A : Avoid G' S (rs.any RV.owL) (rs.any RV.owD) := by
          have up : ∀ a u, S a → G' a = some u → H1 a = some u := fun a u h e => by rw [← sS a h]; exact gh _ _ e
          refine ⟨fun a h xs z => ?_, fun hl a h xs z => ?_, fun hd a h => ⟨fun kvs z => (t4 hd a h kvs).1 (up a _ h z), fun kvs z => (t4 hd a h []).2 kvs (up a _ h z)⟩⟩
          · rcases z with z | ⟨o, z⟩
            · have e := up a _ h z
              rcases t5 a h with ⟨_, e2⟩ | ⟨_, e2⟩ | ⟨_, e2⟩ <;> (rw [e2] at e; cases e)
            · have e := up a _ h z
              rcases t5 a h with ⟨_, e2⟩ | ⟨_, e2⟩ | ⟨_, e2⟩ <;> (rw [e2] at e; cases e)
          · rcases z with z | ⟨o, z⟩
            · exact t3 hl a h xs (up a _ h z)
            · have e := up a _ h z
              rcases t5 a h with ⟨_, e2⟩ | ⟨_, e2⟩ | ⟨_, e2⟩ <;> (rw [e2] at e; cases e)
        have m2 : Mon G1 H1 (minus G' S) H' := by
          refine ⟨fun a u e => ?_, m.h, fun a n z => ?_⟩
          · have hs : ¬ S a := fun h => by rw [(t1 a h).1] at e; cases e
            rw [minus_no hs]
            exact m.g _ _ (s1 _ _ e)
          · by_cases hs : S a
            · exact minus_yes hs
            · rw [minus_no hs]
              refine m.k a n ?_
              cases e : G2 a with
              | none => rfl
              | some u => exact absurd (t2 a (by rw [e]; exact fun z => nomatch z) z) hs
        have gh2 : Same (minus G' S) H' := fun a u e => by
          by_cases hs : S a
          · rw [minus_yes hs] at e; cases e
          · rw [minus_no hs] at e; exact gh _ _ e
        refine p2 (minus G' S) H' v (I1.step m2 gh2) m2 ?_
        cases r with
        | ow d => cases hf
        | sh d =>
          unfold safeB at hf
          obtain ⟨h1, h2⟩ := Bool.and_eq_true_iff.mp hf
          exact Rep.minus A q (fun z => by rw [z] at h1; simpa using h1) fun z => by rw [z] at h2; simpa using h2
        | fr d =>
          cases d with
          | list ds =>
            unfold safeB at hf
            obtain ⟨h1, h2⟩ := Bool.and_eq_true_iff.mp hf
            obtain ⟨p, e1, e2, e3, us, e4, e5⟩ := q
            refine ⟨p, e1, e2, ?_, us, e4, Reps.minus A e5 (fun z => by rw [z] at h1; simpa using h1) fun z => by rw [z] at h2; simpa using h2⟩
            by_cases hs : S p
            · exact minus_yes hs
            · rw [minus_no hs]; exact e3
          | _ => cases hf
      · simp only [hf] at p2
        exact p2.bad
  revert p1
  cases es : shds rs with
  | bad => exact ow_way
  | ex x => exact absurd es (shds_noex rs x)
  | ok ds =>
    intro p0
    have p1 : Post X.K X.mg E G0 H0 G1 H1 σ ρ Q ((φ ds).bind fun r => .ok (retRV r)) := p0
    refine ⟨G1, ds, I1.gh, shds_reps hn es q1, ?_⟩
    revert p1
    cases φ ds with
    | bad => exact fun p1 => p1
    | ex x => exact fun p1 G' H' c dx m gh r => p1 G' H' c dx (I1.mon.trans m) gh r
    | ok r => exact fun p1 G' H' v m gh q => p1 G' H' v (I1.step m gh) m q.of_ret
theorem ev_call {k n : Nat} {x : Str} {φ : List D → Rs RV} {e : Expr} {es : List Expr} {p pos : Pos} {f : Env → Rs (List RV)} (F : FnD X.prog X.w X.K X.mg X.base k x n φ) (hr : Room k X.A) (hg : Gl X x) (hx : Passes (L2.CX X.prog X.w) X E)
    (ha : AV X E (e :: es) f) (hn : NoFr f) (hl : ArN f n) (hd : (x == ("__debug__" : Str)) = false) (he : starEach (e :: es) X.env = (false, eval e X.env) :: starEach es X.env) (hpl : (backTo pos (starEach es X.env)).any (·.1) = false) :
    EV X E (.Call (.Name x p) (e :: es) [] pos) (cCall φ f) := by
  obtain ⟨g, fd, ps, F, hm, hk, hb⟩ := F.ok
  refine ev_of (pe_call F hr hg hm hk hb .nil hx ha hd he hpl) fun G0 H0 G H σ ρ Q I p => ?_
  refine tAV_bind I p fun rs G1 H1 vs er I1 m1 q1 p1 => ?_
  rw [List.append_nil]
  exact callee_of (f := f) (hn ρ rs er) (hl ρ rs er) I1 q1 p1

/-! ### what is walked -/
def ItAt (K : PySem.W.Frag) (J : It) (G1 H1 : Hp) (ds : List D) : Prop :=
  J.stop ds.length H1 ∧ ∀ i d, ds[i]? = some d → J.go i H1 ∧ ∀ x H2, J.yld i H1 x H2 → ∃ G2, Same G2 H2 ∧ Mon G1 H1 G2 H2 ∧ Rep K G2 d x
def ItOk (K : PySem.W.Frag) (J : It) (G H : Hp) (ds : List D) : Prop := ∀ G1 H1, Mon G H G1 H1 → Same G1 H1 → ItAt K J G1 H1 ds
def ItG (K : PySem.W.Frag) (J : It) (G : Hp) (ds : List D) : Prop := ∀ G1 H1, Same G G1 → Same G1 H1 → ItAt K J G1 H1 ds
theorem Mon.new (gh : Same G H) {p : Addr} {o : HO} (np : H p = none) : Mon G H (upd G p o) (upd H p o) ∧ Same (upd G p o) (upd H p o) := by
  have ng : G p = none := gh.free np
  refine ⟨⟨fun b u e => ?_, fun b u e => ?_, fun a n e => ?_⟩, fun b u e => ?_⟩
  · rw [upd_ne (ne_of_none e ng)]; exact e
  · rw [upd_ne (ne_of_none e np)]; exact e
  · have : a ≠ p := fun z => by rw [z] at n; exact n np
    rw [upd_ne this]; exact e
  · by_cases hb : b = p
    · subst hb; rw [upd_same] at e; rw [upd_same]; exact e
    · rw [upd_ne hb] at e; rw [upd_ne hb]; exact gh _ _ e
def PostI (K : PySem.W.Frag) (mg : Str → Option Value) (E : XK) (G0 H0 G H : Hp) (σ : St) (ρ : Env) (R : It → Hp → Prop) : Rs (Bool × List D) → Prop
  | .bad => False
  | .ex x => XPost K mg E G0 H0 x
  | .ok r => ∀ G' H' J, RE K G0 H0 G' H' σ ρ → Mon G H G' H' → ItOk K J G' H' r.2 → (r.1 = false → ItG K J G' r.2) → R J H'
def tIV (K : PySem.W.Frag) (mg : Str → Option Value) (E : XK) (f : Env → Rs (Bool × List D)) : TI := fun σ H R => ∃ G0 H0 G ρ, RE K G0 H0 G H σ ρ ∧ PostI K mg E G0 H0 G H σ ρ R (f ρ)
def IV (X : Cx) (E : XK) (tg iter : Expr) (f : Env → Rs (Bool × List D)) : Prop := PI X tg iter (tIV X.K X.mg E f)
theorem PI.weak {tg iter : Expr} {t t' : TI} (h : PI X tg iter t) (hw : ∀ σ H R, t' σ H R → t σ H R) : PI X tg iter t' := ⟨fun pins s σ H R I q => h.run pins s σ H R I (hw _ _ _ q)⟩
theorem PI.or {tg iter : Expr} {t t' : TI} (h : PI X tg iter t) (h' : PI X tg iter t') : PI X tg iter (fun σ H R => t σ H R ∨ t' σ H R) := ⟨fun pins s σ H R I q => q.elim (h.run pins s σ H R I) (h'.run pins s σ H R I)⟩
def charsD (z : Str) : List D := z.cps.toList.map fun c => .str ⟨#[c]⟩
def itemsD : D → Rs (List D)
  | .list xs => .ok xs
  | .tuple xs => .ok xs
  | .str z => .ok (charsD z)
  | _ => .bad
def RV.isOw : RV → Bool
  | .ow _ => true
  | _ => false
@[simp] theorem RV.isOw_sh (d : D) : (RV.sh d).isOw = false := rfl
@[simp] theorem RV.isOw_fr (d : D) : (RV.fr d).isOw = false := rfl
@[simp] theorem RV.isOw_ow (d : D) : (RV.ow d).isOw = true := rfl
def iSeq (f : Env → Rs RV) : Env → Rs (Bool × List D) := fun ρ => (f ρ).bind fun r => (itemsD r.val).bind fun ds => .ok (r.isOw, ds)
theorem itl_at {a : Addr} {vs : List V} {ds : List D} (hq : SqL K H1 a vs) (gh : Same G1 H1) (r : Reps K G1 ds vs) : ItAt K (Itl K a) G1 H1 ds := by
  refine ⟨⟨vs, hq, by rw [r.length]; exact Nat.le_refl _⟩, fun i d hd => ?_⟩
  obtain ⟨v, hv, rv⟩ := r.get hd
  refine ⟨⟨vs, v, hq, hv⟩, fun x H2 ⟨e, y⟩ => ?_⟩
  subst e
  have := y vs hq
  rw [hv] at this
  cases this
  exact ⟨G1, gh, Mon.refl _ _, rv⟩
theorem itt_at {a : Addr} {vs : List V} {ds : List D} (hq : SqT K H1 a vs) (gh : Same G1 H1) (r : Reps K G1 ds vs) : ItAt K (Itt K a) G1 H1 ds := by
  refine ⟨⟨vs, hq, by rw [r.length]; exact Nat.le_refl _⟩, fun i d hd => ?_⟩
  obtain ⟨v, hv, rv⟩ := r.get hd
  refine ⟨⟨vs, v, hq, hv⟩, fun x H2 ⟨e, y⟩ => ?_⟩
  subst e
  have := y vs hq
  rw [hv] at this
  cases this
  exact ⟨G1, gh, Mon.refl _ _, rv⟩
theorem its_at {z : Str} (gh : Same G1 H1) : ItAt K (Its z) G1 H1 (charsD z) := by
  unfold charsD
  refine ⟨by show z.cps.size ≤ _; rw [List.length_map, Array.length_toList]; exact Nat.le_refl _, fun i d hd => ?_⟩
  rw [List.getElem?_map] at hd
  cases hc : z.cps.toList[i]? with
  | none => rw [hc] at hd; cases hd
  | some c =>
    rw [hc] at hd
    cases hd
    have hi : i < z.cps.size := by
      have := (List.getElem?_eq_some_iff.mp hc).1
      rwa [Array.length_toList] at this
    refine ⟨hi, fun x H2 ⟨e, c', h1, h2⟩ => ?_⟩
    subst e h2
    have e2 : z.cps[i]? = some c := by rw [← Array.getElem?_toList]; exact hc
    rw [e2] at h1
    cases h1
    exact ⟨G1, gh, Mon.refl _ _, .str _⟩
theorem iv_seq {tg e : Expr} {f : Env → Rs RV} (h : EV X E e f) : IV X E tg e (iSeq f) := by
  refine PI.weak (PI.or (pi_list (ev_frz h)) (PI.or (pi_tup (ev_frz h)) (pi_str (ev_frz h)))) fun σ H R ⟨G0, H0, G, ρ, I, p⟩ => ?_
  have key : ∀ (T : V → Hp → Prop), (∀ r G1 H1 v, f ρ = .ok r → RE X.K G0 H0 G1 H1 σ ρ → Mon G H G1 H1 → RVal X.K H0 H G1 H1 r.frz v → T v H1) → (f ρ ≠ .bad) → tEV X.K X.mg E (cFrz f) σ H T := by
    intro T hT hb
    refine ⟨G0, H0, G, ρ, I, ?_⟩
    unfold cFrz
    unfold iSeq at p
    cases e : f ρ with
    | bad => exact absurd e hb
    | ex x => rw [e] at p; exact p
    | ok r => exact fun G1 H1 v I1 m1 q1 => hT r G1 H1 v e I1 m1 q1
  unfold iSeq at p
  cases e : f ρ with
  | bad => rw [e] at p; exact p.elim
  | ex x => exact .inl (key _ (fun r _ _ _ er => by rw [e] at er; cases er) (by rw [e]; exact fun z => nomatch z))
  | ok r =>
    rw [e, Rs.bind_ok] at p
    have ne : f ρ ≠ .bad := by rw [e]; exact fun z => nomatch z
    have hown : r.isOw = false → ∃ d, r.frz = .sh d ∧ r.val = d := by
      cases r with
      | sh d => exact fun _ => ⟨d, rfl, rfl⟩
      | fr d => exact fun _ => ⟨d, rfl, rfl⟩
      | ow d => exact fun z => nomatch z
    revert p
    cases ev : r.val with
    | list xs =>
      intro p
      refine .inl (key _ (fun r2 G1 H1 v er I1 m1 q1 => ?_) ne)
      rw [e] at er
      cases er
      have w := q1.view I1.gh
      rw [RV.frz_val, ev] at w
      obtain ⟨a, vs, ea, hq, rr⟩ := id w
      refine ⟨a, ea, ⟨vs, hq⟩, p G1 H1 _ I1 m1 (fun G2 H2 m2 gh => ?_) fun ho G2 H2 s2 gh => ?_⟩
      · exact itl_at ((Same.rd m2.h).seq hq) gh (rr.up m2.g)
      · obtain ⟨d, ed, ed2⟩ := hown ho
        rw [ev] at ed2
        subst ed2
        rw [ed] at q1
        subst ea
        cases (show Rep X.K G1 (.list xs) _ from q1) with
        | lst q3 r3 => exact itl_at ((Same.rd (s2.trans gh)).seq q3) gh (r3.up s2)
    | tuple xs =>
      intro p
      refine .inr (.inl (key _ (fun r2 G1 H1 v er I1 m1 q1 => ?_) ne))
      rw [e] at er
      cases er
      have w := q1.view I1.gh
      rw [RV.frz_val, ev] at w
      obtain ⟨a, vs, ea, hq, hq', rr⟩ := w.tup I1.gh
      refine ⟨a, ea, ⟨vs, hq⟩, p G1 H1 _ I1 m1 (fun G2 H2 m2 gh => ?_) fun ho G2 H2 s2 gh => ?_⟩
      · exact itt_at ((Same.rd m2.h).tup hq) gh (rr.up m2.g)
      · exact itt_at ((Same.rd (s2.trans gh)).tup hq') gh (rr.up s2)
    | str z =>
      intro p
      refine .inr (.inr (key _ (fun r2 G1 H1 v er I1 m1 q1 => ?_) ne))
      rw [e] at er
      cases er
      have w := q1.view I1.gh
      rw [RV.frz_val, ev] at w
      exact ⟨z, w.str, p G1 H1 _ I1 m1 (fun G2 H2 m2 gh => its_at gh) fun ho G2 H2 s2 gh => its_at gh⟩
    | none => exact fun p => p.elim
    | bool _ => exact fun p => p.elim
    | int _ => exact fun p => p.elim
    | dict _ => exact fun p => p.elim
theorem tAV_bindI {f : Env → Rs (List RV)} {g : List RV → Rs (Bool × List D)} {R : It → Hp → Prop} {S : List V → Hp → Prop} (I : RE K G0 H0 G H σ ρ) (p : PostI K mg E G0 H0 G H σ ρ R ((f ρ).bind g))
    (h : ∀ rs G1 H1 vs, f ρ = .ok rs → RE K G0 H0 G1 H1 σ ρ → Mon G H G1 H1 → RVals K H0 H G1 H1 rs vs → PostI K mg E G0 H0 G1 H1 σ ρ R (g rs) → S vs H1) : tAV K mg E f σ H S := by
  refine ⟨G0, H0, G, ρ, I, ?_⟩
  cases e : f ρ with
  | bad => rw [e] at p; exact p
  | ex x => rw [e] at p; exact p
  | ok r =>
    rw [e] at p
    refine fun G1 H1 v I1 m1 q => h r G1 H1 v e I1 m1 q ?_
    rw [Rs.bind_ok] at p
    cases e2 : g r with
    | bad => rw [e2] at p; exact p
    | ex x => rw [e2] at p; exact p
    | ok r2 => rw [e2] at p; exact fun G2 H2 J I2 m2 a b => p G2 H2 J I2 (m1.trans m2) a b
/-- range's numbers -/
def rangeD (lo hi : Int) : List D := (List.range (hi - lo).toNat).map fun i : Nat => PyData.int (lo + i)
def inR (i : Int) : Bool := decide (-(2 ^ 62) ≤ i) && decide (i < 2 ^ 62)
def iRange (f : Env → Rs (List RV)) : Env → Rs (Bool × List D) := fun ρ => (f ρ).bind fun rs => match rs.map RV.val with
  | [.int n] => if inR n then .ok (false, rangeD 0 n) else .bad
  | [.int m, .int n] => if inR m && inR n then .ok (false, rangeD m n) else .bad
  | _ => .bad
theorem itr_at {lo hi : Int} (gh : Same G1 H1) : ItAt K (Itr lo (hi - lo).toNat) G1 H1 (rangeD lo hi) := by
  unfold rangeD
  refine ⟨by show (hi - lo).toNat ≤ _; rw [List.length_map, List.length_range]; exact Nat.le_refl _, fun i d hd => ?_⟩
  rw [List.getElem?_map] at hd
  cases hc : (List.range (hi - lo).toNat)[i]? with
  | none => rw [hc] at hd; cases hd
  | some c =>
    rw [hc] at hd
    cases hd
    obtain ⟨hi', e⟩ := List.getElem?_eq_some_iff.mp hc
    rw [List.getElem_range] at e
    subst e
    rw [List.length_range] at hi'
    refine ⟨hi', fun x H2 ⟨e, e2⟩ => ?_⟩
    subst e e2
    exact ⟨G1, gh, Mon.refl _ _, .int _⟩
theorem iv_range1 {tg e : Expr} {p pos : Pos} {f : Env → Rs (List RV)} (hg : Gl X "range") (hm : X.mg "range" = none) (ha : AV X E [e] f) (har : ArN f 1) (hs : starEach [e] X.env = [(false, eval e X.env)]) : IV X E tg (.Call (.Name "range" p) [e] [] pos) (iRange f) := by
  refine PI.weak (pi_range1 hg hm ha hs) fun σ H R ⟨G0, H0, G, ρ, I, p⟩ => tAV_bindI I p fun rs G1 H1 vs er I1 m1 q1 p1 => ?_
  have hl := har ρ rs er
  obtain ⟨r, rfl⟩ : ∃ r, rs = [r] := by
    match rs, hl with
    | [r], _ => exact ⟨r, rfl⟩
  obtain ⟨v, rfl, w⟩ := paired1 (q1.views I1.gh)
  revert p1 w
  simp only [List.map_cons, List.map_nil]
  cases r.val with
  | int n =>
    intro p1 w
    by_cases h : inR n = true
    · simp only [h, if_true] at p1
      unfold inR at h
      obtain ⟨h1, h2⟩ := Bool.and_eq_true_iff.mp h
      have e0 : n.toNat = (n - 0).toNat := by omega
      refine ⟨n, by rw [w.int], of_decide_eq_true h1, of_decide_eq_true h2, ?_⟩
      rw [e0]
      exact p1 G1 H1 _ I1 (Mon.refl _ _) (fun _ _ _ gh => itr_at gh) fun _ _ _ _ gh => itr_at gh
    · simp only [h] at p1
      exact p1.elim
  | _ => exact fun p1 w => p1.elim
theorem iv_range2 {tg a b : Expr} {p pos : Pos} {f : Env → Rs (List RV)} (hg : Gl X "range") (hm : X.mg "range" = none) (ha : AV X E [a, b] f) (har : ArN f 2) (hs : starEach [a, b] X.env = [(false, eval a X.env), (false, eval b X.env)]) (hs2 : starEach [b] X.env = [(false, eval b X.env)]) :
    IV X E tg (.Call (.Name "range" p) [a, b] [] pos) (iRange f) := by
  refine PI.weak (pi_range2 hg hm ha hs hs2) fun σ H R ⟨G0, H0, G, ρ, I, p⟩ => tAV_bindI I p fun rs G1 H1 vs er I1 m1 q1 p1 => ?_
  have hl := har ρ rs er
  obtain ⟨r, r2, rfl⟩ : ∃ r r2, rs = [r, r2] := by
    match rs, hl with
    | [r, r2], _ => exact ⟨r, r2, rfl⟩
  obtain ⟨v, u, rfl, w, w2⟩ := paired2 (q1.views I1.gh)
  revert p1 w w2
  simp only [List.map_cons, List.map_nil]
  cases r.val <;> cases r2.val <;> intro p1 w w2
  case int.int m n =>
    by_cases h : (inR m && inR n) = true
    · simp only [h, if_true] at p1
      obtain ⟨h', h''⟩ := Bool.and_eq_true_iff.mp h
      unfold inR at h' h''
      obtain ⟨h1, h2⟩ := Bool.and_eq_true_iff.mp h'
      obtain ⟨h3, h4⟩ := Bool.and_eq_true_iff.mp h''
      refine ⟨m, n, by rw [w.int, w2.int], ⟨of_decide_eq_true h1, of_decide_eq_true h2, of_decide_eq_true h3, of_decide_eq_true h4⟩, ?_⟩
      exact p1 G1 H1 _ I1 (Mon.refl _ _) (fun _ _ _ gh => itr_at gh) fun _ _ _ _ gh => itr_at gh
    · simp only [h] at p1
      exact p1.elim
  all_goals exact p1.elim
def enumD (i : Int) : List D → List D
  | [] => []
  | d :: ds => .tuple [.int i, d] :: enumD (i + 1) ds
theorem enumD_length : ∀ (i : Int) (ds : List D), (enumD i ds).length = ds.length
  | _, [] => rfl
  | i, d :: ds => by rw [enumD, List.length_cons, List.length_cons, enumD_length]
theorem enumD_get : ∀ (k : Int) (ds : List D) (i : Nat), (enumD k ds)[i]? = (ds[i]?).map fun d => .tuple [.int (k + i), d]
  | _, [], _ => rfl
  | k, d :: ds, 0 => by simp [enumD]
  | k, d :: ds, i + 1 => by
    rw [enumD, List.getElem?_cons_succ, List.getElem?_cons_succ, enumD_get]
    congr 1
    funext d
    congr 3
    omega
def iEnumD (f : Env → Rs (List RV)) : Env → Rs (Bool × List D) := fun ρ => (f ρ).bind fun rs => match rs with
  | [r] => match r.val with
    | .list xs => .ok (r.isOw, enumD 0 xs)
    | _ => .bad
  | _ => .bad
theorem ite_at {a : Addr} {vs : List V} {ds : List D} (hq : SqL K H1 a vs) (gh : Same G1 H1) (r : Reps K G1 ds vs) : ItAt K (Ite K a) G1 H1 (enumD 0 ds) := by
  refine ⟨⟨vs, hq, by rw [enumD_length, r.length]; exact Nat.le_refl _⟩, fun i d hd => ?_⟩
  rw [enumD_get] at hd
  cases hx : ds[i]? with
  | none => rw [hx] at hd; cases hd
  | some z =>
    rw [hx] at hd
    cases hd
    obtain ⟨v, hv, rv⟩ := r.get hx
    refine ⟨⟨vs, v, hq, hv⟩, fun x H2 ⟨T, u, e1, e2, e3, y⟩ => ?_⟩
    subst e1 e3
    have := y vs hq
    rw [hv] at this
    cases this
    obtain ⟨m, s2⟩ := Mon.new (o := .tup [.int (i : Nat), v]) gh e2
    refine ⟨_, s2, m, .tup (.inl (.inl upd_same)) (.cons ?_ (.cons (rv.up m.g) .nil))⟩
    rw [Int.zero_add]
    exact .int _
theorem iv_enum {e : Expr} {elts : List Expr} {kk : Nat} {tpos p pos : Pos} {f : Env → Rs (List RV)} (hg : Gl X "enumerate") (hm : X.mg "enumerate" = none) (ha : AV X E [e] f) (hn : NoFr f) (har : ArN f 1) (hs : starEach [e] X.env = [(false, eval e X.env)]) :
    IV X E (.Tuple elts kk tpos) (.Call (.Name "enumerate" p) [e] [] pos) (iEnumD f) := by
  refine PI.weak (pi_enum hg hm ha hs) fun σ H R ⟨G0, H0, G, ρ, I, p⟩ => tAV_bindI I p fun rs G1 H1 vs er I1 m1 q1 p1 => ?_
  have hl := har ρ rs er
  obtain ⟨r, rfl⟩ : ∃ r, rs = [r] := by
    match rs, hl with
    | [r], _ => exact ⟨r, rfl⟩
  have hf := hn ρ _ er r List.mem_cons_self
  obtain ⟨v, us, e1, qv, eu⟩ := q1
  cases (show us = [] from eu)
  subst e1
  have w := qv.view I1.gh
  revert p1 w
  cases ev : r.val with
  | list xs =>
    intro p1 w
    obtain ⟨a, vs, rfl, hq, rr⟩ := w
    simp only [ev] at p1
    refine ⟨a, vs, rfl, hq, p1 G1 H1 _ I1 (Mon.refl _ _) (fun G2 H2 m2 gh => ite_at ((Same.rd m2.h).seq hq) gh (rr.up m2.g)) fun ho G2 H2 s2 gh => ?_⟩
    cases r with
    | sh d =>
      cases (show d = _ from ev)
      cases (show Rep X.K G1 (.list xs) _ from qv) with
      | lst q3 r3 => exact ite_at ((Same.rd (s2.trans gh)).seq q3) gh (r3.up s2)
    | fr d => exact absurd rfl (hf d)
    | ow d => cases ho
  | _ =>
    intro p1 w
    simp only [ev] at p1
    exact p1.elim
def zipD : List D → List D → List D
  | a :: as, b :: bs => .tuple [a, b] :: zipD as bs
  | _, _ => []
theorem zipD_get : ∀ (as bs : List D) (i : Nat) (d : D), (zipD as bs)[i]? = some d → ∃ a b, as[i]? = some a ∧ bs[i]? = some b ∧ d = .tuple [a, b]
  | [], _, _, _, h => by simp [zipD] at h
  | _ :: _, [], _, _, h => by simp [zipD] at h
  | a :: as, b :: bs, 0, d, h => by
    simp only [zipD, List.getElem?_cons_zero, Option.some.injEq] at h
    exact ⟨a, b, rfl, rfl, h.symm⟩
  | a :: as, b :: bs, i + 1, d, h => by
    rw [zipD, List.getElem?_cons_succ] at h
    obtain ⟨x, y, h1, h2, h3⟩ := zipD_get as bs i d h
    exact ⟨x, y, by rw [List.getElem?_cons_succ]; exact h1, by rw [List.getElem?_cons_succ]; exact h2, h3⟩
theorem zipD_length : ∀ (as bs : List D), (zipD as bs).length = min as.length bs.length
  | [], _ => by simp [zipD]
  | _ :: _, [] => by simp [zipD]
  | a :: as, b :: bs => by
    rw [zipD, List.length_cons, List.length_cons, List.length_cons, zipD_length]
    omega
def iZipD (f : Env → Rs (List RV)) : Env → Rs (Bool × List D) := fun ρ => (f ρ).bind fun rs => match rs with
  | [r, s] => match r.val, s.val with
    | .list xs, .list ys => .ok (r.isOw || s.isOw, zipD xs ys)
    | _, _ => .bad
  | _ => .bad
theorem itz_at {a b : Addr} {vs us : List V} {ds es : List D} (hq : SqL K H1 a vs) (hq2 : SqL K H1 b us) (gh : Same G1 H1) (r : Reps K G1 ds vs) (r2 : Reps K G1 es us) : ItAt K (Itz K a b) G1 H1 (zipD ds es) := by
  refine ⟨⟨vs, us, hq, hq2, ?_⟩, fun i d hd => ?_⟩
  · rw [zipD_length, r.length, r2.length]
    omega
  · obtain ⟨x, y, hx, hy, e⟩ := zipD_get _ _ _ _ hd
    subst e
    obtain ⟨v, hv, rv⟩ := r.get hx
    obtain ⟨u, hu, ru⟩ := r2.get hy
    refine ⟨⟨vs, us, v, u, hq, hq2, hv, hu⟩, fun z H2 ⟨T, v', u', e1, e2, e3, y1, y2⟩ => ?_⟩
    subst e1 e3
    have h1 := y1 vs hq
    have h2 := y2 us hq2
    rw [hv] at h1
    rw [hu] at h2
    cases h1
    cases h2
    obtain ⟨m, s2⟩ := Mon.new (o := .tup [v, u]) gh e2
    exact ⟨_, s2, m, .tup (.inl (.inl upd_same)) (.cons (rv.up m.g) (.cons (ru.up m.g) .nil))⟩
theorem iv_zip {e e2 : Expr} {elts : List Expr} {kk : Nat} {tpos p pos : Pos} {f : Env → Rs (List RV)} (hg : Gl X "zip") (hm : X.mg "zip" = none) (ha : AV X E [e, e2] f) (hn : NoFr f) (har : ArN f 2) (hs : starEach [e, e2] X.env = (false, eval e X.env) :: starEach [e2] X.env)
    (hpl : (backTo pos (starEach [e2] X.env)).any (·.1) = false) : IV X E (.Tuple elts kk tpos) (.Call (.Name "zip" p) [e, e2] [] pos) (iZipD f) := by
  refine PI.weak (pi_zip hg hm ha hs hpl) fun σ H R ⟨G0, H0, G, ρ, I, p⟩ => tAV_bindI I p fun rs G1 H1 vs er I1 m1 q1 p1 => ?_
  have hl := har ρ rs er
  obtain ⟨r, s, rfl⟩ : ∃ r s, rs = [r, s] := by
    match rs, hl with
    | [r, s], _ => exact ⟨r, s, rfl⟩
  have hf := hn ρ _ er r List.mem_cons_self
  have hf2 := hn ρ _ er s (List.mem_cons_of_mem _ List.mem_cons_self)
  obtain ⟨v, us, e1, qv, u, us2, e3, qu, e4⟩ := q1
  cases (show us2 = [] from e4)
  subst e1 e3
  have w := qv.view I1.gh
  have w2 := qu.view I1.gh
  revert p1 w w2
  cases ev : r.val <;> cases eu : s.val <;> intro p1 w w2 <;> simp only [ev, eu] at p1
  case list.list xs ys =>
    obtain ⟨a, vs, rfl, hq, rr⟩ := w
    obtain ⟨b, ws, rfl, hq2, rr2⟩ := w2
    refine ⟨a, b, vs, ws, rfl, hq, hq2, p1 G1 H1 _ I1 (Mon.refl _ _) (fun G2 H2 m2 gh => itz_at ((Same.rd m2.h).seq hq) ((Same.rd m2.h).seq hq2) gh (rr.up m2.g) (rr2.up m2.g)) fun ho G2 H2 s2 gh => ?_⟩
    obtain ⟨ho1, ho2⟩ := Bool.or_eq_false_iff.mp ho
    cases r with
    | sh d =>
      cases s with
      | sh d2 =>
        cases (show d = _ from ev)
        cases (show d2 = _ from eu)
        cases (show Rep X.K G1 (.list xs) _ from qv) with
        | lst q3 r3 =>
          cases (show Rep X.K G1 (.list ys) _ from qu) with
          | lst q4 r4 => exact itz_at ((Same.rd (s2.trans gh)).seq q3) ((Same.rd (s2.trans gh)).seq q4) gh (r3.up s2) (r4.up s2)
      | fr d2 => exact absurd rfl (hf2 d2)
      | ow d2 => cases ho2
    | fr d => exact absurd rfl (hf d)
    | ow d => cases ho1
  all_goals exact p1.elim
end
end VL

set_option Elab.async false
set_option linter.all false
set_option maxRecDepth 100000
set_option maxHeartbeats 3200000
/-! part VL2S: sorted(set(xs)) of a list of whole numbers. -/
namespace VL
open PySem PySem.Spec PyProof.Rows L2
abbrev zSet (w : World) : Obj := { cls := .type "set", dict := none, data := .set #[] 0 (.fresh 0 0 (!w.params.followText "set-order")) }
abbrev zIter (l : Addr) : Obj := { cls := .type "list_iterator", data := .fields #[.ref l, .int 0 0] }
section
variable {P : Program} {w : World} {A : Around} {E : Value → Shared → Prop} {s : Shared}
/-- set(xs), xs a list of ints, told as SetR -/
theorem set_from_list {l : Addr} {its : Array Value} (ns : List Int) {Q : Value → Shared → Prop} (hA : A.handled = none) (pl : s.heap.IsList l its) (hit : IntsAre its.toList ns) (few : ns.length + 1 < scanBound)
    (q : ∀ (h' : Heap) (tk c : Nat), SetR w h' s.heap.objs.size (fun j => decide (j ∈ ns)) c → c ≤ ns.length → (∀ b o, s.heap.get? b = some o → h'.get? b = some o) → Q (.ref s.heap.objs.size) { s with heap := h', toks := tk }) :
    wpAny (model P w) A (call (.type "set") [.ref l]) Q E s := by
  have hsz : its.size = ns.length := (Array.length_toList (xs := its)).symm.trans (IntsAre.length hit)
  have ⟨cc, tl, hmro⟩ := F.called_set.mro
  have made := F.called_set.made; have sub := F.called_set.sub; have nt := F.called_set.notType; have cr := F.called_set.canCreate
  have ct := F.typeCall_set_1 (.ref l)
  refine wpAny_call (codeAny_of_tree (show wpAny _ _ (callAny (.type "set") _) _ _ _ from wpAny_pure ⟨Code.quiet_builtin _ (by decide +kernel), codeAny_builtin F.entry_type_call ?_⟩))
  rw [Around.under_plain (weight_type_call_type "set" [.ref l] []) rfl]
  repeat (any_goals (first | assumption | wp_step))
  refine codeAny_mono (code_set_led1 (.ref l) (E := E) (Q₁ := fun z t => z = .ref s.heap.objs.size ∧ t = { s with heap := s.heap.push (zSet w) }) ⟨rfl, rfl⟩) fun r s₁ hr => ?_
  rcases r with e | fl
  · exact hr
  cases fl with
  | ret z =>
    obtain ⟨rfl, rfl⟩ := hr
    have hS : (s.heap.push (zSet w)).get? s.heap.objs.size = some (zSet w) := Heap.get?_push_size _ rfl
    have hT : Shared.TypeIs { s with heap := s.heap.push (zSet w) } (.ref s.heap.objs.size) "set" := ⟨_, hS, rfl⟩
    have il := F.called_set.init.lookup; have ib := F.called_set.init.bind (.ref s.heap.objs.size)
    repeat (any_goals (first | assumption | wp_step))
    refine codeAny_mono (codeAny_call_builtin (R := wants (fun r t => r = .none ∧ ∃ h' tk c, t = { s with heap := h', toks := tk } ∧ SetR w h' s.heap.objs.size (fun j => decide (j ∈ ns)) c ∧ c ≤ ns.length ∧
      ∀ b o, s.heap.get? b = some o → h'.get? b = some o) E) F.called_set.init.plain F.entry_set_init (check_set_init_1 hT ?_)) fun r2 s2 hr2 => ?_
    · obtain ⟨⟨c0, d0, dt0, sl0⟩, ho, hc, nl, hd⟩ := pl
      simp only at hc hd
      subst hc hd
      have ho1 : (s.heap.push (zSet w)).get? l = some { cls := .type "list", dict := d0, data := .seq its nl, slots := sl0 } := Heap.get?_push_of_some _ ho
      have a1 := F.sub_list_set; have a2 := F.sub_list_frozenset
      have a3 : (Value.type "list" == Value.type "dict") = false := by decide
      have pl1 : (s.heap.push (zSet w)).IsList l its := ⟨_, ho1, rfl, nl, rfl⟩
      unfold Builtin.«set.__init__» noKeywords Builtin.Frozenset.updateFrom
      generalize hI : pyIter = Pit
      wp_walk
      subst hI
      refine wpAny_pyIter_list pl1 (wpAny_bind (wpAny_runValue ?_))
      have lt : l < s.heap.objs.size := Heap.lt_size ho
      have hA3 : A.in1.in1.in1.handled = none := by simp [hA]
      have sz1 : (s.heap.push (zSet w)).objs.size = s.heap.objs.size + 1 := Heap.size_push ..
      have nI : l ≠ (s.heap.push (zSet w)).objs.size := fun z => by rw [sz1] at z; exact Nat.ne_of_lt (Nat.lt_succ_of_lt lt) z
      have nf : s.heap.objs.size ∉ [(s.heap.push (zSet w)).objs.size, l] := by
        rw [sz1]; simp only [List.mem_cons, List.not_mem_nil, or_false, not_or]
        exact And.intro (Nat.ne_of_lt (Nat.lt_succ_self _)) (Nat.ne_of_gt lt)
      refine set_update_ints ((Walks.list hA3 _ l nI its).toS) s.heap.objs.size nf ns hsz few (fun i v hv => ?_) (its.size - 0) 0 _ (by omega) (Nat.zero_le _) ⟨⟨_, Heap.get?_push_size _ rfl, rfl, rfl⟩, pl1.push _⟩ ⟨0, Nat.le_refl 0, ?_⟩ ?_
      · have hi : i < ns.length := by rw [← hsz]; exact (Array.getElem?_eq_some_iff.mp hv).1
        obtain ⟨t, e⟩ := IntsAre.int_at hit i v (by rw [Array.getElem?_toList]; exact hv)
        refine ⟨ns[i], t, List.getElem?_eq_getElem hi, ?_⟩
        rw [e, List.getD_eq_getElem?_getD, List.getElem?_eq_getElem hi] <;> rfl
      · exact setR_new_at (show ((s.heap.push (zSet w)).push (zIter l)).get? s.heap.objs.size = some (zSet w) from Heap.get?_push_of_some _ hS)
      · rintro ⟨h', g2, d', tk', os'⟩ c' hm hc' hS'
        obtain rfl : g2 = s.gens := hm.gens
        obtain rfl : d' = s.drawn := hm.drawn
        obtain rfl : os' = s.os := hm.os
        show wpAny _ _ _ _ _ _
        refine wpAny_pure (show wpAny _ _ (ret Value.none) _ _ _ from wpAny_pure ⟨rfl, h', tk', c', rfl, hS', by omega, fun b o e => ?_⟩)
        have b0 : b < s.heap.objs.size := Heap.lt_size e
        refine hm.heap b o ?_ (Heap.get?_push_of_some _ (Heap.get?_push_of_some _ e))
        rw [sz1]; simp only [List.mem_cons, List.not_mem_nil, or_false, not_or]
        exact And.intro (Nat.ne_of_lt b0) (Nat.ne_of_lt (Nat.lt_succ_of_lt b0))
    · rcases r2 with e | f2
      · exact hr2
      cases f2 with
      | ret r =>
        obtain ⟨rfl, h', tk, c', rfl, hS', hc', k'⟩ := hr2
        repeat (any_goals (first | assumption | wp_step))
        exact q _ _ _ hS' hc' k'
      | _ => exact hr2.elim
  | _ => exact hr.elim
end
end VL

set_option Elab.async false
set_option linter.all false
set_option maxRecDepth 100000
set_option maxHeartbeats 3200000
/-! part VL2T: sorted(set(xs)), a dict's values in its keys' order. -/
namespace VL
open PySem PySem.Spec PyProof.Rows L2
def insU (k : Int) : List Int → List Int
  | [] => [k]
  | x :: r => if k < x then k :: x :: r else if k = x then x :: r else x :: insU k r
/-- the numbers of xs, each once, from the least on -/
def ssetI (ns : List Int) : List Int := ns.foldr insU []
theorem mem_insU (k : Int) : ∀ (l : List Int) (y : Int), y ∈ insU k l ↔ y = k ∨ y ∈ l
  | [], y => by simp [insU]
  | x :: r, y => by
    unfold insU
    split
    · simp
    · split
      · rename_i h; subst h; simp
      · simp only [List.mem_cons, mem_insU k r y]
        constructor
        · rintro (h | h | h)
          · exact .inr (.inl h)
          · exact .inl h
          · exact .inr (.inr h)
        · rintro (h | h | h)
          · exact .inr (.inl h)
          · exact .inl h
          · exact .inr (.inr h)
theorem mem_ssetI (y : Int) : ∀ ns : List Int, y ∈ ssetI ns ↔ y ∈ ns
  | [] => by simp [ssetI]
  | x :: r => by
    unfold ssetI
    rw [List.foldr_cons, mem_insU, List.mem_cons]
    exact or_congr Iff.rfl (mem_ssetI y r)
theorem ord_insU (k : Int) : ∀ {l : List Int}, l.Pairwise (· < ·) → (insU k l).Pairwise (· < ·)
  | [], _ => by simp [insU]
  | x :: r, h => by
    obtain ⟨h1, h2⟩ := List.pairwise_cons.mp h
    unfold insU
    split
    · rename_i hk
      refine List.pairwise_cons.mpr ⟨fun y hy => ?_, h⟩
      rcases List.mem_cons.mp hy with e | e
      · omega
      · have := h1 y e; omega
    · split
      · exact h
      · refine List.pairwise_cons.mpr ⟨fun y hy => ?_, ord_insU k h2⟩
        rcases (mem_insU k r y).mp hy with e | e
        · omega
        · exact h1 y e
theorem ord_ssetI : ∀ ns : List Int, (ssetI ns).Pairwise (· < ·)
  | [] => by simp [ssetI]
  | x :: r => by
    unfold ssetI
    rw [List.foldr_cons]
    exact ord_insU x (ord_ssetI r)
theorem strict_uniq : ∀ {l m : List Int}, l.Pairwise (· < ·) → m.Pairwise (· < ·) → (∀ y, y ∈ l ↔ y ∈ m) → l = m
  | [], [], _, _, _ => rfl
  | [], y :: m, _, _, h => absurd ((h y).mpr List.mem_cons_self) (by simp)
  | x :: l, [], _, _, h => absurd ((h x).mp List.mem_cons_self) (by simp)
  | x :: l, y :: m, hl, hm, h => by
    obtain ⟨a1, a2⟩ := List.pairwise_cons.mp hl
    obtain ⟨b1, b2⟩ := List.pairwise_cons.mp hm
    have e : x = y := by
      rcases List.mem_cons.mp ((h x).mp List.mem_cons_self) with p | p
      · exact p
      · rcases List.mem_cons.mp ((h y).mpr List.mem_cons_self) with q | q
        · exact q.symm
        · have := a1 y q; have := b1 x p; omega
    subst e
    rw [strict_uniq a2 b2 fun z => ?_]
    constructor
    · intro hz
      rcases List.mem_cons.mp ((h z).mp (List.mem_cons_of_mem _ hz)) with p | p
      · have := a1 z hz; omega
      · exact p
    · intro hz
      rcases List.mem_cons.mp ((h z).mpr (List.mem_cons_of_mem _ hz)) with p | p
      · have := b1 z hz; omega
      · exact p
def dSset : D → Rs RV
  | .list xs => match intsOf xs with
    | some ns => if ns.length < 64 then .ok (.fr (.list ((ssetI ns).map PyData.int))) else .bad
    | none => .bad
  | _ => .bad
section
variable {X : Cx} {E : XK} {K : PySem.W.Frag} {mg : Str → Option Value} {G0 H0 G H G1 H1 G' H' Hb : Hp} {σ σ' : St} {ρ : Env} {Q : VK} {N : Ends}
def rSetOfL (K : PySem.W.Frag) (w : World) : List V → Hp → VK → Prop := fun vs H Q => ∃ (l : Addr) (ns : List Int), vs = [.ref l] ∧ SqL K H l (ns.map V.int) ∧ ns.length < 64 ∧
  ∀ p c, H p = none → c ≤ ns.length → Q (.ref p) (upd H p (SetO w p (fun j => decide (j ∈ ns)) c))
theorem cr_setL (hc : X.calm = true) : CallR X (.type "set") (rSetOfL X.K X.w) := by
  intro pins s σ H vs us Q I r h
  obtain ⟨l, ns, rfl, hq, few, q⟩ := h
  rw [Vals.ref1 r]
  obtain ⟨its, r2, pl, hz⟩ := I.list hq
  refine set_from_list ns (I.ok.hd hc) pl.isList (by simpa using r2.ints) (by unfold scanBound; omega) fun h' tk c hS hcl hk => ?_
  exact ⟨.ref _, _, I.laid (t' := tk) (fun b u e => hk b u e) (Nat.le_refl _) (setO_new hS), rfl, q _ c (I.hok.fresh (Nat.le_refl _)) hcl⟩
theorem ev_sset {e : Expr} {p1 p2 p3 pos : Pos} {f : Env → Rs RV} (hc : X.calm = true) (hg : Gl X "sorted") (hm : X.mg "sorted" = none) (hg2 : Gl X "set") (hm2 : X.mg "set" = none) (h : EV X E e f)
    (hs : starEach [e] X.env = (false, eval e X.env) :: starEach [] X.env) : EV X E (.Call (.Name "sorted" p1) [.Call (.Name "set" p2) [e] [] p3] [] pos) (cUn dSset f) := by
  refine ev_of (pe_callB (cr_sortedSet hc) hg hm rfl (pa_cons (pe_callTy (cr_setL hc) hg2 hm2 rfl (pa_cons h pa_nil hs) (he := hs)) pa_nil)) fun G0 H0 G H σ ρ Q I p => ?_
  refine tEV_bind I p fun a G1 H1 v ea I1 m1 q1 p1 => ?_
  have w := q1.view I1.gh
  cases ed : a.val with
  | list xs =>
    rw [ed] at w p1
    cases ei : intsOf xs with
    | none => simp only [dSset, ei] at p1; exact p1.bad
    | some ns =>
      by_cases few : ns.length < 64
      · simp only [dSset, ei, few, if_true] at p1
        have := intsOf_some ei
        subst this
        obtain ⟨l, vs, rfl, hq, r⟩ := w
        have e2 := r.ints
        subst e2
        refine ⟨l, ns, rfl, hq, few, fun q c nq hcl => ?_⟩
        refine ⟨q, _, c, rfl, upd_same, by omega, fun ms p2 hord hmem hlen n2 => ?_⟩
        have e3 : ms = ssetI ns := strict_uniq hord (ord_ssetI ns) fun y => by rw [hmem y, mem_ssetI]; simp
        subst e3
        obtain ⟨I2, m2⟩ := I1.newOwn (o := SetO X.w q (fun j => decide (j ∈ ns)) c) nq
        obtain ⟨I3, m3⟩ := I2.newOwn (o := .lst ((ssetI ns).map V.int)) n2
        have n1 : H1 p2 = none := m2.h.free n2
        refine p1 _ _ (.ref p2) I3 (m2.trans m3) ⟨p2, rfl, n1, I1.gh.free n1, _, upd_same, .of_ints _⟩
      · simp only [dSset, ei, few, if_false] at p1
        exact p1.bad
  | _ => rw [ed] at p1; exact p1.bad
end
end VL

set_option Elab.async false
set_option linter.all false
set_option maxRecDepth 100000
set_option maxHeartbeats 4000000
/-! part VL6: targets, comprehensions, statements, over trees. -/
namespace VL
open PySem PySem.Spec PyProof.Rows L2

section
variable {X : Cx} {E : XK} {K : PySem.W.Frag} {mg : Str → Option Value} {G0 H0 G H G1 H1 G' H' Hb : Hp} {σ σ' : St} {ρ : Env} {Q : VK}
/-! ### slots put -/
theorem RE.put_gen {s : Sl} {i : Nat} {o : Option V} (I : RE K G0 H0 G H σ ρ) (hs : SlOk K H0 G H s (some o))
    (hd : ∀ d p, s = .ow d → o = some (.ref p) → ∀ j d', i ≠ j → gt ρ j = .ow d' → σ[j]? = some (some (.ref p)) → False) : RE K G0 H0 G H (σ.set i o) (pt ρ i s) := by
  by_cases hi : i < σ.length
  · have hi' : i < ρ.length := by rw [← I.len]; exact hi
    refine ⟨I.mon, I.gh, by rw [List.length_set, pt_length, I.len], fun j => ?_, fun a b d d' p hab e1 e2 e3 e4 => ?_⟩
    · by_cases hj : i = j
      · subst hj
        rw [gt_pt_same hi', List.getElem?_set_self hi]
        exact hs
      · rw [gt_pt_ne hj, List.getElem?_set_ne hj]
        exact I.slot j
    · by_cases ha : i = a
      · subst ha
        rw [gt_pt_same hi'] at e1
        rw [gt_pt_ne hab] at e2
        rw [List.getElem?_set_self hi] at e3
        rw [List.getElem?_set_ne hab] at e4
        exact hd d p e1 (Option.some.inj e3) b d' hab e2 e4
      · by_cases hb : i = b
        · subst hb
          rw [gt_pt_same hi'] at e2
          rw [gt_pt_ne ha] at e1
          rw [List.getElem?_set_self hi] at e4
          rw [List.getElem?_set_ne ha] at e3
          exact hd d' p e2 (Option.some.inj e4) a d ha e1 e3
        · rw [gt_pt_ne ha] at e1
          rw [gt_pt_ne hb] at e2
          rw [List.getElem?_set_ne ha] at e3
          rw [List.getElem?_set_ne hb] at e4
          exact I.dis a b d d' p hab e1 e2 e3 e4
  · have hi' : ¬ i < ρ.length := by rw [← I.len]; exact hi
    have e1 : σ.set i o = σ := List.set_eq_of_length_le (by omega)
    have e2 : pt ρ i s = ρ := by
      unfold pt
      exact List.set_eq_of_length_le (by omega)
    rw [e1, e2]
    exact I
theorem RE.put_sh {i : Nat} {d : D} {v : V} (I : RE K G0 H0 G H σ ρ) (r : Rep K G d v) : RE K G0 H0 G H (σ.set i (some v)) (pt ρ i (.sh d)) :=
  I.put_gen ⟨v, rfl, r⟩ fun _ _ e => nomatch e
theorem RE.put_un {i : Nat} {o : Option V} (I : RE K G0 H0 G H σ ρ) : RE K G0 H0 G H (σ.set i o) (pt ρ i .un) :=
  I.put_gen trivial fun _ _ e => nomatch e
theorem RE.forget (I : RE K G0 H0 G H σ ρ) (i : Nat) : RE K G0 H0 G H σ (pt ρ i .un) := by
  have h := I.put_un (i := i) (o := (σ[i]?).getD none)
  by_cases hi : i < σ.length
  · have e : σ.set i ((σ[i]?).getD none) = σ := by
      refine List.ext_getElem? fun j => ?_
      by_cases hj : i = j
      · subst hj
        rw [List.getElem?_set_self hi]
        rw [List.getElem?_eq_getElem hi]
        rfl
      · rw [List.getElem?_set_ne hj]
    rw [e] at h
    exact h
  · have e : σ.set i ((σ[i]?).getD none) = σ := List.set_eq_of_length_le (by omega)
    rw [e] at h
    exact h
theorem RE.forgets (I : RE K G0 H0 G H σ ρ) : ∀ is : List Nat, RE K G0 H0 G H σ (ptAll ρ is)
  | [] => I
  | i :: is => (I.forgets is).forget i
theorem RE.wipe (I : RE K G0 H0 G H σ ρ) : ∀ is : List Nat, RE K G0 H0 G H (L2.wipe σ is) (ptAll ρ is)
  | [] => I
  | i :: is => (I.wipe is).put_un
/-- a new list or dict of one's own goes to a slot -/
theorem RE.put_ow {i : Nat} {d : D} {p : Addr} {G1 H1 : Hp} (I1 : RE K G0 H0 G1 H1 σ ρ) (I : RE K G0 H0 G H σ ρ) (m : Mon G H G1 H1) (np : H p = none) (ng : G1 p = none) (c : Cell K G1 H1 p d) : RE K G0 H0 G1 H1 (σ.set i (some (.ref p))) (pt ρ i (.ow d)) := by
  refine I1.put_gen ⟨p, rfl, I.mon.h.free np, ng, c⟩ fun d2 q e1 e2 j d' hij e3 e4 => ?_
  cases e2
  have s := I.slot j
  rw [e3] at s
  obtain ⟨q, e5, _, _, c2⟩ := s
  rw [e4] at e5
  cases e5
  obtain ⟨o, e6⟩ := c2.there
  rw [np] at e6
  cases e6

theorem Reps.nil_inv {vs : List V} (r : Reps K G [] vs) : vs = [] := by
  cases r
  rfl
theorem Reps.cons_inv {d : D} {ds : List D} {vs : List V} (r : Reps K G (d :: ds) vs) : ∃ v us, vs = v :: us ∧ Rep K G d v ∧ Reps K G ds us := by
  cases r with
  | cons a b => exact ⟨_, _, rfl, a, b⟩
theorem Rep.tup_inv {ds : List D} {v : V} (r : Rep K G (.tuple ds) v) : ∃ a vs, v = .ref a ∧ SqT K G a vs ∧ Reps K G ds vs := by
  cases r with
  | tup q r => exact ⟨_, _, rfl, q, r⟩

/-! ### targets -/
/-- is are the slots that it may store to -/
def tGV (K : PySem.W.Frag) (is : List Nat) (f : D → Env → Rs Env) : TG := fun v σ H Q => ∃ G0 H0 G ρ d, RE K G0 H0 G H σ ρ ∧ Rep K G d v ∧ (match f d ρ with
  | .ok ρ' => ∀ σ', RE K G0 H0 G H σ' ρ' → σ'.length = σ.length → (∀ i, i ∉ is → σ'[i]? = σ[i]?) → Q σ' H
  | _ => False)
def GV (X : Cx) (tg : Expr) (is : List Nat) (f : D → Env → Rs Env) : Prop := PG X tg (tGV X.K is f)
theorem PG.weak {e : Expr} {t t' : TG} (h : PG X e t) (hw : ∀ v σ H Q, t' v σ H Q → t v σ H Q) : PG X e t' := ⟨fun pins s σ H v u Q I r q => h.run pins s σ H v u Q I r (hw _ _ _ _ q)⟩
theorem PGs.weak {e : List Expr} {t t' : TGs} (h : PGs X e t) (hw : ∀ v σ H Q, t' v σ H Q → t v σ H Q) : PGs X e t' := ⟨fun pins s σ H v u Q I r q => h.run pins s σ H v u Q I r (hw _ _ _ _ q)⟩
def kName (i : Nat) : D → Env → Rs Env := fun d ρ => .ok (pt ρ i (.sh d))
theorem gv_name {i : Nat} {x : Str} {pos : Pos} (hN : X.N.Nodup) (hi : X.N[i]? = some x) (hx : Loc X.env.scope x) (hf : X.fn x = true ∨ X.env.scope.names.lookup x = some .local) : GV X (.Name x pos) [i] (kName i) := by
  refine PG.weak (pg_name hN hi hx hf) fun v σ H Q ⟨G0, H0, G, ρ, d, I, r, q⟩ => ?_
  refine q _ (I.put_sh r) List.length_set fun j hj => ?_
  have : i ≠ j := fun e => hj (by rw [e]; exact List.mem_cons_self)
  rw [List.getElem?_set_ne this]
def tGVs (K : PySem.W.Frag) (is : List Nat) (f : List D → Env → Rs Env) : TGs := fun vs σ H Q => ∃ G0 H0 G ρ ds, RE K G0 H0 G H σ ρ ∧ Reps K G ds vs ∧ (match f ds ρ with
  | .ok ρ' => ∀ σ', RE K G0 H0 G H σ' ρ' → σ'.length = σ.length → (∀ i, i ∉ is → σ'[i]? = σ[i]?) → Q σ' H
  | _ => False)
def GVs (X : Cx) (tgs : List Expr) (is : List Nat) (f : List D → Env → Rs Env) : Prop := PGs X tgs (tGVs X.K is f)
def kNil : List D → Env → Rs Env := fun ds ρ => match ds with
  | [] => .ok ρ
  | _ => .bad
def kCons (f : D → Env → Rs Env) (g : List D → Env → Rs Env) : List D → Env → Rs Env := fun ds ρ => match ds with
  | d :: r => (f d ρ).bind fun ρ1 => g r ρ1
  | [] => .bad
def kTup (f : List D → Env → Rs Env) : D → Env → Rs Env := fun d ρ => match d with
  | .tuple ds => f ds ρ
  | _ => .bad
theorem gvs_nil : GVs X [] [] kNil := by
  refine PGs.weak pgs_nil fun vs σ H Q ⟨G0, H0, G, ρ, ds, I, r, q⟩ => ?_
  cases ds with
  | nil => exact ⟨r.nil_inv, q σ I rfl fun _ _ => rfl⟩
  | cons _ _ => exact q.elim
theorem gvs_cons {e : Expr} {es : List Expr} {is js : List Nat} {f : D → Env → Rs Env} {g : List D → Env → Rs Env} (h1 : GV X e is f) (h2 : GVs X es js g) (hs : (assignEach (e :: es) X.env).map (·.2) = assign e X.env :: (assignEach es X.env).map (·.2)) :
    GVs X (e :: es) (is ++ js) (kCons f g) := by
  refine PGs.weak (pgs_cons h1 h2 hs) fun vs σ H Q ⟨G0, H0, G, ρ, ds, I, r, q⟩ => ?_
  cases ds with
  | nil => exact q.elim
  | cons d ds =>
    obtain ⟨v, us, e0, a, b⟩ := r.cons_inv
    refine ⟨v, us, e0, G0, H0, G, ρ, d, I, a, ?_⟩
    have q : (match (f d ρ).bind fun ρ1 => g ds ρ1 with
      | .ok ρ' => ∀ σ', RE X.K G0 H0 G H σ' ρ' → σ'.length = σ.length → (∀ i, i ∉ is ++ js → σ'[i]? = σ[i]?) → Q σ' H
      | _ => False) := q
    revert q
    cases e : f d ρ with
    | bad => exact fun q => q
    | ex x => exact fun q => q
    | ok ρ1 =>
      intro q σ1 I1 l1 n1
      refine ⟨G0, H0, G, ρ1, ds, I1, b, ?_⟩
      have q : (match g ds ρ1 with
        | .ok ρ' => ∀ σ', RE X.K G0 H0 G H σ' ρ' → σ'.length = σ.length → (∀ i, i ∉ is ++ js → σ'[i]? = σ[i]?) → Q σ' H
        | _ => False) := q
      revert q
      cases e2 : g ds ρ1 with
      | bad => exact fun q => q
      | ex x => exact fun q => q
      | ok ρ2 =>
        intro q σ2 I2 l2 n2
        refine q σ2 I2 (l2.trans l1) fun i hi => ?_
        rw [List.mem_append, not_or] at hi
        rw [n2 i hi.2, n1 i hi.1]
theorem gv_tup {es : List Expr} {k : Nat} {pos : Pos} {is : List Nat} {g : List D → Env → Rs Env} (hc : X.calm = true) (h : GVs X es is g) (hg : ∀ ds ρ ρ', g ds ρ = .ok ρ' → ds.length = es.length) (hn : (assignEach es X.env).length = es.length) (hst : (assignEach es X.env).findIdx? (·.1) = none) :
    GV X (.Tuple es k pos) is (kTup g) := by
  refine PG.weak (pg_tup (n := es.length) hc h hn hst) fun v σ H Q ⟨G0, H0, G, ρ, d, I, r, q⟩ => ?_
  cases d with
  | tuple ds =>
    obtain ⟨a, vs, e0, qq, rr⟩ := r.tup_inv
    · refine ⟨a, vs, e0, (Same.rd I.gh).tup qq, ?_, G0, H0, G, ρ, ds, I, rr, q⟩
      rw [rr.length]
      have q' : (match g ds ρ with
        | .ok ρ' => ∀ σ', RE X.K G0 H0 G H σ' ρ' → σ'.length = σ.length → (∀ i, i ∉ is → σ'[i]? = σ[i]?) → Q σ' H
        | _ => False) := q
      cases e : g ds ρ with
      | bad => rw [e] at q'; exact q'.elim
      | ex x => rw [e] at q'; exact q'.elim
      | ok ρ' => exact hg _ _ _ e
  | _ => exact q.elim

/-! ### comprehensions -/
def boolOf : Rs RV → Rs Bool
  | .ok r => match r.val with
    | .bool b => .ok b
    | _ => .bad
  | .ex x => .ex x
  | .bad => .bad
/-- a test that may lack -/
def cTest (c : Option (Env → Rs RV)) (ρ : Env) : Rs Bool := match c with
  | none => .ok true
  | some f => boolOf (f ρ)
def compL (tg : D → Env → Rs Env) (c : Option (Env → Rs RV)) (f : Env → Rs RV) : List D → Env → Rs (List D)
  | [], _ => .ok []
  | d :: ds, ρ => (tg d ρ).bind fun ρ1 => (cTest c ρ1).bind fun b => if b then (f ρ1).bind fun r => r.shd.bind fun y => (compL tg c f ds ρ).bind fun ys => .ok (y :: ys) else compL tg c f ds ρ
def cLc (it : Env → Rs (Bool × List D)) (tg : D → Env → Rs Env) (c : Option (Env → Rs RV)) (f : Env → Rs RV) (own : List Nat) : Env → Rs RV := fun ρ => (it ρ).bind fun r => match compL tg c f r.2 (ptAll ρ own) with
  | .ok ys => if r.2.length ≤ sizeLine then .ok (.fr (.list ys)) else .bad
  | _ => .bad
def tTs (K : PySem.W.Frag) (mg : Str → Option Value) (c : Option (Env → Rs RV)) : TT := match c with
  | none => tYes
  | some f => tTV K mg Eno f
/-- the tests of a comprehension -/
def CV (X : Cx) (ifs : List Expr) (c : Option (Env → Rs RV)) : Prop := PTs X ifs (tTs X.K X.mg c)
theorem cv_none : CV X [] none := pts_nil
theorem cv_one {e : Expr} {f : Env → Rs RV} (h : TV X Eno e f) : CV X [e] (some f) := pts_one h
theorem tTV_of {E : XK} {f : Env → Rs RV} {R : Bool → Hp → Prop} (I : RE K G0 H0 G H σ ρ) {b : Bool} (e : boolOf (f ρ) = .ok b) (h : ∀ G1 H1, RE K G0 H0 G1 H1 σ ρ → Mon G H G1 H1 → R b H1) : tTV K mg E f σ H R := by
  refine ⟨G0, H0, G, ρ, I, ?_⟩
  cases er : f ρ with
  | bad => rw [er] at e; cases e
  | ex x => rw [er] at e; cases e
  | ok r =>
    rw [er] at e
    intro G1 H1 v I1 m1 q1
    have w := q1.view I1.gh
    simp only [boolOf] at e
    revert e w
    cases r.val <;> intro e w <;> cases e
    exact ⟨b, w.bl, h G1 H1 I1 m1⟩
theorem tTs_of {c : Option (Env → Rs RV)} {R : Bool → Hp → Prop} (I : RE K G0 H0 G H σ ρ) {b : Bool} (e : cTest c ρ = .ok b) (h : ∀ G1 H1, RE K G0 H0 G1 H1 σ ρ → Mon G H G1 H1 → R b H1) : tTs K mg c σ H R := by
  cases c with
  | none =>
    cases e
    exact h G H I (Mon.refl _ _)
  | some f => exact tTV_of I e h
theorem wipe_at {σ : St} : ∀ {is : List Nat} {i : Nat}, i ∈ is → i < σ.length → (L2.wipe σ is)[i]? = some none
  | j :: is, i, hm, hl => by
    unfold L2.wipe
    by_cases e : j = i
    · subst e
      rw [List.getElem?_set_self (by rw [wipe_length]; exact hl)]
    · rw [List.getElem?_set_ne e]
      exact wipe_at ((List.mem_cons.mp hm).resolve_left fun z => e z.symm) hl
theorem wipe_not {σ : St} : ∀ {is : List Nat} {i : Nat}, i ∉ is → (L2.wipe σ is)[i]? = σ[i]?
  | [], _, _ => rfl
  | j :: is, i, hm => by
    unfold L2.wipe
    rw [List.mem_cons, not_or] at hm
    rw [List.getElem?_set_ne (fun e => hm.1 e.symm)]
    exact wipe_not hm.2
theorem wipe_same {σ σ' : St} {is js : List Nat} (hl : σ'.length = σ.length) (h : ∀ i, i ∉ is → σ'[i]? = (L2.wipe σ js)[i]?) (hs : ∀ i ∈ is, i ∈ js) : L2.wipe σ' js = L2.wipe σ js := by
  refine List.ext_getElem? fun i => ?_
  by_cases hi : i ∈ js
  · by_cases hlen : i < σ.length
    · rw [wipe_at hi hlen, wipe_at hi (by rw [hl]; exact hlen)]
    · rw [List.getElem?_eq_none (by rw [wipe_length, hl]; omega), List.getElem?_eq_none (by rw [wipe_length]; omega)]
  · rw [wipe_not hi, wipe_not hi, h i fun z => hi (hs i z), wipe_not hi]
theorem lc_reading {it : Env → Rs (Bool × List D)} {k : D → Env → Rs Env} {c : Option (Env → Rs RV)} {f : Env → Rs RV} {is own : List Nat} (hsub : ∀ i ∈ is, i ∈ own) {Q : VK} (I : RE K G0 H0 G H σ ρ) (p : Post K mg E G0 H0 G H σ ρ Q (cLc it k c f own ρ)) :
    tLc (tIV K mg E it) (tGV K is k) (tTs K mg c) (tEV K mg Eno f) own σ H Q := by
  refine ⟨G0, H0, G, ρ, I, ?_⟩
  unfold cLc at p
  cases ei : it ρ with
  | bad => rw [ei] at p; exact p
  | ex x => rw [ei] at p; exact p
  | ok r =>
    rw [ei, Rs.bind_ok] at p
    obtain ⟨ow, ds⟩ := r
    simp only at p
    intro G1 H1 J I1 m1 hJ _ D nD
    have hJ' : ItOk K J G1 H1 ds := hJ
    cases ec : compL k c f ds (ptAll ρ own) with
    | bad => rw [ec] at p; exact p.elim
    | ex x => rw [ec] at p; exact p.elim
    | ok total =>
      rw [ec] at p
      by_cases hz : ds.length ≤ sizeLine
      · simp only [hz, if_true] at p
        obtain ⟨I2, m2⟩ := I1.newOwn (o := .lst []) nD
        refine ⟨fun i m H2 => m = ds.length - i ∧ i ≤ ds.length ∧ ∃ G2 acc vs rest, RE K G0 H0 G2 H2 σ ρ ∧ Mon G1 (upd H1 D (.lst [])) G2 (upd H2 D (.lst [])) ∧ H2 D = some (.lst vs) ∧ G2 D = none ∧ Reps K G2 acc vs ∧ vs.length ≤ i ∧
          compL k c f (ds.drop i) (ptAll ρ own) = .ok rest ∧ acc ++ rest = total, ⟨_, rfl, Nat.zero_le _, G1, [], [], total, I2, ?_, upd_same, I1.gh.free nD, .nil, Nat.le_refl _, ec, rfl⟩, ?_⟩
        · rw [upd_upd]
          exact Mon.refl _ _
        · rintro i m H2 ⟨rfl, hi, G2, acc, vs, rest, J2, mm, hD, gD, rr, hlen, er, et⟩
          -- the heap without the list that grows is grown from H1
          have mJ : Mon G1 H1 G2 H2 := by
            refine ⟨mm.g, fun b u e => ?_, fun a n e => mm.k a ?_ e⟩
            · have nb : b ≠ D := ne_of_none e nD
              have h := mm.h b u (by rw [upd_ne nb]; exact e)
              rw [upd_ne nb] at h
              exact h
            · by_cases ha : a = D
              · rw [ha, upd_same]; exact fun z => nomatch z
              · rw [upd_ne ha]; exact n
          obtain ⟨hstop, hitem⟩ := hJ' G2 H2 mJ J2.gh
          by_cases hlt : i < ds.length
          · right
            obtain ⟨hgo, hy⟩ := hitem i ds[i] (List.getElem?_eq_getElem hlt)
            refine ⟨hgo, fun H3 => i + 1 ≤ ds.length ∧ ∃ G2 acc vs rest, RE K G0 H0 G2 H3 σ ρ ∧ Mon G1 (upd H1 D (.lst [])) G2 (upd H3 D (.lst [])) ∧ H3 D = some (.lst vs) ∧ G2 D = none ∧ Reps K G2 acc vs ∧ vs.length ≤ i + 1 ∧
              compL k c f (ds.drop (i + 1)) (ptAll ρ own) = .ok rest ∧ acc ++ rest = total, fun H3 ⟨h1, h2⟩ => ⟨ds.length - (i + 1), by omega, rfl, h1, h2⟩, fun x H3 yy => ?_⟩
            obtain ⟨G3, gh3, m3, rx⟩ := hy x H3 yy
            have J3 : RE K G0 H0 G3 H3 σ ρ := J2.step m3 gh3
            have hD3 : H3 D = some (.lst vs) := m3.h _ _ hD
            have gD3 : G3 D = none := m3.k D (by rw [hD]; exact fun z => nomatch z) gD
            have rr3 := rr.up m3.g
            -- monotone but for D
            have mono : ∀ {Ga Ha Gb Hb2 : Hp} {va vb : List V}, Mon G1 (upd H1 D (.lst [])) Ga (upd Ha D (.lst [])) → Mon Ga Ha Gb Hb2 → Ha D = some (.lst va) → Mon G1 (upd H1 D (.lst [])) Gb (upd Hb2 D (.lst [])) := fun {Ga Ha Gb Hb2 va vb} a b hd => by
              refine ⟨a.g.trans b.g, fun q u e => ?_, fun q n e => b.k q ?_ (a.k q n e)⟩
              · by_cases hq : q = D
                · subst hq
                  rw [upd_same] at e ⊢
                  exact e
                · have h := a.h q u e
                  rw [upd_ne hq] at h ⊢
                  exact b.h q u h
              · by_cases hq : q = D
                · rw [hq, hd]; exact fun z => nomatch z
                · have n' := n
                  rw [upd_ne hq] at n'
                  have h := Same.some a.h n
                  rw [upd_ne hq, upd_ne hq] at h
                  rw [h]
                  exact n'
            have mm3 := mono (vb := vs) mm m3 hD
            have ed : ds.drop i = ds[i] :: ds.drop (i + 1) := List.drop_eq_getElem_cons hlt
            rw [ed] at er
            unfold compL at er
            refine ⟨G0, H0, G3, ptAll ρ own, ds[i], J3.wipe _, rx, ?_⟩
            cases ek : k ds[i] (ptAll ρ own) with
            | bad => rw [ek] at er; cases er
            | ex _ => rw [ek] at er; cases er
            | ok ρ1 =>
              rw [ek, Rs.bind_ok] at er
              intro σ2 K2 l2 n2
              refine ⟨wipe_same (is := is) (by rw [l2, wipe_length]) n2 hsub, ?_⟩
              cases eb : cTest c ρ1 with
              | bad => rw [eb] at er; cases er
              | ex _ => rw [eb] at er; cases er
              | ok b =>
                rw [eb, Rs.bind_ok] at er
                refine tTs_of K2 eb fun G4 H4 K4 m4 => ?_
                have J4 : RE K G0 H0 G4 H4 σ ρ := J3.step m4 K4.gh
                have hD4 : H4 D = some (.lst vs) := m4.h _ _ hD3
                have gD4 : G4 D = none := m4.k D (by rw [hD3]; exact fun z => nomatch z) gD3
                have mm4 := mono (vb := vs) mm3 m4 hD3
                cases b with
                | false =>
                  rw [if_neg Bool.false_ne_true]
                  rw [if_neg Bool.false_ne_true] at er
                  exact ⟨hlt, G4, acc, vs, rest, J4, mm4, hD4, gD4, rr3.up m4.g, by omega, er, et⟩
                | true =>
                  rw [if_pos rfl]
                  rw [if_pos rfl] at er
                  refine ⟨G0, H0, G4, ρ1, K4, ?_⟩
                  cases ef : f ρ1 with
                  | bad => rw [ef] at er; cases er
                  | ex _ => rw [ef] at er; cases er
                  | ok rv =>
                    rw [ef, Rs.bind_ok] at er
                    intro G5 H5 v5 K5 m5 q5
                    -- the item as a shared thing
                    have shared : ∃ G6 y, rv.shd = .ok y ∧ RE K G0 H0 G6 H5 σ2 ρ1 ∧ Mon G4 H4 G6 H5 ∧ Rep K G6 y v5 := by
                      cases rv with
                      | ow d => cases er
                      | sh d => exact ⟨G5, d, rfl, K5, m5, q5⟩
                      | fr d =>
                        obtain ⟨a, rfl, b1, b2, b3⟩ := q5
                        obtain ⟨G6, K6, m6, r6⟩ := K5.freeze K4 m5 b1 b2 b3
                        exact ⟨G6, d, rfl, K6, m6, r6⟩
                    obtain ⟨G6, y, ey, K6, m6, r6⟩ := shared
                    rw [ey, Rs.bind_ok] at er
                    cases ecc : compL k c f (ds.drop (i + 1)) (ptAll ρ own) with
                    | bad => rw [ecc] at er; cases er
                    | ex _ => rw [ecc] at er; cases er
                    | ok ys =>
                      rw [ecc, Rs.bind_ok] at er
                      cases er
                      have hD5 : H5 D = some (.lst vs) := m6.h _ _ hD4
                      have gD5 : G6 D = none := m6.k D (by rw [hD4]; exact fun z => nomatch z) gD4
                      have mm5 := mono (vb := vs) mm4 m6 hD4
                      have J5 : RE K G0 H0 G6 H5 σ ρ := J4.step m6 K6.gh
                      have r5 := (rr3.up m4.g).up m6.g
                      refine ⟨vs, hD5, by omega, hlt, G6, acc ++ [y], vs ++ [v5], ys, ?_, ?_, upd_same, gD5, r5.snoc r6, by rw [List.length_append]; simp only [List.length_singleton]; omega, rfl, by rw [List.append_assoc]; exact et⟩
                      · -- the list of one's own (no slot's) has grown
                        refine ⟨⟨J5.mon.g, fun b u e => ?_, J5.mon.k⟩, fun b u e => ?_, J5.len, fun j => ?_, J5.dis⟩
                        · have nb : b ≠ D := by
                            intro z
                            subst z
                            have : H1 b = none := nD
                            have h2 := I1.mon.h b u e
                            rw [this] at h2
                            cases h2
                          rw [upd_ne nb]
                          exact J5.mon.h b u e
                        · have nb : b ≠ D := by
                            intro z
                            subst z
                            rw [gD5] at e
                            cases e
                          rw [upd_ne nb]
                          exact J5.gh b u e
                        · have h := J5.slot j
                          cases es : gt ρ j with
                          | un => exact trivial
                          | sh d => rw [es] at h; exact h
                          | ow d =>
                            rw [es] at h
                            obtain ⟨p', h1, h2, h3, h4⟩ := h
                            -- an own slot's cell stood before D was made
                            have hs := I1.slot j
                            rw [es] at hs
                            obtain ⟨p'', g1, _, _, g4⟩ := hs
                            rw [h1] at g1
                            cases g1
                            obtain ⟨o, g5⟩ := g4.there
                            have nb : p' ≠ D := ne_of_none g5 nD
                            exact ⟨p', h1, h2, h3, h4.mono (Same.refl _) (upd_ne nb)⟩
                      · rw [upd_upd]
                        exact mm5
          · left
            have e : i = ds.length := by omega
            subst e
            rw [List.drop_length] at er
            cases er
            rw [List.append_nil] at et
            subst et
            refine ⟨hstop, p G2 H2 _ J2 (m1.trans mJ) ⟨D, rfl, m1.h.free nD, gD, vs, hD, rr⟩⟩
      · simp only [hz] at p
        exact p.elim
theorem ev_lc {elt tg iter : Expr} {ifs : List Expr} {scope : Scope} {own : List (Str × Nat)} {pos : Pos} {it : Env → Rs (Bool × List D)} {k : D → Env → Rs Env} {c : Option (Env → Rs RV)} {f : Env → Rs RV} {is : List Nat} (hi : IV X E tg iter it) (hc : X.calm = true) (hN : X.N.Nodup)
    (ok : BlkOk X.N X.env.scope scope own)
    (hg : ∀ (s : Shared) (H : Hp) (C : Addr) (cl : List (Str × Addr)) (fp : List Addr), GV (X.blk s H scope (compEnvC scope cl C X.env) fp) tg is k)
    (ht : ∀ (s : Shared) (H : Hp) (C : Addr) (cl : List (Str × Addr)) (fp : List Addr), CV (X.blk s H scope (compEnvC scope cl C X.env) fp) ifs c)
    (he : ∀ (s : Shared) (H : Hp) (C : Addr) (cl : List (Str × Addr)) (fp : List Addr), EV (X.blk s H scope (compEnvC scope cl C X.env) fp) Eno elt f) (hs : ∀ x, foldedSetIterable iter X.env x = pure x) (hsub : ∀ i ∈ is, i ∈ own.map (·.2)) :
    EV X E (.ListComp elt [⟨tg, iter, ifs, 0⟩] scope pos) (cLc it k c f (own.map (·.2))) :=
  ev_of (pe_lc (g := tGV X.K is k) (tt := tTs X.K X.mg c) (te := tEV X.K X.mg Eno f) hc hN hi ok hg ht he hs) fun _ _ _ _ _ _ _ I p => lc_reading hsub I p
end
end VL

set_option Elab.async false
set_option linter.all false
set_option maxRecDepth 100000
set_option maxHeartbeats 3200000
/-! part VL6D: [d[k] for k in d]; comprehensions over a dict's items. -/
namespace VL
open PySem PySem.Spec PyProof.Rows L2
def dVals (ds0 : List (D × D)) (ds : List (D × D)) : List D := ds.map fun p => ((dKey p.1).bind (dLook · ds0)).getD .none
def cDvals (i j : Nat) : Env → Rs RV := fun ρ => if ρ.length ≤ j then .bad else match gt ρ i with
  | .sh (.dict ds) => if isT ds then .bad else if ds.length ≤ sizeLine then .ok (.fr (.list (dVals ds ds))) else .bad
  | .ow (.dict ds) => if isT ds then .bad else if ds.length ≤ sizeLine then .ok (.fr (.list (dVals ds ds))) else .bad
  | _ => .bad
section
variable {X : Cx} {E : XK} {K : PySem.W.Frag} {mg : Str → Option Value} {G0 H0 G H G1 H1 G' H' Hb : Hp} {σ σ' : St} {ρ : Env} {Q : VK} {N : Ends}
theorem RepK.vals {ds0 : List (D × D)} {kvs0 : List (Key × V)} (r0 : RepK K G ds0 kvs0) : ∀ {ds : List (D × D)} {kvs : List (Key × V)}, RepK K G ds kvs → Reps K G (dVals ds0 ds) (kvs.map fun p => (valV kvs0 p.1).getD .non)
  | _, _, .nil => .nil
  | _, _, .cons (k := k) a b => by
    unfold dVals
    rw [List.map_cons, List.map_cons]
    refine .cons ?_ (RepK.vals r0 b)
    simp only [dKey_kD, Option.bind_some]
    rcases r0.look k with ⟨e1, e2⟩ | ⟨d, v, e1, e2, r⟩
    · rw [e1, e2]; exact .non
    · rw [e1, e2]; exact r
theorem RepK.len : ∀ {ds : List (D × D)} {kvs : List (Key × V)}, RepK K G ds kvs → ds.length = kvs.length
  | _, _, .nil => rfl
  | _, _, .cons a b => by rw [List.length_cons, List.length_cons, RepK.len b]
theorem valV_at {k : Key} {v : V} : ∀ {kvs : List (Key × V)} {n : Nat}, kvs[n]? = some (k, v) → ∃ u, valV kvs k = some u
  | [], n, h => by cases n <;> cases h
  | (k', v') :: r, n, h => by
    by_cases e : k' = k
    · subst e
      exact ⟨v', valV_pos rfl⟩
    · rw [valV_neg (by exact e)]
      cases n with
      | zero => cases h; exact absurd rfl e
      | succ n => exact valV_at (n := n) h
theorem upd_back {H : Hp} {d D : Addr} {f l u : HO} (h : H d = some u) (n : D ≠ d) : upd (upd (upd H d f) D l) d u = upd H D l := by
  funext a
  by_cases e : a = d
  · subst e
    rw [upd_same, upd_ne (fun z => n z.symm), h]
  · rw [upd_ne e]
    by_cases e2 : a = D
    · subst e2; rw [upd_same, upd_same]
    · rw [upd_ne e2, upd_ne e, upd_ne e2]
theorem ev_dvals {i j : Nat} {x y : Str} {scope : Scope} {own : List (Str × Nat)} {p1 p2 p3 p4 p5 pos : Pos} (hc : X.calm = true) (hN : X.N.Nodup) (hi : X.N[i]? = some x) (hv : Vis X.env.scope x) (hd : (x == ("__debug__" : Str)) = false) (hcd : (x == ("__classdict__" : Str)) = false) (ok : BlkOk X.N X.env.scope scope own)
    (hg : ∀ (s : Shared) (H : Hp) (C : Addr) (cl : List (Str × Addr)) (fp : List Addr), PG (X.blk s H scope (compEnvC scope cl C X.env) fp) (.Name y p4) (gName j))
    (he : ∀ (s : Shared) (H : Hp) (C : Addr) (cl : List (Str × Addr)) (fp : List Addr), PE (X.blk s H scope (compEnvC scope cl C X.env) fp) (.Subscript (.Name x p1) (.Name y p2) p3) (tDGet (tVar i) (tVar j)))
    (hj : j ∈ own.map (·.2)) (hni : i ∉ own.map (·.2)) :
    EV X E (.ListComp (.Subscript (.Name x p1) (.Name y p2) p3) [⟨.Name y p4, .Name x p5, [], 0⟩] scope pos) (cDvals i j) := by
  refine ev_of (pe_lock (pe_lc hc hN (pi_keys (pe_var hi hv hd hcd)) ok hg (fun _ _ _ _ _ => pts_nil) he)) fun G0 H0 G H σ ρ Q I p => ?_
  have hjs : j < σ.length := by
    unfold cDvals at p
    by_cases h : ρ.length ≤ j
    · rw [if_pos h] at p; exact p.bad
    · have := I.len
      omega
  have p : Post X.K X.mg E G0 H0 G H σ ρ Q (match gt ρ i with
      | .sh (.dict ds) => if isT ds then .bad else if ds.length ≤ sizeLine then .ok (.fr (.list (dVals ds ds))) else .bad
      | .ow (.dict ds) => if isT ds then .bad else if ds.length ≤ sizeLine then .ok (.fr (.list (dVals ds ds))) else .bad
      | _ => .bad) := by
    unfold cDvals at p
    rw [if_neg (by have := I.len; omega)] at p
    exact p
  have key : ∃ d kvs ds, σ[i]? = some (some (.ref d)) ∧ H d = some (.dK kvs) ∧ RepK X.K G ds kvs ∧ Post X.K X.mg E G0 H0 G H σ ρ Q (if ds.length ≤ sizeLine then .ok (.fr (.list (dVals ds ds))) else .bad) := by
    have s := I.slot i
    cases e : gt ρ i with
    | un => rw [e] at p; exact p.bad
    | sh z =>
      cases z with
      | dict ds =>
        rw [e] at s p
        obtain ⟨v, hσ, r⟩ := s
        cases hT : isT ds with
        | true => simp only [hT] at p; exact p.bad
        | false =>
          simp only [hT] at p
          cases r with
          | dK q r => exact ⟨_, _, ds, hσ, I.gh _ _ q, r, p⟩
          | dT q r => cases hT
      | _ => rw [e] at p; exact p.bad
    | ow z =>
      cases z with
      | dict ds =>
        rw [e] at s p
        obtain ⟨a, hσ, _, _, c⟩ := s
        cases hT : isT ds with
        | true => simp only [hT] at p; exact p.bad
        | false =>
          simp only [hT] at p
          rcases c with ⟨kvs, q, r⟩ | ⟨kvs, es, e2, q, r⟩
          · exact ⟨_, _, ds, hσ, q, r, p⟩
          · subst e2; cases hT
      | _ => rw [e] at p; exact p.bad
  obtain ⟨d, kvs, ds, hσ, hH, r, p⟩ := key
  have hi2 : i < σ.length := (List.getElem?_eq_some_iff.mp hσ).1
  have hjl : j < (wipe σ (own.map (·.2))).length ∨ ¬ j < (wipe σ (own.map (·.2))).length := Classical.em _
  by_cases hz : ds.length ≤ sizeLine
  · rw [if_pos hz] at p
    refine ⟨d, .dK kvs, hH, trivial, fun od => ⟨.ref d, hσ, d, od, rfl, .inl ⟨kvs, upd_same, fun L nL => ?_⟩⟩⟩
    have nd : L ≠ d := fun z => by rw [z, upd_same] at nL; cases nL
    have nH : H L = none := by rw [upd_ne nd] at nL; exact nL
    refine ⟨fun n m H3 => m = kvs.length - n ∧ n ≤ kvs.length ∧ H3 = upd (upd H d (.frz od (.dK kvs))) L (.lst ((kvs.take n).map fun p => (valV kvs p.1).getD .non)), ⟨_, rfl, Nat.zero_le _, rfl⟩, ?_⟩
    rintro n m H3 ⟨rfl, hn, rfl⟩
    have hfz : upd (upd H d (.frz od (.dK kvs))) L (.lst ((kvs.take n).map fun p => (valV kvs p.1).getD .non)) d = some (.frz od (.dK kvs)) := by rw [upd_ne (fun z => nd z.symm), upd_same]
    by_cases hlt : n < kvs.length
    · right
      refine ⟨⟨hfz, hlt⟩, fun H4 => H4 = upd (upd H d (.frz od (.dK kvs))) L (.lst ((kvs.take (n + 1)).map fun p => (valV kvs p.1).getD .non)), fun H4 e => ⟨_, by omega, rfl, hlt, e⟩, ?_⟩
      rintro x H4 ⟨rfl, k, v, hkv, rfl⟩
      obtain ⟨u, hu⟩ := valV_at hkv
      show wipe ((wipe σ (own.map (·.2))).set j (some (kV k))) (own.map (·.2)) = wipe σ (own.map (·.2)) ∧ _
      refine ⟨wipe_same (is := [j]) (by rw [List.length_set, wipe_length]) (fun z hz => ?_) (fun z hz => ?_), ?_⟩
      · rw [List.getElem?_set_ne (fun e => hz (by rw [e]; exact List.mem_cons_self))]
      · rw [List.mem_singleton.mp hz]; exact hj
      · unfold tYes
        simp only [if_true]
        have hij : j ≠ i := fun e => hni (e ▸ hj)
        refine ⟨.ref d, ?_, kV k, ?_, d, u, rfl, .inl ⟨kvs, k, .inr ⟨od, hfz⟩, rfl, hu.symm⟩, _, upd_same, ?_, ?_⟩
        · rw [List.getElem?_set_ne hij, wipe_out hni]; exact hσ
        · rw [List.getElem?_set_self (by rw [wipe_length]; exact hjs)]
        · rw [List.length_map, List.length_take, ← r.len]
          have := r.len
          omega
        · rw [upd_upd]
          congr 2
          rw [List.take_add_one, List.map_append, hkv]
          simp [hu]
    · left
      have e : n = kvs.length := by omega
      subst e
      refine ⟨⟨hfz, Nat.le_refl _⟩, hfz, ?_⟩
      rw [upd_back hH nd, List.take_length]
      exact p.own I (r.vals r) L nH
  · rw [if_neg hz] at p
    exact p.bad
end
end VL

set_option Elab.async false
set_option linter.all false
set_option maxRecDepth 100000
set_option maxHeartbeats 4000000
/-! part VL7: statements, over trees. -/
namespace VL
open PySem PySem.Spec PyProof.Rows L2

/-- how a block ends -/
inductive Fl where
  | nx (ρ : Env)
  | rt (r : RV)
  | bk (ρ : Env)
  | ct (ρ : Env)
def SPost (K : PySem.W.Frag) (mg : Str → Option Value) (E : XK) (G0 H0 G : Hp) (N : Ends) : Rs Fl → Prop
  | .bad => False
  | .ex x => XPost K mg E G0 H0 x
  | .ok (.nx ρ) => ∀ G' H' σ', RE K G0 H0 G' H' σ' ρ → Same G G' → N.nx σ' H'
  | .ok (.bk ρ) => ∀ G' H' σ', RE K G0 H0 G' H' σ' ρ → Same G G' → N.bk σ' H'
  | .ok (.ct ρ) => ∀ G' H' σ', RE K G0 H0 G' H' σ' ρ → Same G G' → N.ct σ' H'
  | .ok (.rt r) => ∀ G' H' v, Mon G0 H0 G' H' → Same G' H' → RVal K H0 H0 G' H' r v → N.rt v H'
def tSV (K : PySem.W.Frag) (mg : Str → Option Value) (E : XK) (F : Env → Rs Fl) : TS := fun N σ H => ∃ G0 H0 G ρ, RE K G0 H0 G H σ ρ ∧ SPost K mg E G0 H0 G N (F ρ)
def SV (X : Cx) (E : XK) (st : Stmt) (F : Env → Rs Fl) : Prop := PS X st (tSV X.K X.mg E F)
def SVs (X : Cx) (E : XK) (st : List Stmt) (F : Env → Rs Fl) : Prop := PSs X st (tSV X.K X.mg E F)

def cEnd : Env → Rs Fl := fun ρ => .ok (.nx ρ)
def cSeq (F F2 : Env → Rs Fl) : Env → Rs Fl := fun ρ => (F ρ).bind fun fl => match fl with
  | .nx ρ' => F2 ρ'
  | fl => .ok fl
def setR (i : Nat) (own : Bool) (ρ : Env) : RV → Rs Fl
  | .sh d => .ok (.nx (pt ρ i (.sh d)))
  | .fr d => .ok (.nx (pt ρ i (if own then .ow d else .sh d)))
  | .ow _ => .bad
@[simp] theorem setR_sh (i : Nat) (own : Bool) (ρ : Env) (d : D) : setR i own ρ (.sh d) = .ok (.nx (pt ρ i (.sh d))) := rfl
@[simp] theorem setR_fr (i : Nat) (own : Bool) (ρ : Env) (d : D) : setR i own ρ (.fr d) = .ok (.nx (pt ρ i (if own then .ow d else .sh d))) := rfl
@[simp] theorem setR_ow (i : Nat) (own : Bool) (ρ : Env) (d : D) : setR i own ρ (.ow d) = .bad := rfl
def cSet (i : Nat) (own : Bool) (f : Env → Rs RV) : Env → Rs Fl := fun ρ => (f ρ).bind (setR i own ρ)
def cTgt (k : D → Env → Rs Env) (f : Env → Rs RV) : Env → Rs Fl := fun ρ => (f ρ).bind fun r => r.shd.bind fun d => match k d ρ with
  | .ok ρ' => .ok (.nx ρ')
  | _ => .bad
def cApp (i : Nat) (f : Env → Rs RV) : Env → Rs Fl := fun ρ => match gt ρ i with
  | .ow (.list xs) => (f ρ).bind fun r => r.shd.bind fun d => if xs.length < sizeLine then .ok (.nx (pt ρ i (.ow (.list (xs ++ [d]))))) else .bad
  | _ => .bad
def cExt (i : Nat) (f : Env → Rs RV) : Env → Rs Fl := fun ρ => match gt ρ i with
  | .ow (.list xs) => (f ρ).bind fun r => match r with
    | .fr (.list ys) => if xs.length + ys.length ≤ sizeLine then .ok (.nx (pt ρ i (.ow (.list (xs ++ ys))))) else .bad
    | _ => .bad
  | _ => .bad
def cPut (i : Nat) (g f : Env → Rs RV) : Env → Rs Fl := fun ρ => (f ρ).bind fun r => r.shd.bind fun d => match gt ρ i with
  | .ow (.list xs) => (g ρ).bind fun j => match j.val with
    | .int k => match ixN xs.length k with
      | some j => .ok (.nx (pt ρ i (.ow (.list (xs.set j d)))))
      | none => .bad
    | _ => .bad
  | .ow (.dict ds) => (g ρ).bind fun j => match dKey j.val with
    | some k => if isT ds then .bad else if ds.length < sizeLine then .ok (.nx (pt ρ i (.ow (.dict (dPut k d ds))))) else .bad
    | none => .bad
  | _ => .bad
def cRet (f : Env → Rs RV) : Env → Rs Fl := fun ρ => (f ρ).bind fun r => .ok (.rt r)
def cRetN : Env → Rs Fl := fun _ => .ok (.rt (.sh .none))
def cDo (f : Env → Rs RV) : Env → Rs Fl := fun ρ => (f ρ).bind fun _ => .ok (.nx ρ)
def cIfS (c : Env → Rs RV) (F F2 : Env → Rs Fl) : Env → Rs Fl := fun ρ => (boolOf (c ρ)).bind fun b => if b then F ρ else F2 ρ
def cFrzS (i : Nat) (F : Env → Rs Fl) : Env → Rs Fl := fun ρ => match gt ρ i with
  | .ow d => F (pt ρ i (.sh d))
  | _ => F ρ
def cFgt (is : List Nat) (F : Env → Rs Fl) : Env → Rs Fl := fun ρ => F (ptAll ρ is)
def forL (k : D → Env → Rs Env) (is : List Nat) (F : Env → Rs Fl) : List D → Env → Rs Fl
  | [], ρ => .ok (.nx ρ)
  | d :: ds, ρ => match k d ρ with
    | .ok ρ1 => (F ρ1).bind fun fl => match fl with
      | .nx ρ2 => forL k is F ds (ptAll ρ2 is)
      | .ct ρ2 => forL k is F ds (ptAll ρ2 is)
      | .bk ρ2 => .ok (.nx ρ2)
      | .rt r => .ok (.rt r)
    | _ => .bad
def cFor (it : Env → Rs (Bool × List D)) (k : D → Env → Rs Env) (is : List Nat) (F : Env → Rs Fl) : Env → Rs Fl := fun ρ => (it ρ).bind fun r => if r.1 then .bad else forL k is F r.2 (ptAll ρ is)
def whlL (c : Env → Rs RV) (is : List Nat) (F : Env → Rs Fl) : Nat → Env → Rs Fl
  | 0, _ => .bad
  | n + 1, ρ => (boolOf (c ρ)).bind fun b => if b then (F ρ).bind fun fl => match fl with
      | .nx ρ2 => whlL c is F n (ptAll ρ2 is)
      | .ct ρ2 => whlL c is F n (ptAll ρ2 is)
      | .bk ρ2 => .ok (.nx ρ2)
      | .rt r => .ok (.rt r)
    else .ok (.nx ρ)
def cWhl (n : Nat) (c : Env → Rs RV) (is : List Nat) (F : Env → Rs Fl) : Env → Rs Fl := fun ρ => whlL c is F n (ptAll ρ is)

section
variable {X : Cx} {E : XK} {K : PySem.W.Frag} {mg : Str → Option Value} {G0 H0 G H G1 H1 G' H' Hb : Hp} {σ σ' : St} {ρ : Env} {Q : VK} {N : Ends}
theorem sv_of {st : Stmt} {t : TS} {F : Env → Rs Fl} (h : PS X st t) (hw : ∀ G0 H0 G H σ ρ N, RE X.K G0 H0 G H σ ρ → SPost X.K X.mg E G0 H0 G N (F ρ) → t N σ H) : SV X E st F :=
  PS.weak h fun D σ H ⟨_, _, _, _, I, p⟩ => hw _ _ _ _ _ _ _ I p
theorem svs_of {st : List Stmt} {t : TS} {F : Env → Rs Fl} (h : PSs X st t) (hw : ∀ G0 H0 G H σ ρ N, RE X.K G0 H0 G H σ ρ → SPost X.K X.mg E G0 H0 G N (F ρ) → t N σ H) : SVs X E st F :=
  PSs.weak h fun D σ H ⟨_, _, _, _, I, p⟩ => hw _ _ _ _ _ _ _ I p
theorem SPost.up (s : Same G G1) : ∀ {r : Rs Fl}, SPost K mg E G0 H0 G N r → SPost K mg E G0 H0 G1 N r
  | .bad, p => p
  | .ex _, p => p
  | .ok (.nx _), p => fun G' H' σ' I m => p G' H' σ' I (s.trans m)
  | .ok (.bk _), p => fun G' H' σ' I m => p G' H' σ' I (s.trans m)
  | .ok (.ct _), p => fun G' H' σ' I m => p G' H' σ' I (s.trans m)
  | .ok (.rt _), p => p
/-- a statement that evaluates a part first -/
theorem tEV_bindS {f : Env → Rs RV} {g : RV → Rs Fl} {R : VK} (I : RE K G0 H0 G H σ ρ) (p : SPost K mg E G0 H0 G N ((f ρ).bind g))
    (h : ∀ r G1 H1 v, f ρ = .ok r → RE K G0 H0 G1 H1 σ ρ → Mon G H G1 H1 → RVal K H0 H G1 H1 r v → SPost K mg E G0 H0 G1 N (g r) → R v H1) : tEV K mg E f σ H R := by
  refine ⟨G0, H0, G, ρ, I, ?_⟩
  cases e : f ρ with
  | bad => rw [e] at p; exact p
  | ex x => rw [e] at p; exact p
  | ok r =>
    rw [e] at p
    exact fun G1 H1 v I1 m1 q => h r G1 H1 v e I1 m1 q (SPost.up m1.g p)
theorem svs_nil : SVs X E [] cEnd := svs_of pss_nil fun G0 H0 G H σ ρ N I p => p G H σ I (Same.refl _)
theorem seq_of {F F2 : Env → Rs Fl} (I : RE K G0 H0 G H σ ρ) (p : SPost K mg E G0 H0 G N (cSeq F F2 ρ)) : tSeq (tSV K mg E F) (tSV K mg E F2) N σ H := by
  refine ⟨G0, H0, G, ρ, I, ?_⟩
  unfold cSeq at p
  cases e : F ρ with
  | bad => rw [e] at p; exact p
  | ex x => rw [e] at p; exact p
  | ok fl =>
    rw [e, Rs.bind_ok] at p
    cases fl with
    | nx ρ' => exact fun G' H' σ' I' m => ⟨G0, H0, G', ρ', I', SPost.up m p⟩
    | bk ρ' => exact p
    | ct ρ' => exact p
    | rt r => exact p
theorem svs_cons {st : Stmt} {rest : List Stmt} {F F2 : Env → Rs Fl} (h1 : SV X E st F) (h2 : SVs X E rest F2) : SVs X E (st :: rest) (cSeq F F2) :=
  svs_of (pss_cons h1 h2) fun _ _ _ _ _ _ _ I p => seq_of I p
theorem svs_one {st : Stmt} {F : Env → Rs Fl} (h1 : SV X E st F) : SVs X E [st] F := pss_one h1
theorem svs_frz {sts : List Stmt} {F : Env → Rs Fl} (i : Nat) (h : SVs X E sts F) : SVs X E sts (cFrzS i F) := by
  refine svs_of h fun G0 H0 G H σ ρ N I p => ?_
  unfold cFrzS at p
  cases e : gt ρ i with
  | un => rw [e] at p; exact ⟨G0, H0, G, ρ, I, p⟩
  | sh d => rw [e] at p; exact ⟨G0, H0, G, ρ, I, p⟩
  | ow d =>
    rw [e] at p
    have s := I.slot i
    rw [e] at s
    obtain ⟨q, h1, h2, h3, h4⟩ := s
    obtain ⟨o, eo⟩ := h4.there
    have s2 : Same G (upd G q o) := fun b u z => by rw [upd_ne (ne_of_none z h3)]; exact z
    have gh : Same (upd G q o) H := fun b u z => by
      by_cases hb : b = q
      · subst hb; rw [upd_same] at z; rw [eo]; exact z
      · rw [upd_ne hb] at z; exact I.gh _ _ z
    have r2 : Rep X.K (upd G q o) d (.ref q) := h4.rep s2 (by rw [upd_same, eo])
    refine ⟨G0, H0, upd G q o, pt ρ i (.sh d), ⟨⟨I.mon.g.trans s2, I.mon.h, fun a n z => ?_⟩, gh, by rw [pt_length, I.len], fun j => ?_, fun a b d1 d2 p' hab e1 e2 e3 e4 => ?_⟩, SPost.up s2 p⟩
    · have ha : a ≠ q := fun w => by rw [w] at n; exact n h2
      rw [upd_ne ha]
      exact I.mon.k a n z
    · by_cases hj : i = j
      · subst hj
        have hi : i < ρ.length := by
          by_cases hl : i < ρ.length
          · exact hl
          · rw [gt_far (by omega)] at e; cases e
        rw [gt_pt_same hi]
        exact ⟨_, h1, r2⟩
      · rw [gt_pt_ne hj]
        have h := I.slot j
        cases ej : gt ρ j with
        | un => exact trivial
        | sh d1 =>
          rw [ej] at h
          obtain ⟨v, a, b⟩ := h
          exact ⟨v, a, b.up s2⟩
        | ow d1 =>
          rw [ej] at h
          obtain ⟨q', a, b, c, cc⟩ := h
          have hq : q' ≠ q := fun w => by
            subst w
            exact I.dis i j d d1 q' hj e ej h1 a
          exact ⟨q', a, b, by rw [upd_ne hq]; exact c, cc.mono s2 rfl⟩
    · by_cases ha : i = a
      · subst ha
        have hi : i < ρ.length := by
          by_cases hl : i < ρ.length
          · exact hl
          · rw [gt_far (by omega)] at e; cases e
        rw [gt_pt_same hi] at e1
        cases e1
      · by_cases hb : i = b
        · subst hb
          have hi : i < ρ.length := by
            by_cases hl : i < ρ.length
            · exact hl
            · rw [gt_far (by omega)] at e; cases e
          rw [gt_pt_same hi] at e2
          cases e2
        · rw [gt_pt_ne ha] at e1
          rw [gt_pt_ne hb] at e2
          exact I.dis a b d1 d2 p' hab e1 e2 e3 e4
theorem svs_fgt {sts : List Stmt} {F : Env → Rs Fl} (is : List Nat) (h : SVs X E sts F) : SVs X E sts (cFgt is F) :=
  svs_of h fun G0 H0 G H σ ρ N I p => ⟨G0, H0, G, _, I.forgets is, p⟩
/-- a store of a value that was told -/
theorem set_fin {i : Nat} {own : Bool} {r : RV} {v : V} (I : RE K G0 H0 G H σ ρ) (I1 : RE K G0 H0 G1 H1 σ ρ) (m1 : Mon G H G1 H1) (q : RVal K H0 H G1 H1 r v)
    (p : SPost K mg E G0 H0 G1 N (setR i own ρ r)) : N.nx (σ.set i (some v)) H1 := by
  cases r with
  | ow d => exact p.elim
  | sh d => exact p G1 H1 _ (I1.put_sh q) (Same.refl _)
  | fr d =>
    obtain ⟨a, rfl, b, c, e⟩ := q
    cases own with
    | true => exact p G1 H1 _ (I1.put_ow I m1 b c e) (Same.refl _)
    | false =>
      obtain ⟨o, eo⟩ := e.there
      have s2 : Same G1 (upd G1 a o) := fun b' u z => by rw [upd_ne (ne_of_none z c)]; exact z
      obtain ⟨G2, I2, m2, r2⟩ := I1.freeze I m1 b c e
      -- the frozen heap again, over G1
      have gh : Same (upd G1 a o) H1 := fun b' u z => by
        by_cases hb : b' = a
        · subst hb; rw [upd_same] at z; rw [eo]; exact z
        · rw [upd_ne hb] at z; exact I1.gh _ _ z
      have m3 : Mon G H (upd G1 a o) H1 := ⟨m1.g.trans s2, m1.h, fun x n z => by
        have hx : x ≠ a := fun w => by rw [w] at n; exact n b
        rw [upd_ne hx]; exact m1.k x n z⟩
      exact p (upd G1 a o) H1 _ ((I.step m3 gh).put_sh (e.rep s2 (by rw [upd_same, eo]))) s2
theorem sv_set {i : Nat} {own : Bool} {x : Str} {e : Expr} {pos pos' : Pos} {f : Env → Rs RV} (hN : X.N.Nodup) (hi : X.N[i]? = some x) (hx : Loc X.env.scope x) (he : EV X E e f) (hs : swapsWith e (some (.Name x pos')) pos.line X.env = pure false) (hf : X.fn x = true ∨ X.env.scope.names.lookup x = some .local) :
    SV X E (.Assign [.Name x pos'] e pos) (cSet i own f) :=
  sv_of (ps_set hN hi hx he hs hf) fun _ _ _ _ _ _ _ I p => tEV_bindS I p fun _ _ _ _ _ I1 m1 q1 p1 => set_fin I I1 m1 q1 p1
theorem sv_setLc {i : Nat} {own' : Bool} {y : Str} {py : Pos} {elt tg iter : Expr} {ifs : List Expr} {scope : Scope} {own : List (Str × Nat)} {pos spos : Pos} {it : Env → Rs (Bool × List D)} {k : D → Env → Rs Env} {c : Option (Env → Rs RV)} {f : Env → Rs RV} {is : List Nat}
    (hy : X.N[i]? = some y) (hyl : X.env.scope.names.lookup y = some .local) (hsw : swapsWith (.ListComp elt [⟨tg, iter, ifs, 0⟩] scope pos) (some (.Name y py)) spos.line X.env = pure true)
    (hi : IV X E tg iter it) (hc : X.calm = true) (hN : X.N.Nodup) (ok : BlkOk X.N X.env.scope scope own)
    (hg : ∀ (s : Shared) (H : Hp) (C : Addr) (cl : List (Str × Addr)) (fp : List Addr), GV (X.blk s H scope (compEnvC scope cl C X.env) fp) tg is k)
    (ht : ∀ (s : Shared) (H : Hp) (C : Addr) (cl : List (Str × Addr)) (fp : List Addr), CV (X.blk s H scope (compEnvC scope cl C X.env) fp) ifs c)
    (he : ∀ (s : Shared) (H : Hp) (C : Addr) (cl : List (Str × Addr)) (fp : List Addr), EV (X.blk s H scope (compEnvC scope cl C X.env) fp) Eno elt f) (hs : ∀ x, foldedSetIterable iter X.env x = pure x) (hsub : ∀ i ∈ is, i ∈ own.map (·.2)) :
    SV X E (.Assign [.Name y py] (.ListComp elt [⟨tg, iter, ifs, 0⟩] scope pos) spos) (cSet i own' (cLc it k c f (own.map (·.2)))) := by
  refine sv_of (ps_setLc (g := tGV X.K is k) (tt := tTs X.K X.mg c) (te := tEV X.K X.mg Eno f) hc hN hy hyl hsw hi ok hg ht he hs) fun G0 H0 G H σ ρ N I p => ?_
  refine lc_reading (mg := X.mg) (E := E) hsub (Q := fun x H1 => gName i x σ H1 N.nx) I ?_
  unfold cSet at p
  cases e : cLc it k c f (own.map (·.2)) ρ with
  | bad => rw [e] at p; exact p
  | ex x => rw [e] at p; exact p
  | ok r =>
    rw [e, Rs.bind_ok] at p
    exact fun G1 H1 v I1 m1 q1 => set_fin I I1 m1 q1 (SPost.up m1.g p)
theorem sv_tgt {tg e : Expr} {pos : Pos} {is : List Nat} {k : D → Env → Rs Env} {f : Env → Rs RV} (he : EV X E e f) (hg : GV X tg is k) (hs : swapsWithSole [tg] e pos.line X.env = pure false) (hw : swappedStores [tg] e X.env = pure none) (h1 : (assignEach [tg] X.env).map (·.2) = [assign tg X.env]) :
    SV X E (.Assign [tg] e pos) (cTgt k f) := by
  refine sv_of (ps_asg (ev_frz he) hg hs hw h1) fun G0 H0 G H σ ρ N I p => ?_
  refine tEV_bindS (N := N) (f := cFrz f) (g := fun r => r.shd.bind fun d => match k d ρ with
    | .ok ρ' => .ok (.nx ρ')
    | _ => .bad) I ?_ fun r G1 H1 v er I1 m1 q1 p1 => ?_
  · unfold cTgt at p
    unfold cFrz
    cases e : f ρ with
    | bad => rw [e] at p; exact p
    | ex x => rw [e] at p; exact p
    | ok r =>
      rw [e] at p
      cases r <;> exact p
  · cases r with
    | ow d => exact p1.elim
    | fr d =>
      exfalso
      unfold cFrz at er
      cases e : f ρ with
      | bad => rw [e] at er; cases er
      | ex x => rw [e] at er; cases er
      | ok r =>
        rw [e] at er
        cases r <;> cases er
    | sh d =>
      refine ⟨G0, H0, G1, ρ, d, I1, q1, ?_⟩
      have p2 : SPost X.K X.mg E G0 H0 G1 N (match k d ρ with
        | .ok ρ' => .ok (.nx ρ')
        | _ => .bad) := p1
      revert p2
      cases k d ρ with
      | bad => exact fun p => p
      | ex x => exact fun p => p
      | ok ρ' => exact fun p σ' I' _ _ => p G1 H1 σ' I' (Same.refl _)

/-! own lists and dicts changed -/
theorem RE.change {i : Nat} {d d' : D} {p : Addr} {o : HO} (I : RE K G0 H0 G H σ ρ) (e : gt ρ i = .ow d) (es : σ[i]? = some (some (.ref p))) (h0 : H0 p = none) (hg : G p = none) (c : Cell K G (upd H p o) p d') : RE K G0 H0 G (upd H p o) σ (pt ρ i (.ow d')) := by
  have hi : i < ρ.length := by
    by_cases hl : i < ρ.length
    · exact hl
    · rw [gt_far (by omega)] at e; cases e
  refine ⟨⟨I.mon.g, fun b u z => ?_, I.mon.k⟩, fun b u z => ?_, by rw [pt_length, I.len], fun j => ?_, fun a b d1 d2 q hab e1 e2 e3 e4 => ?_⟩
  · have hb : b ≠ p := ne_of_none z h0
    rw [upd_ne hb]
    exact I.mon.h _ _ z
  · have hb : b ≠ p := ne_of_none z hg
    rw [upd_ne hb]
    exact I.gh _ _ z
  · by_cases hj : i = j
    · subst hj
      rw [gt_pt_same hi]
      exact ⟨p, es, h0, hg, c⟩
    · rw [gt_pt_ne hj]
      have h := I.slot j
      cases ej : gt ρ j with
      | un => exact trivial
      | sh d1 => rw [ej] at h; exact h
      | ow d1 =>
        rw [ej] at h
        obtain ⟨q, a, b, c2, cc⟩ := h
        have hq : q ≠ p := fun w => by
          subst w
          exact I.dis i j d d1 q hj e ej es a
        exact ⟨q, a, b, c2, cc.mono (Same.refl _) (upd_ne hq)⟩
  · by_cases ha : i = a
    · subst ha
      rw [gt_pt_ne hab] at e2
      exact I.dis i b d d2 q hab e e2 e3 e4
    · by_cases hb : i = b
      · subst hb
        rw [gt_pt_ne ha] at e1
        exact I.dis a i d1 d q hab e1 e e3 e4
      · rw [gt_pt_ne ha] at e1
        rw [gt_pt_ne hb] at e2
        exact I.dis a b d1 d2 q hab e1 e2 e3 e4
/-- the slot of an own thing, later on -/
theorem own_slot {i : Nat} {d : D} (I : RE K G0 H0 G H σ ρ) (e : gt ρ i = .ow d) : ∃ p, σ[i]? = some (some (.ref p)) ∧ H0 p = none ∧ G p = none ∧ Cell K G H p d := by
  have h := I.slot i
  rw [e] at h
  exact h
theorem sv_app {i : Nat} {x : Str} {e : Expr} {p1 p2 p3 pos : Pos} {f : Env → Rs RV} (hN : X.N[i]? = some x) (hv : Vis X.env.scope x) (hd : (x == ("__debug__" : Str)) = false) (hcd : (x == ("__classdict__" : Str)) = false) (he : EV X E e f)
    (hs : starEach [e] X.env = (false, eval e X.env) :: starEach [] X.env) (hbase : attributeBase (.Name x p1) "append" X.env (eval (.Name x p1) X.env) = eval (.Name x p1) X.env) (hline : (p2.endLine == p3.line) = true)
    (hpl : (backTo p3 (starEach [] X.env)).any (·.1) = false) : SV X E (.Expr (.Call (.Attribute (.Name x p1) "append" p2) [e] [] p3) pos) (cApp i f) := by
  refine sv_of (ps_expr (pe_bm PySem.F.plainAttrs_list PySem.F.slot_list_append PySem.F.type_list_append mt_append (pe_var hN hv hd hcd) (pa_cons (ev_frz he) pa_nil hs) hbase (by rw [hs]; rfl) hline hs hpl) rfl) fun G0 H0 G H σ ρ N I p => ?_
  unfold cApp at p
  cases eg : gt ρ i with
  | un => rw [eg] at p; exact p.elim
  | sh _ => rw [eg] at p; exact p.elim
  | ow d =>
    rw [eg] at p
    cases d with
    | list xs =>
      obtain ⟨a, h1, h2, h3, vs, h4, h5⟩ := own_slot I eg
      refine ⟨_, h1, .inl ⟨rfl, vs, SqL.of h4⟩, ?_⟩
      refine tEV_bindS (N := N) (f := cFrz f) (g := fun r => r.shd.bind fun d => if xs.length < sizeLine then .ok (.nx (pt ρ i (.ow (.list (xs ++ [d]))))) else .bad) I ?_ fun r G1 H1 v er I1 m1 q1 p1 => ?_
      · unfold cFrz
        cases e : f ρ with
        | bad => rw [e] at p; exact p
        | ex x => rw [e] at p; exact p
        | ok r =>
          rw [e] at p
          cases r <;> exact p
      · obtain ⟨a', h1', _, h3', vs', h4', h5'⟩ := own_slot I1 eg
        rw [h1] at h1'
        cases h1'
        cases r with
        | ow d => exact p1.elim
        | fr d =>
          exfalso
          unfold cFrz at er
          cases e : f ρ with
          | bad => rw [e] at er; cases er
          | ex x => rw [e] at er; cases er
          | ok r =>
            rw [e] at er
            cases r <;> cases er
        | sh d =>
          have p2 : SPost X.K X.mg E G0 H0 G1 N (if xs.length < sizeLine then .ok (.nx (pt ρ i (.ow (.list (xs ++ [d]))))) else .bad) := p1
          by_cases hz : xs.length < sizeLine
          · rw [if_pos hz] at p2
            refine ⟨a, vs', v, rfl, rfl, h4', by rw [h5'.length]; exact hz, ?_⟩
            exact p2 G1 _ σ (I1.change eg h1 h2 h3' ⟨vs' ++ [v], upd_same, h5'.snoc q1⟩) (Same.refl _)
          · rw [if_neg hz] at p2
            exact p2.elim
    | _ => exact p.elim
theorem sv_ext {i : Nat} {x : Str} {e : Expr} {p1 p2 p3 pos : Pos} {f : Env → Rs RV} (hN : X.N[i]? = some x) (hv : Vis X.env.scope x) (hd : (x == ("__debug__" : Str)) = false) (hcd : (x == ("__classdict__" : Str)) = false) (he : EV X E e f)
    (hs : starEach [e] X.env = (false, eval e X.env) :: starEach [] X.env) (hbase : attributeBase (.Name x p1) "extend" X.env (eval (.Name x p1) X.env) = eval (.Name x p1) X.env) (hline : (p2.endLine == p3.line) = true)
    (hpl : (backTo p3 (starEach [] X.env)).any (·.1) = false) : SV X E (.Expr (.Call (.Attribute (.Name x p1) "extend" p2) [e] [] p3) pos) (cExt i f) := by
  refine sv_of (ps_expr (pe_bm PySem.F.plainAttrs_list PySem.F.slot_list_extend PySem.F.type_list_extend mt_extend (pe_var hN hv hd hcd) (pa_cons he pa_nil hs) hbase (by rw [hs]; rfl) hline hs hpl) rfl) fun G0 H0 G H σ ρ N I p => ?_
  unfold cExt at p
  cases eg : gt ρ i with
  | un => rw [eg] at p; exact p.elim
  | sh _ => rw [eg] at p; exact p.elim
  | ow d =>
    rw [eg] at p
    cases d with
    | list xs =>
      obtain ⟨a, h1, h2, h3, vs, h4, h5⟩ := own_slot I eg
      refine ⟨_, h1, .inl ⟨rfl, vs, SqL.of h4⟩, ?_⟩
      refine tEV_bindS I p fun r G1 H1 v er I1 m1 q1 p1 => ?_
      obtain ⟨a', h1', _, h3', vs', h4', h5'⟩ := own_slot I1 eg
      rw [h1] at h1'
      cases h1'
      cases r with
      | ow d => exact p1.elim
      | sh d => exact p1.elim
      | fr d =>
        cases d with
        | list ys =>
          obtain ⟨b, rfl, nb, gb, us, hb, rb⟩ := q1
          have p2 : SPost X.K X.mg E G0 H0 G1 N (if xs.length + ys.length ≤ sizeLine then .ok (.nx (pt ρ i (.ow (.list (xs ++ ys))))) else .bad) := p1
          by_cases hz : xs.length + ys.length ≤ sizeLine
          · rw [if_pos hz] at p2
            refine ⟨a, b, vs', us, rfl, rfl, h4', hb, by rw [h5'.length, rb.length]; exact hz, ?_⟩
            exact p2 G1 _ σ (I1.change eg h1 h2 h3' ⟨vs' ++ us, upd_same, h5'.append rb⟩) (Same.refl _)
          · rw [if_neg hz] at p2
            exact p2.elim
        | _ => exact p1.elim
    | _ => exact p.elim
theorem PS.or {st : Stmt} {t t' : TS} (h : PS X st t) (h' : PS X st t') : PS X st (fun D σ H => t D σ H ∨ t' D σ H) :=
  ⟨fun pins s σ H D I q => q.elim (h.run pins s σ H D I) (h'.run pins s σ H D I)⟩
theorem sv_put {i : Nat} {x : Str} {ix e : Expr} {p1 p2 pos : Pos} {g f : Env → Rs RV} (hu : X.A.units + 65 < cLine) (hN : X.N[i]? = some x) (hv : Vis X.env.scope x) (hd : (x == ("__debug__" : Str)) = false) (hcd : (x == ("__classdict__" : Str)) = false) (hg : EV X E ix g) (he : EV X E e f)
    (ha : ∀ v, assign (.Subscript (.Name x p1) ix p2) X.env v = (do
      let ov ← holding [v] (eval (.Name x p1) X.env)
      let iv ← holding [v, ov] (eval ix X.env)
      standAt p2
      holding [v, ov, iv] (setItem ov iv v)
      release [v, ov, iv] [])) (hs : swapsWithSole [.Subscript (.Name x p1) ix p2] e pos.line X.env = pure false) (hw : swappedStores [.Subscript (.Name x p1) ix p2] e X.env = pure none)
    (h1 : (assignEach [.Subscript (.Name x p1) ix p2] X.env).map (·.2) = [assign (.Subscript (.Name x p1) ix p2) X.env]) (hs2 : swapsWith e (some (.Subscript (.Name x p1) ix p2)) pos.line X.env = pure false) :
    SV X E (.Assign [.Subscript (.Name x p1) ix p2] e pos) (cPut i g f) := by
  refine sv_of (PS.or (ps_asg (ev_frz he) (pg_sub (pe_var hN hv hd hcd) hg set_list ha) hs hw h1) (ps_dput (by omega) (pe_var hN hv hd hcd) hg (ev_frz he) hs2)) fun G0 H0 G H σ ρ N I p => ?_
  have start : ∀ {R : VK}, (∀ d G1 H1 v, RE X.K G0 H0 G1 H1 σ ρ → Mon G H G1 H1 → Rep X.K G1 d v → SPost X.K X.mg E G0 H0 G1 N (match gt ρ i with
      | .ow (.list xs) => (g ρ).bind fun j => match j.val with
        | .int k => match ixN xs.length k with
          | some j => .ok (.nx (pt ρ i (.ow (.list (xs.set j d)))))
          | none => .bad
        | _ => .bad
      | .ow (.dict ds) => (g ρ).bind fun j => match dKey j.val with
        | some k => if isT ds then .bad else if ds.length < sizeLine then .ok (.nx (pt ρ i (.ow (.dict (dPut k d ds))))) else .bad
        | none => .bad
      | _ => .bad) → R v H1) → tEV X.K X.mg E (cFrz f) σ H R := by
    intro R hR
    refine ⟨G0, H0, G, ρ, I, ?_⟩
    unfold cPut at p
    unfold cFrz
    cases e : f ρ with
    | bad => rw [e] at p; exact p
    | ex x => rw [e] at p; exact p
    | ok r =>
      rw [e] at p
      cases r with
      | ow d => exact p.elim
      | sh d => exact fun G1 H1 v I1 m1 q1 => hR d G1 H1 v I1 m1 q1 (SPost.up m1.g p)
      | fr d => exact fun G1 H1 v I1 m1 q1 => hR d G1 H1 v I1 m1 q1 (SPost.up m1.g p)
  have bad_way : (∀ xs, gt ρ i ≠ .ow (.list xs)) → (∀ ds, gt ρ i ≠ .ow (.dict ds)) → tEV X.K X.mg E (cFrz f) σ H fun x_1 H1 => gSub (tVar i) (tEV X.K X.mg E g) rSetL x_1 σ H1 N.nx := fun n1 n2 => start fun d G1 H1 v I1 m1 q1 p1 => by
    revert p1
    cases eg : gt ρ i with
    | un => exact fun p => p.elim
    | sh _ => exact fun p => p.elim
    | ow d =>
      cases d with
      | list xs => exact absurd eg (n1 xs)
      | dict ds => exact absurd eg (n2 ds)
      | _ => exact fun p => p.elim
  cases eg : gt ρ i with
  | un => exact .inl (bad_way (fun _ z => by rw [eg] at z; cases z) fun _ z => by rw [eg] at z; cases z)
  | sh _ => exact .inl (bad_way (fun _ z => by rw [eg] at z; cases z) fun _ z => by rw [eg] at z; cases z)
  | ow d =>
    cases d with
    | list xs =>
      refine .inl (start fun d G1 H1 v I1 m1 q1 p1 => ?_)
      simp only [eg] at p1
      obtain ⟨a, h1, h2, h3, vs, h4, h5⟩ := own_slot I1 eg
      refine ⟨_, h1, ?_⟩
      refine tEV_bindS I1 p1 fun r G2 H2 u er I2 m2 q2 p2 => ?_
      obtain ⟨a', h1', _, h3', vs', h4', h5'⟩ := own_slot I2 eg
      rw [h1] at h1'
      cases h1'
      have w := q2.view I2.gh
      revert p2 w
      cases r.val <;> intro p2 w
      case int k =>
        simp only at p2
        cases ej : ixN xs.length k with
        | none => rw [ej] at p2; exact p2.elim
        | some j =>
          rw [ej] at p2
          refine ⟨a, vs', k, j, rfl, w.int, h4', by rw [h5'.length]; exact ej, ?_⟩
          exact p2 G2 _ σ (I2.change eg h1 h2 h3' ⟨_, upd_same, Reps.set (q1.up m2.g) j h5'⟩) (Same.refl _)
      all_goals exact p2.elim
    | dict ds =>
      refine .inr (start fun d G1 H1 v I1 m1 q1 p1 => ?_)
      simp only [eg] at p1
      obtain ⟨a, h1, h2, h3, _⟩ := own_slot I1 eg
      refine ⟨_, h1, ?_⟩
      refine tEV_bindS I1 p1 fun r G2 H2 u er I2 m2 q2 p2 => ?_
      obtain ⟨a', h1', _, h3', hc⟩ := own_slot I2 eg
      rw [h1] at h1'
      cases h1'
      have w := q2.view I2.gh
      cases ek : dKey r.val with
      | none => rw [ek] at p2; exact p2.elim
      | some k =>
        simp only [ek] at p2
        cases ht : isT ds with
        | true => simp only [ht, if_true] at p2; exact p2.elim
        | false =>
          simp only [ht, if_neg Bool.false_ne_true] at p2
          rcases hc with ⟨kvs, hk, rk⟩ | ⟨kvs, es, e2, _, _⟩
          · by_cases hz : ds.length < sizeLine
            · rw [if_pos hz] at p2
              rw [dKey_view ek w]
              refine ⟨a, _, rfl, DPut.k hk (by rw [rk.length]; exact hz), ?_⟩
              exact p2 G2 _ σ (I2.change eg h1 h2 h3' (.inl ⟨_, upd_same, rk.put (q1.up m2.g)⟩)) (Same.refl _)
            · rw [if_neg hz] at p2
              exact p2.elim
          · subst e2
            cases ht
    | none => exact .inl (bad_way (fun _ z => by rw [eg] at z; cases z) fun _ z => by rw [eg] at z; cases z)
    | bool _ => exact .inl (bad_way (fun _ z => by rw [eg] at z; cases z) fun _ z => by rw [eg] at z; cases z)
    | int _ => exact .inl (bad_way (fun _ z => by rw [eg] at z; cases z) fun _ z => by rw [eg] at z; cases z)
    | str _ => exact .inl (bad_way (fun _ z => by rw [eg] at z; cases z) fun _ z => by rw [eg] at z; cases z)
    | tuple _ => exact .inl (bad_way (fun _ z => by rw [eg] at z; cases z) fun _ z => by rw [eg] at z; cases z)

/-! return, if, for, while -/
theorem RVal.ret (I : RE K G0 H0 G1 H1 σ ρ) (m : Mon G H G1 H1) (I0 : RE K G0 H0 G H σ ρ) {r : RV} {v : V} (q : RVal K H0 H G1 H1 r v) : RVal K H0 H0 G1 H1 r v := by
  cases r with
  | sh d => exact q
  | fr d =>
    obtain ⟨p, a, b, c, e⟩ := q
    exact ⟨p, a, I0.mon.h.free b, c, e⟩
  | ow d => exact q
theorem sv_ret {e : Expr} {pos : Pos} {f : Env → Rs RV} (he : EV X E e f) : SV X E (.Return (some e) pos) (cRet f) :=
  sv_of (ps_ret he) fun _ _ _ _ _ _ _ I p => tEV_bindS I p fun _ G1 H1 v _ I1 m1 q1 p1 => p1 G1 H1 v I1.mon I1.gh (q1.ret I1 m1 I)
theorem sv_retN {pos : Pos} : SV X E (.Return none pos) cRetN :=
  sv_of ps_retN fun _ _ G H _ _ _ I p => p G H _ I.mon I.gh .non
theorem sv_do {e : Expr} {pos : Pos} {f : Env → Rs RV} (he : EV X E e f) (hs : swapsWith e none pos.line X.env = pure false) : SV X E (.Expr e pos) (cDo f) :=
  sv_of (ps_expr he hs) fun _ _ _ _ _ _ _ I p => tEV_bindS I p fun _ G1 H1 _ _ I1 _ _ p1 => p1 G1 H1 _ I1 (Same.refl _)
theorem sv_pass {pos : Pos} : SV X E (.Pass pos) cEnd := sv_of ps_pass fun G0 H0 G H σ ρ N I p => p G H σ I (Same.refl _)
theorem sv_break {pos : Pos} : SV X E (.Break pos) (fun ρ => .ok (.bk ρ)) := sv_of ps_break fun G0 H0 G H σ ρ N I p => p G H σ I (Same.refl _)
theorem sv_continue {pos : Pos} : SV X E (.Continue pos) (fun ρ => .ok (.ct ρ)) := sv_of ps_continue fun G0 H0 G H σ ρ N I p => p G H σ I (Same.refl _)
theorem tTV_bindS {f : Env → Rs RV} {g : Bool → Rs Fl} {R : Bool → Hp → Prop} (I : RE K G0 H0 G H σ ρ) (p : SPost K mg E G0 H0 G N ((boolOf (f ρ)).bind g))
    (h : ∀ b G1 H1, RE K G0 H0 G1 H1 σ ρ → Mon G H G1 H1 → SPost K mg E G0 H0 G1 N (g b) → R b H1) : tTV K mg E f σ H R := by
  cases e : f ρ with
  | bad => simp only [e, boolOf] at p; exact p.elim
  | ex x =>
    simp only [e, boolOf] at p
    exact ⟨G0, H0, G, ρ, I, by rw [e]; exact p⟩
  | ok r =>
    cases eb : boolOf (f ρ) with
    | bad => rw [eb] at p; exact p.elim
    | ex x =>
      rw [e] at eb
      simp only [boolOf] at eb
      revert eb
      cases r.val <;> intro eb <;> cases eb
    | ok b =>
      rw [eb] at p
      exact tTV_of I eb fun G1 H1 I1 m1 => h b G1 H1 I1 m1 (SPost.up m1.g p)
theorem sv_if {c : Expr} {a b : List Stmt} {pos : Pos} {f : Env → Rs RV} {F F2 : Env → Rs Fl} (hc : TV X E c f) (ha : SVs X E a F) (hb : SVs X E b F2) : SV X E (.If c a b pos) (cIfS f F F2) := by
  refine sv_of (ps_if hc ha hb) fun G0 H0 G H σ ρ N I p => tTV_bindS I p fun k G1 H1 I1 m1 p1 => ?_
  cases k with
  | true => rw [if_pos rfl] at p1 ⊢; exact ⟨G0, H0, G1, ρ, I1, p1⟩
  | false => rw [if_neg Bool.false_ne_true] at p1 ⊢; exact ⟨G0, H0, G1, ρ, I1, p1⟩
theorem sv_for {tg iter : Expr} {body : List Stmt} {pos : Pos} {it : Env → Rs (Bool × List D)} {k : D → Env → Rs Env} {is gs : List Nat} {F : Env → Rs Fl} (hp : PassesOwn (model X.prog X.w) X.A X.env X.xe) (hc : X.calm = true) (hi : IV X E tg iter it) (hg : GV X tg gs k) (hb : SVs X E body F)
    (hs : ∀ x, foldedSetIterable iter X.env x = pure x) : SV X E (.For tg iter body [] pos) (cFor it k is F) := by
  refine sv_of (ps_for hp hc hi hg hb hs) fun G0 H0 G H σ ρ N I p => ?_
  refine ⟨G0, H0, G, ρ, I, ?_⟩
  unfold cFor at p
  cases ei : it ρ with
  | bad => rw [ei] at p; exact p
  | ex x => rw [ei] at p; exact p
  | ok r =>
    rw [ei, Rs.bind_ok] at p
    obtain ⟨ow, ds⟩ := r
    simp only at p
    cases ow with
    | true => exact p.elim
    | false =>
      rw [if_neg Bool.false_ne_true] at p
      intro G1 H1 J I1 m1 _ hJ
      have hJ : ItG X.K J G1 ds := hJ rfl
      refine ⟨fun i m σ2 H2 => m = ds.length - i ∧ i ≤ ds.length ∧ ∃ G2 ρ2, RE X.K G0 H0 G2 H2 σ2 ρ2 ∧ Same G1 G2 ∧ SPost X.K X.mg E G0 H0 G2 N (forL k is F (ds.drop i) ρ2), ⟨_, rfl, Nat.zero_le _, G1, _, I1.forgets is, Same.refl _, SPost.up m1.g p⟩, ?_⟩
      rintro i m σ2 H2 ⟨rfl, hi, G2, ρ2, I2, s2, p2⟩
      obtain ⟨hstop, hitem⟩ := hJ G2 H2 s2 I2.gh
      by_cases hlt : i < ds.length
      · right
        obtain ⟨hgo, hy⟩ := hitem i ds[i] (List.getElem?_eq_getElem hlt)
        refine ⟨hgo, fun σ3 H3 => i + 1 ≤ ds.length ∧ ∃ G2 ρ2, RE X.K G0 H0 G2 H3 σ3 ρ2 ∧ Same G1 G2 ∧ SPost X.K X.mg E G0 H0 G2 N (forL k is F (ds.drop (i + 1)) ρ2), fun σ3 H3 ⟨h1, h2⟩ => ⟨ds.length - (i + 1), by omega, rfl, h1, h2⟩, fun x H3 yy => ?_⟩
        obtain ⟨G3, gh3, m3, rx⟩ := hy x H3 yy
        have I3 : RE X.K G0 H0 G3 H3 σ2 ρ2 := I2.step m3 gh3
        have s3 : Same G1 G3 := s2.trans m3.g
        rw [List.drop_eq_getElem_cons hlt] at p2
        have p3 := SPost.up m3.g p2
        unfold forL at p3
        refine ⟨G0, H0, G3, ρ2, ds[i], I3, rx, ?_⟩
        cases ek : k ds[i] ρ2 with
        | bad => rw [ek] at p3; exact p3.elim
        | ex _ => rw [ek] at p3; exact p3.elim
        | ok ρ3 =>
          rw [ek] at p3
          intro σ4 I4 _ _
          refine ⟨G0, H0, G3, ρ3, I4, ?_⟩
          simp only at p3
          cases ef : F ρ3 with
          | bad => rw [ef] at p3; exact p3
          | ex x => rw [ef] at p3; exact p3
          | ok fl =>
            rw [ef, Rs.bind_ok] at p3
            cases fl with
            | nx ρ4 => exact fun G5 H5 σ5 I5 s5 => ⟨hlt, G5, _, I5.forgets is, s3.trans s5, SPost.up s5 p3⟩
            | ct ρ4 => exact fun G5 H5 σ5 I5 s5 => ⟨hlt, G5, _, I5.forgets is, s3.trans s5, SPost.up s5 p3⟩
            | bk ρ4 => exact p3
            | rt r => exact p3
      · left
        have e : i = ds.length := by omega
        subst e
        rw [List.drop_length] at p2
        exact ⟨hstop, p2 G2 H2 σ2 I2 (Same.refl _)⟩
theorem sv_while {c : Expr} {body : List Stmt} {pos : Pos} {f : Env → Rs RV} {is : List Nat} {F : Env → Rs Fl} (n : Nat) (hp : PassesOwn (model X.prog X.w) X.A X.env X.xe) (hc : TV X E c f) (hb : SVs X E body F) : SV X E (.While c body [] pos) (cWhl n f is F) := by
  refine sv_of (ps_while hp hc hb) fun G0 H0 G H σ ρ N I p => ?_
  refine ⟨fun m σ2 H2 => ∃ G2 ρ2, RE X.K G0 H0 G2 H2 σ2 ρ2 ∧ SPost X.K X.mg E G0 H0 G2 N (whlL f is F m ρ2), ⟨n, G, _, I.forgets is, p⟩, ?_⟩
  rintro m σ2 H2 ⟨G2, ρ2, I2, p2⟩
  cases m with
  | zero => exact p2.elim
  | succ m =>
    unfold whlL at p2
    refine tTV_bindS I2 p2 fun k G3 H3 I3 m3 p3 => ?_
    cases k with
    | false =>
      rw [if_neg Bool.false_ne_true] at p3 ⊢
      exact p3 G3 H3 σ2 I3 (Same.refl _)
    | true =>
      rw [if_pos rfl] at p3 ⊢
      refine ⟨fun σ' H' => ∃ G2 ρ2, RE X.K G0 H0 G2 H' σ' ρ2 ∧ SPost X.K X.mg E G0 H0 G2 N (whlL f is F m ρ2), fun σ' H' h => ⟨m, by omega, h⟩, G0, H0, G3, ρ2, I3, ?_⟩
      cases ef : F ρ2 with
      | bad => rw [ef] at p3; exact p3
      | ex x => rw [ef] at p3; exact p3
      | ok fl =>
        rw [ef, Rs.bind_ok] at p3
        cases fl with
        | nx ρ4 => exact fun G5 H5 σ5 I5 s5 => ⟨G5, _, I5.forgets is, SPost.up s5 p3⟩
        | ct ρ4 => exact fun G5 H5 σ5 I5 s5 => ⟨G5, _, I5.forgets is, SPost.up s5 p3⟩
        | bk ρ4 => exact p3
        | rt r => exact p3
end
end VL

set_option Elab.async false
set_option linter.all false
set_option maxRecDepth 100000
set_option maxHeartbeats 4000000
/-! part VL8: a text's terms of our own, the Python that they stand for, what they come to; that this is so. -/
namespace VL
open PySem PySem.Spec PyProof.Rows L2

inductive BinO where
  | add | sub | mul | mod | div | pow
def BinO.op : BinO → Operator
  | .add => .Add | .sub => .Sub | .mul => .Mult | .mod => .Mod | .div => .FloorDiv | .pow => .Pow
/-- what an operator comes to -/
def BinO.c : BinO → (Env → Rs RV) → (Env → Rs RV) → Env → Rs RV
  | .add => cBin dAdd | .sub => cBin dSub | .mul => cBinR mulR | .mod => cBin dMod | .div => cBin dDiv | .pow => cBin dPow
inductive CmpP where
  | eq | ne | lt | le | gt | ge | isN | notN
def CmpP.op : CmpP → CmpOp
  | .eq => .Eq | .ne => .NotEq | .lt => .Lt | .le => .LtE | .gt => .Gt | .ge => .GtE | .isN => .Is | .notN => .IsNot
def CmpP.d : CmpP → D → D → Rs RV
  | .eq => dEq | .ne => dNe | .lt => dLt | .le => dLe | .gt => dGt | .ge => dGe | .isN => dIsN | .notN => dNotN
inductive Blt where
  | len | list | tuple | sum | all | any | max | min | abs | int | str | sorted
def Blt.name : Blt → Str
  | .len => "len" | .list => "list" | .tuple => "tuple" | .sum => "sum" | .all => "all" | .any => "any" | .max => "max" | .min => "min" | .abs => "abs" | .int => "int" | .str => "str" | .sorted => "sorted"
def Blt.d : Blt → List D → Rs RV
  | .len => dLen | .list => dList | .tuple => dTuple | .sum => dSum | .all => dAll | .any => dAny | .max => dMax | .min => dMin | .abs => dAbs | .int => dInt | .str => dStr | .sorted => dSorted
inductive Ty6 where
  | int | bool | str | list | tuple | dict
def Ty6.name : Ty6 → Str
  | .int => "int" | .bool => "bool" | .str => "str" | .list => "list" | .tuple => "tuple" | .dict => "dict"
def Ty6.id : Ty6 → String
  | .int => "int" | .bool => "bool" | .str => "str" | .list => "list" | .tuple => "tuple" | .dict => "dict"
/-- what a for, a comprehension walks: a thing itself, or by range, enumerate, zip -/
inductive IK where
  | seq | range (p1 p : Pos) | enum (p1 p : Pos) | zip (p1 p : Pos)

mutual
inductive PT where
  | nm (i : Nat) (x : Str) (p : Pos)
  | tp (ts : PTs) (k : Nat) (p : Pos)
inductive PTs where
  | nil
  | cons (t : PT) (ts : PTs)
end
mutual
inductive PX where
  | var (i : Nat) (x : Str) (p : Pos)
  | int (i : Int) (k : Nat) (p : Pos)
  | str (x : Str) (k : Nat) (p : Pos)
  | bl (b : Bool) (k : Nat) (p : Pos)
  | non (k : Nat) (p : Pos)
  | glob (x : Str) (d : D) (p : Pos)
  | bin (o : BinO) (a b : PX) (p : Pos)
  | neg (a : PX) (p : Pos)
  | cmp (o : CmpP) (a b : PX) (p : Pos)
  | mem (neg : Bool) (a b : PX) (p : Pos)
  | chain (o o' : CmpP) (a b c : PX) (p : Pos)
  | and (a : PX) (as : PXs) (p : Pos)
  | or (a : PX) (as : PXs) (p : Pos)
  | not (a : PX) (p : Pos)
  | tup (es : PXs) (k : Nat) (p : Pos)
  | lst (es : PXs) (p : Pos)
  | dnew (p : Pos)
  | sub (a b : PX) (p : Pos)
  | slice (a : PX) (lo hi : PXs) (p2 p : Pos)
  | rev (a : PX) (k : Nat) (p1 p2 p3 p : Pos)
  | call (x : Str) (φ : List D → Rs RV) (n : Nat) (e : PX) (es : PXs) (p1 p : Pos)
  | blt (b : Blt) (e : PX) (es : PXs) (p1 p : Pos)
  | isi (t : Ty6) (e : PX) (p1 p2 p : Pos)
  | sset (e : PX) (p1 p2 p3 p : Pos)
  | dvals (i j : Nat) (x y : Str) (scope : Scope) (own : List (Str × Nat)) (p1 p2 p3 p4 p5 p : Pos)
  | lc (ik : IK) (its : PXs) (tg : PT) (c : PXs) (elt : PX) (scope : Scope) (own : List (Str × Nat)) (p : Pos)
inductive PXs where
  | nil
  | cons (e : PX) (es : PXs)
end

/-! ### the Python that they stand for -/
mutual
def PT.tx : PT → Expr
  | .nm _ x p => .Name x p
  | .tp ts k p => .Tuple ts.txs k p
def PTs.txs : PTs → List Expr
  | .nil => []
  | .cons t ts => t.tx :: ts.txs
end
def IK.ex : IK → List Expr → Expr
  | .seq, e :: _ => e
  | .seq, [] => .Constant .none 0 ⟨0, 0, 0, 0⟩
  | .range p1 p, es => .Call (.Name "range" p1) es [] p
  | .enum p1 p, es => .Call (.Name "enumerate" p1) es [] p
  | .zip p1 p, es => .Call (.Name "zip" p1) es [] p
mutual
def PX.ex : PX → Expr
  | .var _ x p => .Name x p
  | .int i k p => .Constant (.int i) k p
  | .str x k p => .Constant (.str x) k p
  | .bl b k p => .Constant (.bool b) k p
  | .non k p => .Constant .none k p
  | .glob x _ p => .Name x p
  | .bin o a b p => .BinOp a.ex o.op b.ex p
  | .neg a p => .UnaryOp .USub a.ex p
  | .cmp o a b p => .Compare a.ex [o.op] [b.ex] p
  | .mem n a b p => .Compare a.ex [if n then .NotIn else .In] [b.ex] p
  | .chain o o' a b c p => .Compare a.ex [o.op, o'.op] [b.ex, c.ex] p
  | .and a as p => .BoolOp .And (a.ex :: as.exs) p
  | .or a as p => .BoolOp .Or (a.ex :: as.exs) p
  | .not a p => .UnaryOp .Not a.ex p
  | .tup es k p => .Tuple es.exs k p
  | .lst es p => .List es.exs p
  | .dnew p => .Dict [] [] p
  | .sub a b p => .Subscript a.ex b.ex p
  | .slice a lo hi p2 p => .Subscript a.ex (.Slice lo.exs.head? hi.exs.head? none p2) p
  | .rev a k p1 p2 p3 p => .Subscript a.ex (.Slice none none (some (.UnaryOp .USub (.Constant (.int 1) k p1) p2)) p3) p
  | .call x _ _ e es p1 p => .Call (.Name x p1) (e.ex :: es.exs) [] p
  | .blt b e es p1 p => .Call (.Name b.name p1) (e.ex :: es.exs) [] p
  | .isi t e p1 p2 p => .Call (.Name "isinstance" p1) [e.ex, .Name t.name p2] [] p
  | .sset e p1 p2 p3 p => .Call (.Name "sorted" p1) [.Call (.Name "set" p2) [e.ex] [] p3] [] p
  | .dvals _ _ x y scope _ p1 p2 p3 p4 p5 p => .ListComp (.Subscript (.Name x p1) (.Name y p2) p3) [⟨.Name y p4, .Name x p5, [], 0⟩] scope p
  | .lc ik its tg c elt scope _ p => .ListComp elt.ex [⟨tg.tx, ik.ex its.exs, c.exs, 0⟩] scope p
def PXs.exs : PXs → List Expr
  | .nil => []
  | .cons e es => e.ex :: es.exs
end

/-! ### what they come to -/
mutual
def PT.ev : PT → D → Env → Rs Env
  | .nm i _ _ => kName i
  | .tp ts _ _ => kTup ts.evs
def PTs.evs : PTs → List D → Env → Rs Env
  | .nil => kNil
  | .cons t ts => kCons t.ev ts.evs
end
mutual
def PT.slots : PT → List Nat
  | .nm i _ _ => [i]
  | .tp ts _ _ => ts.slotss
def PTs.slotss : PTs → List Nat
  | .nil => []
  | .cons t ts => t.slots ++ ts.slotss
end
def cChain (op op' : D → D → Rs RV) (f g h : Env → Rs RV) : Env → Rs RV := fun ρ => (f ρ).bind fun a => (g ρ).bind fun b => (op a.val b.val).bind fun r => match r.val with
  | .bool true => (h ρ).bind fun c => op' b.val c.val
  | .bool false => .ok (.sh (.bool false))
  | _ => .bad
def cDnew : Env → Rs RV := fun _ => .ok (.fr (.dict []))
def IK.ev : IK → Option (Env → Rs RV) → (Env → Rs (List RV)) → Env → Rs (Bool × List D)
  | .seq, some f, _ => iSeq f
  | .seq, none, _ => fun _ => .bad
  | .range _ _, _, f => iRange f
  | .enum _ _, _, f => iEnumD f
  | .zip _ _, _, f => iZipD f
def cNeg (f : Env → Rs RV) : Env → Rs RV := cUn (fun x => match x with
    | .int i => .ok (.sh (.int (-i)))
    | _ => .bad) f
mutual
def PX.ev : PX → Env → Rs RV
  | .var i _ _ => cVar i
  | .int i _ _ => cCon (.int i)
  | .str x _ _ => cCon (.str x)
  | .bl b _ _ => cCon (.bool b)
  | .non _ _ => cCon .none
  | .glob _ d _ => cCon d
  | .bin o a b _ => o.c a.ev b.ev
  | .neg a _ => cNeg a.ev
  | .cmp o a b _ => cBin o.d a.ev b.ev
  | .mem n a b _ => cBin (if n then dNotIn else dIn) a.ev b.ev
  | .chain o o' a b c _ => cChain o.d o'.d a.ev b.ev c.ev
  | .and a as _ => as.evAnd a.ev
  | .or a as _ => as.evOr a.ev
  | .not a _ => cNot a.ev
  | .tup es _ _ => cTup es.evs
  | .lst es _ => cLst es.evs
  | .dnew _ => cDnew
  | .sub a b _ => cBin dIx a.ev b.ev
  | .slice a lo hi _ _ => cSl a.ev lo.evH hi.evH
  | .rev a _ _ _ _ _ => cUn dRev a.ev
  | .call _ φ _ e es _ _ => cCall φ (cCons e.ev es.evs)
  | .blt b e es _ _ => cBlt b.d (cCons e.ev es.evs)
  | .isi t e _ _ _ => cUn (dIsi t.id) e.ev
  | .sset e _ _ _ _ => cUn dSset e.ev
  | .dvals i j _ _ _ _ _ _ _ _ _ _ => cDvals i j
  | .lc ik its tg c elt _ own _ => cLc (ik.ev its.evH its.evs) tg.ev c.evH elt.ev (own.map (·.2))
def PXs.evs : PXs → Env → Rs (List RV)
  | .nil => cNil
  | .cons e es => cCons e.ev es.evs
/-- the first one -/
def PXs.evH : PXs → Option (Env → Rs RV)
  | .nil => none
  | .cons e _ => some e.ev
def PXs.evAnd : PXs → (Env → Rs RV) → Env → Rs RV
  | .nil, f => f
  | .cons e es, f => cAnd f (es.evAnd e.ev)
def PXs.evOr : PXs → (Env → Rs RV) → Env → Rs RV
  | .nil, f => f
  | .cons e es, f => cOr f (es.evOr e.ev)
end

/-! ### what is looked at in the text -/
/-- what stands in a module by a name that is used -/
inductive Use where
  | fn (x : Str) (n : Nat) (φ : List D → Rs RV)
  | gl (x : Str) (d : D)
mutual
def PX.uses : PX → List Use
  | .var _ _ _ => []
  | .int _ _ _ => []
  | .str _ _ _ => []
  | .bl _ _ _ => []
  | .non _ _ => []
  | .glob x d _ => [.gl x d]
  | .bin _ a b _ => a.uses ++ b.uses
  | .neg a _ => a.uses
  | .cmp _ a b _ => a.uses ++ b.uses
  | .mem _ a b _ => a.uses ++ b.uses
  | .chain _ _ a b c _ => a.uses ++ (b.uses ++ c.uses)
  | .and a as _ => a.uses ++ as.usess
  | .or a as _ => a.uses ++ as.usess
  | .not a _ => a.uses
  | .tup es _ _ => es.usess
  | .lst es _ => es.usess
  | .dnew _ => []
  | .sub a b _ => a.uses ++ b.uses
  | .slice a lo hi _ _ => a.uses ++ (lo.usess ++ hi.usess)
  | .rev a _ _ _ _ _ => a.uses
  | .call x φ n e es _ _ => .fn x n φ :: (e.uses ++ es.usess)
  | .blt _ e es _ _ => e.uses ++ es.usess
  | .isi _ e _ _ _ => e.uses
  | .sset e _ _ _ _ => e.uses
  | .dvals _ _ _ _ _ _ _ _ _ _ _ _ => []
  | .lc _ its _ c elt _ _ _ => its.usess ++ (c.usess ++ elt.uses)
def PXs.usess : PXs → List Use
  | .nil => []
  | .cons e es => e.uses ++ es.usess
end
def PXs.len : PXs → Nat
  | .nil => 0
  | .cons _ es => es.len + 1
def visB (sc : Scope) (x : Str) : Bool := match sc.names.lookup x with
  | some .local => true
  | some .cell => true
  | some .free => true
  | _ => false
def glB (sc : Scope) (x : Str) : Bool := match sc.names.lookup x with
  | some .globalImplicit => true
  | _ => false
def plainB (x : Str) : Bool := !(x == ("__debug__" : Str)) && !(x == ("__classdict__" : Str)) && !decide (x = "__name__")
def locB (sc : Scope) (fn : Str → Bool) (x : Str) : Bool := match sc.names.lookup x with
  | some .local => true
  | some .cell => fn x
  | _ => false
def atB (N : List Str) (i : Nat) (x : Str) : Bool := decide (N[i]? = some x)
mutual
def PT.ok (N : List Str) (sc : Scope) (fn : Str → Bool) : PT → Bool
  | .nm i x _ => atB N i x && locB sc fn x
  | .tp ts _ _ => ts.oks N sc fn
def PTs.oks (N : List Str) (sc : Scope) (fn : Str → Bool) : PTs → Bool
  | .nil => true
  | .cons t ts => t.ok N sc fn && ts.oks N sc fn
end
def IK.ok (sc : Scope) : IK → Nat → PT → Bool
  | .seq, n, _ => n == 1
  | .range _ _, n, _ => glB sc "range" && (n == 1 || n == 2)
  | .enum _ _, n, .tp _ _ _ => glB sc "enumerate" && n == 1
  | .zip _ _, n, .tp _ _ _ => glB sc "zip" && n == 2
  | _, _, _ => false
mutual
def PX.ok (N : List Str) (sc : Scope) : PX → Bool
  | .var i x _ => atB N i x && (visB sc x && plainB x)
  | .int _ _ _ => true
  | .str _ _ _ => true
  | .bl _ _ _ => true
  | .non _ _ => true
  | .glob x _ _ => glB sc x && plainB x
  | .bin _ a b _ => a.ok N sc && b.ok N sc
  | .neg a _ => a.ok N sc
  | .cmp _ a b _ => a.ok N sc && b.ok N sc
  | .mem _ a b _ => a.ok N sc && b.ok N sc
  | .chain _ _ a b c _ => a.ok N sc && (b.ok N sc && c.ok N sc)
  | .and a as _ => a.ok N sc && as.oks N sc
  | .or a as _ => a.ok N sc && as.oks N sc
  | .not a _ => a.ok N sc
  | .tup es _ _ => es.oks N sc
  | .lst es _ => es.oks N sc
  | .dnew _ => true
  | .sub a b _ => a.ok N sc && b.ok N sc
  | .slice a lo hi _ _ => a.ok N sc && (lo.oks N sc && hi.oks N sc)
  | .rev a _ _ _ _ _ => a.ok N sc
  | .call x _ n e es _ _ => glB sc x && (plainB x && (es.len + 1 == n && (e.ok N sc && es.oks N sc)))
  | .blt b e es _ _ => glB sc b.name && (e.ok N sc && es.oks N sc)
  | .isi t e _ _ _ => glB sc "isinstance" && (glB sc t.name && e.ok N sc)
  | .sset e _ _ _ _ => glB sc "sorted" && (glB sc "set" && e.ok N sc)
  | .dvals i j x y scope own _ _ _ _ _ _ => atB N i x && (visB sc x && (plainB x && (blkC N sc scope own && (atB N j y && (locB (relS scope sc) (fun x => scope.names.lookup x == some .cell) y && (visB (relS scope sc) x && (visB (relS scope sc) y && (plainB y && ((own.map (·.2)).contains j && !(own.map (·.2)).contains i)))))))))
  | .lc ik its tg c elt scope own _ => ik.ok sc its.len tg && (its.oks N sc && (blkC N sc scope own && (tg.ok N (relS scope sc) (fun x => scope.names.lookup x == some .cell) && (c.oks N (relS scope sc) && (decide (c.len ≤ 1) && (elt.ok N (relS scope sc) && tg.slots.all fun i => (own.map (·.2)).contains i))))))
def PXs.oks (N : List Str) (sc : Scope) : PXs → Bool
  | .nil => true
  | .cons e es => e.ok N sc && es.oks N sc
end

/-! ### that it is so -/
/-- what holds of a context -/
def Use.good (X : Cx) (k : Nat) : Use → Prop
  | .fn x n φ => FnD X.prog X.w X.K X.mg X.base k x n φ
  | .gl x d => ∃ v u, X.mg x = some u ∧ RelV v u ∧ ∀ G, Rep X.K G d v
def builtinNames : List Str := ["len", "list", "tuple", "sum", "all", "any", "max", "min", "abs", "int", "str", "sorted", "bool", "dict", "isinstance", "range", "enumerate", "zip", "set"]
structure Stat (X : Cx) (E : XK) (k : Nat) : Prop where
  nd : X.N.Nodup
  calm : X.calm = true
  room : Room k X.A
  pass : Passes (L2.CX X.prog X.w) X E
  blt : ∀ x ∈ builtinNames, X.mg x = none

section
variable {X : Cx} {E : XK} {k : Nat}
theorem Stat.units (S : Stat X E k) (hk : 1 ≤ k) : X.A.units + 65 < cLine := by
  have := S.room.un
  omega
theorem Stat.blk (S : Stat X E k) (s : Shared) (H : Hp) (scope : Scope) (cenv : PySem.Env) (fp : List Addr) : Stat (X.blk s H scope cenv fp) Eno k :=
  ⟨S.nd, S.calm, S.room, passL, S.blt⟩
theorem Use.good_blk {u : Use} (h : u.good X k) (s : Shared) (H : Hp) (scope : Scope) (cenv : PySem.Env) (fp : List Addr) : u.good (X.blk s H scope cenv fp) k := by
  cases u with
  | fn x n φ => exact h
  | gl x d => exact h
theorem ba2 {a b : Bool} (h : (a && b) = true) : a = true ∧ b = true := Bool.and_eq_true_iff.mp h
theorem vis_of {sc : Scope} {x : Str} (h : visB sc x = true) : Vis sc x := by
  unfold visB at h
  unfold Vis
  cases e : sc.names.lookup x with
  | none => rw [e] at h; cases h
  | some kd =>
    rw [e] at h
    cases kd <;> first | exact .inl rfl | exact .inr (.inl rfl) | exact .inr (.inr rfl) | cases h
theorem gl_of {x : Str} (h : glB X.env.scope x = true) : Gl X x := by
  unfold glB at h
  show X.env.scope.names.lookup x = _
  cases e : X.env.scope.names.lookup x with
  | none => rw [e] at h; cases h
  | some kd =>
    rw [e] at h
    cases kd <;> first | rfl | cases h
theorem plain_of {x : Str} (h : plainB x = true) : (x == ("__debug__" : Str)) = false ∧ (x == ("__classdict__" : Str)) = false ∧ x ≠ "__name__" := by
  unfold plainB at h
  obtain ⟨h1, h2⟩ := ba2 h
  obtain ⟨h3, h4⟩ := ba2 h1
  exact ⟨by simpa using h3, by simpa using h4, by simpa using h2⟩
theorem loc_of {fn : Str → Bool} (hf : X.fn = fn) {x : Str} (h : locB X.env.scope fn x = true) : L2.Loc X.env.scope x ∧ (X.fn x = true ∨ X.env.scope.names.lookup x = some .local) := by
  unfold locB at h
  unfold L2.Loc
  cases e : X.env.scope.names.lookup x with
  | none => rw [e] at h; cases h
  | some kd =>
    rw [e] at h
    cases kd <;> first
      | exact ⟨.inl rfl, .inr rfl⟩
      | exact ⟨.inr rfl, .inl (by rw [hf]; exact h)⟩
      | cases h
theorem no_star (e : PX) (es : List Expr) (env : PySem.Env) : starEach (e.ex :: es) env = (false, eval e.ex env) :: starEach es env := by
  cases e <;> (unfold PX.ex; rfl)
theorem no_stars : ∀ (es : PXs) (env : PySem.Env) (pos : Pos), (backTo pos (starEach es.exs env)).any (·.1) = false
  | .nil, _, _ => by unfold PXs.exs; rfl
  | .cons e es, env, pos => by
    unfold PXs.exs
    rw [no_star]
    show ((false : Bool) || (backTo pos (starEach es.exs env)).any (·.1)) = false
    rw [no_stars es env pos]
    rfl
theorem no_marks (o : CmpOp) (b : PX) : behindInMarks o b.ex = false := by
  cases b <;> (unfold PX.ex; rfl)
theorem no_slice (b : PX) : PlainIx b.ex := by
  intro o i
  cases b <;> (unfold PX.ex; rfl)
theorem PTs.evs_len : ∀ (ts : PTs) {ds : List D} {ρ ρ' : Env}, ts.evs ds ρ = .ok ρ' → ds.length = ts.txs.length
  | .nil, ds, ρ, ρ', h => by
    unfold PTs.evs kNil at h
    cases ds with
    | nil => unfold PTs.txs; rfl
    | cons _ _ => cases h
  | .cons t ts, ds, ρ, ρ', h => by
    unfold PTs.evs kCons at h
    cases ds with
    | nil => cases h
    | cons d ds =>
      simp only at h
      cases e : t.ev d ρ with
      | bad => rw [e] at h; cases h
      | ex x => rw [e] at h; cases h
      | ok ρ1 =>
        rw [e, Rs.bind_ok] at h
        unfold PTs.txs
        rw [List.length_cons, List.length_cons, PTs.evs_len ts h]
theorem no_starT (t : PT) (ts : List Expr) (env : PySem.Env) : assignEach (t.tx :: ts) env = (false, assign t.tx env) :: assignEach ts env := by
  cases t <;> (unfold PT.tx; rfl)
theorem no_starTs : ∀ (ts : PTs) (env : PySem.Env), (assignEach ts.txs env).length = ts.txs.length ∧ (assignEach ts.txs env).findIdx? (·.1) = none
  | .nil, _ => by unfold PTs.txs; exact ⟨rfl, rfl⟩
  | .cons t ts, env => by
    unfold PTs.txs
    rw [no_starT]
    obtain ⟨h1, h2⟩ := no_starTs ts env
    refine ⟨by rw [List.length_cons, List.length_cons, h1], ?_⟩
    rw [List.findIdx?_cons]
    simp [h2]
mutual
theorem PT.sound {fn : Str → Bool} (hf : X.fn = fn) (hc : X.calm = true) (hN : X.N.Nodup) : ∀ (t : PT), t.ok X.N X.env.scope fn = true → GV X t.tx t.slots t.ev
  | .nm i x p, h => by
    unfold PT.ok at h
    obtain ⟨h1, h2⟩ := ba2 h
    obtain ⟨h3, h4⟩ := loc_of hf h2
    unfold PT.tx PT.slots PT.ev
    exact gv_name hN (of_decide_eq_true h1) h3 h4
  | .tp ts kk p, h => by
    unfold PT.ok at h
    have g := PTs.sound hf hc hN ts h
    obtain ⟨h1, h2⟩ := no_starTs ts X.env
    unfold PT.tx PT.slots PT.ev
    exact gv_tup hc g (fun ds ρ ρ' e => ts.evs_len e) h1 h2
theorem PTs.sound {fn : Str → Bool} (hf : X.fn = fn) (hc : X.calm = true) (hN : X.N.Nodup) : ∀ (ts : PTs), ts.oks X.N X.env.scope fn = true → GVs X ts.txs ts.slotss ts.evs
  | .nil, h => by
    unfold PTs.txs PTs.slotss PTs.evs
    exact gvs_nil
  | .cons t ts, h => by
    unfold PTs.oks at h
    obtain ⟨h1, h2⟩ := ba2 h
    unfold PTs.txs PTs.slotss PTs.evs
    exact gvs_cons (PT.sound hf hc hN t h1) (PTs.sound hf hc hN ts h2) (by rw [no_starT]; rfl)
end
theorem PXs.noFr : ∀ (es : PXs), NoFr es.evs
  | .nil => by unfold PXs.evs; exact noFr_nil
  | .cons e es => by unfold PXs.evs; exact noFr_cons (PXs.noFr es)
theorem PXs.arN : ∀ (es : PXs), ArN es.evs es.len
  | .nil => by unfold PXs.evs PXs.len; exact arN_nil
  | .cons e es => by unfold PXs.evs PXs.len; exact arN_cons (PXs.arN es)
/-- the rules of the comparisons -/
theorem CmpP.rule (o : CmpP) (hu : X.A.units + 65 < cLine) : ∃ r, OpR X (compareOp o.op) r ∧ OpD X E o.d r := by
  cases o with
  | eq => exact ⟨_, op_eqA (by omega), od_eq⟩
  | ne => exact ⟨_, op_neA (by omega), od_ne⟩
  | lt => exact ⟨_, op_ltA, od_lt⟩
  | le => exact ⟨_, op_leA, od_le⟩
  | gt => exact ⟨_, op_gtA, od_gt⟩
  | ge => exact ⟨_, op_geA, od_ge⟩
  | isN => exact ⟨_, op_isN, od_isN⟩
  | notN => exact ⟨_, op_notN, od_notN⟩
theorem BinO.sound (o : BinO) {a b : Expr} {p : Pos} {f g : Env → Rs RV} (ha : EV X E a f) (hb : EV X E b g) : EV X E (.BinOp a o.op b p) (o.c f g) := by
  cases o with
  | add => exact ev_op op_addD od_add ha hb
  | sub => exact ev_op op_sub od_sub ha hb
  | mul => exact ev_opR op_mulD od_mul ha hb
  | mod => exact ev_op op_mod od_mod ha hb
  | div => exact ev_op op_fdivW od_div ha hb
  | pow => exact ev_op op_pow od_pow ha hb
theorem Blt.rule (b : Blt) (hc : X.calm = true) : (∃ id r, CallR X (.builtin id) r ∧ CallD X E b.d r ∧ bootBuiltins b.name = some (.builtin id)) ∨ ∃ id r, CallR X (.type id) r ∧ CallD X E b.d r ∧ bootBuiltins b.name = some (.type id) := by
  cases b with
  | len => exact .inl ⟨_, _, call_len, cd_len, boot_len⟩
  | list => exact .inr ⟨_, _, call_list_of, cd_list, boot_list⟩
  | tuple => exact .inr ⟨_, _, call_tuple_of, cd_tuple, boot_tuple⟩
  | sum => exact .inl ⟨_, _, cr_sum hc, cd_sum, by show bootBuiltins "sum" = _; decide +kernel⟩
  | all => exact .inl ⟨_, _, cr_all hc, cd_all, by show bootBuiltins "all" = _; decide +kernel⟩
  | any => exact .inl ⟨_, _, cr_any hc, cd_any, by show bootBuiltins "any" = _; decide +kernel⟩
  | max => exact .inl ⟨_, _, call_max2 hc, cd_max, boot_max⟩
  | min => exact .inl ⟨_, _, call_min2 hc, cd_min, boot_min⟩
  | abs => exact .inl ⟨_, _, call_abs, cd_abs, boot_abs⟩
  | int => exact .inr ⟨_, _, call_int1, cd_int, boot_int⟩
  | str => exact .inr ⟨_, _, call_str_int, cd_str, boot_str⟩
  | sorted => exact .inl ⟨_, _, cr_sortedI, cd_sorted, boot_sorted⟩
theorem Blt.mem (b : Blt) : b.name ∈ builtinNames := by cases b <;> (unfold Blt.name builtinNames; decide +kernel)
theorem Blt.plain (b : Blt) : plainB b.name = true := by cases b <;> (unfold Blt.name; decide +kernel)
theorem Ty6.mem (b : Ty6) : b.name ∈ builtinNames := by cases b <;> (unfold Ty6.name builtinNames; decide +kernel)
theorem Ty6.plain (b : Ty6) : plainB b.name = true := by cases b <;> (unfold Ty6.name; decide +kernel)
theorem Ty6.boot (b : Ty6) : bootBuiltins b.name = some (.type b.id) := by
  cases b with
  | int => exact boot_int
  | bool => exact boot_bool
  | str => exact boot_str
  | list => exact boot_list
  | tuple => exact boot_tuple
  | dict => exact boot_dict
theorem Ty6.isi (b : Ty6) : isiOk b.id = true := by cases b <;> (unfold Ty6.id; decide +kernel)
theorem ev_dnew {pos : Pos} : EV X E (.Dict [] [] pos) cDnew := by
  refine ev_of pe_dnewK fun G0 H0 G H σ ρ Q I p q nq => ?_
  obtain ⟨I2, m2⟩ := I.newOwn (o := .dK []) nq
  exact p _ _ _ I2 m2 ⟨q, rfl, nq, I.gh.free nq, .inl ⟨[], upd_same, .nil⟩⟩
section
variable {K : PySem.W.Frag} {mg : Str → Option Value} {G0 H0 G H G1 H1 G' H' Hb : Hp} {σ σ' : St} {ρ : Env} {Q : VK}
theorem Post.bindR {r : Rs RV} {g : RV → Rs RV} {R : VK} (p : Post K mg E G0 H0 G H σ ρ Q (r.bind g))
    (h : ∀ rv G1 H1 v, r = .ok rv → RE K G0 H0 G1 H1 σ ρ → Mon G H G1 H1 → RVal K H0 H G1 H1 rv v → Post K mg E G0 H0 G1 H1 σ ρ Q (g rv) → R v H1) : Post K mg E G0 H0 G H σ ρ R r := by
  cases r with
  | bad => exact p
  | ex x => exact p
  | ok rv => exact fun G1 H1 v I1 m1 q1 => h rv G1 H1 v rfl I1 m1 q1 (Post.up m1 p)
theorem chain_of {op op' : D → D → Rs RV} {r r' : R2} {f g h : Env → Rs RV} (hd : OpD X E op r) (hd' : OpD X E op' r') (I : RE X.K G0 H0 G H σ ρ) (p : Post X.K X.mg E G0 H0 G H σ ρ Q (cChain op op' f g h ρ)) :
    tChain r r' (tEV X.K X.mg E f) (tEV X.K X.mg E g) (tEV X.K X.mg E h) σ H Q :=
  tEV_bind I p fun a G1 H1 v ea I1 m1 q1 p1 => tEV_bind I1 p1 fun b G2 H2 u eb I2 m2 q2 p2 =>
    hd _ _ _ _ _ _ _ _ _ _ _ I2 ((q1.view I1.gh).mono m2.g m2.h) (q2.view I2.gh) (Post.bindR p2 fun rv G3 H3 z ez I3 m3 q3 p3 => by
      have w := q3.view I3.gh
      revert p3 w
      cases rv.val <;> intro p3 w
      case bool k =>
        refine ⟨k, w.bl, ?_⟩
        cases k with
        | false => rw [if_neg Bool.false_ne_true]; exact p3.fin I3 (.bl _)
        | true =>
          rw [if_pos rfl]
          exact tEV_bind I3 p3 fun c G4 H4 y ec I4 m4 q4 p4 => hd' _ _ _ _ _ _ _ _ _ _ _ I4 (((q2.view I2.gh).mono m3.g m3.h).mono m4.g m4.h) (q4.view I4.gh) p4
      all_goals exact p3.bad)
end
/-- a value's judgement and a test's -/
def BV (X : Cx) (E : XK) (e : Expr) (f : Env → Rs RV) : Prop := EV X E e f ∧ TV X E e f
theorem PXs.len_exs : ∀ es : PXs, es.exs.length = es.len
  | .nil => by unfold PXs.exs PXs.len; rfl
  | .cons e es => by unfold PXs.exs PXs.len; rw [List.length_cons, PXs.len_exs es]
/-- what a list of terms gives -/
structure SVX (X : Cx) (E : XK) (es : PXs) : Prop where
  av : AV X E es.exs es.evs
  hd : OV X E es.exs.head? es.evH
  hv : ∀ e f, es.exs.head? = some e → es.evH = some f → EV X E e f
  ev : es.len ≤ 1 → ∀ f, es.evH = some f → ∃ e, es.exs = [e] ∧ TV X E e f
  non : es.evH = none → es.exs = []
  and_ : ∀ (e : Expr) (f : Env → Rs RV) (pos : Pos), BV X E e f → EV X E (.BoolOp .And (e :: es.exs) pos) (es.evAnd f) ∧ WV X E (.BoolOp .And (e :: es.exs) pos) (es.evAnd f)
  or_ : ∀ (e : Expr) (f : Env → Rs RV) (pos : Pos), BV X E e f → EV X E (.BoolOp .Or (e :: es.exs) pos) (es.evOr f) ∧ WV X E (.BoolOp .Or (e :: es.exs) pos) (es.evOr f)
theorem no_set (e : PX) (env : PySem.Env) (x : Value) : foldedSetIterable e.ex env x = pure x := by
  cases e <;> (unfold PX.ex; rfl)
theorem IK.no_set (ik : IK) (its : PXs) (env : PySem.Env) (x : Value) : foldedSetIterable (ik.ex its.exs) env x = pure x := by
  cases ik with
  | seq =>
    cases its with
    | nil => unfold PXs.exs IK.ex; rfl
    | cons e es => unfold PXs.exs IK.ex; exact VL.no_set e env x
  | _ => unfold IK.ex; rfl
theorem IK.sound (S : Stat X E k) (ik : IK) (its : PXs) (tg : PT) (h : ik.ok X.env.scope its.len tg = true) (A : SVX X E its) : IV X E tg.tx (ik.ex its.exs) (ik.ev its.evH its.evs) := by
  cases ik with
  | seq =>
    cases its with
    | nil => unfold IK.ok PXs.len at h; cases h
    | cons e es =>
      have hv := A.hv e.ex e.ev (by unfold PXs.exs; rfl) (by unfold PXs.evH; rfl)
      unfold PXs.exs IK.ex PXs.evH IK.ev
      exact iv_seq hv
  | range p1 p =>
    unfold IK.ok at h
    obtain ⟨h1, h2⟩ := ba2 h
    have hm : X.mg "range" = none := S.blt _ (by unfold builtinNames; decide +kernel)
    unfold IK.ex IK.ev
    rcases Bool.or_eq_true_iff.mp h2 with h2 | h2
    · cases its with
      | nil => unfold PXs.len at h2; cases h2
      | cons e es =>
        cases es with
        | cons _ _ => unfold PXs.len PXs.len at h2; simp at h2
        | nil =>
          have av := A.av
          have ar := PXs.arN (.cons e .nil)
          unfold PXs.exs PXs.exs at av
          unfold PXs.exs PXs.exs
          exact iv_range1 (gl_of h1) hm av ar (by rw [no_star]; rfl)
    · cases its with
      | nil => unfold PXs.len at h2; cases h2
      | cons e es =>
        cases es with
        | nil => unfold PXs.len PXs.len at h2; cases h2
        | cons e2 es =>
          cases es with
          | cons _ _ => unfold PXs.len PXs.len PXs.len at h2; simp at h2
          | nil =>
            have av := A.av
            have ar := PXs.arN (.cons e (.cons e2 .nil))
            unfold PXs.exs PXs.exs PXs.exs at av
            unfold PXs.exs PXs.exs PXs.exs
            exact iv_range2 (gl_of h1) hm av ar (by rw [no_star, no_star]; rfl) (by rw [no_star]; rfl)
  | enum p1 p =>
    cases tg with
    | nm _ _ _ => unfold IK.ok at h; cases h
    | tp ts kk tp =>
      unfold IK.ok at h
      obtain ⟨h1, h2⟩ := ba2 h
      have hm : X.mg "enumerate" = none := S.blt _ (by unfold builtinNames; decide +kernel)
      unfold IK.ex IK.ev PT.tx
      cases its with
      | nil => unfold PXs.len at h2; cases h2
      | cons e es =>
        cases es with
        | cons _ _ => unfold PXs.len PXs.len at h2; simp at h2
        | nil =>
          have av := A.av
          have ar := PXs.arN (.cons e .nil)
          have nf := PXs.noFr (.cons e .nil)
          unfold PXs.exs PXs.exs at av
          unfold PXs.exs PXs.exs
          exact iv_enum (gl_of h1) hm av nf ar (by rw [no_star]; rfl)
  | zip p1 p =>
    cases tg with
    | nm _ _ _ => unfold IK.ok at h; cases h
    | tp ts kk tp =>
      unfold IK.ok at h
      obtain ⟨h1, h2⟩ := ba2 h
      have hm : X.mg "zip" = none := S.blt _ (by unfold builtinNames; decide +kernel)
      unfold IK.ex IK.ev PT.tx
      cases its with
      | nil => unfold PXs.len at h2; cases h2
      | cons e es =>
        cases es with
        | nil => unfold PXs.len PXs.len at h2; cases h2
        | cons e2 es =>
          cases es with
          | cons _ _ => unfold PXs.len PXs.len PXs.len at h2; simp at h2
          | nil =>
            have av := A.av
            have ar := PXs.arN (.cons e (.cons e2 .nil))
            have nf := PXs.noFr (.cons e (.cons e2 .nil))
            have ns := no_stars (.cons e2 .nil) X.env p
            unfold PXs.exs PXs.exs PXs.exs at av
            unfold PXs.exs PXs.exs at ns
            unfold PXs.exs PXs.exs PXs.exs
            exact iv_zip (gl_of h1) hm av nf ar (by rw [no_star]) ns
theorem tv_of_whole {e : PX} (hw : ∀ env whole, isTrue e.ex env whole = (do let v ← whole; standAt e.ex.pos; holding [v] (truthy v))) {f : Env → Rs RV} (h : EV X E e.ex f) : BV X E e.ex f := ⟨h, tv_val h (hw _)⟩
end
end VL

set_option Elab.async false
set_option linter.all false
set_option maxRecDepth 100000
set_option maxHeartbeats 4000000
/-! part VL9: the terms' soundness: expressions, statements, defs. -/
namespace VL
open PySem PySem.Spec PyProof.Rows L2
mutual
theorem PX.sound {k : Nat} (hk : 1 ≤ k) : ∀ (e : PX) {X : Cx} {E : XK}, Stat X E k → (∀ u ∈ e.uses, u.good X k) → e.ok X.N X.env.scope = true → BV X E e.ex e.ev
  | .var i x p, X, E, S, hu, ho => by
    unfold PX.ok at ho
    obtain ⟨h1, h2⟩ := ba2 ho
    obtain ⟨h3, h4⟩ := ba2 h2
    obtain ⟨h5, h6, _⟩ := plain_of h4
    exact tv_of_whole (e := .var i x p) (fun _ _ => by unfold PX.ex; rfl) (by unfold PX.ex PX.ev; exact ev_var (of_decide_eq_true h1) (vis_of h3) h5 h6)
  | .int i kk p, X, E, S, hu, ho => tv_of_whole (e := .int i kk p) (fun _ _ => by unfold PX.ex; rfl) (by unfold PX.ex PX.ev; exact ev_int)
  | .str x kk p, X, E, S, hu, ho => tv_of_whole (e := .str x kk p) (fun _ _ => by unfold PX.ex; rfl) (by unfold PX.ex PX.ev; exact ev_str)
  | .bl b kk p, X, E, S, hu, ho => tv_of_whole (e := .bl b kk p) (fun _ _ => by unfold PX.ex; rfl) (by unfold PX.ex PX.ev; exact ev_bl)
  | .non kk p, X, E, S, hu, ho => tv_of_whole (e := .non kk p) (fun _ _ => by unfold PX.ex; rfl) (by unfold PX.ex PX.ev; exact ev_non)
  | .glob x d p, X, E, S, hu, ho => by
    unfold PX.ok at ho
    obtain ⟨h1, h2⟩ := ba2 ho
    obtain ⟨h5, _, _⟩ := plain_of h2
    obtain ⟨v, u, hm, rv, r⟩ := hu (.gl x d) (by unfold PX.uses; exact List.mem_cons_self)
    exact tv_of_whole (e := .glob x d p) (fun _ _ => by unfold PX.ex; rfl) (by unfold PX.ex PX.ev; exact ev_glob (gl_of h1) hm rv r h5)
  | .bin o a b p, X, E, S, hu, ho => by
    unfold PX.ok at ho
    obtain ⟨h1, h2⟩ := ba2 ho
    have ga := PX.sound hk a S (fun u m => hu u (by unfold PX.uses; exact List.mem_append_left _ m)) h1
    have gb := PX.sound hk b S (fun u m => hu u (by unfold PX.uses; exact List.mem_append_right _ m)) h2
    exact tv_of_whole (e := .bin o a b p) (fun _ _ => by unfold PX.ex; rfl) (by unfold PX.ex PX.ev; exact o.sound ga.1 gb.1)
  | .neg a p, X, E, S, hu, ho => by
    unfold PX.ok at ho
    have ga := PX.sound hk a S (fun u m => hu u (by unfold PX.uses; exact m)) ho
    exact tv_of_whole (e := .neg a p) (fun _ _ => by unfold PX.ex; rfl) (by unfold PX.ex PX.ev; exact ev_neg ga.1)
  | .cmp o a b p, X, E, S, hu, ho => by
    unfold PX.ok at ho
    obtain ⟨h1, h2⟩ := ba2 ho
    have ga := PX.sound hk a S (fun u m => hu u (by unfold PX.uses; exact List.mem_append_left _ m)) h1
    have gb := PX.sound hk b S (fun u m => hu u (by unfold PX.uses; exact List.mem_append_right _ m)) h2
    obtain ⟨r, r1, r2⟩ := o.rule (E := E) (S.units hk)
    unfold PX.ex PX.ev
    exact ⟨ev_cmp r1 r2 ga.1 gb.1 (no_marks _ b), tv_cmp r1 r2 ga.1 gb.1 (no_marks _ b)⟩
  | .mem n a b p, X, E, S, hu, ho => by
    unfold PX.ok at ho
    obtain ⟨h1, h2⟩ := ba2 ho
    have ga := PX.sound hk a S (fun u m => hu u (by unfold PX.uses; exact List.mem_append_left _ m)) h1
    have gb := PX.sound hk b S (fun u m => hu u (by unfold PX.uses; exact List.mem_append_right _ m)) h2
    unfold PX.ex PX.ev
    cases n with
    | true => exact ⟨ev_notin (S.units hk) ga.1 gb.1 (no_marks _ b), tv_notin (S.units hk) ga.1 gb.1 (no_marks _ b)⟩
    | false => exact ⟨ev_in (S.units hk) ga.1 gb.1 (no_marks _ b), tv_in (S.units hk) ga.1 gb.1 (no_marks _ b)⟩
  | .chain o o' a b c p, X, E, S, hu, ho => by
    unfold PX.ok at ho
    obtain ⟨h1, h2⟩ := ba2 ho
    obtain ⟨h3, h4⟩ := ba2 h2
    have ga := PX.sound hk a S (fun u m => hu u (by unfold PX.uses; exact List.mem_append_left _ m)) h1
    have gb := PX.sound hk b S (fun u m => hu u (by unfold PX.uses; exact List.mem_append_right _ (List.mem_append_left _ m))) h3
    have gc := PX.sound hk c S (fun u m => hu u (by unfold PX.uses; exact List.mem_append_right _ (List.mem_append_right _ m))) h4
    obtain ⟨r, r1, r2⟩ := o.rule (E := E) (S.units hk)
    obtain ⟨r', r1', r2'⟩ := o'.rule (E := E) (S.units hk)
    have hm : lastMarks [o.op, o'.op] [b.ex, c.ex] = false := by
      show lastMarks [o'.op] [c.ex] = false
      exact no_marks _ c
    unfold PX.ex PX.ev
    exact ⟨ev_of (pe_chain r1 r1' ga.1 gb.1 gc.1 hm) fun _ _ _ _ _ _ _ I p => chain_of r2 r2' I p, PT.weak (pt_chain r1 r1' ga.1 gb.1 gc.1 hm) fun _ _ _ ⟨_, _, _, _, I, p⟩ => chain_of r2 r2' I p⟩
  | .and a as p, X, E, S, hu, ho => by
    unfold PX.ok at ho
    obtain ⟨h1, h2⟩ := ba2 ho
    have ga := PX.sound hk a S (fun u m => hu u (by unfold PX.uses; exact List.mem_append_left _ m)) h1
    have gs := PXs.sound hk as S (fun u m => hu u (by unfold PX.uses; exact List.mem_append_right _ m)) h2
    unfold PX.ex PX.ev
    obtain ⟨q1, q2⟩ := gs.and_ a.ex a.ev p ga
    exact ⟨q1, PW.pt q2⟩
  | .or a as p, X, E, S, hu, ho => by
    unfold PX.ok at ho
    obtain ⟨h1, h2⟩ := ba2 ho
    have ga := PX.sound hk a S (fun u m => hu u (by unfold PX.uses; exact List.mem_append_left _ m)) h1
    have gs := PXs.sound hk as S (fun u m => hu u (by unfold PX.uses; exact List.mem_append_right _ m)) h2
    unfold PX.ex PX.ev
    obtain ⟨q1, q2⟩ := gs.or_ a.ex a.ev p ga
    exact ⟨q1, PW.pt q2⟩
  | .not a p, X, E, S, hu, ho => by
    unfold PX.ok at ho
    have ga := PX.sound hk a S (fun u m => hu u (by unfold PX.uses; exact m)) ho
    unfold PX.ex PX.ev
    exact ⟨ev_not ga.1, tv_not ga.2⟩
  | .tup es kk p, X, E, S, hu, ho => by
    unfold PX.ok at ho
    have gs := PXs.sound hk es S (fun u m => hu u (by unfold PX.uses; exact m)) ho
    exact tv_of_whole (e := .tup es kk p) (fun _ _ => by unfold PX.ex; rfl) (by unfold PX.ex PX.ev; exact ev_tup gs.av es.noFr)
  | .lst es p, X, E, S, hu, ho => by
    unfold PX.ok at ho
    have gs := PXs.sound hk es S (fun u m => hu u (by unfold PX.uses; exact m)) ho
    exact tv_of_whole (e := .lst es p) (fun _ _ => by unfold PX.ex; rfl) (by unfold PX.ex PX.ev; exact ev_lst gs.av es.noFr)
  | .dnew p, X, E, S, hu, ho => tv_of_whole (e := .dnew p) (fun _ _ => by unfold PX.ex; rfl) (by unfold PX.ex PX.ev; exact ev_dnew)
  | .sub a b p, X, E, S, hu, ho => by
    unfold PX.ok at ho
    obtain ⟨h1, h2⟩ := ba2 ho
    have ga := PX.sound hk a S (fun u m => hu u (by unfold PX.uses; exact List.mem_append_left _ m)) h1
    have gb := PX.sound hk b S (fun u m => hu u (by unfold PX.uses; exact List.mem_append_right _ m)) h2
    exact tv_of_whole (e := .sub a b p) (fun _ _ => by unfold PX.ex; rfl) (by unfold PX.ex PX.ev; exact ev_sub (S.units hk) ga.1 gb.1 (no_slice b))
  | .slice a lo hi p2 p, X, E, S, hu, ho => by
    unfold PX.ok at ho
    obtain ⟨h1, h2⟩ := ba2 ho
    obtain ⟨h3, h4⟩ := ba2 h2
    have ga := PX.sound hk a S (fun u m => hu u (by unfold PX.uses; exact List.mem_append_left _ m)) h1
    have gl := PXs.sound hk lo S (fun u m => hu u (by unfold PX.uses; exact List.mem_append_right _ (List.mem_append_left _ m))) h3
    have gh := PXs.sound hk hi S (fun u m => hu u (by unfold PX.uses; exact List.mem_append_right _ (List.mem_append_right _ m))) h4
    exact tv_of_whole (e := .slice a lo hi p2 p) (fun _ _ => by unfold PX.ex; rfl) (by unfold PX.ex PX.ev; exact ev_slice ga.1 gl.hd gh.hd)
  | .rev a kk p1 p2 p3 p, X, E, S, hu, ho => by
    unfold PX.ok at ho
    have ga := PX.sound hk a S (fun u m => hu u (by unfold PX.uses; exact m)) ho
    exact tv_of_whole (e := .rev a kk p1 p2 p3 p) (fun _ _ => by unfold PX.ex; rfl) (by unfold PX.ex PX.ev; exact ev_rev ga.1)
  | .call x φ n e es p1 p, X, E, S, hu, ho => by
    unfold PX.ok at ho
    obtain ⟨h1, h2⟩ := ba2 ho
    obtain ⟨h3, h4⟩ := ba2 h2
    obtain ⟨h5, h6⟩ := ba2 h4
    obtain ⟨h7, h8⟩ := ba2 h6
    have ge := PX.sound hk e S (fun u m => hu u (by unfold PX.uses; exact List.mem_cons_of_mem _ (List.mem_append_left _ m))) h7
    have gs := PXs.sound hk es S (fun u m => hu u (by unfold PX.uses; exact List.mem_cons_of_mem _ (List.mem_append_right _ m))) h8
    have F : FnD X.prog X.w X.K X.mg X.base k x n φ := hu (.fn x n φ) (by unfold PX.uses; exact List.mem_cons_self)
    obtain ⟨h9, _, _⟩ := plain_of h3
    have hn : es.len + 1 = n := by simpa using h5
    have ar : ArN (cCons e.ev es.evs) n := by
      rw [← hn]
      exact arN_cons (PXs.arN es)
    exact tv_of_whole (e := .call x φ n e es p1 p) (fun _ _ => by unfold PX.ex; rfl) (by
      unfold PX.ex PX.ev
      exact ev_call F S.room (gl_of h1) S.pass (av_cons ge.1 gs.av (no_star e _ _)) (noFr_cons es.noFr) ar h9 (no_star e _ _) (no_stars es _ _))
  | .blt b e es p1 p, X, E, S, hu, ho => by
    unfold PX.ok at ho
    obtain ⟨h1, h2⟩ := ba2 ho
    obtain ⟨h7, h8⟩ := ba2 h2
    have ge := PX.sound hk e S (fun u m => hu u (by unfold PX.uses; exact List.mem_append_left _ m)) h7
    have gs := PXs.sound hk es S (fun u m => hu u (by unfold PX.uses; exact List.mem_append_right _ m)) h8
    obtain ⟨h3, _, h4⟩ := plain_of b.plain
    exact tv_of_whole (e := .blt b e es p1 p) (fun _ _ => by unfold PX.ex; rfl) (by
      unfold PX.ex PX.ev
      rcases b.rule (E := E) S.calm with ⟨id, r, r1, r2, r3⟩ | ⟨id, r, r1, r2, r3⟩
      · exact ev_callB r1 r2 (gl_of h1) (S.blt _ b.mem) r3 (av_cons ge.1 gs.av (no_star e _ _)) h4 h3 (no_star e _ _) (no_stars es _ _)
      · exact ev_callT r1 r2 (gl_of h1) (S.blt _ b.mem) r3 (av_cons ge.1 gs.av (no_star e _ _)) h4 h3 (no_star e _ _) (no_stars es _ _))
  | .isi t e p1 p2 p, X, E, S, hu, ho => by
    unfold PX.ok at ho
    obtain ⟨h1, h2⟩ := ba2 ho
    obtain ⟨h7, h8⟩ := ba2 h2
    have ge := PX.sound hk e S (fun u m => hu u (by unfold PX.uses; exact m)) h8
    obtain ⟨h3, _, h4⟩ := plain_of t.plain
    exact tv_of_whole (e := .isi t e p1 p2 p) (fun _ _ => by unfold PX.ex; rfl) (by
      unfold PX.ex PX.ev
      exact ev_isi t.isi (gl_of h1) (S.blt _ (by unfold builtinNames; decide +kernel)) (gl_of h7) (S.blt _ t.mem) t.boot ge.1 (no_star e _ _) h4 h3)
  | .sset e p1 p2 p3 p, X, E, S, hu, ho => by
    unfold PX.ok at ho
    obtain ⟨h1, ho⟩ := ba2 ho
    obtain ⟨h2, h3⟩ := ba2 ho
    have ge := PX.sound hk e S (fun u m => hu u (by unfold PX.uses; exact m)) h3
    exact tv_of_whole (e := .sset e p1 p2 p3 p) (fun _ _ => by unfold PX.ex; rfl) (by
      unfold PX.ex PX.ev
      exact ev_sset S.calm (gl_of h1) (S.blt _ (by decide)) (gl_of h2) (S.blt _ (by decide)) ge.1 (no_star e _ _))
  | .dvals i j x y scope own p1 p2 p3 p4 p5 p, X, E, S, hu, ho => by
    unfold PX.ok at ho
    obtain ⟨h1, ho⟩ := ba2 ho
    obtain ⟨h2, ho⟩ := ba2 ho
    obtain ⟨h3, ho⟩ := ba2 ho
    obtain ⟨h4, ho⟩ := ba2 ho
    obtain ⟨h5, ho⟩ := ba2 ho
    obtain ⟨h6, ho⟩ := ba2 ho
    obtain ⟨h7, ho⟩ := ba2 ho
    obtain ⟨h8, ho⟩ := ba2 ho
    obtain ⟨h9, ho⟩ := ba2 ho
    obtain ⟨h10, h11⟩ := ba2 ho
    obtain ⟨a1, a2, a3⟩ := plain_of h3
    obtain ⟨b1, b2, b3⟩ := plain_of h9
    refine tv_of_whole (e := .dvals i j x y scope own p1 p2 p3 p4 p5 p) (fun _ _ => by unfold PX.ex; rfl) ?_
    unfold PX.ex PX.ev
    refine ev_dvals S.calm S.nd (of_decide_eq_true h1) (vis_of h2) a1 a2 (blkOk_by h4) (fun s H C cl fp => ?_) (fun s H C cl fp => ?_) (by simpa using h10) (by simpa using h11)
    · obtain ⟨q1, q2⟩ := loc_of (X := X.blk s H scope (compEnvC scope cl C X.env) fp) (fn := fun x => scope.names.lookup x == some .cell) rfl h6
      exact pg_name S.nd (of_decide_eq_true h5) q1 q2
    · exact pe_dget (X := X.blk s H scope (compEnvC scope cl C X.env) fp) (by have := S.units hk; show X.A.units + 1 < cLine; omega) (pe_var (X := X.blk s H scope (compEnvC scope cl C X.env) fp) (of_decide_eq_true h1) (vis_of h7) a1 a2) (pe_var (X := X.blk s H scope (compEnvC scope cl C X.env) fp) (of_decide_eq_true h5) (vis_of h8) b1 b2) (fun _ _ => rfl)
  | .lc ik its tg c elt scope own p, X, E, S, hu, ho => by
    unfold PX.ok at ho
    obtain ⟨h1, ho⟩ := ba2 ho
    obtain ⟨h2, ho⟩ := ba2 ho
    obtain ⟨h3, ho⟩ := ba2 ho
    obtain ⟨h4, ho⟩ := ba2 ho
    obtain ⟨h5, ho⟩ := ba2 ho
    obtain ⟨h6, ho⟩ := ba2 ho
    obtain ⟨h7, h8⟩ := ba2 ho
    have gi := PXs.sound hk its S (fun u m => hu u (by unfold PX.uses; exact List.mem_append_left _ m)) h2
    have gt : ∀ (s : Shared) (H : Hp) (C : Addr) (cl : List (Str × Addr)) (fp : List Addr), GV (X.blk s H scope (compEnvC scope cl C X.env) fp) tg.tx tg.slots tg.ev := fun s H C cl fp => PT.sound (X := X.blk s H scope (compEnvC scope cl C X.env) fp) (fn := fun x => scope.names.lookup x == some .cell) rfl S.calm S.nd tg h4
    have gc : ∀ (s : Shared) (H : Hp) (C : Addr) (cl : List (Str × Addr)) (fp : List Addr), SVX (X.blk s H scope (compEnvC scope cl C X.env) fp) Eno c := fun s H C cl fp =>
      PXs.sound hk c (S.blk _ _ _ _ _) (fun u m => Use.good_blk (hu u (by unfold PX.uses; exact List.mem_append_right _ (List.mem_append_left _ m))) _ _ _ _ _) h5
    have ge : ∀ (s : Shared) (H : Hp) (C : Addr) (cl : List (Str × Addr)) (fp : List Addr), BV (X.blk s H scope (compEnvC scope cl C X.env) fp) Eno elt.ex elt.ev := fun s H C cl fp =>
      PX.sound hk elt (S.blk _ _ _ _ _) (fun u m => Use.good_blk (hu u (by unfold PX.uses; exact List.mem_append_right _ (List.mem_append_right _ m))) _ _ _ _ _) h7
    refine tv_of_whole (e := .lc ik its tg c elt scope own p) (fun _ _ => by unfold PX.ex; rfl) ?_
    unfold PX.ex PX.ev
    refine ev_lc (ik.sound S its tg h1 gi) S.calm S.nd (blkOk_by h3) gt (fun s H C cl fp => ?_) (fun s H C cl fp => (ge s H C cl fp).1) (ik.no_set its _) fun i hi => ?_
    · have hl : c.len ≤ 1 := of_decide_eq_true h6
      cases e : c.evH with
      | none =>
        rw [(gc s H C cl fp).non e]
        exact cv_none
      | some f =>
        obtain ⟨x, e1, e2⟩ := (gc s H C cl fp).ev hl f e
        rw [e1]
        exact cv_one e2
    · have h9 := List.all_eq_true.mp h8 i hi
      simpa using h9
theorem PXs.sound {k : Nat} (hk : 1 ≤ k) : ∀ (es : PXs) {X : Cx} {E : XK}, Stat X E k → (∀ u ∈ es.usess, u.good X k) → es.oks X.N X.env.scope = true → SVX X E es
  | .nil, X, E, S, hu, ho => by
    refine ⟨?_, ?_, ?_, ?_, ?_, ?_, ?_⟩
    · unfold PXs.exs PXs.evs; exact av_nil
    · unfold PXs.exs PXs.evH; exact ov_none
    · intro e f h1 h2; unfold PXs.exs at h1; cases h1
    · intro _ f h; unfold PXs.evH at h; cases h
    · intro _; unfold PXs.exs; rfl
    · intro e f pos h; unfold PXs.exs PXs.evAnd; exact ⟨ev_one h.1, wv_and1 h.2⟩
    · intro e f pos h; unfold PXs.exs PXs.evOr; exact ⟨ev_one h.1, wv_or1 h.2⟩
  | .cons e es, X, E, S, hu, ho => by
    unfold PXs.oks at ho
    obtain ⟨h1, h2⟩ := ba2 ho
    have ge := PX.sound hk e S (fun u m => hu u (by unfold PXs.usess; exact List.mem_append_left _ m)) h1
    have gs := PXs.sound hk es S (fun u m => hu u (by unfold PXs.usess; exact List.mem_append_right _ m)) h2
    refine ⟨?_, ?_, ?_, ?_, ?_, ?_, ?_⟩
    · unfold PXs.exs PXs.evs; exact av_cons ge.1 gs.av (no_star e _ _)
    · unfold PXs.exs PXs.evH; exact ov_some ge.1
    · intro e' f h1 h2
      unfold PXs.exs at h1
      unfold PXs.evH at h2
      cases h1
      cases h2
      exact ge.1
    · intro hl f h
      unfold PXs.evH at h
      cases h
      unfold PXs.len at hl
      have : es = .nil := by
        cases es with
        | nil => rfl
        | cons _ _ => unfold PXs.len at hl; omega
      subst this
      exact ⟨e.ex, by unfold PXs.exs PXs.exs; rfl, ge.2⟩
    · intro h; unfold PXs.evH at h; cases h
    · intro e' f pos h
      have q := gs.and_ e.ex e.ev pos ge
      unfold PXs.exs PXs.evAnd
      exact ⟨ev_and h.1 q.1, wv_and h.2 q.2⟩
    · intro e' f pos h
      have q := gs.or_ e.ex e.ev pos ge
      unfold PXs.exs PXs.evOr
      exact ⟨ev_or h.1 q.1, wv_or h.2 q.2⟩
end
end VL

set_option Elab.async false
set_option linter.all false
set_option maxRecDepth 100000
set_option maxHeartbeats 4000000
/-! part VL10: statements' terms, a def's promise. -/
namespace VL
open PySem PySem.Spec PyProof.Rows L2
mutual
inductive PSt where
  | set (i : Nat) (x : Str) (own : Bool) (e : PX) (p1 p : Pos)
  | tgt (ts : PTs) (kk : Nat) (pt : Pos) (e : PX) (p : Pos)
  | app (i : Nat) (x : Str) (e : PX) (p1 p2 p3 p : Pos)
  | ext (i : Nat) (x : Str) (e : PX) (p1 p2 p3 p : Pos)
  | put (i : Nat) (x : Str) (ix e : PX) (p1 p2 p : Pos)
  | ret (e : PX) (p : Pos)
  | retN (p : Pos)
  | do_ (e : PX) (p : Pos)
  | if_ (c : PX) (a b : PB) (p : Pos)
  | for_ (tg : PT) (ik : IK) (its : PXs) (is : List Nat) (b : PB) (p : Pos)
  | whl (n : Nat) (c : PX) (is : List Nat) (b : PB) (p : Pos)
  | pass (p : Pos)
  | brk (p : Pos)
  | cnt (p : Pos)
inductive PB where
  | nil
  | cons (s : PSt) (b : PB)
  | frz (i : Nat) (b : PB)
  | fgt (is : List Nat) (b : PB)
end
mutual
def PSt.st : PSt → Stmt
  | .set _ x _ e p1 p => .Assign [.Name x p1] e.ex p
  | .tgt ts kk pt e p => .Assign [.Tuple ts.txs kk pt] e.ex p
  | .app _ x e p1 p2 p3 p => .Expr (.Call (.Attribute (.Name x p1) "append" p2) [e.ex] [] p3) p
  | .ext _ x e p1 p2 p3 p => .Expr (.Call (.Attribute (.Name x p1) "extend" p2) [e.ex] [] p3) p
  | .put _ x ix e p1 p2 p => .Assign [.Subscript (.Name x p1) ix.ex p2] e.ex p
  | .ret e p => .Return (some e.ex) p
  | .retN p => .Return none p
  | .do_ e p => .Expr e.ex p
  | .if_ c a b p => .If c.ex a.sts b.sts p
  | .for_ tg ik its _ b p => .For tg.tx (ik.ex its.exs) b.sts [] p
  | .whl _ c _ b p => .While c.ex b.sts [] p
  | .pass p => .Pass p
  | .brk p => .Break p
  | .cnt p => .Continue p
def PB.sts : PB → List Stmt
  | .nil => []
  | .cons s b => s.st :: b.sts
  | .frz _ b => b.sts
  | .fgt _ b => b.sts
end
mutual
def PSt.ev : PSt → Env → Rs Fl
  | .set i _ own e _ _ => cSet i own e.ev
  | .tgt ts _ _ e _ => cTgt (kTup ts.evs) e.ev
  | .app i _ e _ _ _ _ => cApp i e.ev
  | .ext i _ e _ _ _ _ => cExt i e.ev
  | .put i _ ix e _ _ _ => cPut i ix.ev e.ev
  | .ret e _ => cRet e.ev
  | .retN _ => cRetN
  | .do_ e _ => cDo e.ev
  | .if_ c a b _ => cIfS c.ev a.ev b.ev
  | .for_ tg ik its is b _ => cFor (ik.ev its.evH its.evs) tg.ev is b.ev
  | .whl n c is b _ => cWhl n c.ev is b.ev
  | .pass _ => cEnd
  | .brk _ => fun ρ => .ok (.bk ρ)
  | .cnt _ => fun ρ => .ok (.ct ρ)
def PB.ev : PB → Env → Rs Fl
  | .nil => cEnd
  | .cons s b => cSeq s.ev b.ev
  | .frz i b => cFrzS i b.ev
  | .fgt is b => cFgt is b.ev
end
mutual
def PSt.uses : PSt → List Use
  | .set _ _ _ e _ _ => e.uses
  | .tgt _ _ _ e _ => e.uses
  | .app _ _ e _ _ _ _ => e.uses
  | .ext _ _ e _ _ _ _ => e.uses
  | .put _ _ ix e _ _ _ => ix.uses ++ e.uses
  | .ret e _ => e.uses
  | .retN _ => []
  | .do_ e _ => e.uses
  | .if_ c a b _ => c.uses ++ (a.uses ++ b.uses)
  | .for_ _ _ its _ b _ => its.usess ++ b.uses
  | .whl _ c _ b _ => c.uses ++ b.uses
  | .pass _ => []
  | .brk _ => []
  | .cnt _ => []
def PB.uses : PB → List Use
  | .nil => []
  | .cons s b => s.uses ++ b.uses
  | .frz _ b => b.uses
  | .fgt _ b => b.uses
end
def PX.isLc : PX → Bool
  | .lc .. => true
  | .dvals .. => true
  | _ => false
def PX.isDv : PX → Bool
  | .dvals .. => true
  | _ => false
def PX.isTup : PX → Bool
  | .tup .. => true
  | _ => false
def locN (sc : Scope) (x : Str) : Bool := match sc.names.lookup x with
  | some .local => true
  | some .cell => true
  | _ => false
mutual
def PSt.ok (N : List Str) (sc : Scope) : PSt → Bool
  | .set i x _ e _ _ => atB N i x && (locN sc x && (e.ok N sc && !e.isDv))
  | .tgt ts _ _ e _ => ts.oks N sc (fun _ => true) && (e.ok N sc && !e.isTup)
  | .app i x e _ p2 p3 _ => atB N i x && (visB sc x && (plainB x && ((p2.endLine == p3.line) && e.ok N sc)))
  | .ext i x e _ p2 p3 _ => atB N i x && (visB sc x && (plainB x && ((p2.endLine == p3.line) && e.ok N sc)))
  | .put i x ix e _ _ _ => atB N i x && (visB sc x && (plainB x && (ix.ok N sc && e.ok N sc)))
  | .ret e _ => e.ok N sc
  | .retN _ => true
  | .do_ e _ => e.ok N sc && !e.isLc
  | .if_ c a b _ => c.ok N sc && (a.ok N sc && b.ok N sc)
  | .for_ tg ik its _ b _ => tg.ok N sc (fun _ => true) && (ik.ok sc its.len tg && (its.oks N sc && b.ok N sc))
  | .whl _ c _ b _ => c.ok N sc && b.ok N sc
  | .pass _ => true
  | .brk _ => true
  | .cnt _ => true
def PB.ok (N : List Str) (sc : Scope) : PB → Bool
  | .nil => true
  | .cons s b => s.ok N sc && b.ok N sc
  | .frz _ b => b.ok N sc
  | .fgt _ b => b.ok N sc
end
/-- a def's body -/
structure StatB (X : Cx) (E : XK) (k : Nat) : Prop extends Stat X E k where
  pow : PassesOwn (model X.prog X.w) X.A X.env X.xe
  fn : X.fn = fun _ => true
  kind : X.env.scope.kind = .function
section
variable {X : Cx} {E : XK} {k : Nat}
theorem swaps_no {e : PX} (h : e.isLc = false) (t : Option Expr) (l : Nat) (env : PySem.Env) : swapsWith e.ex t l env = pure false := by
  cases e <;> first
    | (unfold PX.ex; rfl)
    | cases h
theorem swaps_sub {e : PX} {t : Expr} (ht : ∀ x p, t ≠ .Name x p) (l : Nat) (env : PySem.Env) : swapsWith e.ex (some t) l env = pure false := by
  cases e <;> first
    | (unfold PX.ex; rfl)
    | (unfold PX.ex
       unfold swapsWith
       cases t <;> first
         | rfl
         | exact absurd rfl (ht _ _))
theorem swaps_sole {e : PX} {t : Expr} (ht : ∀ x p, t ≠ .Name x p) (l : Nat) (env : PySem.Env) : swapsWithSole [t] e.ex l env = pure false := swaps_sub ht l env
theorem swaps_lc {elt tg iter : Expr} {ifs : List Expr} {scope : Scope} {p p1 : Pos} {x : Str} {l : Nat} {env : PySem.Env} : ∃ b, swapsWith (.ListComp elt [⟨tg, iter, ifs, 0⟩] scope p) (some (.Name x p1)) l env = pure b ∧ (b = true → env.scope.names.lookup x = some .local) := by
  refine ⟨_, rfl, fun h => ?_⟩
  obtain ⟨h, _⟩ := ba2 h
  obtain ⟨h, _⟩ := ba2 h
  obtain ⟨_, h⟩ := ba2 h
  exact eq_of_beq h
theorem swapped_no {t : Expr} {e : PX} (h : e.isTup = false) (env : PySem.Env) : swappedStores [t] e.ex env = pure none := by
  cases e <;> first
    | (unfold PX.ex; unfold swappedStores; cases t <;> rfl)
    | cases h
theorem swapped_sub {a b : Expr} {p : Pos} {e : PX} (env : PySem.Env) : swappedStores [.Subscript a b p] e.ex env = pure none := by
  cases e <;> (unfold PX.ex; rfl)
theorem locN_of {x : Str} (S : StatB X E k) (h : locN X.env.scope x = true) : L2.Loc X.env.scope x ∧ (X.fn x = true ∨ X.env.scope.names.lookup x = some .local) := by
  unfold locN at h
  unfold L2.Loc
  rw [S.fn]
  cases e : X.env.scope.names.lookup x with
  | none => rw [e] at h; cases h
  | some kd =>
    rw [e] at h
    cases kd <;> first
      | exact ⟨.inl rfl, .inl rfl⟩
      | exact ⟨.inr rfl, .inl rfl⟩
      | cases h
theorem assign_sub {x : Str} {p1 p2 : Pos} {ix : PX} (env : PySem.Env) (v : Value) : assign (.Subscript (.Name x p1) ix.ex p2) env v = (do
      let ov ← holding [v] (eval (.Name x p1) env)
      let iv ← holding [v, ov] (eval ix.ex env)
      standAt p2
      holding [v, ov, iv] (setItem ov iv v)
      release [v, ov, iv] []) := by
  cases ix <;> (unfold PX.ex; rfl)
end
mutual
theorem PSt.sound {k : Nat} (hk : 1 ≤ k) {X : Cx} {E : XK} (S : StatB X E k) : ∀ (s : PSt), (∀ u ∈ s.uses, u.good X k) → s.ok X.N X.env.scope = true → SV X E s.st s.ev
  | .set i x own e p1 p, hu, ho => by
    unfold PSt.ok at ho
    obtain ⟨h1, ho⟩ := ba2 ho
    obtain ⟨h2, h3⟩ := ba2 ho
    obtain ⟨h4, h5⟩ := locN_of S h2
    obtain ⟨h3, hdv⟩ := ba2 h3
    have ge := PX.sound hk e S.toStat (fun u m => hu u (by unfold PSt.uses; exact m)) h3
    unfold PSt.st PSt.ev
    cases hl : e.isLc with
    | false => exact sv_set S.nd (of_decide_eq_true h1) h4 ge.1 (swaps_no hl _ _ _) h5
    | true =>
      cases e with
      | lc ik its tg c elt scope ow pp =>
        unfold PX.ex PX.ev
        obtain ⟨b, e1, e2⟩ := swaps_lc (elt := elt.ex) (tg := tg.tx) (iter := ik.ex its.exs) (ifs := c.exs) (scope := scope) (p := pp) (p1 := p1) (x := x) (l := p.line) (env := X.env)
        cases b with
        | false =>
          have g1 := ge.1
          unfold PX.ex PX.ev at g1
          exact sv_set S.nd (of_decide_eq_true h1) h4 g1 e1 h5
        | true =>
          have ho := h3
          unfold PX.ok at ho
          obtain ⟨a1, ho⟩ := ba2 ho
          obtain ⟨a2, ho⟩ := ba2 ho
          obtain ⟨a3, ho⟩ := ba2 ho
          obtain ⟨a4, ho⟩ := ba2 ho
          obtain ⟨a5, ho⟩ := ba2 ho
          obtain ⟨a6, ho⟩ := ba2 ho
          obtain ⟨a7, a8⟩ := ba2 ho
          have hu' : ∀ u ∈ its.usess ++ (c.usess ++ elt.uses), u.good X k := fun u m => hu u (by unfold PSt.uses PX.uses; exact m)
          have gi := PXs.sound hk its S.toStat (fun u m => hu' u (List.mem_append_left _ m)) a2
          have gt : ∀ (s : Shared) (H : Hp) (C : Addr) (cl : List (Str × Addr)) (fp : List Addr), GV (X.blk s H scope (compEnvC scope cl C X.env) fp) tg.tx tg.slots tg.ev := fun s H C cl fp => PT.sound (X := X.blk s H scope (compEnvC scope cl C X.env) fp) (fn := fun x => scope.names.lookup x == some .cell) rfl S.calm S.nd tg a4
          have gc : ∀ (s : Shared) (H : Hp) (C : Addr) (cl : List (Str × Addr)) (fp : List Addr), SVX (X.blk s H scope (compEnvC scope cl C X.env) fp) Eno c := fun s H C cl fp =>
            PXs.sound hk c (S.toStat.blk _ _ _ _ _) (fun u m => Use.good_blk (hu' u (List.mem_append_right _ (List.mem_append_left _ m))) _ _ _ _ _) a5
          have gel : ∀ (s : Shared) (H : Hp) (C : Addr) (cl : List (Str × Addr)) (fp : List Addr), BV (X.blk s H scope (compEnvC scope cl C X.env) fp) Eno elt.ex elt.ev := fun s H C cl fp =>
            PX.sound hk elt (S.toStat.blk _ _ _ _ _) (fun u m => Use.good_blk (hu' u (List.mem_append_right _ (List.mem_append_right _ m))) _ _ _ _ _) a7
          refine sv_setLc (of_decide_eq_true h1) (e2 rfl) e1 (ik.sound S.toStat its tg a1 gi) S.calm S.nd (blkOk_by a3) gt (fun s H C cl fp => ?_) (fun s H C cl fp => (gel s H C cl fp).1) (ik.no_set its _) fun i hi => ?_
          · have hl : c.len ≤ 1 := of_decide_eq_true a6
            cases e : c.evH with
            | none =>
              rw [(gc s H C cl fp).non e]
              exact cv_none
            | some f =>
              obtain ⟨x, e1, e2⟩ := (gc s H C cl fp).ev hl f e
              rw [e1]
              exact cv_one e2
          · have h9 := List.all_eq_true.mp a8 i hi
            simpa using h9
      | dvals i j x y scope ow p1 p2 p3 p4 p5 p => simp [PX.isDv] at hdv
      | _ => cases hl
  | .tgt ts kk pt e p, hu, ho => by
    unfold PSt.ok at ho
    obtain ⟨h1, ho⟩ := ba2 ho
    obtain ⟨h2, h3⟩ := ba2 ho
    have ge := PX.sound hk e S.toStat (fun u m => hu u (by unfold PSt.uses; exact m)) h2
    have gt := PT.sound (X := X) S.fn S.calm S.nd (.tp ts kk pt) (by unfold PT.ok; exact h1)
    unfold PT.tx PT.slots PT.ev at gt
    unfold PSt.st PSt.ev
    exact sv_tgt ge.1 gt (swaps_sole (fun x p z => by cases z) _ _) (swapped_no (by simpa using h3) _) rfl
  | .app i x e p1 p2 p3 p, hu, ho => by
    unfold PSt.ok at ho
    obtain ⟨h1, ho⟩ := ba2 ho
    obtain ⟨h2, ho⟩ := ba2 ho
    obtain ⟨h3, ho⟩ := ba2 ho
    obtain ⟨h4, h5⟩ := ba2 ho
    obtain ⟨h6, h7, _⟩ := plain_of h3
    have ge := PX.sound hk e S.toStat (fun u m => hu u (by unfold PSt.uses; exact m)) h5
    unfold PSt.st PSt.ev
    exact sv_app (of_decide_eq_true h1) (vis_of h2) h6 h7 ge.1 (no_star e _ _) rfl h4 rfl
  | .ext i x e p1 p2 p3 p, hu, ho => by
    unfold PSt.ok at ho
    obtain ⟨h1, ho⟩ := ba2 ho
    obtain ⟨h2, ho⟩ := ba2 ho
    obtain ⟨h3, ho⟩ := ba2 ho
    obtain ⟨h4, h5⟩ := ba2 ho
    obtain ⟨h6, h7, _⟩ := plain_of h3
    have ge := PX.sound hk e S.toStat (fun u m => hu u (by unfold PSt.uses; exact m)) h5
    unfold PSt.st PSt.ev
    exact sv_ext (of_decide_eq_true h1) (vis_of h2) h6 h7 ge.1 (no_star e _ _) rfl h4 rfl
  | .put i x ix e p1 p2 p, hu, ho => by
    unfold PSt.ok at ho
    obtain ⟨h1, ho⟩ := ba2 ho
    obtain ⟨h2, ho⟩ := ba2 ho
    obtain ⟨h3, ho⟩ := ba2 ho
    obtain ⟨h4, h5⟩ := ba2 ho
    obtain ⟨h6, h7, _⟩ := plain_of h3
    have gi := PX.sound hk ix S.toStat (fun u m => hu u (by unfold PSt.uses; exact List.mem_append_left _ m)) h4
    have ge := PX.sound hk e S.toStat (fun u m => hu u (by unfold PSt.uses; exact List.mem_append_right _ m)) h5
    unfold PSt.st PSt.ev
    exact sv_put (S.toStat.units hk) (of_decide_eq_true h1) (vis_of h2) h6 h7 gi.1 ge.1 (assign_sub _) (swaps_sole (fun x p z => by cases z) _ _) (swapped_sub _) rfl (swaps_sub (fun x p z => by cases z) _ _)
  | .ret e p, hu, ho => by
    unfold PSt.ok at ho
    have ge := PX.sound hk e S.toStat (fun u m => hu u (by unfold PSt.uses; exact m)) ho
    unfold PSt.st PSt.ev
    exact sv_ret ge.1
  | .retN p, hu, ho => by
    unfold PSt.st PSt.ev
    exact sv_retN
  | .do_ e p, hu, ho => by
    unfold PSt.ok at ho
    obtain ⟨h1, h2⟩ := ba2 ho
    have ge := PX.sound hk e S.toStat (fun u m => hu u (by unfold PSt.uses; exact m)) h1
    unfold PSt.st PSt.ev
    exact sv_do ge.1 (swaps_no (by simpa using h2) _ _ _)
  | .if_ c a b p, hu, ho => by
    unfold PSt.ok at ho
    obtain ⟨h1, ho⟩ := ba2 ho
    obtain ⟨h2, h3⟩ := ba2 ho
    have gc := PX.sound hk c S.toStat (fun u m => hu u (by unfold PSt.uses; exact List.mem_append_left _ m)) h1
    have ga := PB.sound hk S a (fun u m => hu u (by unfold PSt.uses; exact List.mem_append_right _ (List.mem_append_left _ m))) h2
    have gb := PB.sound hk S b (fun u m => hu u (by unfold PSt.uses; exact List.mem_append_right _ (List.mem_append_right _ m))) h3
    unfold PSt.st PSt.ev
    exact sv_if gc.2 ga gb
  | .for_ tg ik its is b p, hu, ho => by
    unfold PSt.ok at ho
    obtain ⟨h1, ho⟩ := ba2 ho
    obtain ⟨h2, ho⟩ := ba2 ho
    obtain ⟨h3, h4⟩ := ba2 ho
    have gi := PXs.sound hk its S.toStat (fun u m => hu u (by unfold PSt.uses; exact List.mem_append_left _ m)) h3
    have gb := PB.sound hk S b (fun u m => hu u (by unfold PSt.uses; exact List.mem_append_right _ m)) h4
    have gt := PT.sound (X := X) S.fn S.calm S.nd tg h1
    unfold PSt.st PSt.ev
    exact sv_for S.pow S.calm (ik.sound S.toStat its tg h2 gi) gt gb (ik.no_set its _)
  | .whl n c is b p, hu, ho => by
    unfold PSt.ok at ho
    obtain ⟨h1, h2⟩ := ba2 ho
    have gc := PX.sound hk c S.toStat (fun u m => hu u (by unfold PSt.uses; exact List.mem_append_left _ m)) h1
    have gb := PB.sound hk S b (fun u m => hu u (by unfold PSt.uses; exact List.mem_append_right _ m)) h2
    unfold PSt.st PSt.ev
    exact sv_while n S.pow gc.2 gb
  | .pass p, hu, ho => by
    unfold PSt.st PSt.ev
    exact sv_pass
  | .brk p, hu, ho => by
    unfold PSt.st PSt.ev
    exact sv_break
  | .cnt p, hu, ho => by
    unfold PSt.st PSt.ev
    exact sv_continue
theorem PB.sound {k : Nat} (hk : 1 ≤ k) {X : Cx} {E : XK} (S : StatB X E k) : ∀ (b : PB), (∀ u ∈ b.uses, u.good X k) → b.ok X.N X.env.scope = true → SVs X E b.sts b.ev
  | .nil, hu, ho => by
    unfold PB.sts PB.ev
    exact svs_nil
  | .cons s b, hu, ho => by
    unfold PB.ok at ho
    obtain ⟨h1, h2⟩ := ba2 ho
    have gs := PSt.sound hk S s (fun u m => hu u (by unfold PB.uses; exact List.mem_append_left _ m)) h1
    have gb := PB.sound hk S b (fun u m => hu u (by unfold PB.uses; exact List.mem_append_right _ m)) h2
    unfold PB.sts PB.ev
    exact svs_cons gs gb
  | .frz i b, hu, ho => by
    unfold PB.ok at ho
    have gb := PB.sound hk S b (fun u m => hu u (by unfold PB.uses; exact m)) ho
    unfold PB.sts PB.ev
    exact svs_frz i gb
  | .fgt is b, hu, ho => by
    unfold PB.ok at ho
    have gb := PB.sound hk S b (fun u m => hu u (by unfold PB.uses; exact m)) ho
    unfold PB.sts PB.ev
    exact svs_fgt is gb
end

/-! ### a def -/
/-- n arguments, m slots, a body -/
def runE (n m : Nat) (F : Env → Rs Fl) : List D → Rs RV := fun ds => if ds.length = n then (F (ds.map Sl.sh ++ List.replicate (m - n) Sl.un)).bind fun fl => match fl with
    | .rt r => .ok (retRV r)
    | .nx _ => .ok (.sh .none)
    | _ => .bad
  else .bad
theorem RE.start {K : PySem.W.Frag} {G H : Hp} {ds : List D} {vs : List V} {N : List Str} (gh : Same G H) (r : Reps K G ds vs) (hN : vs.length ≤ N.length) : RE K G H G H (L2.start N vs) (ds.map Sl.sh ++ List.replicate (N.length - ds.length) Sl.un) := by
  have hl := r.length
  refine ⟨Mon.refl _ _, gh, ?_, fun i => ?_, fun i j d d' p _ e => ?_⟩
  · unfold L2.start
    rw [List.length_append, List.length_append, List.length_map, List.length_map, List.length_replicate, List.length_replicate, hl]
  · unfold gt
    rw [List.getD_eq_getElem?_getD]
    by_cases hi : i < ds.length
    · rw [List.getElem?_append_left (by rw [List.length_map]; exact hi), List.getElem?_map, List.getElem?_eq_getElem hi]
      obtain ⟨v, h1, h2⟩ := r.get (List.getElem?_eq_getElem hi)
      refine ⟨v, ?_, h2⟩
      unfold L2.start
      rw [List.getElem?_append_left (by rw [List.length_map, hl]; exact hi), List.getElem?_map, h1]
      rfl
    · rw [List.getElem?_append_right (by rw [List.length_map]; omega)]
      cases e : (List.replicate (N.length - ds.length) Sl.un)[i - (ds.map Sl.sh).length]? with
      | none => exact trivial
      | some s =>
        have := List.eq_of_mem_replicate (List.mem_of_getElem? e)
        subst this
        exact trivial
  · exfalso
    unfold gt at e
    rw [List.getD_eq_getElem?_getD] at e
    by_cases hi : i < ds.length
    · rw [List.getElem?_append_left (by rw [List.length_map]; exact hi), List.getElem?_map, List.getElem?_eq_getElem hi] at e
      cases e
    · rw [List.getElem?_append_right (by rw [List.length_map]; omega)] at e
      cases e2 : (List.replicate (N.length - ds.length) Sl.un)[i - (ds.map Sl.sh).length]? with
      | none => rw [e2] at e; cases e
      | some s =>
        have := List.eq_of_mem_replicate (List.mem_of_getElem? e2)
        subst this
        rw [e2] at e
        cases e
section
variable {P : Program} {w : World} {K : PySem.W.Frag} {mg : Str → Option Value} {base : Heap}
/-- what is used stands in the module -/
def Use.fine (P : Program) (w : World) (K : PySem.W.Frag) (mg : Str → Option Value) (base : Heap) (k : Nat) : Use → Prop
  | .fn x n φ => FnD P w K mg base k x n φ
  | .gl x d => ∃ v u, mg x = some u ∧ RelV v u ∧ ∀ G, Rep K G d v
/-- A DEF KEEPS TO WHAT ITS TERM COMES TO -/
theorem def_sound {x qual : Str} {params : Arguments} {body : List Stmt} {scope : Scope} {f : Addr} {fd : FuncData} {N ps : List Str} {k n : Nat} (b : PB) (F : FunD K x qual params body scope [] [] f fd) (S : FnScope N ps scope) (hk : 1 ≤ k)
    (hb : b.sts = body) (ho : b.ok N scope = true) (hn : ps.length = n) (hu : ∀ u ∈ b.uses, u.fine P w K mg base k) (hblt : ∀ x ∈ builtinNames, mg x = none) :
    FnOk P w K mg base (L2.CX P w) (k + 1) f fd ps (spO K mg n (runE n N.length b.ev)) := by
  have hpl : ps.length ≤ N.length := by have := congrArg List.length S.pre; rw [List.length_take] at this; omega
  refine F.ok S (fun vs H Q E h => by rw [h.1, hn]) fun cdv A outer s H vs Q E hr h => ?_
  subst hb
  have tk := takes_of (X := cxOf (L2.CX P w) P w K mg base N qual scope f cdv A outer s H E) rfl rfl rfl (E := E) rfl
  have ST : StatB (cxOf (L2.CX P w) P w K mg base N qual scope f cdv A outer s H E) E k :=
    { nd := S.nd, calm := rfl, room := hr, pass := passes_call tk fun _ _ _ _ h => h, blt := hblt, pow := passes_of rfl, fn := rfl, kind := S.kind }
  have g := PB.sound hk ST b (fun u m => by
    have h := hu u m
    cases u with
    | fn x n φ => exact h
    | gl x d => exact h) ho
  refine ⟨_, g, ?_⟩
  obtain ⟨hl, G, ds, gh, r, q⟩ := h
  have hl2 := r.length
  have hdn : ds.length = n := by omega
  refine ⟨G, H, G, _, RE.start gh r (by omega), ?_⟩
  unfold runE at q
  rw [if_pos hdn] at q
  rw [hdn]
  have hs : (cxOf (L2.CX P w) P w K mg base N qual scope f cdv A outer s H E).N = N := rfl
  cases e : b.ev (ds.map Sl.sh ++ List.replicate (N.length - n) Sl.un) with
  | bad => rw [e] at q; exact q
  | ex x => rw [e] at q; exact q
  | ok fl =>
    rw [e, Rs.bind_ok] at q
    cases fl with
    | nx ρ => exact fun G' H' σ' I _ => q G' H' .non I.mon I.gh .non
    | bk ρ => exact q.elim
    | ct ρ => exact q.elim
    | rt rv =>
      intro G' H' v m gh' q'
      refine q G' H' v m gh' ?_
      exact q'.of_ret
end
end VL

set_option Elab.async false
set_option linter.all false
set_option maxRecDepth 100000
set_option maxHeartbeats 4000000
/-! part VL11: defs by their facts. -/
namespace VL
open PySem PySem.Spec PyProof.Rows L2
section
variable {P : Program} {w : World} {K : PySem.W.Frag} {mg : Str → Option Value} {base : Heap}
theorem all_nil {α : Type} {p : α → Prop} : ∀ u ∈ ([] : List α), p u := fun _ h => nomatch h
theorem all_cons {α : Type} {p : α → Prop} {u : α} {l : List α} (h : p u) (t : ∀ v ∈ l, p v) : ∀ v ∈ u :: l, p v := fun v m => by
  rcases List.mem_cons.mp m with e | e
  · rw [e]; exact h
  · exact t v e
theorem FnD.mono {j k : Nat} {x : Str} {n : Nat} {φ : List D → Rs RV} (F : FnD P w K mg base j x n φ) (h : j ≤ k) : FnD P w K mg base k x n φ := by
  obtain ⟨f, fd, ps, a, b, c, d⟩ := F.ok
  exact ⟨f, fd, ps, a.mono h, b, c, d⟩
theorem mkOk {x qual : Str} {params : Arguments} {body : List Stmt} {scope : Scope} {f : Addr} {fd : FuncData} {N ps : List Str} {k n : Nat} {φ : List D → Rs RV} (F : FunD K x qual params body scope [] [] f fd) (S : FnScope N ps scope) (b : PB)
    (hb : b.sts = body) (ho : b.ok N scope = true) (hn : ps.length = n) (hk : 1 ≤ k) (hu : ∀ u ∈ b.uses, u.fine P w K mg base k) (hblt : ∀ x ∈ builtinNames, mg x = none) (tie : runE n N.length b.ev = φ) :
    FnOk P w K mg base (L2.CX P w) (k + 1) f fd ps (spO K mg n φ) := by
  have h := def_sound b F S hk hb ho hn hu hblt
  rw [tie] at h
  exact h
theorem mkFnD {x qual : Str} {params : Arguments} {body : List Stmt} {scope : Scope} {f : Addr} {fd : FuncData} {N ps : List Str} {k n : Nat} {φ : List D → Rs RV} (F : FunD K x qual params body scope [] [] f fd) (hg : mg x = some (.ref f)) (S : FnScope N ps scope) (b : PB)
    (hb : b.sts = body) (ho : b.ok N scope = true) (hn : ps.length = n) (hk : 1 ≤ k) (hu : ∀ u ∈ b.uses, u.fine P w K mg base k) (hblt : ∀ x ∈ builtinNames, mg x = none) (bd : Binds K fd ps []) (tie : runE n N.length b.ev = φ) :
    FnD P w K mg base (k + 1) x n φ := ⟨f, fd, ps, mkOk F S b hb ho hn hk hu hblt tie, hg, F.kp, bd⟩
/-- what a call lets out, whatever the world -/
def CXw (P : Program) : CXT := fun outer H s E u s' => ∃ w, L2.CX P w outer H s E u s'
theorem FnOk.cxw {f : Addr} {fd : FuncData} {ps : List Str} {k : Nat} {sp : Sp} (F : FnOk P w K mg base (L2.CX P w) k f fd ps sp) : FnOk P w K mg base (CXw P) k f fd ps sp :=
  ⟨F.len, fun A outer s H args us vs Q E hr he hb hv hs => codeAny_mono (F.run A outer s H args us vs Q E hr he hb hv hs) fun r s' h => by
    cases r with
    | error e => exact ⟨w, h⟩
    | ok fl => cases fl <;> exact h⟩
theorem CXw.no (H : Hp) (s : Shared) (e : Value) (s' : Shared) (h : CXw P [] H s (fun _ _ _ => False) e s') : False := by
  obtain ⟨w, a, B, H', cls, d, _, _, _, _, _, _, _, hE⟩ := h
  exact hE
theorem spO_law {φ : List D → Rs RV} {ns : List Int} (h : φ [.list (ns.map PyData.int)] = .ok (.sh (.bool true))) {H : Hp} {a : Addr} (hS : SqL K H a (ns.map V.int)) : spO K mg 1 φ [.ref a] H (fun v _ => v = .bl true) fun _ _ _ => False :=
  ⟨rfl, H, [_], Same.refl _, .cons (.lst hS (.of_ints ns)) .nil, by
    rw [h]
    intro G' H' v _ _ r
    cases (show Rep K G' (.bool true) v from r)
    rfl⟩
end
end VL

set_option Elab.async false
set_option linter.all false
set_option maxRecDepth 100000
set_option maxHeartbeats 4000000
/-! part VL12: rows for the plain laws: what the combinators come to, loops. -/
namespace VL
open PySem PySem.Spec PyProof.Rows L2
section
variable {ρ : Env} {f g h : Env → Rs RV} {i j : Nat}
@[simp] theorem cVar_ap : cVar i ρ = match gt ρ i with
  | .un => .bad
  | .sh d => .ok (.sh d)
  | .ow d => .ok (.ow d) := rfl
@[simp] theorem cCon_ap {d : D} : cCon d ρ = .ok (.sh d) := rfl
@[simp] theorem cBin_ap {op : D → D → Rs RV} : cBin op f g ρ = (f ρ).bind fun a => (g ρ).bind fun b => op a.val b.val := rfl
@[simp] theorem cBinR_ap {op : RV → RV → Rs RV} : cBinR op f g ρ = (f ρ).bind fun a => (g ρ).bind fun b => op a b := rfl
@[simp] theorem cUn_ap {op : D → Rs RV} : cUn op f ρ = (f ρ).bind fun a => op a.val := rfl
@[simp] theorem cNeg_ap : cNeg f ρ = (f ρ).bind fun a => match a.val with
    | .int i => .ok (.sh (.int (-i)))
    | _ => .bad := rfl
/-- behind the first of an and -/
def andK (r : RV) (k : Rs RV) : Rs RV := match r.val with
  | .bool true => k
  | .bool false => .ok (.sh (.bool false))
  | _ => .bad
@[simp] theorem cNil_ap : cNil ρ = .ok [] := rfl
@[simp] theorem cCons_ap {g : Env → Rs (List RV)} : cCons f g ρ = (f ρ).bind fun r => (g ρ).bind fun rs => .ok (r.frz :: rs) := rfl
@[simp] theorem cTup_ap {g : Env → Rs (List RV)} : cTup g ρ = (g ρ).bind fun rs => (shds rs).bind fun ds => if ds.length ≤ sizeLine then .ok (.sh (.tuple ds)) else .bad := rfl
@[simp] theorem cLst_ap {g : Env → Rs (List RV)} : cLst g ρ = (g ρ).bind fun rs => (shds rs).bind fun ds => if ds.length ≤ sizeLine then .ok (.fr (.list ds)) else .bad := rfl
@[simp] theorem cBlt_ap {φ : List D → Rs RV} {g : Env → Rs (List RV)} : cBlt φ g ρ = (g ρ).bind fun rs => φ (rs.map RV.val) := rfl
@[simp] theorem cCall_ap {φ : List D → Rs RV} {g : Env → Rs (List RV)} : cCall φ g ρ = (g ρ).bind fun rs => match shds rs with
  | .ok ds => (φ ds).bind fun r => .ok (retRV r)
  | _ => match φ (rs.map RV.val) with
    | .ok r => if safeB rs r then .ok r else .bad
    | _ => .bad := rfl
section
variable {F F2 : Env → Rs Fl}
@[simp] theorem cSeq_ap : cSeq F F2 ρ = (F ρ).bind fun fl => match fl with
  | .nx ρ' => F2 ρ'
  | fl => .ok fl := rfl
@[simp] theorem cEnd_ap : cEnd ρ = .ok (.nx ρ) := rfl
@[simp] theorem cSet_ap {o : Bool} : cSet i o f ρ = (f ρ).bind (setR i o ρ) := rfl
@[simp] theorem cRet_ap : cRet f ρ = (f ρ).bind fun r => .ok (.rt r) := rfl
@[simp] theorem cRetN_ap : cRetN ρ = .ok (.rt (.sh .none)) := rfl
@[simp] theorem cDo_ap : cDo f ρ = (f ρ).bind fun _ => .ok (.nx ρ) := rfl
@[simp] theorem cIfS_ap : cIfS f F F2 ρ = (boolOf (f ρ)).bind fun b => if b then F ρ else F2 ρ := rfl
@[simp] theorem cFgt_ap {is : List Nat} : cFgt is F ρ = F (ptAll ρ is) := rfl
@[simp] theorem cFrzS_ap : cFrzS i F ρ = match gt ρ i with
  | .ow d => F (pt ρ i (.sh d))
  | _ => F ρ := rfl
@[simp] theorem cApp_ap : cApp i f ρ = match gt ρ i with
  | .ow (.list xs) => (f ρ).bind fun r => r.shd.bind fun d => if xs.length < sizeLine then .ok (.nx (pt ρ i (.ow (.list (xs ++ [d]))))) else .bad
  | _ => .bad := rfl
@[simp] theorem cTgt_ap {k : D → Env → Rs Env} : cTgt k f ρ = (f ρ).bind fun r => r.shd.bind fun d => match k d ρ with
  | .ok ρ' => .ok (.nx ρ')
  | _ => .bad := rfl
@[simp] theorem cFor_ap {it : Env → Rs (Bool × List D)} {k : D → Env → Rs Env} {is : List Nat} : cFor it k is F ρ = (it ρ).bind fun r => if r.1 then .bad else forL k is F r.2 (ptAll ρ is) := rfl
@[simp] theorem cLc_ap {it : Env → Rs (Bool × List D)} {k : D → Env → Rs Env} {c : Option (Env → Rs RV)} {own : List Nat} : cLc it k c f own ρ = (it ρ).bind fun r => match compL k c f r.2 (ptAll ρ own) with
  | .ok ys => if r.2.length ≤ sizeLine then .ok (.fr (.list ys)) else .bad
  | _ => .bad := rfl
@[simp] theorem iSeq_ap : iSeq f ρ = (f ρ).bind fun r => (itemsD r.val).bind fun ds => .ok (r.isOw, ds) := rfl
@[simp] theorem itemsD_list {xs : List D} : itemsD (.list xs) = .ok xs := rfl
@[simp] theorem itemsD_tup {xs : List D} : itemsD (.tuple xs) = .ok xs := rfl
@[simp] theorem iRange_ap {g : Env → Rs (List RV)} : iRange g ρ = (g ρ).bind fun rs => match rs.map RV.val with
  | [.int n] => if inR n then .ok (false, rangeD 0 n) else .bad
  | [.int m, .int n] => if inR m && inR n then .ok (false, rangeD m n) else .bad
  | _ => .bad := rfl
@[simp] theorem iEnumD_ap {g : Env → Rs (List RV)} : iEnumD g ρ = (g ρ).bind fun rs => match rs with
  | [r] => match r.val with
    | .list xs => .ok (r.isOw, enumD 0 xs)
    | _ => .bad
  | _ => .bad := rfl
@[simp] theorem iZipD_ap {g : Env → Rs (List RV)} : iZipD g ρ = (g ρ).bind fun rs => match rs with
  | [r, s] => match r.val, s.val with
    | .list xs, .list ys => .ok (r.isOw || s.isOw, zipD xs ys)
    | _, _ => .bad
  | _ => .bad := rfl
@[simp] theorem kName_ap {d : D} : kName i d ρ = .ok (pt ρ i (.sh d)) := rfl
@[simp] theorem kTup_ap {k : List D → Env → Rs Env} {ds : List D} : kTup k (.tuple ds) ρ = k ds ρ := rfl
@[simp] theorem kCons_ap {k : D → Env → Rs Env} {ks : List D → Env → Rs Env} {d : D} {ds : List D} : kCons k ks (d :: ds) ρ = (k d ρ).bind fun ρ1 => ks ds ρ1 := rfl
@[simp] theorem kNil_ap : kNil [] ρ = .ok ρ := rfl
@[simp] theorem boolOf_bool {b : Bool} : boolOf (.ok (.sh (.bool b))) = .ok b := rfl
@[simp] theorem dAdd_i {a b : Int} : dAdd (.int a) (.int b) = .ok (.sh (.int (a + b))) := rfl
@[simp] theorem dSub_i {a b : Int} : dSub (.int a) (.int b) = .ok (.sh (.int (a - b))) := rfl
@[simp] theorem dLt_i {a b : Int} : dLt (.int a) (.int b) = .ok (.sh (.bool (decide (a < b)))) := rfl
@[simp] theorem dLe_i {a b : Int} : dLe (.int a) (.int b) = .ok (.sh (.bool (decide (a ≤ b)))) := rfl
@[simp] theorem dGt_i {a b : Int} : dGt (.int a) (.int b) = .ok (.sh (.bool (decide (b < a)))) := rfl
@[simp] theorem dGe_i {a b : Int} : dGe (.int a) (.int b) = .ok (.sh (.bool (decide (b ≤ a)))) := rfl
@[simp] theorem dEq_i {a b : Int} : dEq (.int a) (.int b) = .ok (.sh (.bool (decide (a = b)))) := by
  unfold dEq eqOk scD
  simp only [Bool.true_or, if_true, PyData.eqv]
  rfl
@[simp] theorem dNe_i {a b : Int} : dNe (.int a) (.int b) = .ok (.sh (.bool (!decide (a = b)))) := by
  unfold dNe eqOk scD
  simp only [Bool.true_or, if_true, PyData.eqv]
  rfl
@[simp] theorem dEq_s {a b : Str} : dEq (.str a) (.str b) = .ok (.sh (.bool (a == b))) := by
  unfold dEq eqOk scD
  simp only [Bool.true_or, if_true, PyData.eqv]
@[simp] theorem dNe_s {a b : Str} : dNe (.str a) (.str b) = .ok (.sh (.bool (!(a == b)))) := by
  unfold dNe eqOk scD
  simp only [Bool.true_or, if_true, PyData.eqv]
@[simp] theorem dEq_b {a b : Bool} : dEq (.bool a) (.bool b) = .ok (.sh (.bool (a == b))) := by
  unfold dEq eqOk scD
  simp only [Bool.true_or, if_true, PyData.eqv]
@[simp] theorem mulR_sh {x : D} {y : RV} : mulR (.sh x) y = dMul x y.val := by cases x <;> rfl
theorem dMod_p {a b : Int} (h : 0 < b) : dMod (.int a) (.int b) = .ok (.sh (.int (a % b))) := if_pos h
theorem dDiv_p {a b : Int} (h : 0 < b) (h2 : b.natAbs < 2 ^ 200) : dDiv (.int a) (.int b) = .ok (.sh (.int (a / b))) := if_pos ⟨h, by
  have : b.natAbs.log2 < 200 := (Nat.log2_lt (by omega)).mpr h2
  omega⟩
/-- fewer than m bits -/
def Bd (m : Nat) (a : Int) : Prop := a.natAbs < 2 ^ m
theorem Bd.mono {m n : Nat} {a : Int} (h : Bd m a) (hn : m ≤ n) : Bd n a := Nat.lt_of_lt_of_le h (Nat.pow_le_pow_right (by decide) hn)
theorem Bd.mul {m n : Nat} {a b : Int} (h : Bd m a) (h' : Bd n b) : Bd (m + n) (a * b) := by
  unfold Bd at *
  rw [Int.natAbs_mul, Nat.pow_add]
  exact Nat.mul_lt_mul'' h h'
theorem Bd.add {m : Nat} {a b : Int} (h : Bd m a) (h' : Bd m b) : Bd (m + 1) (a + b) := by
  unfold Bd at *
  rw [Nat.pow_succ]
  omega
theorem dMul_p {m n : Nat} {a b : Int} (h : Bd m a) (h' : Bd n b) (hm : m + n ≤ 1000000) : dMul (.int a) (.int b) = .ok (.sh (.int (a * b))) := if_pos (by
  have e1 : a.natAbs.log2 < m ∨ a.natAbs = 0 := by
    by_cases z : a.natAbs = 0
    · exact .inr z
    · exact .inl ((Nat.log2_lt z).mpr h)
  have e2 : b.natAbs.log2 < n ∨ b.natAbs = 0 := by
    by_cases z : b.natAbs = 0
    · exact .inr z
    · exact .inl ((Nat.log2_lt z).mpr h')
  have e0 : (0 : Nat).log2 = 0 := by decide
  rcases e1 with e1 | e1 <;> rcases e2 with e2 | e2
  · omega
  · rw [e2, e0]; omega
  · rw [e1, e0]; omega
  · rw [e1, e2, e0]; omega)
def retF : Rs Fl → Rs RV
  | .ok (.rt r) => .ok (retRV r)
  | .ok (.nx _) => .ok (.sh .none)
  | .ok _ => .bad
  | .ex x => .ex x
  | .bad => .bad
@[simp] theorem retF_rt {r : RV} : retF (.ok (.rt r)) = .ok (retRV r) := rfl
theorem runE_ap {n m : Nat} {ds : List D} (h : ds.length = n) : runE n m F ds = retF (F (ds.map Sl.sh ++ List.replicate (m - n) Sl.un)) := by
  unfold runE
  rw [if_pos h]
  cases F (ds.map Sl.sh ++ List.replicate (m - n) Sl.un) with
  | ok fl => cases fl <;> rfl
  | ex x => rfl
  | bad => rfl
@[simp] theorem runE_1 {m : Nat} {a : D} : runE 1 m F [a] = retF (F (Sl.sh a :: List.replicate (m - 1) Sl.un)) := runE_ap rfl
@[simp] theorem runE_2 {m : Nat} {a b : D} : runE 2 m F [a, b] = retF (F (Sl.sh a :: Sl.sh b :: List.replicate (m - 2) Sl.un)) := runE_ap rfl
@[simp] theorem runE_3 {m : Nat} {a b c : D} : runE 3 m F [a, b, c] = retF (F (Sl.sh a :: Sl.sh b :: Sl.sh c :: List.replicate (m - 3) Sl.un)) := runE_ap rfl
@[simp] theorem runE_4 {m : Nat} {a b c d : D} : runE 4 m F [a, b, c, d] = retF (F (Sl.sh a :: Sl.sh b :: Sl.sh c :: Sl.sh d :: List.replicate (m - 4) Sl.un)) := runE_ap rfl
@[simp] theorem runE_5 {m : Nat} {a b c d e : D} : runE 5 m F [a, b, c, d, e] = retF (F (Sl.sh a :: Sl.sh b :: Sl.sh c :: Sl.sh d :: Sl.sh e :: List.replicate (m - 5) Sl.un)) := runE_ap rfl
@[simp] theorem cAnd_ap : cAnd f g ρ = (f ρ).bind fun a => match a.val with
  | .bool true => g ρ
  | .bool false => .ok (.sh (.bool false))
  | _ => .bad := rfl
@[simp] theorem cOr_ap : cOr f g ρ = (f ρ).bind fun a => match a.val with
  | .bool false => g ρ
  | .bool true => .ok (.sh (.bool true))
  | _ => .bad := rfl
@[simp] theorem cNot_ap : cNot f ρ = (f ρ).bind fun a => match a.val with
  | .bool b => .ok (.sh (.bool !b))
  | _ => .bad := rfl
@[simp] theorem cDnew_ap : cDnew ρ = .ok (.fr (.dict [])) := rfl
@[simp] theorem cPut_ap : cPut i g f ρ = (f ρ).bind fun r => r.shd.bind fun d => match gt ρ i with
  | .ow (.list xs) => (g ρ).bind fun j => match j.val with
    | .int k => match ixN xs.length k with
      | some j => .ok (.nx (pt ρ i (.ow (.list (xs.set j d)))))
      | none => .bad
    | _ => .bad
  | .ow (.dict ds) => (g ρ).bind fun j => match dKey j.val with
    | some k => if isT ds then .bad else if ds.length < sizeLine then .ok (.nx (pt ρ i (.ow (.dict (dPut k d ds))))) else .bad
    | none => .bad
  | _ => .bad := rfl
@[simp] theorem cDvals_ap : cDvals i j ρ = if ρ.length ≤ j then .bad else match gt ρ i with
  | .sh (.dict ds) => if isT ds then .bad else if ds.length ≤ sizeLine then .ok (.fr (.list (dVals ds ds))) else .bad
  | .ow (.dict ds) => if isT ds then .bad else if ds.length ≤ sizeLine then .ok (.fr (.list (dVals ds ds))) else .bad
  | _ => .bad := rfl
@[simp] theorem dSum_ints {ns : List Int} : dSum [.list (ns.map PyData.int)] = .ok (.sh (.int ns.sum)) := by
  simp only [dSum, intsOf_map]
@[simp] theorem dLen_list {xs : List D} : dLen [.list xs] = .ok (.sh (.int xs.length)) := rfl
@[simp] theorem dList_list {xs : List D} : dList [.list xs] = .ok (.fr (.list xs)) := rfl
@[simp] theorem dMax_i {a b : Int} : dMax [.int a, .int b] = .ok (.sh (.int (max a b))) := rfl
@[simp] theorem dMin_i {a b : Int} : dMin [.int a, .int b] = .ok (.sh (.int (min a b))) := rfl
@[simp] theorem dInt_b {b : Bool} : dInt [.bool b] = .ok (.sh (.int (if b then 1 else 0))) := rfl
theorem enumD_mem {xs : List D} {d : D} (h : d ∈ enumD 0 xs) : ∃ (i : Nat) (x : D), d = .tuple [.int (0 + (i : Int)), x] ∧ xs[i]? = some x := by
  obtain ⟨i, hi⟩ := List.getElem?_of_mem h
  rw [enumD_get] at hi
  cases e : xs[i]? with
  | none => rw [e] at hi; cases hi
  | some x => rw [e] at hi; cases hi; exact ⟨i, x, rfl, e⟩
theorem canInts : ∀ ns : List Int, PyData.canLayAll0 (ns.map PyData.int) = true
  | [] => rfl
  | n :: ns => by rw [List.map_cons, PyData.canLayAll0, PyData.canLay0, canInts ns]; rfl
theorem depthInts : ∀ ns : List Int, PyData.depthAll (ns.map PyData.int) = 0
  | [] => rfl
  | n :: ns => by rw [List.map_cons, PyData.depthAll, PyData.depth, depthInts ns]; rfl
theorem shaped_ints (ns : List Int) : SeqAt.shaped (.list (ns.map PyData.int)) = true := by
  unfold SeqAt.shaped
  rw [PyData.canLay0, canInts, PyData.depth, depthInts]
  rfl
theorem dNe_nil (ns : List Int) : dNe (.list (ns.map PyData.int)) (.list []) = .ok (.sh (.bool (!ns.isEmpty))) := by
  unfold dNe eqOk
  have h2 : SeqAt.shaped (.list []) = true := shaped_ints []
  rw [shaped_ints, h2]
  simp only [Bool.and_self, Bool.or_true, if_true]
  cases ns with
  | nil => rfl
  | cons n ns => simp [PyData.eqv, PyData.eqvAll]
/-! ### loops -/
theorem forL_ok {k : D → Env → Rs Env} {is : List Nat} (P : Nat → Env → Prop) : ∀ (ds : List D) (n : Nat) {ρ : Env}, P n ρ →
    (∀ (i : Nat) (d : D) (ρ : Env), ds[i]? = some d → P (n + i) ρ → ∃ ρ1, k d ρ = .ok ρ1 ∧ ∃ ρ2, F ρ1 = .ok (.nx ρ2) ∧ P (n + i + 1) (ptAll ρ2 is)) → ∃ ρ', forL k is F ds ρ = .ok (.nx ρ') ∧ P (n + ds.length) ρ'
  | [], n, ρ, h0, _ => ⟨ρ, rfl, h0⟩
  | d :: ds, n, ρ, h0, hs => by
    obtain ⟨ρ1, e1, ρ2, e2, h1⟩ := hs 0 d ρ rfl h0
    obtain ⟨ρ', e3, h3⟩ := forL_ok P ds (n + 1) h1 fun i d ρ hd hp => by
      have := hs (i + 1) d ρ hd (by rw [show n + (i + 1) = n + 1 + i by omega]; exact hp)
      rwa [show n + (i + 1) + 1 = n + 1 + i + 1 by omega] at this
    refine ⟨ρ', ?_, by rw [List.length_cons, show n + (ds.length + 1) = n + 1 + ds.length by omega]; exact h3⟩
    unfold forL
    simp only [e1, e2, Rs.bind_ok]
    exact e3
theorem compL_ok {k : D → Env → Rs Env} {c : Option (Env → Rs RV)} (P : D → Prop) : ∀ {ds : List D}, (∀ d : D, d ∈ ds → ∃ ρ1, k d ρ = .ok ρ1 ∧ ∃ b, cTest c ρ1 = .ok b ∧ (b = true → ∃ r y, f ρ1 = .ok r ∧ r.shd = .ok y ∧ P y)) →
    ∃ ys, compL k c f ds ρ = .ok ys ∧ (∀ y : D, y ∈ ys → P y) ∧ ys.length ≤ ds.length
  | [], _ => ⟨[], rfl, fun _ h => absurd h List.not_mem_nil, Nat.le_refl _⟩
  | d :: ds, h => by
    obtain ⟨ρ1, e1, b, e2, e3⟩ := h d List.mem_cons_self
    obtain ⟨ys, e4, h4, h5⟩ := compL_ok P (ds := ds) fun d m => h d (List.mem_cons_of_mem _ m)
    unfold compL
    rw [e1, Rs.bind_ok, e2, Rs.bind_ok]
    cases b with
    | false => exact ⟨ys, e4, h4, Nat.le_succ_of_le h5⟩
    | true =>
      obtain ⟨r, y, e6, e7, h6⟩ := e3 rfl
      refine ⟨y :: ys, ?_, fun z m => ?_, by simp only [List.length_cons]; omega⟩
      · rw [if_pos rfl, e6, Rs.bind_ok, e7, Rs.bind_ok, e4, Rs.bind_ok]
      · rcases List.mem_cons.mp m with e | e
        · rw [e]; exact h6
        · exact h4 z e
/-- each item to one item -/
theorem compL_map {k : D → Env → Rs Env} {ds ys : List D} (hl : ys.length = ds.length) (h : ∀ (i : Nat) (d y : D), ds[i]? = some d → ys[i]? = some y → ∃ ρ1, k d ρ = .ok ρ1 ∧ ∃ r, f ρ1 = .ok r ∧ r.shd = .ok y) : compL k none f ds ρ = .ok ys := by
  induction ds generalizing ys with
  | nil => cases ys with
    | nil => rfl
    | cons _ _ => cases hl
  | cons d ds ih => cases ys with
    | nil => cases hl
    | cons y ys =>
      obtain ⟨ρ1, e1, r, e2, e3⟩ := h 0 d y rfl rfl
      have e4 := ih (Nat.succ.inj hl) fun i d y a b => h (i + 1) d y a b
      simp only [compL, e1, Rs.bind_ok, cTest, if_true, e2, e3, e4]
end
end
/-! ### subscripts -/
theorem atI_nat {α : Type} {xs : List α} {i : Nat} {x : α} (h : xs[i]? = some x) : atI xs (i : Int) = some x := by
  have hl : i < xs.length := (List.getElem?_eq_some_iff.mp h).1
  unfold atI ixN
  rw [if_pos (by omega), if_pos (by omega)]
  exact h
theorem atI_in {α : Type} {xs : List α} {i : Int} (h0 : 0 ≤ i) (h : i < xs.length) : ∃ x, atI xs i = some x ∧ xs[i.toNat]? = some x := by
  obtain ⟨j, rfl⟩ : ∃ j : Nat, i = j := ⟨i.toNat, by omega⟩
  have hl : j < xs.length := by omega
  exact ⟨xs[j], atI_nat (List.getElem?_eq_getElem hl), List.getElem?_eq_getElem hl⟩
theorem dIx_list {xs : List D} {i : Int} {x : D} (h : atI xs i = some x) : dIx (.list xs) (.int i) = .ok (.sh x) := by
  simp only [dIx, h]
theorem dIx_tup {xs : List D} {i : Int} {x : D} (h : atI xs i = some x) : dIx (.tuple xs) (.int i) = .ok (.sh x) := by
  simp only [dIx, h]
@[simp] theorem dIx_l0 {a0 : D} {xs : List D} : dIx (.list (a0 :: xs)) (.int 0) = .ok (.sh a0) := dIx_list (atI_nat (i := 0) rfl)
@[simp] theorem dIx_l1 {a0 a1 : D} {xs : List D} : dIx (.list (a0 :: a1 :: xs)) (.int 1) = .ok (.sh a1) := dIx_list (atI_nat (i := 1) rfl)
@[simp] theorem dIx_l2 {a0 a1 a2 : D} {xs : List D} : dIx (.list (a0 :: a1 :: a2 :: xs)) (.int 2) = .ok (.sh a2) := dIx_list (atI_nat (i := 2) rfl)
@[simp] theorem dIx_l3 {a0 a1 a2 a3 : D} {xs : List D} : dIx (.list (a0 :: a1 :: a2 :: a3 :: xs)) (.int 3) = .ok (.sh a3) := dIx_list (atI_nat (i := 3) rfl)
@[simp] theorem dIx_l4 {a0 a1 a2 a3 a4 : D} {xs : List D} : dIx (.list (a0 :: a1 :: a2 :: a3 :: a4 :: xs)) (.int 4) = .ok (.sh a4) := dIx_list (atI_nat (i := 4) rfl)
@[simp] theorem dIx_l5 {a0 a1 a2 a3 a4 a5 : D} {xs : List D} : dIx (.list (a0 :: a1 :: a2 :: a3 :: a4 :: a5 :: xs)) (.int 5) = .ok (.sh a5) := dIx_list (atI_nat (i := 5) rfl)
@[simp] theorem dIx_l6 {a0 a1 a2 a3 a4 a5 a6 : D} {xs : List D} : dIx (.list (a0 :: a1 :: a2 :: a3 :: a4 :: a5 :: a6 :: xs)) (.int 6) = .ok (.sh a6) := dIx_list (atI_nat (i := 6) rfl)
@[simp] theorem dIx_t0 {a0 : D} {xs : List D} : dIx (.tuple (a0 :: xs)) (.int 0) = .ok (.sh a0) := dIx_tup (atI_nat (i := 0) rfl)
@[simp] theorem dIx_t1 {a0 a1 : D} {xs : List D} : dIx (.tuple (a0 :: a1 :: xs)) (.int 1) = .ok (.sh a1) := dIx_tup (atI_nat (i := 1) rfl)
@[simp] theorem dIx_t2 {a0 a1 a2 : D} {xs : List D} : dIx (.tuple (a0 :: a1 :: a2 :: xs)) (.int 2) = .ok (.sh a2) := dIx_tup (atI_nat (i := 2) rfl)
@[simp] theorem dIx_t3 {a0 a1 a2 a3 : D} {xs : List D} : dIx (.tuple (a0 :: a1 :: a2 :: a3 :: xs)) (.int 3) = .ok (.sh a3) := dIx_tup (atI_nat (i := 3) rfl)
@[simp] theorem dIx_t4 {a0 a1 a2 a3 a4 : D} {xs : List D} : dIx (.tuple (a0 :: a1 :: a2 :: a3 :: a4 :: xs)) (.int 4) = .ok (.sh a4) := dIx_tup (atI_nat (i := 4) rfl)
@[simp] theorem dIx_t5 {a0 a1 a2 a3 a4 a5 : D} {xs : List D} : dIx (.tuple (a0 :: a1 :: a2 :: a3 :: a4 :: a5 :: xs)) (.int 5) = .ok (.sh a5) := dIx_tup (atI_nat (i := 5) rfl)
@[simp] theorem dIx_t6 {a0 a1 a2 a3 a4 a5 a6 : D} {xs : List D} : dIx (.tuple (a0 :: a1 :: a2 :: a3 :: a4 :: a5 :: a6 :: xs)) (.int 6) = .ok (.sh a6) := dIx_tup (atI_nat (i := 6) rfl)
theorem dIx_ints {ns : List Int} {i : Int} (h0 : 0 ≤ i) (h : i < ns.length) : ∃ n ∈ ns, dIx (.list (ns.map PyData.int)) (.int i) = .ok (.sh (.int n)) ∧ ns[i.toNat]? = some n := by
  obtain ⟨x, e1, e2⟩ := atI_in (xs := ns.map PyData.int) h0 (by rw [List.length_map]; exact h)
  rw [List.getElem?_map] at e2
  cases e3 : ns[i.toNat]? with
  | none => rw [e3] at e2; cases e2
  | some n =>
    rw [e3] at e2
    cases e2
    exact ⟨n, List.mem_of_getElem? e3, dIx_list e1, rfl⟩
theorem enumD_at : ∀ (xs : List D) (j : Int) (i : Nat), (enumD j xs)[i]? = xs[i]?.map fun d => .tuple [.int (j + i), d] := by
  intro xs j i
  rw [enumD_get]
  try rfl
theorem sz24 : sizeLine = 16777216 := by decide
@[simp] theorem sz_1 : 1 ≤ sizeLine := by rw [sz24]; decide
@[simp] theorem sz_2 : 2 ≤ sizeLine := by rw [sz24]; decide
@[simp] theorem sz_3 : 3 ≤ sizeLine := by rw [sz24]; decide
@[simp] theorem sz_4 : 4 ≤ sizeLine := by rw [sz24]; decide
@[simp] theorem sz_5 : 5 ≤ sizeLine := by rw [sz24]; decide
@[simp] theorem sz_6 : 6 ≤ sizeLine := by rw [sz24]; decide
@[simp] theorem sz_7 : 7 ≤ sizeLine := by rw [sz24]; decide
@[simp] theorem sz_8 : 8 ≤ sizeLine := by rw [sz24]; decide
@[simp] theorem sz_9 : 9 ≤ sizeLine := by rw [sz24]; decide
@[simp] theorem sz_10 : 10 ≤ sizeLine := by rw [sz24]; decide
@[simp] theorem sz_11 : 11 ≤ sizeLine := by rw [sz24]; decide
@[simp] theorem sz_12 : 12 ≤ sizeLine := by rw [sz24]; decide
@[simp] theorem sz_13 : 13 ≤ sizeLine := by rw [sz24]; decide
@[simp] theorem sz_14 : 14 ≤ sizeLine := by rw [sz24]; decide
theorem rangeD_at {n : Int} {i : Nat} {d : D} (h : (rangeD 0 n)[i]? = some d) : d = .int (0 + (i : Int)) ∧ (i : Int) < n := by
  have hl := (List.getElem?_eq_some_iff.mp h).1
  unfold rangeD at h hl
  rw [List.length_map, List.length_range] at hl
  rw [List.getElem?_map, List.getElem?_range hl] at h
  cases h
  exact ⟨rfl, by omega⟩
theorem rangeD_len (n : Int) : (rangeD 0 n).length = n.toNat := by
  unfold rangeD
  rw [List.length_map, List.length_range, Int.sub_zero]
theorem inR_of {n : Int} (h : 0 ≤ n ∧ n < 1000000) : inR n = true := by
  unfold inR
  simp
  omega
theorem compL_all {k : D → Env → Rs Env} {f : Env → Rs RV} {ρ : Env} (P : D → Prop) : ∀ {ds : List D}, (∀ d : D, d ∈ ds → ∃ ρ1, k d ρ = .ok ρ1 ∧ ∃ r y, f ρ1 = .ok r ∧ r.shd = .ok y ∧ P y) →
    ∃ ys, compL k none f ds ρ = .ok ys ∧ (∀ y : D, y ∈ ys → P y) ∧ ys.length = ds.length
  | [], _ => ⟨[], rfl, fun _ h => absurd h List.not_mem_nil, rfl⟩
  | d :: ds, h => by
    obtain ⟨ρ1, e1, r, y, e6, e7, h6⟩ := h d List.mem_cons_self
    obtain ⟨ys, e4, h4, h5⟩ := compL_all P (ds := ds) fun d m => h d (List.mem_cons_of_mem _ m)
    refine ⟨y :: ys, ?_, fun z m => ?_, by simp only [List.length_cons]; omega⟩
    · simp only [compL, e1, Rs.bind_ok, cTest, if_true, e6, e7, e4]
    · rcases List.mem_cons.mp m with e | e
      · rw [e]; exact h6
      · exact h4 z e
theorem map_of {α : Type} {g : α → D} {Q : α → Prop} : ∀ {ys : List D}, (∀ y : D, y ∈ ys → ∃ x, y = g x ∧ Q x) → ∃ xs : List α, ys = xs.map g ∧ (∀ x : α, x ∈ xs → Q x) ∧ xs.length = ys.length
  | [], _ => ⟨[], rfl, fun _ h => absurd h List.not_mem_nil, rfl⟩
  | y :: ys, h => by
    obtain ⟨x, rfl, q⟩ := h y List.mem_cons_self
    obtain ⟨xs, e, q2, hl⟩ := map_of (ys := ys) fun z m => h z (List.mem_cons_of_mem _ m)
    refine ⟨x :: xs, by rw [e]; rfl, fun z m => ?_, by simp only [List.length_cons]; omega⟩
    rcases List.mem_cons.mp m with e | e
    · rw [e]; exact q
    · exact q2 z e
theorem dIx_map {α : Type} {g : α → D} {xs : List α} {i : Int} (h0 : 0 ≤ i) (h : i < xs.length) : ∃ x ∈ xs, dIx (.list (xs.map g)) (.int i) = .ok (.sh (g x)) ∧ xs[i.toNat]? = some x := by
  obtain ⟨y, e1, e2⟩ := atI_in (xs := xs.map g) h0 (by rw [List.length_map]; exact h)
  rw [List.getElem?_map] at e2
  cases e3 : xs[i.toNat]? with
  | none => rw [e3] at e2; cases e2
  | some x =>
    rw [e3] at e2
    cases e2
    exact ⟨x, List.mem_of_getElem? e3, dIx_list e1, rfl⟩
/-! ### equal to itself -/
theorem dEq_self {d : D} (h : SeqAt.shaped d = true) : dEq d d = .ok (.sh (.bool true)) := by
  unfold dEq eqOk
  rw [h]
  simp only [Bool.and_self, Bool.or_true, if_true]
  rw [SeqAt.eqv_refl d (SeqAt.canLay_of_shaped h)]
end VL

set_option Elab.async false
set_option linter.all false
set_option maxRecDepth 100000
set_option maxHeartbeats 4000000
namespace VL
open PySem PySem.Spec PyProof.Rows L2
def f_some_at_l1 : Env → Rs Fl := cSeq (cIfS (cBin dLe (cBin dIx (cVar 3) (cCon (.int 0))) (cVar 1)) (cSeq (cSet 2 false (cBin dIx (cVar 3) (cCon (.int 1)))) cEnd) (cEnd)) cEnd
def f_some_at : List D → Rs RV := runE 2 4 (cSeq (cSet 2 false (cLst (cNil))) (cSeq (cFor (iSeq (cVar 0)) (kName 3) [3] (f_some_at_l1)) (cSeq (cRet (cBlt dList (cCons (cVar 2) cNil))) cEnd)))
def f_law_cell : List D → Rs RV := runE 2 2 (cSeq (cIfS (cBin dLt (cVar 1) (cBlt dLen (cCons (cVar 0) cNil))) (cSeq (cRet (cBin dIx (cVar 0) (cVar 1))) cEnd) (cEnd)) (cSeq (cRet (cBin dAdd (cBinR mulR (cCon (.int 7)) (cVar
    1)) (cCon (.int 5)))) cEnd))
def f_law_number : List D → Rs RV := runE 2 3 (cSeq (cSet 2 false (cBin dMod (cBin dAdd (cBin dAdd (cBinR mulR (cBin dMod (cVar 0) (cCon (.int 2147483629))) (cCon (.int 48271))) (cBinR mulR (cBinR mulR (cCon (.int 7919))
    (cVar 1)) (cVar 1))) (cCon (.int 104729))) (cCon (.int 2147483647)))) (cSeq (cSet 2 false (cBin dMod (cBinR mulR (cVar 2) (cVar 2)) (cCon (.int 2147483587)))) (cSeq (cRet (cBin dDiv (cBin dMod (cBinR mulR (cBin dAdd (cVar
    2) (cBinR mulR (cCon (.int 31)) (cVar 1))) (cBin dAdd (cVar 1) (cCon (.int 39373)))) (cCon (.int 2147483629))) (cCon (.int 16)))) cEnd)))
def f_law_draws_l1 : Env → Rs Fl := cSeq (cIfS (cVar 3) (cSeq (cApp 2 (cBin dMod (cVar 0) (cVar 5))) (cSeq (cSet 0 false (cBin dDiv (cVar 0) (cVar 5))) cEnd)) (cSeq (cIfS (cBin dGt (cVar 5) (cCon (.int 100000000))) (cSeq
    (cSet 6 false (cBin dAdd (cBinR mulR (cCall f_law_number (cCons (cVar 0) (cCons (cVar 4) cNil))) (cCon (.int 134217757))) (cCall f_law_number (cCons (cVar 0) (cCons (cBin dAdd (cVar 4) (cCon (.int 97))) cNil))))) (cSeq
    (cApp 2 (cBin dMod (cBin dAdd (cBinR mulR (cVar 6) (cCon (.int 134217757))) (cCall f_law_number (cCons (cVar 0) (cCons (cBin dAdd (cVar 4) (cCon (.int 181))) cNil)))) (cVar 5))) cEnd)) (cSeq (cApp 2 (cBin dMod (cCall
    f_law_number (cCons (cVar 0) (cCons (cVar 4) cNil))) (cVar 5))) cEnd)) cEnd)) cEnd
def f_law_draws : List D → Rs RV := runE 2 7 (cSeq (cSet 2 true (cLst (cNil))) (cSeq (cSet 3 false (cBin dGe (cVar 0) (cBin dPow (cCon (.int 10)) (cCon (.int 18))))) (cSeq (cFor (iEnumD (cCons (cVar 1) cNil)) (kTup (kCons
    (kName 4) (kCons (kName 5) kNil))) [4, 5] (f_law_draws_l1)) (cSeq (cRet (cVar 2)) cEnd))))
def f_law_names_l1 : Env → Rs Fl := cSeq (cSet 11 false (cBin dAdd (cBin dAdd (cBin dIx (cVar 3) (cCon (.int 2))) (cBinR mulR (cVar 10) (cVar 10))) (cBinR mulR (cBinR mulR (cCon (.int 4)) (cVar 7)) (cBlt dInt (cCons (cBin
    dEq (cVar 10) (cVar 4)) cNil))))) (cSeq (cSet 8 false (cBin dAdd (cVar 8) (cBin dIx (cVar 2) (cBin dMod (cVar 11) (cCon (.int 21)))))) cEnd)
def f_law_names_l2 : Env → Rs Fl := cSeq (cSet 7 false (cBin dMod (cBin dAdd (cBinR mulR (cBin dAdd (cCon (.int 1)) (cBin dIx (cVar 3) (cCon (.int 3)))) (cVar 6)) (cBin dIx (cVar 3) (cCon (.int 4)))) (cCon (.int 13)))) (cSeq
    (cSet 8 false (cCon (.str ""))) (cSeq (cSet 9 false (cBin dAdd (cCon (.int 1)) (cBin dMod (cBin dAdd (cBin dIx (cVar 3) (cCon (.int 0))) (cBinR mulR (cBinR mulR (cCon (.int 5)) (cVar 7)) (cBin dSub (cCon (.int 1)) (cBin
    dIx (cVar 3) (cCon (.int 5)))))) (cCon (.int 12))))) (cSeq (cFor (iRange (cCons (cVar 9) cNil)) (kName 10) [] (f_law_names_l1)) (cSeq (cApp 5 (cVar 8)) cEnd))))
def f_law_names : List D → Rs RV := runE 2 12 (cSeq (cSet 2 false (cCon (.str "bcdfghjklmnpqrstvwxyz"))) (cSeq (cSet 3 false (cCall f_law_draws (cCons (cVar 0) (cCons (cLst (cCons (cCon (.int 12)) (cCons (cCon (.int 12))
    (cCons (cCon (.int 21)) (cCons (cCon (.int 12)) (cCons (cCon (.int 13)) (cCons (cCon (.int 2)) cNil))))))) cNil)))) (cSeq (cSet 4 false (cBinR mulR (cBin dMod (cBin dIx (cVar 3) (cCon (.int 1))) (cBin dAdd (cCon (.int
    1)) (cBin dIx (cVar 3) (cCon (.int 0))))) (cBin dIx (cVar 3) (cCon (.int 5))))) (cSeq (cSet 5 true (cLst (cNil))) (cSeq (cFor (iRange (cCons (cVar 1) cNil)) (kName 6) [6, 7, 8, 9, 10] (f_law_names_l2)) (cSeq (cRet (cVar
    5)) cEnd))))))
def f_law_blocks_c1 : Env → Rs RV := cLc (iRange (cCons (cBin dIx (cVar 2) (cCon (.int 0))) cNil)) (kName 11) none (cCall f_law_draws (cCons (cCall f_law_cell (cCons (cVar 0) (cCons (cBin dAdd (cCon (.int 2)) (cVar 11)) cNil)))
    (cCons (cLst (cCons (cCon (.int 2)) (cCons (cBin dAdd (cCon (.int 1)) (cBin dIx (cVar 2) (cCon (.int 1)))) (cCons (cVar 4) (cCons (cCon (.int 2)) cNil))))) cNil))) [11]
def f_law_blocks_l1 : Env → Rs Fl := cSeq (cSet 8 false (cTup (cCons (cTup (cCons (cTup (cCons (cBin dIx (cVar 3) (cBin dIx (cVar 7) (cCon (.int 1)))) (cCons (cBin dAdd (cCon (.int 1)) (cBin dIx (cVar 7) (cCon (.int 3))))
    cNil))) cNil)) (cCons (cTup (cNil)) cNil)))) (cSeq (cSet 9 false (cTup (cCons (cVar 8) (cCons (cCon (.str "for")) (cCons (cTup (cCons (cTup (cCons (cBin dIx (cVar 3) (cBin dIx (cVar 7) (cCon (.int 1)))) (cCons (cCon (.int
    1)) cNil))) cNil)) cNil))))) (cSeq (cIfS (cBin dEq (cBin dIx (cVar 7) (cCon (.int 0))) (cCon (.int 1))) (cSeq (cSet 9 false (cTup (cCons (cVar 8) (cCons (cCon (.str "against")) (cCons (cTup (cNil)) cNil))))) cEnd) (cEnd))
    (cSeq (cIfS (cBin dEq (cBin dIx (cVar 2) (cCon (.int 3))) (cCon (.int 1))) (cSeq (cSet 9 false (cTup (cCons (cTup (cCons (cBin dIx (cVar 8) (cCon (.int 1))) (cCons (cBin dIx (cVar 8) (cCon (.int 0))) cNil))) (cCons (cBin
    dIx (cLst (cCons (cCon (.str "for")) (cCons (cCon (.str "against")) cNil))) (cBin dSub (cCon (.int 1)) (cBin dIx (cVar 7) (cCon (.int 0))))) (cCons (cBin dIx (cVar 9) (cCon (.int 2))) cNil))))) cEnd) (cEnd)) (cSeq (cApp
    6 (cVar 9)) cEnd))))
def f_law_blocks_c2 : Env → Rs RV := cLc (iSeq (cVar 5)) (kName 7) none (cBin dIx (cVar 7) (cCon (.int 1))) [7]
def f_law_blocks_c3 : Env → Rs RV := cLc (iSeq (cVar 5)) (kName 7) none (cBin dAdd (cCon (.int 1)) (cBin dIx (cVar 7) (cCon (.int 2)))) [7]
def f_law_blocks : List D → Rs RV := runE 2 12 (cSeq (cSet 2 false (cCall f_law_draws (cCons (cCall f_law_cell (cCons (cVar 0) (cCons (cCon (.int 0)) cNil))) (cCons (cLst (cCons (cBin dAdd (cVar 1) (cCon (.int 1))) (cCons
    (cCon (.int 5)) (cCons (cCon (.int 6)) (cCons (cCon (.int 2)) (cCons (cCon (.int 2)) cNil)))))) cNil)))) (cSeq (cSet 3 false (cCall f_law_names (cCons (cCall f_law_cell (cCons (cVar 0) (cCons (cCon (.int 1)) cNil))) (cCons
    (cBin dAdd (cCon (.int 1)) (cBin dIx (cVar 2) (cCon (.int 1)))) cNil)))) (cSeq (cSet 4 false (cBin dIx (cLst (cCons (cCon (.int 1)) (cCons (cCon (.int 3)) (cCons (cCon (.int 12)) (cCons (cBin dPow (cCon (.int 10)) (cCon
    (.int 6))) (cCons (cBin dPow (cCon (.int 10)) (cCon (.int 17))) (cCons (cBin dPow (cCon (.int 10)) (cCon (.int 18))) cNil))))))) (cBin dIx (cVar 2) (cCon (.int 2))))) (cSeq (cSet 5 false (f_law_blocks_c1)) (cSeq (cSet
    6 true (cLst (cNil))) (cSeq (cFor (iSeq (cVar 5)) (kName 7) [8, 9] (f_law_blocks_l1)) (cFrzS 6 (cSeq (cSet 10 false (cBin dIx (cLst (cCons (cCon (.str "for")) (cCons (cCon (.str "against")) cNil))) (cBin dIx (cVar 2)
    (cCon (.int 4))))) (cSeq (cRet (cTup (cCons (cVar 6) (cCons (f_law_blocks_c2) (cCons (f_law_blocks_c3) (cCons (cVar 10) cNil)))))) cEnd)))))))))
def f_law_crossings_c1 : Env → Rs RV := cLc (iEnumD (cCons (cVar 0) cNil)) (kTup (kCons (kName 8) (kCons (kName 9) kNil))) (some (cAnd (cBin dEq (cBin dIx (cVar 1) (cVar 8)) (cVar 5)) (cBin dEq (cBin dIx (cVar 9) (cCon (.int
    1))) (cVar 3)))) (cBin dIx (cVar 2) (cVar 8)) [8, 9]
def f_law_crossings_c2 : Env → Rs RV := cLc (iEnumD (cCons (cVar 0) cNil)) (kTup (kCons (kName 8) (kCons (kName 9) kNil))) (some (cAnd (cBin dEq (cBin dIx (cVar 1) (cVar 8)) (cVar 5)) (cBin dNe (cBin dIx (cVar 9) (cCon (.int
    1))) (cVar 3)))) (cBin dIx (cVar 2) (cVar 8)) [8, 9]
def f_law_crossings_l1 : Env → Rs Fl := cSeq (cSet 6 false (f_law_crossings_c1)) (cSeq (cSet 7 false (f_law_crossings_c2)) (cSeq (cIfS (cAnd (cBin dNe (cVar 6) (cLst (cNil))) (cBin dNe (cVar 7) (cLst (cNil)))) (cSeq (cPut
    4 (cVar 5) (cBlt dMax (cCons (cCon (.int 0)) (cCons (cNeg (cBin dDiv (cBin dSub (cBlt dSum (cCons (cVar 6) cNil)) (cBlt dSum (cCons (cVar 7) cNil))) (cBlt dLen (cCons (cVar 6) cNil)))) cNil)))) cEnd) (cEnd)) cEnd))
def f_law_crossings : List D → Rs RV := runE 4 10 (cSeq (cSet 4 true (cDnew)) (cSeq (cFor (iSeq (cUn dSset (cVar 1))) (kName 5) [5, 6, 7] (f_law_crossings_l1)) (cSeq (cRet (cVar 4)) cEnd)))
def f_law_some_by_l1 : Env → Rs Fl := cSeq (cIfS (cAnd (cBin dIn (cBin dIx (cVar 1) (cVar 6)) (cVar 3)) (cBin dEq (cBin dEq (cBin dIx (cVar 7) (cCon (.int 1))) (cVar 2)) (cBin dLt (cVar 4) (cBin dIx (cVar 3) (cBin dIx (cVar
    1) (cVar 6)))))) (cSeq (cApp 5 (cVar 6)) cEnd) (cEnd)) cEnd
def f_law_some_by : List D → Rs RV := runE 5 8 (cSeq (cSet 5 true (cLst (cNil))) (cSeq (cFor (iEnumD (cCons (cVar 0) cNil)) (kTup (kCons (kName 6) (kCons (kName 7) kNil))) [6, 7] (f_law_some_by_l1)) (cSeq (cRet (cVar 5))
    cEnd)))
def f_law_shares_by_l1 : Env → Rs Fl := cSeq (cIfS (cAnd (cBin dEq (cBin dIx (cVar 6) (cCon (.int 1))) (cCon (.str "for"))) (cAnd (cBin dEq (cBin dIx (cVar 8) (cCon (.int 1))) (cCon (.str "against"))) (cBin dEq (cBin dIx
    (cVar 1) (cVar 5)) (cBin dIx (cVar 1) (cVar 7))))) (cSeq (cSet 9 false (cBlt dMin (cCons (cBin dIx (cVar 3) (cVar 5)) (cCons (cBin dIx (cVar 3) (cVar 7)) cNil)))) (cSeq (cIfS (cBin dGt (cVar 9) (cCon (.int 0))) (cSeq
    (cApp 4 (cTup (cCons (cVar 5) (cCons (cVar 7) (cCons (cVar 9) cNil))))) (cSeq (cPut 3 (cVar 5) (cBin dSub (cBin dIx (cVar 3) (cVar 5)) (cVar 9))) (cSeq (cPut 3 (cVar 7) (cBin dSub (cBin dIx (cVar 3) (cVar 7)) (cVar 9)))
    cEnd))) (cEnd)) cEnd)) (cEnd)) cEnd
def f_law_shares_by_l2 : Env → Rs Fl := cSeq (cFor (iEnumD (cCons (cVar 0) cNil)) (kTup (kCons (kName 7) (kCons (kName 8) kNil))) [] (f_law_shares_by_l1)) cEnd
def f_law_shares_by : List D → Rs RV := runE 3 10 (cSeq (cSet 3 true (cBlt dList (cCons (cVar 2) cNil))) (cSeq (cSet 4 true (cLst (cNil))) (cSeq (cFor (iEnumD (cCons (cVar 0) cNil)) (kTup (kCons (kName 5) (kCons (kName 6)
    kNil))) [5, 6, 7, 8] (f_law_shares_by_l2)) (cSeq (cRet (cVar 4)) cEnd))))
def f_law_leaned_c1 : Env → Rs RV := cLc (iZipD (cCons (cVar 0) (cCons (cVar 1) cNil))) (kTup (kCons (kName 4) (kCons (kName 5) kNil))) none (cBin dAdd (cVar 5) (cBinR mulR (cVar 3) (cBlt dInt (cCons (cBin dEq (cBin dIx (cVar
    4) (cCon (.int 1))) (cVar 2)) cNil)))) [4, 5]
def f_law_leaned : List D → Rs RV := runE 4 6 (cSeq (cRet (f_law_leaned_c1)) cEnd)
def f_law_whole : List D → Rs RV := runE 1 1 (cSeq (cRet (cAnd (cUn (dIsi "int") (cVar 0)) (cNot (cUn (dIsi "bool") (cVar 0))))) cEnd)
def f_law_copy_c1 : Env → Rs RV := cLc (iSeq (cVar 0)) (kTup (kCons (kName 1) (kCons (kName 2) (kCons (kName 3) (kCons (kName 4) kNil))))) none (cTup (cCons (cVar 1) (cCons (cBlt dList (cCons (cVar 2) cNil)) (cCons (cBlt
    dList (cCons (cVar 3) cNil)) (cCons (cBlt dList (cCons (cVar 4) cNil)) cNil))))) [1, 2, 3, 4]
def f_law_copy : List D → Rs RV := runE 1 5 (cSeq (cRet (f_law_copy_c1)) cEnd)
def f_law_asked : List D → Rs RV := runE 2 4 (cSeq (cSet 2 false (cCall f_law_draws (cCons (cVar 1) (cCons (cLst (cCons (cCon (.int 5)) (cCons (cCon (.int 60)) (cCons (cBinR mulR (cCon (.int 2)) (cBin dPow (cCon (.int 10))
    (cCon (.int 18)))) (cCons (cBin dPow (cCon (.int 10)) (cCon (.int 40))) cNil))))) cNil)))) (cSeq (cSet 3 false (cBin dIx (cBin dIx (cVar 0) (cBin dMod (cBin dIx (cVar 2) (cCon (.int 1))) (cBlt dLen (cCons (cVar 0) cNil))))
    (cCon (.int 0)))) (cSeq (cRet (cBin dIx (cLst (cCons (cBin dIx (cVar 2) (cCon (.int 2))) (cCons (cVar 3) (cCons (cBlt dMax (cCons (cCon (.int 0)) (cCons (cBin dSub (cVar 3) (cCon (.int 1))) cNil))) (cCons (cBin dAdd (cVar
    3) (cCon (.int 1))) (cCons (cBin dIx (cVar 2) (cCon (.int 3))) cNil)))))) (cBin dIx (cVar 2) (cCon (.int 0))))) cEnd)))
def f_law_is_c1 : Env → Rs RV := cLc (iSeq (cVar 0)) (kName 2) none (cCall f_law_whole (cCons (cVar 2) cNil)) [2]
def f_law_is : List D → Rs RV := runE 2 3 (cSeq (cIfS (cOr (cNot (cUn (dIsi "list") (cVar 0))) (cNot (cBlt dAll (cCons (f_law_is_c1) cNil)))) (cSeq (cRet (cCon (.bool false))) cEnd) (cEnd)) (cSeq (cRet (cBin dEq (cVar 0)
    (cVar 1))) cEnd))
def f_law_due_c1 : Env → Rs RV := cLc (iSeq (cVar 0)) (kTup (kCons (kName 2) (kCons (kName 3) (kCons (kName 4) (kCons (kName 5) kNil))))) (some (cBin dLe (cVar 2) (cVar 1))) (cVar 3) [2, 3, 4, 5]
def f_law_due : List D → Rs RV := runE 2 6 (cSeq (cRet (cBin dIx (f_law_due_c1) (cNeg (cCon (.int 1))))) cEnd)
def f_law_known_c1 : Env → Rs RV := cLc (iSeq (cUn dSset (cDvals 4 11))) (kName 5) (some (cBin dGt (cVar 5) (cCon (.int 0)))) (cVar 5) [5]
def f_law_known_l1 : Env → Rs Fl := cSeq (cSet 9 false (cCall f_law_shares_by (cCons (cVar 0) (cCons (cVar 1) (cCons (cCall f_law_leaned (cCons (cVar 0) (cCons (cVar 2) (cCons (cVar 3) (cCons (cVar 5) cNil))))) cNil)))))
    (cSeq (cSet 10 false (cLst (cNil))) (cSeq (cIfS (cBin dLt (cBin dAdd (cVar 8) (cCon (.int 1))) (cBlt dLen (cCons (cVar 6) cNil))) (cSeq (cSet 10 false (cCall f_law_shares_by (cCons (cVar 0) (cCons (cVar 1) (cCons (cCall
    f_law_leaned (cCons (cVar 0) (cCons (cVar 2) (cCons (cVar 3) (cCons (cBin dSub (cBin dIx (cVar 6) (cBin dAdd (cVar 8) (cCon (.int 1)))) (cCon (.int 1))) cNil))))) cNil))))) cEnd) (cEnd)) (cSeq (cApp 7 (cTup (cCons (cVar
    5) (cCons (cCall f_law_some_by (cCons (cVar 0) (cCons (cVar 1) (cCons (cVar 3) (cCons (cVar 4) (cCons (cVar 5) cNil)))))) (cCons (cVar 9) (cCons (cVar 10) cNil)))))) cEnd)))
def f_law_known : List D → Rs RV := runE 4 12 (cSeq (cSet 4 false (cCall f_law_crossings (cCons (cVar 0) (cCons (cVar 1) (cCons (cVar 2) (cCons (cVar 3) cNil)))))) (cSeq (cSet 6 false (cBin dAdd (cLst (cCons (cCon (.int 0))
    cNil)) (f_law_known_c1))) (cSeq (cSet 7 true (cLst (cNil))) (cSeq (cFor (iEnumD (cCons (cVar 6) cNil)) (kTup (kCons (kName 8) (kCons (kName 5) kNil))) [5, 8, 9, 10] (f_law_known_l1)) (cSeq (cRet (cVar 7)) cEnd)))))
def f_law_c1 : Env → Rs RV := cLc (iSeq (cBin dAdd (cLst (cCons (cCall f_law_cell (cCons (cVar 0) (cCons (cCon (.int 12)) cNil))) cNil)) (cSl (cVar 0) (some (cCon (.int 13))) (some (cCon (.int 63)))))) (kName 10) none (cCall
    f_law_asked (cCons (cVar 5) (cCons (cVar 10) cNil))) [10]
def f_law_l1 : Env → Rs Fl := cSeq (cSet 9 true (cCall f_some_at (cCons (cVar 6) (cCons (cVar 8) cNil)))) (cSeq (cIfS (cNot (cCall f_law_is (cCons (cVar 9) (cCons (cCall f_law_due (cCons (cVar 5) (cCons (cVar 8) cNil))) cNil))))
    (cSeq (cRet (cCon (.bool false))) cEnd) (cEnd)) (cSeq (cApp 9 (cVar 8)) cEnd))
def f_law : List D → Rs RV := runE 1 11 (cSeq (cTgt (kTup (kCons (kName 1) (kCons (kName 2) (kCons (kName 3) (kCons (kName 4) kNil))))) (cCall f_law_blocks (cCons (cVar 0) (cCons (cCon (.int 10)) cNil)))) (cSeq (cSet 5 false
    (cCall f_law_known (cCons (cVar 1) (cCons (cVar 2) (cCons (cVar 3) (cCons (cVar 4) cNil)))))) (cSeq (cSet 6 false (cCall f_law_copy (cCons (cVar 5) cNil))) (cSeq (cSet 7 false (cBin dAdd (cLst (cCons (cCon (.int 0)) cNil))
    (f_law_c1))) (cSeq (cFor (iSeq (cBin dAdd (cVar 7) (cLst (cCons (cBin dIx (cVar 7) (cCon (.int 1))) (cCons (cCon (.int 0)) cNil))))) (kName 8) [8, 9] (f_law_l1)) (cSeq (cRet (cBin dEq (cVar 6) (cVar 5))) cEnd))))))
end VL

set_option Elab.async false
set_option linter.all false
set_option maxRecDepth 100000
set_option maxHeartbeats 4000000
namespace VL
open PySem PySem.Spec PyProof.Rows L2
theorem Bd.of {m : Nat} {a : Int} (h : a.natAbs < 2 ^ m) : Bd m a := h
theorem f_law_number_ok (c k : Int) (hk : Bd 20 k) : ∃ r : Int, f_law_number [.int c, .int k] = .ok (.sh (.int r)) ∧ 0 ≤ r ∧ r < 2 ^ 28 := by
  have m1 : dMul (.int (c % 2147483629)) (.int 48271) = .ok (.sh (.int (c % 2147483629 * 48271))) := dMul_p (m := 31) (n := 16) (by unfold Bd; omega) (by unfold Bd; decide) (by decide)
  have m2 : dMul (.int 7919) (.int k) = .ok (.sh (.int (7919 * k))) := dMul_p (m := 13) (n := 20) (by unfold Bd; decide) hk (by decide)
  have b2 : Bd 33 (7919 * k) := Bd.mul (m := 13) (n := 20) (by unfold Bd; decide) hk
  have m3 : dMul (.int (7919 * k)) (.int k) = .ok (.sh (.int (7919 * k * k))) := dMul_p b2 hk (by decide)
  obtain ⟨x, hx⟩ : ∃ x, x = (c % 2147483629 * 48271 + 7919 * k * k + 104729) % 2147483647 := ⟨_, rfl⟩
  have bx : Bd 31 x := by unfold Bd; omega
  have m4 : dMul (.int x) (.int x) = .ok (.sh (.int (x * x))) := dMul_p bx bx (by decide)
  obtain ⟨y, hy⟩ : ∃ y, y = x * x % 2147483587 := ⟨_, rfl⟩
  have m5 : dMul (.int 31) (.int k) = .ok (.sh (.int (31 * k))) := dMul_p (m := 13) (n := 20) (by unfold Bd; decide) hk (by decide)
  have b5 : Bd 20 k := hk
  have m6 : dMul (.int (y + 31 * k)) (.int (k + 39373)) = .ok (.sh (.int ((y + 31 * k) * (k + 39373)))) := dMul_p (m := 34) (n := 22) (by unfold Bd at *; omega) (by unfold Bd at *; omega) (by decide)
  refine ⟨(y + 31 * k) * (k + 39373) % 2147483629 / 16, ?_, by omega, by omega⟩
  simp [f_law_number, m1, m2, m3, m5, dMod_p, dDiv_p, ← hx, m4, ← hy, m6]
theorem f_law_cell_ok (ns : List Int) (k : Int) (h0 : 0 ≤ k) (hk : Bd 20 k) : ∃ r : Int, f_law_cell [.list (ns.map .int), .int k] = .ok (.sh (.int r)) := by
  have m5 : dMul (.int 7) (.int k) = .ok (.sh (.int (7 * k))) := dMul_p (m := 13) (n := 20) (by unfold Bd; decide) hk (by decide)
  by_cases h : k < ns.length
  · obtain ⟨n, _, e, _⟩ := dIx_ints (ns := ns) h0 h
    exact ⟨n, by simp [f_law_cell, dLen, h, e]⟩
  · exact ⟨7 * k + 5, by simp [f_law_cell, dLen, h, m5]⟩
/-- what is drawn: each less than its size -/
def Drawn (rs sz : List Int) : Prop := rs.length = sz.length ∧ ∀ (i : Nat) (r s : Int), rs[i]? = some r → sz[i]? = some s → 0 ≤ r ∧ r < s
theorem Drawn.nil {rs : List Int} (h : Drawn rs []) : rs = [] := List.length_eq_zero_iff.mp h.1
theorem Drawn.cons {rs sz : List Int} {s : Int} (h : Drawn rs (s :: sz)) : ∃ r rs', rs = r :: rs' ∧ 0 ≤ r ∧ r < s ∧ Drawn rs' sz := by
  obtain ⟨h1, h2⟩ := h
  cases rs with
  | nil => cases h1
  | cons r rs =>
    obtain ⟨a, b⟩ := h2 0 r s rfl rfl
    exact ⟨r, rs, rfl, a, b, Nat.succ.inj h1, fun i r s x y => h2 (i + 1) r s x y⟩
theorem dPow_lit (a : Int) (n : Nat) (h : (n : Int) ≤ 1000000 ∧ a.natAbs < 2 ^ 64) : dPow (.int a) (.int n) = .ok (.sh (.int (a ^ n))) := by
  have : (0 : Int) ≤ (n : Int) ∧ (n : Int) ≤ 1000000 ∧ a.natAbs < 2 ^ 64 := ⟨by omega, h⟩
  simp only [dPow]
  rw [if_pos this]
  rfl
theorem pow18 : dPow (.int 10) (.int 18) = .ok (.sh (.int 1000000000000000000)) := dPow_lit 10 18 (by decide)
theorem pow17 : dPow (.int 10) (.int 17) = .ok (.sh (.int 100000000000000000)) := dPow_lit 10 17 (by decide)
theorem pow6 : dPow (.int 10) (.int 6) = .ok (.sh (.int 1000000)) := dPow_lit 10 6 (by decide)
theorem pow40 : dPow (.int 10) (.int 40) = .ok (.sh (.int 10000000000000000000000000000000000000000)) := dPow_lit 10 40 (by decide)
def dr_env (c : Int) (sz rs : List Int) (b : Bool) (s6 : Sl) : Env := [.sh (.int c), .sh (.list (sz.map PyData.int)), .ow (.list (rs.map PyData.int)), .sh (.bool b), .un, .un, s6]
theorem f_law_draws_body (c : Int) (sz rs : List Int) (b : Bool) (s6 : Sl) (i : Nat) (s : Int) (hi : i < 200) (hz : rs.length < sizeLine) (p1 : 0 < s) (p2 : s.natAbs < 2 ^ 200) :
    ∃ (ρ2 : Env) (c' x : Int) (s6' : Sl), f_law_draws_l1 [.sh (.int c), .sh (.list (sz.map PyData.int)), .ow (.list (rs.map PyData.int)), .sh (.bool b), .sh (.int (0 + (i : Int))), .sh (.int s), s6] = .ok (.nx ρ2) ∧ ptAll ρ2 [4, 5] = dr_env c' sz (rs ++ [x]) b s6' ∧ 0 ≤ x ∧ x < s := by
  have m := fun a : Int => And.intro (Int.emod_nonneg a (show s ≠ 0 by omega)) (Int.emod_lt_of_pos a p1)
  cases b with
  | true =>
    refine ⟨[.sh (.int (c / s)), .sh (.list (sz.map PyData.int)), .ow (.list (rs.map PyData.int ++ [PyData.int (c % s)])), .sh (.bool true), .sh (.int (0 + (i : Int))), .sh (.int s), s6], c / s, c % s, s6, ?_, ?_, m c⟩
    · simp [f_law_draws_l1, dMod_p p1, dDiv_p p1 p2, hz]
    · simp [dr_env]
  | false =>
    obtain ⟨n1, e1, a1, b1⟩ := f_law_number_ok c i (by unfold Bd; omega)
    by_cases hb : 100000000 < s
    · obtain ⟨n2, e2, a2, b2⟩ := f_law_number_ok c (i + 97) (by unfold Bd; omega)
      obtain ⟨n3, e3, a3, b3⟩ := f_law_number_ok c (i + 181) (by unfold Bd; omega)
      have m1 : dMul (.int n1) (.int 134217757) = .ok (.sh (.int (n1 * 134217757))) := dMul_p (m := 28) (n := 28) (by unfold Bd; omega) (by unfold Bd; decide) (by decide)
      have m2 : dMul (.int (n1 * 134217757 + n2)) (.int 134217757) = .ok (.sh (.int ((n1 * 134217757 + n2) * 134217757))) := dMul_p (m := 60) (n := 28) (by unfold Bd; omega) (by unfold Bd; decide) (by decide)
      refine ⟨[.sh (.int c), .sh (.list (sz.map PyData.int)), .ow (.list (rs.map PyData.int ++ [PyData.int (((n1 * 134217757 + n2) * 134217757 + n3) % s)])), .sh (.bool false), .sh (.int (0 + (i : Int))), .sh (.int s), .sh (.int (n1 * 134217757 + n2))], c, ((n1 * 134217757 + n2) * 134217757 + n3) % s, .sh (.int (n1 * 134217757 + n2)), ?_, ?_, m _⟩
      · simp [f_law_draws_l1, dMod_p p1, hz, hb, e1, e2, e3, m1, m2]
      · simp [dr_env]
    · refine ⟨[.sh (.int c), .sh (.list (sz.map PyData.int)), .ow (.list (rs.map PyData.int ++ [PyData.int (n1 % s)])), .sh (.bool false), .sh (.int (0 + (i : Int))), .sh (.int s), s6], c, n1 % s, s6, ?_, ?_, m _⟩
      · simp [f_law_draws_l1, dMod_p p1, hz, hb, e1]
      · simp [dr_env]
theorem f_law_draws_ok (c : Int) (sz : List Int) (hl : sz.length ≤ 100) (hp : ∀ s ∈ sz, 0 < s ∧ s.natAbs < 2 ^ 200) : ∃ rs, f_law_draws [.int c, .list (sz.map .int)] = .ok (.fr (.list (rs.map .int))) ∧ Drawn rs sz := by
  have hs24 := sz24
  obtain ⟨ρ', e, c', rs, s6, rfl, h1, h2, h3⟩ := forL_ok (k := kTup (kCons (kName 4) (kCons (kName 5) kNil))) (is := [4, 5]) (F := f_law_draws_l1)
    (fun n ρ => ∃ (c1 : Int) (rs : List Int) (s6 : Sl), ρ = dr_env c1 sz rs (decide (1000000000000000000 ≤ c)) s6 ∧ rs.length = n ∧ n ≤ sz.length ∧ ∀ (i : Nat) (r s : Int), rs[i]? = some r → sz[i]? = some s → 0 ≤ r ∧ r < s)
    (enumD 0 (sz.map .int)) 0 (ρ := dr_env c sz [] (decide (1000000000000000000 ≤ c)) .un) ⟨c, [], .un, rfl, rfl, Nat.zero_le _, fun i r s h => by cases i <;> cases h⟩ (by
      rintro i d ρ hd ⟨c1, rs, s6, rfl, hn, hle, hr⟩
      rw [enumD_at, List.getElem?_map] at hd
      cases hs : sz[i]? with
      | none => rw [hs] at hd; cases hd
      | some s =>
        rw [hs] at hd
        cases hd
        have hi : i < sz.length := (List.getElem?_eq_some_iff.mp hs).1
        obtain ⟨p1, p2⟩ := hp s (List.mem_of_getElem? hs)
        obtain ⟨ρ2, c2, x, s62, e2, e3, x0, x1⟩ := f_law_draws_body c1 sz rs (decide (1000000000000000000 ≤ c)) s6 i s (by omega) (by omega) p1 p2
        refine ⟨_, rfl, ρ2, e2, c2, rs ++ [x], s62, e3, by simp; omega, by omega, fun j r t hj ht => ?_⟩
        by_cases e : j < rs.length
        · rw [List.getElem?_append_left e] at hj
          exact hr j r t hj ht
        · rw [List.getElem?_append_right (by omega)] at hj
          have : j = i := by
            have := (List.getElem?_eq_some_iff.mp hj).1
            simp at this
            omega
          subst this
          rw [hs] at ht
          cases ht
          have e2 : j - rs.length = 0 := by omega
          rw [e2] at hj
          cases hj
          exact ⟨x0, x1⟩)
  refine ⟨rs, ?_, ?_, h3⟩
  · unfold dr_env at e
    simp at e
    simp [f_law_draws, pow18, e]
  · rw [h1, Nat.zero_add, enumD_length, List.length_map]
end VL

set_option Elab.async false
set_option linter.all false
set_option maxRecDepth 100000
set_option maxHeartbeats 4000000
namespace VL
open PySem PySem.Spec PyProof.Rows L2
theorem letters_at (i : Int) (h0 : 0 ≤ i) (h : i < 21) : ∃ c : Nat, dIx (.str "bcdfghjklmnpqrstvwxyz") (.int i) = .ok (.sh (.str ⟨#[c]⟩)) := by
  have hl : (Str.ofString "bcdfghjklmnpqrstvwxyz").cps.toList.length = 21 := by decide +kernel
  obtain ⟨x, e, _⟩ := atI_in (xs := (Str.ofString "bcdfghjklmnpqrstvwxyz").cps.toList) h0 (by rw [hl]; exact h)
  refine ⟨x, ?_⟩
  simp only [dIx]
  rw [if_pos (by decide +kernel), e]
def nm_env (c many a p size j : Int) (rs : List Int) (at_ k : Int) (ws : List Str) (w : Str) (s11 : Sl) : Env :=
  [.sh (.int c), .sh (.int many), .sh (.str "bcdfghjklmnpqrstvwxyz"), .sh (.list (rs.map PyData.int)), .sh (.int at_), .ow (.list (ws.map PyData.str)), .sh (.int k), .sh (.int p), .sh (.str w), .sh (.int size), .sh (.int j), s11]
theorem Bd.bool (b : Bool) : Bd 1 (if b then 1 else 0) := by unfold Bd; cases b <;> decide
theorem strlen_add (a b : Str) : (a ++ b).length = a.length + b.length := by
  show (a.cps ++ b.cps).size = _
  rw [Array.size_append]
  rfl
theorem f_law_names_l1_ok (c many p size at_ k r0 r1 r2 r3 r4 r5 : Int) (j : Nat) (ws : List Str) (w : Str) (s10 s11 : Sl) (hj : j < 1000) (hp : 0 ≤ p ∧ p < 13) (h2 : 0 ≤ r2 ∧ r2 < 21) (hw : w.length ≤ j) :
    ∃ (w' : Str) (s11' : Sl), f_law_names_l1 (nm_env c many 0 p size (0 + (j : Int)) [r0, r1, r2, r3, r4, r5] at_ k ws w s11) = .ok (.nx (nm_env c many 0 p size (0 + (j : Int)) [r0, r1, r2, r3, r4, r5] at_ k ws w' s11')) ∧ w'.length = w.length + 1 := by
  have m1 : dMul (.int j) (.int j) = .ok (.sh (.int (j * j))) := dMul_p (m := 10) (n := 10) (by unfold Bd; omega) (by unfold Bd; omega) (by decide)
  have m2 : dMul (.int 4) (.int p) = .ok (.sh (.int (4 * p))) := dMul_p (m := 10) (n := 10) (by unfold Bd; decide) (by unfold Bd; omega) (by decide)
  have m3 := fun b : Bool => dMul_p (m := 10) (n := 1) (a := 4 * p) (by unfold Bd; omega) (Bd.bool b) (by decide)
  obtain ⟨b, hb⟩ : ∃ b : Bool, b = decide ((j : Int) = at_) := ⟨_, rfl⟩
  obtain ⟨x, e⟩ := letters_at ((r2 + j * j + 4 * p * (if b then 1 else 0)) % 21) (Int.emod_nonneg _ (by decide)) (Int.emod_lt_of_pos _ (by decide))
  have hz : w.length + 1 ≤ sizeLine := by rw [sz24]; omega
  have m3b := m3 b
  refine ⟨w ++ ⟨#[x]⟩, .sh (.int (r2 + j * j + 4 * p * (if b then 1 else 0))), ?_, by rw [strlen_add]; rfl⟩
  have hx : (⟨#[x]⟩ : Str).length = 1 := rfl
  have hadd : dAdd (.str w) (.str ⟨#[x]⟩) = .ok (.sh (.str (w ++ ⟨#[x]⟩))) := by
    simp only [dAdd]
    rw [if_pos (by rw [hx]; exact hz)]
  simp only [f_law_names_l1, nm_env]
  simp [m1, m2, m3b, dInt, ← hb, dMod_p, e, hadd]
theorem forL_nm (c many p size at_ k r0 r1 r2 r3 r4 r5 : Int) (m : Nat) (ws : List Str) (hm : m < 1000) (hp : 0 ≤ p ∧ p < 13) (h2 : 0 ≤ r2 ∧ r2 < 21) (s11 : Sl) :
    ∃ (w' : Str) (s10 s11' : Sl), forL (kName 10) [] f_law_names_l1 (rangeD 0 m) [.sh (.int c), .sh (.int many), .sh (.str "bcdfghjklmnpqrstvwxyz"), .sh (.list ([r0, r1, r2, r3, r4, r5].map PyData.int)), .sh (.int at_), .ow (.list (ws.map PyData.str)), .sh (.int k), .sh (.int p), .sh (.str ""), .sh (.int size), .un, s11]
      = .ok (.nx [.sh (.int c), .sh (.int many), .sh (.str "bcdfghjklmnpqrstvwxyz"), .sh (.list ([r0, r1, r2, r3, r4, r5].map PyData.int)), .sh (.int at_), .ow (.list (ws.map PyData.str)), .sh (.int k), .sh (.int p), .sh (.str w'), .sh (.int size), s10, s11']) := by
  obtain ⟨ρ', e, w, s10, s11, rfl, _⟩ := forL_ok (k := kName 10) (is := []) (F := f_law_names_l1)
    (fun n ρ => ∃ (w : Str) (s10 s11 : Sl), ρ = [.sh (.int c), .sh (.int many), .sh (.str "bcdfghjklmnpqrstvwxyz"), .sh (.list ([r0, r1, r2, r3, r4, r5].map PyData.int)), .sh (.int at_), .ow (.list (ws.map PyData.str)), .sh (.int k), .sh (.int p), .sh (.str w), .sh (.int size), s10, s11] ∧ w.length ≤ n)
    (rangeD 0 m) 0 ⟨"", .un, s11, rfl, Nat.le_refl _⟩ (by
      rintro i d ρ hd ⟨w, s10, s11, rfl, hw⟩
      have hi : i < m := by
        have := (List.getElem?_eq_some_iff.mp hd).1
        simp [rangeD] at this
        omega
      have ed : d = .int (0 + (i : Int)) := by
        unfold rangeD at hd
        rw [List.getElem?_map, List.getElem?_range (by omega)] at hd
        cases hd
        rfl
      subst ed
      obtain ⟨w', s11', e, hl⟩ := f_law_names_l1_ok c many p size at_ k r0 r1 r2 r3 r4 r5 i ws w s10 s11 (by omega) hp h2 (by omega)
      exact ⟨_, rfl, _, e, w', _, _, rfl, by omega⟩)
  exact ⟨w, s10, s11, e⟩
theorem f_law_names_l2_ok (c many at_ s7 r0 r1 r2 r3 r4 r5 : Int) (i : Nat) (ws : List Str) (s11 : Sl) (hi : i < 1000) (hz : ws.length < sizeLine) (h0 : 0 ≤ r0 ∧ r0 < 12) (h2 : 0 ≤ r2 ∧ r2 < 21) (h3 : 0 ≤ r3 ∧ r3 < 12) (h4 : 0 ≤ r4 ∧ r4 < 13) (h5 : 0 ≤ r5 ∧ r5 < 2) :
    ∃ (w' : Str) (ρ : Env) (s11' : Sl), f_law_names_l2 [.sh (.int c), .sh (.int many), .sh (.str "bcdfghjklmnpqrstvwxyz"), .sh (.list ([r0, r1, r2, r3, r4, r5].map PyData.int)), .sh (.int at_), .ow (.list (ws.map PyData.str)), .sh (.int (0 + (i : Int))), .un, .un, .un, .un, s11]
      = .ok (.nx ρ) ∧ ptAll ρ [6, 7, 8, 9, 10] = [.sh (.int c), .sh (.int many), .sh (.str "bcdfghjklmnpqrstvwxyz"), .sh (.list ([r0, r1, r2, r3, r4, r5].map PyData.int)), .sh (.int at_), .ow (.list ((ws ++ [w']).map PyData.str)), .un, .un, .un, .un, .un, s11'] := by
  have m1 : dMul (.int (1 + r3)) (.int i) = .ok (.sh (.int ((1 + r3) * i))) := dMul_p (m := 10) (n := 10) (by unfold Bd; omega) (by unfold Bd; omega) (by decide)
  obtain ⟨p, hp⟩ : ∃ p, p = ((1 + r3) * i + r4) % 13 := ⟨_, rfl⟩
  have m2 : dMul (.int 5) (.int p) = .ok (.sh (.int (5 * p))) := dMul_p (m := 10) (n := 10) (by unfold Bd; decide) (by unfold Bd; omega) (by decide)
  have m3 : dMul (.int (5 * p)) (.int (1 - r5)) = .ok (.sh (.int (5 * p * (1 - r5)))) := dMul_p (m := 10) (n := 10) (by unfold Bd; omega) (by unfold Bd; omega) (by decide)
  obtain ⟨z, hz2⟩ : ∃ z, z = (r0 + 5 * p * (1 - r5)) % 12 := ⟨_, rfl⟩
  obtain ⟨m, hm⟩ : ∃ m : Nat, 1 + z = m := ⟨(1 + z).toNat, by omega⟩
  obtain ⟨w', s10, s11', e⟩ := forL_nm c many p (1 + z) at_ (0 + (i : Int)) r0 r1 r2 r3 r4 r5 m ws (by omega) (by omega) h2 s11
  have hR : inR m = true := by unfold inR; simp; omega
  refine ⟨w', [.sh (.int c), .sh (.int many), .sh (.str "bcdfghjklmnpqrstvwxyz"), .sh (.list ([r0, r1, r2, r3, r4, r5].map PyData.int)), .sh (.int at_), .ow (.list (ws.map PyData.str ++ [PyData.str w'])), .sh (.int i), .sh (.int p), .sh (.str w'), .sh (.int (1 + z)), s10, s11'], s11', ?_, by simp⟩
  · simp only [Int.zero_add, List.map_cons, List.map_nil] at e
    simp [f_law_names_l2, m1, dMod_p, ← hp, m2, m3, ← hz2]
    rw [hm] at e
    simp [hm, hR, e, hz]
theorem f_law_names_ok (c many : Int) (h : 0 ≤ many ∧ many < 100) : ∃ ws : List Str, f_law_names [.int c, .int many] = .ok (.fr (.list (ws.map PyData.str))) ∧ ws.length = many := by
  have hs24 := sz24
  obtain ⟨rs, e, hd⟩ := f_law_draws_ok c [12, 12, 21, 12, 13, 2] (by simp) (by simp)
  obtain ⟨r0, rs, rfl, a0, b0, hd⟩ := hd.cons
  obtain ⟨r1, rs, rfl, a1, b1, hd⟩ := hd.cons
  obtain ⟨r2, rs, rfl, a2, b2, hd⟩ := hd.cons
  obtain ⟨r3, rs, rfl, a3, b3, hd⟩ := hd.cons
  obtain ⟨r4, rs, rfl, a4, b4, hd⟩ := hd.cons
  obtain ⟨r5, rs, rfl, a5, b5, hd⟩ := hd.cons
  cases hd.nil
  have hm1 : dMod (.int r1) (.int (1 + r0)) = .ok (.sh (.int (r1 % (1 + r0)))) := dMod_p (by omega)
  have hm2 := Int.emod_nonneg r1 (show 1 + r0 ≠ 0 by omega)
  have hm3 := Int.emod_lt_of_pos r1 (show 0 < 1 + r0 by omega)
  have m1 : dMul (.int (r1 % (1 + r0))) (.int r5) = .ok (.sh (.int (r1 % (1 + r0) * r5))) := dMul_p (m := 10) (n := 10) (by unfold Bd; omega) (by unfold Bd; omega) (by decide)
  obtain ⟨at_, ha⟩ : ∃ a, a = r1 % (1 + r0) * r5 := ⟨_, rfl⟩
  obtain ⟨ρ', e2, ws, s11, rfl, hl⟩ := forL_ok (k := kName 6) (is := [6, 7, 8, 9, 10]) (F := f_law_names_l2)
    (fun n ρ => ∃ (ws : List Str) (s11 : Sl), ρ = [.sh (.int c), .sh (.int many), .sh (.str "bcdfghjklmnpqrstvwxyz"), .sh (.list ([r0, r1, r2, r3, r4, r5].map PyData.int)), .sh (.int at_), .ow (.list (ws.map PyData.str)), .un, .un, .un, .un, .un, s11] ∧ ws.length = n)
    (rangeD 0 many) 0 ⟨[], .un, rfl, rfl⟩ (by
      rintro i d ρ hd ⟨ws, s11, rfl, hw⟩
      obtain ⟨rfl, hi⟩ := rangeD_at hd
      obtain ⟨w', ρ2, s11', e1, e2⟩ := f_law_names_l2_ok c many at_ 0 r0 r1 r2 r3 r4 r5 i ws s11 (by omega) (by omega) ⟨a0, b0⟩ ⟨a2, b2⟩ ⟨a3, b3⟩ ⟨a4, b4⟩ ⟨a5, b5⟩
      exact ⟨_, rfl, _, e1, ws ++ [w'], s11', e2, by simp; omega⟩)
  have hR : inR many = true := inR_of (by omega)
  refine ⟨ws, ?_, ?_⟩
  · simp only [List.map_cons, List.map_nil] at e e2
    simp [f_law_names, e, hm1, m1, ← ha, hR, e2]
  · rw [hl, rangeD_len]
    omega
end VL

set_option Elab.async false
set_option linter.all false
set_option maxRecDepth 100000
set_option maxHeartbeats 4000000
namespace VL
open PySem PySem.Spec PyProof.Rows L2
def RowOk (b t : Int) (y : D) : Prop := ∃ r0 r1 r2 r3 : Int, y = .list [.int r0, .int r1, .int r2, .int r3] ∧ (0 ≤ r0 ∧ r0 < 2) ∧ (0 ≤ r1 ∧ r1 < b) ∧ (0 ≤ r2 ∧ r2 < t) ∧ (0 ≤ r3 ∧ r3 < 2)
def Ruling (d : D) : Prop := ∃ (a c : D) (s : Str), d = .tuple [a, .str s, c]
theorem f_law_blocks_c1_ok (ns : List Int) (most h0 h1 h2 h3 h4 t : Int) (words : D) (s5 s6 s7 s8 s9 s10 s11 : Sl) (b0 : 0 ≤ h0 ∧ h0 < 11) (b1 : 0 ≤ h1 ∧ h1 < 5) (bt : 0 < t ∧ t.natAbs < 2 ^ 200) :
    ∃ rows, f_law_blocks_c1 [.sh (.list (ns.map .int)), .sh (.int most), .sh (.list [.int h0, .int h1, .int h2, .int h3, .int h4]), .sh words, .sh (.int t), s5, s6, s7, s8, s9, s10, s11] = .ok (.fr (.list rows)) ∧ (∀ y : D, y ∈ rows → RowOk (1 + h1) t y) ∧ rows.length ≤ 10 := by
  have hR : inR h0 = true := inR_of (by omega)
  obtain ⟨rows, e, q, hl⟩ := compL_all (k := kName 11) (f := cCall f_law_draws (cCons (cCall f_law_cell (cCons (cVar 0) (cCons (cBin dAdd (cCon (.int 2)) (cVar 11)) cNil)))
    (cCons (cLst (cCons (cCon (.int 2)) (cCons (cBin dAdd (cCon (.int 1)) (cBin dIx (cVar 2) (cCon (.int 1)))) (cCons (cVar 4) (cCons (cCon (.int 2)) cNil))))) cNil)))
    (ρ := [.sh (.list (ns.map .int)), .sh (.int most), .sh (.list [.int h0, .int h1, .int h2, .int h3, .int h4]), .sh words, .sh (.int t), s5, s6, s7, s8, s9, s10, .un]) (RowOk (1 + h1) t) (ds := rangeD 0 h0) (by
      intro d hd
      obtain ⟨i, hi⟩ := List.getElem?_of_mem hd
      obtain ⟨rfl, hlt⟩ := rangeD_at hi
      obtain ⟨r, er⟩ := f_law_cell_ok ns (2 + (0 + (i : Int))) (by omega) (by unfold Bd; omega)
      obtain ⟨rs, ed, dr⟩ := f_law_draws_ok r [2, 1 + h1, t, 2] (by simp) (by
        intro s hs
        simp at hs
        rcases hs with rfl | rfl | rfl | rfl <;> omega)
      obtain ⟨r0, rs, rfl, a0, c0, dr⟩ := dr.cons
      obtain ⟨r1, rs, rfl, a1, c1, dr⟩ := dr.cons
      obtain ⟨r2, rs, rfl, a2, c2, dr⟩ := dr.cons
      obtain ⟨r3, rs, rfl, a3, c3, dr⟩ := dr.cons
      cases dr.nil
      refine ⟨_, rfl, .fr (.list [.int r0, .int r1, .int r2, .int r3]), _, ?_, rfl, r0, r1, r2, r3, rfl, ⟨a0, c0⟩, ⟨a1, c1⟩, ⟨a2, c2⟩, a3, c3⟩
      simp only [List.map_cons, List.map_nil] at ed
      rw [Int.zero_add] at er
      simp [er, ed])
  have hl2 : (rangeD 0 h0).length ≤ 10 := by rw [rangeD_len]; omega
  have hs : (rangeD 0 h0).length ≤ sizeLine := by rw [sz24]; omega
  refine ⟨rows, ?_, q, by omega⟩
  simp [f_law_blocks_c1, hR, e, hs]
theorem f_law_blocks_l1_ok (script rows : D) (most h0 h1 h2 h3 h4 t b : Int) (ws : List Str) (book : List D) (row : D) (s11 : Sl) (hr : RowOk b t row) (hb : b ≤ ws.length) (hz : book.length < sizeLine) :
    ∃ ρ d, f_law_blocks_l1 [.sh script, .sh (.int most), .sh (.list [.int h0, .int h1, .int h2, .int h3, .int h4]), .sh (.list (ws.map .str)), .sh (.int t), .sh rows, .ow (.list book), .sh row, .un, .un, .un, s11] = .ok (.nx ρ) ∧
      ptAll ρ [8, 9] = [.sh script, .sh (.int most), .sh (.list [.int h0, .int h1, .int h2, .int h3, .int h4]), .sh (.list (ws.map .str)), .sh (.int t), .sh rows, .ow (.list (book ++ [d])), .sh row, .un, .un, .un, s11] ∧ Ruling d := by
  obtain ⟨r0, r1, r2, r3, rfl, a0, a1, a2, a3⟩ := hr
  obtain ⟨w, _, ew, _⟩ := dIx_map (g := PyData.str) (xs := ws) (i := r1) a1.1 (by omega)
  have h01 : r0 = 0 ∨ r0 = 1 := by omega
  by_cases h31 : h3 = 1
  · subst h31
    rcases h01 with rfl | rfl
    · refine ⟨_, _, by simp [f_law_blocks_l1, ew, hz]; rfl, by simp; exact ⟨rfl, rfl, rfl⟩, _, _, _, rfl⟩
    · refine ⟨_, _, by simp [f_law_blocks_l1, ew, hz]; rfl, by simp; exact ⟨rfl, rfl, rfl⟩, _, _, _, rfl⟩
  · rcases h01 with rfl | rfl
    · refine ⟨_, _, by simp [f_law_blocks_l1, ew, hz, h31]; rfl, by simp; exact ⟨rfl, rfl, rfl⟩, _, _, _, rfl⟩
    · refine ⟨_, _, by simp [f_law_blocks_l1, ew, hz, h31]; rfl, by simp; exact ⟨rfl, rfl, rfl⟩, _, _, _, rfl⟩
theorem f_law_blocks_l_ok (script : D) (rows : List D) (most h0 h1 h2 h3 h4 t b : Int) (ws : List Str) (s11 : Sl) (hr : ∀ y : D, y ∈ rows → RowOk b t y) (hb : b ≤ ws.length) (hz : rows.length ≤ 10) :
    ∃ (book : List D) (s7 : Sl), forL (kName 7) [8, 9] f_law_blocks_l1 rows [.sh script, .sh (.int most), .sh (.list [.int h0, .int h1, .int h2, .int h3, .int h4]), .sh (.list (ws.map .str)), .sh (.int t), .sh (.list rows), .ow (.list []), .un, .un, .un, .un, s11] =
      .ok (.nx [.sh script, .sh (.int most), .sh (.list [.int h0, .int h1, .int h2, .int h3, .int h4]), .sh (.list (ws.map .str)), .sh (.int t), .sh (.list rows), .ow (.list book), s7, .un, .un, .un, s11]) ∧ book.length = rows.length ∧ ∀ d ∈ book, Ruling d := by
  obtain ⟨ρ', e2, book, s7, rfl, hl, hq⟩ := forL_ok (k := kName 7) (is := [8, 9]) (F := f_law_blocks_l1)
    (fun n ρ => ∃ (book : List D) (s7 : Sl), ρ = [.sh script, .sh (.int most), .sh (.list [.int h0, .int h1, .int h2, .int h3, .int h4]), .sh (.list (ws.map .str)), .sh (.int t), .sh (.list rows), .ow (.list book), s7, .un, .un, .un, s11] ∧ book.length = n ∧ ∀ d ∈ book, Ruling d)
    rows 0 ⟨[], .un, rfl, rfl, fun _ h => absurd h List.not_mem_nil⟩ (by
      rintro i d ρ hd ⟨book, s7, rfl, hw, hq⟩
      have hi := (List.getElem?_eq_some_iff.mp hd).1
      obtain ⟨ρ2, d2, e1, e2, h2⟩ := f_law_blocks_l1_ok script (.list rows) most h0 h1 h2 h3 h4 t b ws book d s11 (hr d (List.mem_of_getElem? hd)) hb (by rw [sz24]; omega)
      refine ⟨_, rfl, _, e1, book ++ [d2], .sh d, e2, by simp; omega, fun z m => ?_⟩
      rcases List.mem_append.mp m with m | m
      · exact hq z m
      · rw [List.mem_singleton.mp m]; exact h2)
  exact ⟨book, s7, e2, by omega, hq⟩
/-- a book as it is made: rulings, homes, weights, a side -/
def BookOk (r : D) : Prop := ∃ (book : List D) (homes weights : List Int) (side : Str), r = .tuple [.list book, .list (homes.map .int), .list (weights.map .int), .str side] ∧ homes.length = book.length ∧ weights.length = book.length ∧ book.length ≤ 10 ∧
  (∀ d ∈ book, Ruling d) ∧ (∀ w ∈ weights, 0 < w ∧ w < 2 ^ 70)
theorem f_law_blocks_ok (ns : List Int) : ∃ r, f_law_blocks [.list (ns.map .int), .int 10] = .ok (.sh r) ∧ BookOk r := by
  obtain ⟨c0, ec0⟩ := f_law_cell_ok ns 0 (by decide) (by unfold Bd; decide)
  obtain ⟨c1, ec1⟩ := f_law_cell_ok ns 1 (by decide) (by unfold Bd; decide)
  obtain ⟨rs, ed, dr⟩ := f_law_draws_ok c0 [11, 5, 6, 2, 2] (by simp) (by simp)
  obtain ⟨h0, rs, rfl, a0, b0, dr⟩ := dr.cons
  obtain ⟨h1, rs, rfl, a1, b1, dr⟩ := dr.cons
  obtain ⟨h2, rs, rfl, a2, b2, dr⟩ := dr.cons
  obtain ⟨h3, rs, rfl, a3, b3, dr⟩ := dr.cons
  obtain ⟨h4, rs, rfl, a4, b4, dr⟩ := dr.cons
  cases dr.nil
  simp only [List.map_cons, List.map_nil] at ed
  obtain ⟨ws, ew, hw⟩ := f_law_names_ok c1 (1 + h1) (by omega)
  obtain ⟨t, ht, et, _⟩ := dIx_map (g := PyData.int) (xs := [1, 3, 12, 1000000, 100000000000000000, 1000000000000000000]) (i := h2) a2 (by simp; omega)
  simp only [List.map_cons, List.map_nil] at et
  have bt : 0 < t ∧ t < 2 ^ 61 := by
    simp at ht
    rcases ht with rfl | rfl | rfl | rfl | rfl | rfl <;> decide
  obtain ⟨rows, er, hr, hlen⟩ := f_law_blocks_c1_ok ns 10 h0 h1 h2 h3 h4 t (.list (ws.map .str)) .un .un .un .un .un .un .un ⟨a0, b0⟩ ⟨a1, b1⟩ ⟨bt.1, by omega⟩
  obtain ⟨book, s7, eb, hb, hq⟩ := f_law_blocks_l_ok (.list (ns.map .int)) rows 10 h0 h1 h2 h3 h4 t (1 + h1) ws .un hr (by omega) hlen
  obtain ⟨s, es⟩ : ∃ s : Str, dIx (.list [.str "for", .str "against"]) (.int h4) = .ok (.sh (.str s)) := by
    have : h4 = 0 ∨ h4 = 1 := by omega
    rcases this with rfl | rfl
    · exact ⟨"for", by simp⟩
    · exact ⟨"against", by simp⟩
  have hs : rows.length ≤ sizeLine := by rw [sz24]; omega
  have c2 : ∃ homes : List Int, f_law_blocks_c2 [.sh (.list (ns.map .int)), .sh (.int 10), .sh (.list [.int h0, .int h1, .int h2, .int h3, .int h4]), .sh (.list (ws.map .str)), .sh (.int t), .sh (.list rows), .sh (.list book), s7, .un, .un, .sh (.str s), .un] = .ok (.fr (.list (homes.map .int))) ∧ homes.length = rows.length := by
    obtain ⟨ys, e, q, hl⟩ := compL_all (k := kName 7) (f := cBin dIx (cVar 7) (cCon (.int 1))) (ρ := [.sh (.list (ns.map .int)), .sh (.int 10), .sh (.list [.int h0, .int h1, .int h2, .int h3, .int h4]), .sh (.list (ws.map .str)), .sh (.int t), .sh (.list rows), .sh (.list book), .un, .un, .un, .sh (.str s), .un])
      (fun y => ∃ i : Int, y = .int i ∧ True) (ds := rows) (by
        intro d hd
        obtain ⟨r0, r1, r2, r3, rfl, _⟩ := hr d hd
        exact ⟨_, rfl, .sh (.int r1), _, by simp, rfl, r1, rfl, trivial⟩)
    obtain ⟨homes, rfl, _, hl2⟩ := map_of q
    exact ⟨homes, by simp [f_law_blocks_c2, e, hs], by omega⟩
  have c3 : ∃ weights : List Int, f_law_blocks_c3 [.sh (.list (ns.map .int)), .sh (.int 10), .sh (.list [.int h0, .int h1, .int h2, .int h3, .int h4]), .sh (.list (ws.map .str)), .sh (.int t), .sh (.list rows), .sh (.list book), s7, .un, .un, .sh (.str s), .un] = .ok (.fr (.list (weights.map .int))) ∧ weights.length = rows.length ∧ ∀ w ∈ weights, 0 < w ∧ w < 2 ^ 70 := by
    obtain ⟨ys, e, q, hl⟩ := compL_all (k := kName 7) (f := cBin dAdd (cCon (.int 1)) (cBin dIx (cVar 7) (cCon (.int 2)))) (ρ := [.sh (.list (ns.map .int)), .sh (.int 10), .sh (.list [.int h0, .int h1, .int h2, .int h3, .int h4]), .sh (.list (ws.map .str)), .sh (.int t), .sh (.list rows), .sh (.list book), .un, .un, .un, .sh (.str s), .un])
      (fun y => ∃ i : Int, y = .int i ∧ 0 < i ∧ i < 2 ^ 70) (ds := rows) (by
        intro d hd
        obtain ⟨r0, r1, r2, r3, rfl, _, _, q, _⟩ := hr d hd
        exact ⟨_, rfl, .sh (.int (1 + r2)), _, by simp, rfl, 1 + r2, rfl, by omega, by omega⟩)
    obtain ⟨weights, rfl, q2, hl2⟩ := map_of q
    exact ⟨weights, by simp [f_law_blocks_c3, e, hs], by omega, q2⟩
  obtain ⟨homes, ec2, hl2⟩ := c2
  obtain ⟨weights, ec3, hl3, hq3⟩ := c3
  refine ⟨_, ?_, book, homes, weights, s, rfl, by omega, by omega, by omega, hq, hq3⟩
  simp [f_law_blocks, ec0, ec1, ed, ew, pow6, pow17, pow18, et, er, eb, es, ec2, ec3]
end VL

set_option Elab.async false
set_option linter.all false
set_option maxRecDepth 100000
set_option maxHeartbeats 4000000
namespace VL
open PySem PySem.Spec PyProof.Rows L2
theorem sum_bd {B : Int} (hB : 0 ≤ B) : ∀ {ws : List Int}, (∀ w ∈ ws, 0 < w ∧ w < B) → 0 ≤ ws.sum ∧ ws.sum ≤ ws.length * B
  | [], _ => by simp
  | w :: ws, h => by
    obtain ⟨a, b⟩ := sum_bd hB (ws := ws) fun x m => h x (List.mem_cons_of_mem _ m)
    obtain ⟨c, d⟩ := h w List.mem_cons_self
    rw [List.sum_cons, List.length_cons]
    have : ((ws.length + 1 : Nat) : Int) * B = ws.length * B + B := by rw [Int.natCast_add, Int.add_mul]; simp
    omega
section
variable (book : List D) (homes weights : List Int) (side : Str) (hh : homes.length = book.length) (hw : weights.length = book.length) (hl : book.length ≤ 10) (hb : ∀ d ∈ book, Ruling d) (hp : ∀ w ∈ weights, 0 < w ∧ w < 2 ^ 70)
include hh hw hl hb hp
theorem cross_c1 (b : Int) (s4 s6 s7 s8 s9 : Sl) : ∃ ms : List Int, f_law_crossings_c1 [.sh (.list book), .sh (.list (homes.map .int)), .sh (.list (weights.map .int)), .sh (.str side), s4, .sh (.int b), s6, s7, s8, s9] = .ok (.fr (.list (ms.map .int))) ∧ (∀ w ∈ ms, 0 < w ∧ w < 2 ^ 70) ∧ ms.length ≤ 10 := by
  obtain ⟨ys, e, q, h2⟩ := compL_ok (k := kTup (kCons (kName 8) (kCons (kName 9) kNil))) (c := some (cAnd (cBin dEq (cBin dIx (cVar 1) (cVar 8)) (cVar 5)) (cBin dEq (cBin dIx (cVar 9) (cCon (.int 1))) (cVar 3)))) (f := cBin dIx (cVar 2) (cVar 8))
    (ρ := [.sh (.list book), .sh (.list (homes.map .int)), .sh (.list (weights.map .int)), .sh (.str side), s4, .sh (.int b), s6, s7, .un, .un]) (fun y => ∃ i : Int, y = .int i ∧ 0 < i ∧ i < 2 ^ 70) (ds := enumD 0 book) (by
      intro d hd
      obtain ⟨i, one, rfl, hi⟩ := enumD_mem hd
      obtain ⟨a, c, s, rfl⟩ := hb one (List.mem_of_getElem? hi)
      have hlt := (List.getElem?_eq_some_iff.mp hi).1
      obtain ⟨h, _, e1, _⟩ := dIx_ints (ns := homes) (i := (i : Int)) (by omega) (by omega)
      obtain ⟨w, hm, e2, _⟩ := dIx_ints (ns := weights) (i := (i : Int)) (by omega) (by omega)
      refine ⟨_, rfl, decide (h = b) && (s == side), ?_, fun _ => ⟨.sh (.int w), .int w, ?_, rfl, w, rfl, hp w hm⟩⟩
      · by_cases q : h = b
        · simp [cTest, e1, q]
        · simp [cTest, e1, q]
      · simp [e2])
  obtain ⟨ms, rfl, q2, h3⟩ := map_of q
  have h4 : (enumD 0 book).length = book.length := enumD_length 0 book
  have hs : (enumD 0 book).length ≤ sizeLine := by rw [sz24]; omega
  refine ⟨ms, ?_, q2, by omega⟩
  simp [f_law_crossings_c1, e, hs]
theorem cross_c2 (b : Int) (s4 s6 s7 s8 s9 : Sl) : ∃ ms : List Int, f_law_crossings_c2 [.sh (.list book), .sh (.list (homes.map .int)), .sh (.list (weights.map .int)), .sh (.str side), s4, .sh (.int b), s6, s7, s8, s9] = .ok (.fr (.list (ms.map .int))) ∧ (∀ w ∈ ms, 0 < w ∧ w < 2 ^ 70) ∧ ms.length ≤ 10 := by
  obtain ⟨ys, e, q, h2⟩ := compL_ok (k := kTup (kCons (kName 8) (kCons (kName 9) kNil))) (c := some (cAnd (cBin dEq (cBin dIx (cVar 1) (cVar 8)) (cVar 5)) (cBin dNe (cBin dIx (cVar 9) (cCon (.int 1))) (cVar 3)))) (f := cBin dIx (cVar 2) (cVar 8))
    (ρ := [.sh (.list book), .sh (.list (homes.map .int)), .sh (.list (weights.map .int)), .sh (.str side), s4, .sh (.int b), s6, s7, .un, .un]) (fun y => ∃ i : Int, y = .int i ∧ 0 < i ∧ i < 2 ^ 70) (ds := enumD 0 book) (by
      intro d hd
      obtain ⟨i, one, rfl, hi⟩ := enumD_mem hd
      obtain ⟨a, c, s, rfl⟩ := hb one (List.mem_of_getElem? hi)
      have hlt := (List.getElem?_eq_some_iff.mp hi).1
      obtain ⟨h, _, e1, _⟩ := dIx_ints (ns := homes) (i := (i : Int)) (by omega) (by omega)
      obtain ⟨w, hm, e2, _⟩ := dIx_ints (ns := weights) (i := (i : Int)) (by omega) (by omega)
      refine ⟨_, rfl, decide (h = b) && !(s == side), ?_, fun _ => ⟨.sh (.int w), .int w, ?_, rfl, w, rfl, hp w hm⟩⟩
      · by_cases q : h = b
        · simp [cTest, e1, q]
        · simp [cTest, e1, q]
      · simp [e2])
  obtain ⟨ms, rfl, q2, h3⟩ := map_of q
  have h4 : (enumD 0 book).length = book.length := enumD_length 0 book
  have hs : (enumD 0 book).length ≤ sizeLine := by rw [sz24]; omega
  refine ⟨ms, ?_, q2, by omega⟩
  simp [f_law_crossings_c2, e, hs]
end
/-- a dict of whole numbers by whole numbers -/
def DOk (ds : List (D × D)) : Prop := ∀ p ∈ ds, ∃ k v : Int, p = (.int k, .int v) ∧ 0 ≤ v ∧ v < 2 ^ 80
theorem DOk.isT {ds : List (D × D)} (h : DOk ds) : isT ds = false := by
  cases ds with
  | nil => rfl
  | cons p r =>
    obtain ⟨k, v, rfl, _⟩ := h p List.mem_cons_self
    rfl
theorem DOk.put {ds : List (D × D)} (h : DOk ds) {k v : Int} (hv : 0 ≤ v ∧ v < 2 ^ 80) : DOk (dPut (.inl k) (.int v) ds) ∧ (dPut (.inl k) (.int v) ds).length ≤ ds.length + 1 := by
  unfold dPut
  split
  · refine ⟨fun p hp => ?_, by rw [List.length_map]; omega⟩
    obtain ⟨q, hq, rfl⟩ := List.mem_map.mp hp
    obtain ⟨k', v', rfl, h2⟩ := h q hq
    split
    · exact ⟨k', v, rfl, hv⟩
    · exact ⟨k', v', rfl, h2⟩
  · refine ⟨fun p hp => ?_, by rw [List.length_append]; simp⟩
    rcases List.mem_append.mp hp with m | m
    · exact h p m
    · rw [List.mem_singleton.mp m]; exact ⟨k, v, rfl, hv⟩
theorem DOk.look : ∀ {ds : List (D × D)}, DOk ds → ∀ {k : Key} {d : D}, dLook k ds = some d → ∃ v : Int, d = .int v ∧ 0 ≤ v ∧ v < 2 ^ 80
  | [], _, k, d, e => by cases e
  | p :: r, h, k, d, e => by
    unfold dLook at e
    split at e
    · obtain ⟨k', v, rfl, hv⟩ := h p List.mem_cons_self
      cases e
      exact ⟨v, rfl, hv⟩
    · exact DOk.look (ds := r) (fun p m => h p (List.mem_cons_of_mem _ m)) e
theorem look_at {k : Int} {v : D} : ∀ {ds : List (D × D)}, (PyData.int k, v) ∈ ds → ∃ d, dLook (.inl k) ds = some d
  | p :: r, h => by
    unfold dLook
    split
    · exact ⟨_, rfl⟩
    · rename_i n
      rcases List.mem_cons.mp h with e | e
      · subst e; exact absurd rfl n
      · exact look_at e
theorem DOk.vals {ds : List (D × D)} (h : DOk ds) : ∃ vs : List Int, dVals ds ds = vs.map .int ∧ (∀ v ∈ vs, 0 ≤ v ∧ v < 2 ^ 80) ∧ vs.length = ds.length := by
  obtain ⟨vs, e, q, hl⟩ := map_of (ys := dVals ds ds) (g := PyData.int) (Q := fun v => 0 ≤ v ∧ v < 2 ^ 80) fun y hy => by
    unfold dVals at hy
    obtain ⟨p, hp, rfl⟩ := List.mem_map.mp hy
    obtain ⟨k, v, rfl, _⟩ := h p hp
    obtain ⟨d, e⟩ := look_at hp
    obtain ⟨v', rfl, hv⟩ := h.look e
    refine ⟨v', ?_, hv⟩
    show ((some (Sum.inl k : Key)).bind _).getD _ = _
    rw [Option.bind_some, e]
    rfl
  exact ⟨vs, e, q, by rw [hl]; unfold dVals; rw [List.length_map]⟩
theorem insU_len (k : Int) : ∀ l : List Int, (insU k l).length ≤ l.length + 1
  | [] => by simp [insU]
  | x :: r => by
    unfold insU
    split
    · simp
    · split
      · simp
      · have := insU_len k r
        simp only [List.length_cons]
        omega
theorem ssetI_len : ∀ l : List Int, (ssetI l).length ≤ l.length
  | [] => by simp [ssetI]
  | x :: r => by
    have := ssetI_len r
    have := insU_len x (ssetI r)
    unfold ssetI at *
    rw [List.foldr_cons, List.length_cons]
    omega
theorem dSset_ints {ns : List Int} (h : ns.length < 64) : dSset (.list (ns.map PyData.int)) = .ok (.fr (.list ((ssetI ns).map PyData.int))) := by
  simp only [dSset, intsOf_map, if_pos h]
section
variable (book : List D) (homes weights : List Int) (side : Str) (hh : homes.length = book.length) (hw : weights.length = book.length) (hl : book.length ≤ 10) (hb : ∀ d ∈ book, Ruling d) (hp : ∀ w ∈ weights, 0 < w ∧ w < 2 ^ 70)
include hh hw hl hb hp
theorem cross_l1 (b : Int) (ds : List (D × D)) (hd : DOk ds) (hlen : ds.length < 1000) (s8 s9 : Sl) : ∃ ρ ds', f_law_crossings_l1 [.sh (.list book), .sh (.list (homes.map .int)), .sh (.list (weights.map .int)), .sh (.str side), .ow (.dict ds), .sh (.int b), .un, .un, s8, s9] = .ok (.nx ρ) ∧
    ptAll ρ [5, 6, 7] = [.sh (.list book), .sh (.list (homes.map .int)), .sh (.list (weights.map .int)), .sh (.str side), .ow (.dict ds'), .un, .un, .un, s8, s9] ∧ DOk ds' ∧ ds'.length ≤ ds.length + 1 := by
  obtain ⟨ms, e1, q1, l1⟩ := cross_c1 book homes weights side hh hw hl hb hp b (.ow (.dict ds)) .un .un s8 s9
  obtain ⟨os, e2, q2, l2⟩ := cross_c2 book homes weights side hh hw hl hb hp b (.ow (.dict ds)) (.sh (.list (ms.map .int))) .un s8 s9
  obtain ⟨a1, b1⟩ := sum_bd (by decide) q1
  obtain ⟨a2, b2⟩ := sum_bd (by decide) q2
  have c1 : (ms.length : Int) * 2 ^ 70 ≤ 10 * 2 ^ 70 := Int.mul_le_mul_of_nonneg_right (by omega) (by decide)
  have c2 : (os.length : Int) * 2 ^ 70 ≤ 10 * 2 ^ 70 := Int.mul_le_mul_of_nonneg_right (by omega) (by decide)
  have hz : ds.length < sizeLine := by rw [sz24]; omega
  by_cases n1 : ms = []
  · subst n1
    have := dNe_nil []
    simp only [List.map_nil] at e1 e2 this
    exact ⟨[.sh (.list book), .sh (.list (homes.map .int)), .sh (.list (weights.map .int)), .sh (.str side), .ow (.dict ds), .sh (.int b), .sh (.list []), .sh (.list (os.map .int)), s8, s9], ds, by simp [f_law_crossings_l1, e1, e2, this], by simp, hd, by omega⟩
  · have ne1 := dNe_nil ms
    have i1 : ms.isEmpty = false := by cases ms with
      | nil => exact absurd rfl n1
      | cons _ _ => rfl
    by_cases n2 : os = []
    · subst n2
      have := dNe_nil []
      simp only [List.map_nil] at e2 this
      exact ⟨[.sh (.list book), .sh (.list (homes.map .int)), .sh (.list (weights.map .int)), .sh (.str side), .ow (.dict ds), .sh (.int b), .sh (.list (ms.map .int)), .sh (.list []), s8, s9], ds, by simp [f_law_crossings_l1, e1, e2, ne1, i1, this], by simp, hd, by omega⟩
    · have ne2 := dNe_nil os
      have i2 : os.isEmpty = false := by cases os with
        | nil => exact absurd rfl n2
        | cons _ _ => rfl
      have hpos : 0 < (ms.length : Int) := by
        cases ms with
        | nil => exact absurd rfl n1
        | cons _ _ => simp only [List.length_cons]; omega
      obtain ⟨L, hL⟩ : ∃ L : Int, L = ms.length := ⟨_, rfl⟩
      have dv : dDiv (.int (ms.sum - os.sum)) (.int L) = .ok (.sh (.int ((ms.sum - os.sum) / L))) := dDiv_p (by omega) (by omega)
      have q1 : (-(10 * 2 ^ 70 : Int)) ≤ (ms.sum - os.sum) / L := by
        refine (Int.le_ediv_iff_mul_le (by omega)).mpr ?_
        have : (10 * 2 ^ 70 : Int) * 1 ≤ (10 * 2 ^ 70 : Int) * L := Int.mul_le_mul_of_nonneg_left (by omega) (by decide)
        rw [Int.neg_mul]
        omega
      have hv : 0 ≤ max 0 (-((ms.sum - os.sum) / L)) ∧ max 0 (-((ms.sum - os.sum) / L)) < 2 ^ 80 := by omega
      obtain ⟨p1, p2⟩ := hd.put (k := b) hv
      refine ⟨[.sh (.list book), .sh (.list (homes.map .int)), .sh (.list (weights.map .int)), .sh (.str side), .ow (.dict (dPut (.inl b) (.int (max 0 (-((ms.sum - os.sum) / L)))) ds)), .sh (.int b), .sh (.list (ms.map .int)), .sh (.list (os.map .int)), s8, s9], _, ?_, by simp, p1, p2⟩
      simp [f_law_crossings_l1, e1, e2, ne1, ne2, i1, i2, ← hL, dv, dKey, hd.isT, hz]
theorem f_law_crossings_ok : ∃ ds, f_law_crossings [.list book, .list (homes.map .int), .list (weights.map .int), .str side] = .ok (.fr (.dict ds)) ∧ DOk ds ∧ ds.length ≤ 10 := by
  have hs := dSset_ints (ns := homes) (by omega)
  have hs2 := ssetI_len homes
  obtain ⟨ρ', e2, ds, rfl, hq, hlen⟩ := forL_ok (k := kName 5) (is := [5, 6, 7]) (F := f_law_crossings_l1)
    (fun n ρ => ∃ ds : List (D × D), ρ = [.sh (.list book), .sh (.list (homes.map .int)), .sh (.list (weights.map .int)), .sh (.str side), .ow (.dict ds), .un, .un, .un, .un, .un] ∧ DOk ds ∧ ds.length ≤ n)
    ((ssetI homes).map .int) 0 ⟨[], rfl, fun _ h => absurd h List.not_mem_nil, Nat.le_refl _⟩ (by
      rintro i d ρ hd ⟨ds, rfl, hq, hlen⟩
      rw [List.getElem?_map] at hd
      cases hb2 : (ssetI homes)[i]? with
      | none => rw [hb2] at hd; cases hd
      | some b =>
        rw [hb2] at hd
        cases hd
        have hi := (List.getElem?_eq_some_iff.mp hb2).1
        obtain ⟨ρ2, ds', e1, e2, h1, h2⟩ := cross_l1 book homes weights side hh hw hl hb hp b ds hq (by omega) .un .un
        exact ⟨_, rfl, _, e1, ds', e2, h1, by omega⟩)
  rw [List.length_map] at hlen
  refine ⟨ds, ?_, hq, by omega⟩
  simp [f_law_crossings, hs, e2]
end
end VL

set_option Elab.async false
set_option linter.all false
set_option maxRecDepth 100000
set_option maxHeartbeats 4000000
namespace VL
open PySem PySem.Spec PyProof.Rows L2
theorem dIn_dict {ds : List (D × D)} (h : DOk ds) (k : Int) : dIn (.int k) (.dict ds) = .ok (.sh (.bool (dHas (.inl k) ds))) := by
  simp only [dIn, memB, h.isT, dKey]
  rfl
theorem dIx_dict {ds : List (D × D)} (h : DOk ds) {k : Int} (e : dHas (.inl k) ds = true) : ∃ v : Int, dIx (.dict ds) (.int k) = .ok (.sh (.int v)) ∧ 0 ≤ v := by
  rw [dHas_look] at e
  cases e2 : dLook (.inl k) ds with
  | none => rw [e2] at e; cases e
  | some d =>
    obtain ⟨v, rfl, hv, _⟩ := h.look e2
    refine ⟨v, ?_, hv⟩
    simp only [dIx, h.isT, dKey, e2]
    rfl
def Tri (d : D) : Prop := ∃ a b c : Int, d = .tuple [.int a, .int b, .int c]
section
variable (book : List D) (homes weights : List Int) (side : Str) (hh : homes.length = book.length) (hw : weights.length = book.length) (hl : book.length ≤ 10) (hb : ∀ d ∈ book, Ruling d)
include hh hl hb
theorem f_law_some_by_ok (ds : List (D × D)) (hd : DOk ds) (t : Int) : ∃ ks : List Int, f_law_some_by [.list book, .list (homes.map .int), .str side, .dict ds, .int t] = .ok (.fr (.list (ks.map .int))) ∧ ks.length ≤ 10 := by
  obtain ⟨ρ', e2, ks, rfl, hkl⟩ := forL_ok (k := kTup (kCons (kName 6) (kCons (kName 7) kNil))) (is := [6, 7]) (F := f_law_some_by_l1)
    (fun n ρ => ∃ ks : List Int, ρ = [.sh (.list book), .sh (.list (homes.map .int)), .sh (.str side), .sh (.dict ds), .sh (.int t), .ow (.list (ks.map .int)), .un, .un] ∧ ks.length ≤ n)
    (enumD 0 book) 0 ⟨[], rfl, Nat.le_refl _⟩ (by
      rintro i d ρ hd2 ⟨ks, rfl, hlen⟩
      obtain ⟨j, one, rfl, hi⟩ := enumD_mem (List.mem_of_getElem? hd2)
      have hi0 := (List.getElem?_eq_some_iff.mp hd2).1
      rw [enumD_length] at hi0
      obtain ⟨a, c, s, rfl⟩ := hb one (List.mem_of_getElem? hi)
      have hlt := (List.getElem?_eq_some_iff.mp hi).1
      obtain ⟨h, _, e1, _⟩ := dIx_ints (ns := homes) (i := (j : Int)) (by omega) (by omega)
      have hz : ks.length < sizeLine := by rw [sz24]; omega
      have hin := dIn_dict hd h
      refine ⟨_, rfl, ?_⟩
      cases q : dHas (.inl h) ds with
      | false =>
        rw [q] at hin
        exact ⟨[.sh (.list book), .sh (.list (homes.map .int)), .sh (.str side), .sh (.dict ds), .sh (.int t), .ow (.list (ks.map .int)), .sh (.int j), .sh (.tuple [a, .str s, c])], by simp [f_law_some_by_l1, e1, hin], ks, by simp, by omega⟩
      | true =>
        rw [q] at hin
        obtain ⟨v, ev, _⟩ := dIx_dict hd q
        cases q2 : ((s == side) == decide (t < v)) with
        | false => exact ⟨[.sh (.list book), .sh (.list (homes.map .int)), .sh (.str side), .sh (.dict ds), .sh (.int t), .ow (.list (ks.map .int)), .sh (.int j), .sh (.tuple [a, .str s, c])], by simp only [f_law_some_by_l1, cSeq_ap, cIfS_ap, cAnd_ap, cBin_ap]; simp [e1, hin, ev, q2], ks, by simp, by omega⟩
        | true => exact ⟨[.sh (.list book), .sh (.list (homes.map .int)), .sh (.str side), .sh (.dict ds), .sh (.int t), .ow (.list (ks.map .int ++ [.int j])), .sh (.int j), .sh (.tuple [a, .str s, c])], by simp [f_law_some_by_l1, e1, hin, ev, q2, hz], ks ++ [(j : Int)], by simp, by simp; omega⟩)
  simp only [List.map_nil] at e2
  rw [enumD_length] at hkl
  exact ⟨ks, by simp [f_law_some_by, e2], by omega⟩
include hw
theorem f_law_leaned_ok (t : Int) (ht : Bd 82 t) : ∃ ls : List Int, f_law_leaned [.list book, .list (weights.map .int), .str side, .int t] = .ok (.fr (.list (ls.map .int))) ∧ ls.length = book.length := by
  obtain ⟨ys, e, q, h2⟩ := compL_all (k := kTup (kCons (kName 4) (kCons (kName 5) kNil))) (f := cBin dAdd (cVar 5) (cBinR mulR (cVar 3) (cBlt dInt (cCons (cBin dEq (cBin dIx (cVar 4) (cCon (.int 1))) (cVar 2)) cNil))))
    (ρ := [.sh (.list book), .sh (.list (weights.map .int)), .sh (.str side), .sh (.int t), .un, .un]) (fun y => ∃ i : Int, y = .int i ∧ True) (ds := zipD book (weights.map .int)) (by
      intro d hd
      obtain ⟨i, hi⟩ := List.getElem?_of_mem hd
      obtain ⟨one, w, h1, h2, rfl⟩ := zipD_get _ _ _ _ hi
      obtain ⟨a, c, s, rfl⟩ := hb one (List.mem_of_getElem? h1)
      rw [List.getElem?_map] at h2
      cases h3 : weights[i]? with
      | none => rw [h3] at h2; cases h2
      | some x =>
        rw [h3] at h2
        cases h2
        have m1 := dMul_p (b := 1) (n := 1) ht (by unfold Bd; decide) (by decide)
        have m0 := dMul_p (b := 0) (n := 1) ht (by unfold Bd; decide) (by decide)
        by_cases q : s = side
        · subst q
          exact ⟨_, rfl, .sh (.int (x + t * 1)), _, by simp [m1], rfl, _, rfl, trivial⟩
        · have hf := beq_eq_false_iff_ne.mpr q
          exact ⟨_, rfl, .sh (.int (x + t * 0)), _, by simp [m0, hf], rfl, _, rfl, trivial⟩)
  obtain ⟨ls, rfl, _, h3⟩ := map_of q
  have hzl := zipD_length book (weights.map .int)
  rw [List.length_map] at hzl
  have hs : (zipD book (weights.map .int)).length ≤ sizeLine := by rw [sz24]; omega
  exact ⟨ls, by simp [f_law_leaned, f_law_leaned_c1, e, hs], by omega⟩
end
theorem dPut_i {xs : List Int} {k : Nat} (h : k < xs.length) : ixN xs.length (k : Int) = some k := by
  unfold ixN
  rw [if_pos (by omega), if_pos (by omega)]
  simp
section
variable (book : List D) (homes : List Int) (hh : homes.length = book.length) (hl : book.length ≤ 10) (hb : ∀ d ∈ book, Ruling d)
include hh hl hb
theorem shares_l1 (ws : D) (spare : List Int) (found : List D) (k j : Nat) (one other : D) (s9 : Sl) (hs : spare.length = book.length) (h1 : book[k]? = some one) (h2 : book[j]? = some other) (hz : found.length < sizeLine) (hq : ∀ d ∈ found, Tri d) :
    ∃ (spare' : List Int) (found' : List D) (s9' : Sl), f_law_shares_by_l1 [.sh (.list book), .sh (.list (homes.map .int)), .sh ws, .ow (.list (spare.map .int)), .ow (.list found), .sh (.int (0 + (k : Int))), .sh one, .sh (.int (0 + (j : Int))), .sh other, s9] =
      .ok (.nx [.sh (.list book), .sh (.list (homes.map .int)), .sh ws, .ow (.list (spare'.map .int)), .ow (.list found'), .sh (.int (0 + (k : Int))), .sh one, .sh (.int (0 + (j : Int))), .sh other, s9']) ∧ spare'.length = book.length ∧ (∀ d ∈ found', Tri d) ∧ found'.length ≤ found.length + 1 := by
  obtain ⟨a, c, s, rfl⟩ := hb one (List.mem_of_getElem? h1)
  obtain ⟨a', c', s', rfl⟩ := hb other (List.mem_of_getElem? h2)
  have hk := (List.getElem?_eq_some_iff.mp h1).1
  have hj := (List.getElem?_eq_some_iff.mp h2).1
  obtain ⟨x, _, e1, _⟩ := dIx_ints (ns := homes) (i := (k : Int)) (by omega) (by omega)
  obtain ⟨y, _, e2, _⟩ := dIx_ints (ns := homes) (i := (j : Int)) (by omega) (by omega)
  obtain ⟨p, _, e3, _⟩ := dIx_ints (ns := spare) (i := (k : Int)) (by omega) (by omega)
  obtain ⟨q, _, e4, _⟩ := dIx_ints (ns := spare) (i := (j : Int)) (by omega) (by omega)
  have i1 := dPut_i (xs := spare) (k := k) (by omega)
  have i2 := dPut_i (xs := spare) (k := j) (by omega)
  by_cases cc : s = "for" ∧ s' = "against" ∧ x = y
  · obtain ⟨rfl, rfl, rfl⟩ := cc
    by_cases pos : 0 < min p q
    · obtain ⟨m, hm⟩ : ∃ m, m = min p q := ⟨_, rfl⟩
      rw [← hm] at pos
      obtain ⟨z, _, e5, _⟩ := dIx_ints (ns := spare.set k (p - m)) (i := (j : Int)) (by omega) (by rw [List.length_set]; omega)
      refine ⟨(spare.set k (p - m)).set j (z - m), found ++ [.tuple [.int k, .int j, .int m]], .sh (.int m), ?_, by simp [hs], fun d hd => ?_, by simp⟩
      · rw [List.map_set] at e5
        simp [f_law_shares_by_l1, e1, e2, e3, e4, ← hm, pos, hz, i1, i2, e5]
      · rcases List.mem_append.mp hd with h | h
        · exact hq d h
        · rw [List.mem_singleton.mp h]; exact ⟨_, _, _, rfl⟩
    · exact ⟨spare, found, .sh (.int (min p q)), by simp [f_law_shares_by_l1, e1, e2, e3, e4, pos], hs, hq, by omega⟩
  · refine ⟨spare, found, s9, ?_, hs, hq, by omega⟩
    by_cases c1 : s = "for"
    · subst c1
      by_cases c2 : s' = "against"
      · subst c2
        have c3 : ¬ x = y := fun e => cc ⟨rfl, rfl, e⟩
        simp [f_law_shares_by_l1, e1, e2, c3]
      · have hf := beq_eq_false_iff_ne.mpr c2
        simp [f_law_shares_by_l1, hf]
    · have hf := beq_eq_false_iff_ne.mpr c1
      simp [f_law_shares_by_l1, hf]
theorem f_law_shares_by_ok (ws : List Int) (hws : ws.length = book.length) : ∃ found : List D, f_law_shares_by [.list book, .list (homes.map .int), .list (ws.map .int)] = .ok (.fr (.list found)) ∧ ∀ d ∈ found, Tri d := by
  have inner : ∀ (spare : List Int) (found : List D) (k : Nat) (one : D) (s7 s8 s9 : Sl), spare.length = book.length → book[k]? = some one → found.length ≤ 100000 → (∀ d ∈ found, Tri d) →
      ∃ (spare' : List Int) (found' : List D) (s7' s8' s9' : Sl), forL (kTup (kCons (kName 7) (kCons (kName 8) kNil))) [] f_law_shares_by_l1 (enumD 0 book) [.sh (.list book), .sh (.list (homes.map .int)), .sh (.list (ws.map .int)), .ow (.list (spare.map .int)), .ow (.list found), .sh (.int (0 + (k : Int))), .sh one, s7, s8, s9] =
        .ok (.nx [.sh (.list book), .sh (.list (homes.map .int)), .sh (.list (ws.map .int)), .ow (.list (spare'.map .int)), .ow (.list found'), .sh (.int (0 + (k : Int))), .sh one, s7', s8', s9']) ∧ spare'.length = book.length ∧ (∀ d ∈ found', Tri d) ∧ found'.length ≤ found.length + 10 := by
    intro spare found k one s7 s8 s9 hs h1 hz hq
    obtain ⟨ρ', e2, spare', found', s7', s8', s9', rfl, p1, p2, p3⟩ := forL_ok (k := kTup (kCons (kName 7) (kCons (kName 8) kNil))) (is := []) (F := f_law_shares_by_l1)
      (fun n ρ => ∃ (spare' : List Int) (found' : List D) (s7 s8 s9 : Sl), ρ = [.sh (.list book), .sh (.list (homes.map .int)), .sh (.list (ws.map .int)), .ow (.list (spare'.map .int)), .ow (.list found'), .sh (.int (0 + (k : Int))), .sh one, s7, s8, s9] ∧ spare'.length = book.length ∧ (∀ d ∈ found', Tri d) ∧ found'.length ≤ found.length + n)
      (enumD 0 book) 0 ⟨spare, found, s7, s8, s9, rfl, hs, hq, Nat.le_refl _⟩ (by
        rintro i d ρ hd2 ⟨spare1, found1, s7, s8, s9, rfl, q1, q2, q3⟩
        obtain ⟨j, other, rfl, hi⟩ := enumD_mem (List.mem_of_getElem? hd2)
        have hi0 := (List.getElem?_eq_some_iff.mp hd2).1
        rw [enumD_length] at hi0
        obtain ⟨a, b, c, e, r1, r2, r3⟩ := shares_l1 book homes hh hl hb (.list (ws.map .int)) spare1 found1 k j one other s9 q1 h1 hi (by rw [sz24]; omega) q2
        exact ⟨_, rfl, _, e, a, b, _, _, c, rfl, r1, r2, by omega⟩)
    rw [enumD_length] at p3
    exact ⟨spare', found', s7', s8', s9', e2, p1, p2, by omega⟩
  obtain ⟨ρ', e2, spare', found', s9', rfl, p1, p2, p3⟩ := forL_ok (k := kTup (kCons (kName 5) (kCons (kName 6) kNil))) (is := [5, 6, 7, 8]) (F := f_law_shares_by_l2)
    (fun n ρ => ∃ (spare' : List Int) (found' : List D) (s9 : Sl), ρ = [.sh (.list book), .sh (.list (homes.map .int)), .sh (.list (ws.map .int)), .ow (.list (spare'.map .int)), .ow (.list found'), .un, .un, .un, .un, s9] ∧ spare'.length = book.length ∧ (∀ d ∈ found', Tri d) ∧ found'.length ≤ 10 * n)
    (enumD 0 book) 0 ⟨ws, [], .un, rfl, hws, fun _ h => absurd h List.not_mem_nil, Nat.le_refl _⟩ (by
      rintro i d ρ hd2 ⟨spare1, found1, s9, rfl, q1, q2, q3⟩
      obtain ⟨j, one, rfl, hi⟩ := enumD_mem (List.mem_of_getElem? hd2)
      have hi0 := (List.getElem?_eq_some_iff.mp hd2).1
      rw [enumD_length] at hi0
      obtain ⟨a, b, s7', s8', s9', e, r1, r2, r3⟩ := inner spare1 found1 j one .un .un s9 q1 hi (by omega) q2
      refine ⟨_, rfl, [.sh (.list book), .sh (.list (homes.map .int)), .sh (.list (ws.map .int)), .ow (.list (a.map .int)), .ow (.list b), .sh (.int j), .sh one, s7', s8', s9'], ?_, a, b, s9', by simp, r1, r2, by omega⟩
      rw [Int.zero_add] at e
      simp [f_law_shares_by_l2, e])
  exact ⟨found', by simp [f_law_shares_by, e2], p2⟩
end
end VL

set_option Elab.async false
set_option linter.all false
set_option maxRecDepth 100000
set_option maxHeartbeats 4000000
namespace VL
open PySem PySem.Spec PyProof.Rows L2
/-- a row of a table -/
structure TR where
  t : Int
  s : List Int
  a : List D
  b : List D
def TR.enc (r : TR) : D := .tuple [.int r.t, .list (r.s.map .int), .list r.a, .list r.b]
def TR.ok (r : TR) : Prop := 0 ≤ r.t ∧ r.t < 2 ^ 81 ∧ (∀ d ∈ r.a, Tri d) ∧ (∀ d ∈ r.b, Tri d) ∧ r.s.length ≤ 1000
def TabOk (rows : List TR) : Prop := (∀ r ∈ rows, r.ok) ∧ (∀ r, rows[0]? = some r → r.t = 0) ∧ 1 ≤ rows.length ∧ rows.length ≤ 100
theorem ssetI_sub {ns : List Int} {y : Int} (h : y ∈ ssetI ns) : y ∈ ns := (mem_ssetI y ns).mp h
theorem f_law_known_c1_ok (book homes weights side : D) (ds : List (D × D)) (hd : DOk ds) (hl : ds.length ≤ 10) (s6 s7 s8 s9 s10 s11 : Sl) :
    ∃ ts : List Int, f_law_known_c1 [.sh book, .sh homes, .sh weights, .sh side, .sh (.dict ds), .un, s6, s7, s8, s9, s10, s11] = .ok (.fr (.list (ts.map .int))) ∧ (∀ t ∈ ts, 0 < t ∧ t < 2 ^ 80) ∧ ts.length ≤ 10 := by
  obtain ⟨vs, ev, hv, hvl⟩ := hd.vals
  obtain ⟨ys, e, q, h2⟩ := compL_ok (k := kName 5) (c := some (cBin dGt (cVar 5) (cCon (.int 0)))) (f := cVar 5)
    (ρ := [.sh book, .sh homes, .sh weights, .sh side, .sh (.dict ds), .un, s6, s7, s8, s9, s10, s11]) (fun y => ∃ i : Int, y = .int i ∧ 0 < i ∧ i < 2 ^ 80) (ds := (ssetI vs).map .int) (by
      intro d hd
      obtain ⟨t, ht, rfl⟩ := List.mem_map.mp hd
      have := hv t (ssetI_sub ht)
      refine ⟨_, rfl, decide (0 < t), by simp [cTest], fun h => ⟨.sh (.int t), .int t, by simp, rfl, t, rfl, of_decide_eq_true h, this.2⟩⟩)
  obtain ⟨ts, rfl, q2, h3⟩ := map_of q
  simp only [List.length_map] at h2 h3
  have h4 := ssetI_len vs
  have hs : (ssetI vs).length ≤ sizeLine := by rw [sz24]; omega
  have hz : ds.length ≤ sizeLine := by rw [sz24]; omega
  have ess := dSset_ints (ns := vs) (by omega)
  exact ⟨ts, by simp [f_law_known_c1, hd.isT, hz, ev, ess, e, hs], q2, by omega⟩
section
variable (book : List D) (homes weights : List Int) (side : Str) (hh : homes.length = book.length) (hw : weights.length = book.length) (hl : book.length ≤ 10) (hb : ∀ d ∈ book, Ruling d) (hp : ∀ w ∈ weights, 0 < w ∧ w < 2 ^ 70)
include hh hw hl hb hp
theorem f_law_known_l1_ok (ds : List (D × D)) (hd : DOk ds) (ss : List Int) (hss : ∀ t ∈ ss, 0 ≤ t ∧ t < 2 ^ 80) (rows : List TR) (i : Nat) (t : Int) (hi : ss[i]? = some t) (hz : rows.length < sizeLine) (s11 : Sl) :
    ∃ ρ r, f_law_known_l1 [.sh (.list book), .sh (.list (homes.map .int)), .sh (.list (weights.map .int)), .sh (.str side), .sh (.dict ds), .sh (.int t), .sh (.list (ss.map .int)), .ow (.list (rows.map TR.enc)), .sh (.int (0 + (i : Int))), .un, .un, s11] = .ok (.nx ρ) ∧
      ptAll ρ [5, 8, 9, 10] = [.sh (.list book), .sh (.list (homes.map .int)), .sh (.list (weights.map .int)), .sh (.str side), .sh (.dict ds), .un, .sh (.list (ss.map .int)), .ow (.list ((rows ++ [r]).map TR.enc)), .un, .un, .un, s11] ∧ r.ok ∧ r.t = t := by
  have ht := hss t (List.mem_of_getElem? hi)
  have hlt := (List.getElem?_eq_some_iff.mp hi).1
  obtain ⟨ls, e1, hl1⟩ := f_law_leaned_ok book homes weights side hh hw hl hb t (by unfold Bd; omega)
  obtain ⟨fs, e2, hf⟩ := f_law_shares_by_ok book homes hh hl hb ls hl1
  obtain ⟨ks, e3, hks⟩ := f_law_some_by_ok book homes side hh hl hb ds hd t
  by_cases c : (i : Int) + 1 < ss.length
  · obtain ⟨t2, hm2, e4, _⟩ := dIx_ints (ns := ss) (i := (i : Int) + 1) (by omega) c
    have ht2 := hss t2 hm2
    obtain ⟨ls2, e5, hl2⟩ := f_law_leaned_ok book homes weights side hh hw hl hb (t2 - 1) (by unfold Bd; omega)
    obtain ⟨fs2, e6, hf2⟩ := f_law_shares_by_ok book homes hh hl hb ls2 hl2
    refine ⟨[.sh (.list book), .sh (.list (homes.map .int)), .sh (.list (weights.map .int)), .sh (.str side), .sh (.dict ds), .sh (.int t), .sh (.list (ss.map .int)), .ow (.list (rows.map TR.enc ++ [.tuple [.int t, .list (ks.map .int), .list fs, .list fs2]])), .sh (.int i), .sh (.list fs), .sh (.list fs2), s11], ⟨t, ks, fs, fs2⟩, ?_, ?_, ⟨ht.1, by show t < 2 ^ 81; omega, hf, hf2, by show ks.length ≤ 1000; omega⟩, rfl⟩
    · simp [f_law_known_l1, e1, e2, c, e4, e5, e6, e3, hz]
    · simp [TR.enc]
  · refine ⟨[.sh (.list book), .sh (.list (homes.map .int)), .sh (.list (weights.map .int)), .sh (.str side), .sh (.dict ds), .sh (.int t), .sh (.list (ss.map .int)), .ow (.list (rows.map TR.enc ++ [.tuple [.int t, .list (ks.map .int), .list fs, .list []]])), .sh (.int i), .sh (.list fs), .sh (.list []), s11], ⟨t, ks, fs, []⟩, ?_, ?_, ⟨ht.1, by show t < 2 ^ 81; omega, hf, fun _ h => absurd h List.not_mem_nil, by show ks.length ≤ 1000; omega⟩, rfl⟩
    · simp [f_law_known_l1, e1, e2, c, e3, hz]
    · simp [TR.enc]
theorem f_law_known_ok : ∃ rows : List TR, f_law_known [.list book, .list (homes.map .int), .list (weights.map .int), .str side] = .ok (.fr (.list (rows.map TR.enc))) ∧ TabOk rows := by
  obtain ⟨ds, e1, hd, hdl⟩ := f_law_crossings_ok book homes weights side hh hw hl hb hp
  obtain ⟨ts, e2, ht, htl⟩ := f_law_known_c1_ok (.list book) (.list (homes.map .int)) (.list (weights.map .int)) (.str side) ds hd hdl .un .un .un .un .un .un
  have hss : ∀ t ∈ 0 :: ts, 0 ≤ t ∧ t < 2 ^ 80 := fun t m => by
    rcases List.mem_cons.mp m with e | e
    · subst e; decide
    · have := ht t e; omega
  obtain ⟨ρ', e3, rows, rfl, p1, p2, p3⟩ := forL_ok (k := kTup (kCons (kName 8) (kCons (kName 5) kNil))) (is := [5, 8, 9, 10]) (F := f_law_known_l1)
    (fun n ρ => ∃ rows : List TR, ρ = [.sh (.list book), .sh (.list (homes.map .int)), .sh (.list (weights.map .int)), .sh (.str side), .sh (.dict ds), .un, .sh (.list ((0 :: ts).map .int)), .ow (.list (rows.map TR.enc)), .un, .un, .un, .un] ∧ rows.length = n ∧ (∀ r ∈ rows, r.ok) ∧ ∀ r, rows[0]? = some r → r.t = 0)
    (enumD 0 ((0 :: ts).map .int)) 0 ⟨[], rfl, rfl, fun _ h => absurd h List.not_mem_nil, fun _ h => by cases h⟩ (by
      rintro i d ρ hd2 ⟨rows, rfl, q1, q2, q3⟩
      have hi0 := (List.getElem?_eq_some_iff.mp hd2).1
      rw [enumD_length, List.length_map, List.length_cons] at hi0
      rw [enumD_get, List.getElem?_map] at hd2
      cases hi : (0 :: ts)[i]? with
      | none => rw [hi] at hd2; cases hd2
      | some t =>
        rw [hi] at hd2
        cases hd2
        obtain ⟨ρ2, r, a1, a2, a3, a4⟩ := f_law_known_l1_ok book homes weights side hh hw hl hb hp ds hd (0 :: ts) hss rows i t hi (by rw [sz24]; omega) .un
        refine ⟨_, rfl, ρ2, a1, rows ++ [r], a2, by simp; omega, fun x m => ?_, fun x hx => ?_⟩
        · rcases List.mem_append.mp m with m | m
          · exact q2 x m
          · rw [List.mem_singleton.mp m]; exact a3
        · cases rows with
          | nil =>
            simp only [List.length_nil] at q1
            have : i = 0 := by omega
            subst this
            cases hi
            cases hx
            exact a4
          | cons r0 rr => exact q3 x hx)
  rw [enumD_length, List.length_map, List.length_cons] at p1
  refine ⟨rows, ?_, p2, p3, by omega, by omega⟩
  have hz : ts.length + 1 ≤ sizeLine := by rw [sz24]; omega
  have hz2 : 1 + ts.length ≤ sizeLine := by rw [sz24]; omega
  have hadd : dAdd (.list [.int 0]) (.list (ts.map .int)) = .ok (.fr (.list (.int 0 :: ts.map .int))) := by
    simp only [dAdd, List.length_map, List.length_cons, List.length_nil]
    rw [if_pos (by omega)]
    rfl
  simp only [List.map_cons, List.map_nil] at e3
  simp [f_law_known, e1, e2, hadd, e3]
end
end VL

set_option Elab.async false
set_option linter.all false
set_option maxRecDepth 100000
set_option maxHeartbeats 4000000
namespace VL
open PySem PySem.Spec PyProof.Rows L2
/-- the last row that has begun at t -/
def pick (t : Int) : List TR → List Int → List Int
  | [], acc => acc
  | r :: rs, acc => pick t rs (if r.t ≤ t then r.s else acc)
theorem some_at_l (table : D) (t : Int) : ∀ (rows : List TR) (acc : List Int), forL (kName 3) [3] f_some_at_l1 (rows.map TR.enc) [.sh table, .sh (.int t), .sh (.list (acc.map .int)), .un] = .ok (.nx [.sh table, .sh (.int t), .sh (.list ((pick t rows acc).map .int)), .un])
  | [], acc => rfl
  | r :: rs, acc => by
    have ih := some_at_l table t rs (if r.t ≤ t then r.s else acc)
    rw [List.map_cons]
    unfold forL
    by_cases c : r.t ≤ t
    · rw [if_pos c] at ih
      have hb : f_some_at_l1 [.sh table, .sh (.int t), .sh (.list (acc.map .int)), .sh r.enc] = .ok (.nx [.sh table, .sh (.int t), .sh (.list (r.s.map .int)), .sh r.enc]) := by simp [f_some_at_l1, TR.enc, c]
      simp [hb, c, ih, pick]
    · rw [if_neg c] at ih
      have hb : f_some_at_l1 [.sh table, .sh (.int t), .sh (.list (acc.map .int)), .sh r.enc] = .ok (.nx [.sh table, .sh (.int t), .sh (.list (acc.map .int)), .sh r.enc]) := by simp [f_some_at_l1, TR.enc, c]
      simp [hb, c, ih, pick]
theorem f_some_at_ok (rows : List TR) (t : Int) : f_some_at [.list (rows.map TR.enc), .int t] = .ok (.fr (.list ((pick t rows []).map .int))) := by
  have e := some_at_l (.list (rows.map TR.enc)) t rows []
  simp only [List.map_nil] at e
  simp [f_some_at, e]
theorem compL_filt {α : Type} {g h : α → D} {p : α → Bool} {k : D → Env → Rs Env} {c : Option (Env → Rs RV)} {f : Env → Rs RV} {ρ : Env} : ∀ {xs : List α}, (∀ x ∈ xs, ∃ ρ1, k (g x) ρ = .ok ρ1 ∧ cTest c ρ1 = .ok (p x) ∧ (p x = true → ∃ r, f ρ1 = .ok r ∧ r.shd = .ok (h x))) →
    compL k c f (xs.map g) ρ = .ok ((xs.filter p).map h)
  | [], _ => rfl
  | x :: xs, H => by
    obtain ⟨ρ1, e1, e2, e3⟩ := H x List.mem_cons_self
    have ih := compL_filt (xs := xs) fun y m => H y (List.mem_cons_of_mem _ m)
    rw [List.map_cons, List.filter_cons]
    cases q : p x with
    | false =>
      simp only [compL, e1, Rs.bind_ok, e2, q, ih]
      rfl
    | true =>
      obtain ⟨r, e4, e5⟩ := e3 q
      simp only [compL, e1, Rs.bind_ok, e2, q, if_true, e4, e5, ih]
      rfl
theorem pick_last (t : Int) : ∀ (rows : List TR) (acc : List Int), pick t rows acc = ((rows.filter fun r => decide (r.t ≤ t)).getLast?.map TR.s).getD acc
  | [], acc => rfl
  | r :: rs, acc => by
    unfold pick
    rw [pick_last t rs, List.filter_cons]
    by_cases c : r.t ≤ t
    · rw [if_pos c, if_pos (by simpa using c), List.getLast?_cons]
      cases (rs.filter fun r => decide (r.t ≤ t)).getLast? <;> rfl
    · rw [if_neg c, if_neg (by simpa using c)]
theorem atI_last {α : Type} {xs : List α} {x : α} (h : xs.getLast? = some x) : atI xs (-1) = some x := by
  have n0 : 0 < xs.length := by
    cases xs with
    | nil => cases h
    | cons _ _ => simp
  unfold atI ixN
  rw [if_neg (by decide), if_pos (by omega)]
  rw [List.getLast?_eq_getElem?] at h
  show xs[((-1 : Int) + xs.length).toNat]? = some x
  rw [show ((-1 : Int) + xs.length).toNat = xs.length - 1 by omega]
  exact h
theorem f_law_due_ok (rows : List TR) (hr : TabOk rows) (t : Int) (ht : 0 ≤ t) : f_law_due [.list (rows.map TR.enc), .int t] = .ok (.sh (.list ((pick t rows []).map .int))) := by
  have e := compL_filt (g := TR.enc) (h := fun r : TR => PyData.list (r.s.map .int)) (p := fun r => decide (r.t ≤ t)) (k := kTup (kCons (kName 2) (kCons (kName 3) (kCons (kName 4) (kCons (kName 5) kNil))))) (c := some (cBin dLe (cVar 2) (cVar 1))) (f := cVar 3)
    (ρ := [.sh (.list (rows.map TR.enc)), .sh (.int t), .un, .un, .un, .un]) (xs := rows) (fun r _ => ⟨_, rfl, by simp [cTest], fun _ => ⟨.sh (.list (r.s.map .int)), by simp, rfl⟩⟩)
  have hs : rows.length ≤ sizeLine := by rw [sz24]; have := hr.2.2.2; omega
  obtain ⟨r0, h0⟩ : ∃ r0, rows[0]? = some r0 := ⟨rows[0]'(by have := hr.2.2.1; omega), List.getElem?_eq_getElem _⟩
  have t0 := hr.2.1 r0 h0
  have hm : r0 ∈ rows.filter fun r => decide (r.t ≤ t) := List.mem_filter.mpr ⟨List.mem_of_getElem? h0, by simp; omega⟩
  obtain ⟨l, hl⟩ : ∃ l, (rows.filter fun r => decide (r.t ≤ t)).getLast? = some l := by
    cases q : (rows.filter fun r => decide (r.t ≤ t)).getLast? with
    | none => rw [List.getLast?_eq_none_iff] at q; rw [q] at hm; cases hm
    | some l => exact ⟨l, rfl⟩
  have hp : pick t rows [] = l.s := by rw [pick_last, hl]; rfl
  have hix : dIx (.list ((rows.filter fun r => decide (r.t ≤ t)).map fun r => PyData.list (r.s.map .int))) (.int (-1)) = .ok (.sh (.list (l.s.map .int))) := dIx_list (atI_last (by rw [List.getLast?_map, hl]; rfl))
  rw [hp]
  simp [f_law_due, f_law_due_c1, e, hs, hix]
theorem f_law_copy_ok (rows : List TR) (hr : TabOk rows) : f_law_copy [.list (rows.map TR.enc)] = .ok (.fr (.list (rows.map TR.enc))) := by
  have e := compL_map (ρ := [.sh (.list (rows.map TR.enc)), .un, .un, .un, .un]) (k := kTup (kCons (kName 1) (kCons (kName 2) (kCons (kName 3) (kCons (kName 4) kNil))))) (f := cTup (cCons (cVar 1) (cCons (cBlt dList (cCons (cVar 2) cNil)) (cCons (cBlt dList (cCons (cVar 3) cNil)) (cCons (cBlt dList (cCons (cVar 4) cNil)) cNil)))))
    (ds := rows.map TR.enc) (ys := rows.map TR.enc) rfl (by
      intro i d y hd hy
      rw [hd] at hy
      cases hy
      obtain ⟨r, _, rfl⟩ := List.mem_map.mp (List.mem_of_getElem? hd)
      exact ⟨_, rfl, .sh r.enc, by simp [TR.enc], rfl⟩)
  have hs : rows.length ≤ sizeLine := by rw [sz24]; have := hr.2.2.2; omega
  simp [f_law_copy, f_law_copy_c1, e, hs]
theorem f_law_asked_ok (rows : List TR) (hr : TabOk rows) (c : Int) : ∃ n : Int, f_law_asked [.list (rows.map TR.enc), .int c] = .ok (.sh (.int n)) ∧ 0 ≤ n := by
  obtain ⟨rs, ed, dr⟩ := f_law_draws_ok c [5, 60, 2000000000000000000, 10000000000000000000000000000000000000000] (by simp) (by simp)
  obtain ⟨r0, rs, rfl, a0, b0, dr⟩ := dr.cons
  obtain ⟨r1, rs, rfl, a1, b1, dr⟩ := dr.cons
  obtain ⟨r2, rs, rfl, a2, b2, dr⟩ := dr.cons
  obtain ⟨r3, rs, rfl, a3, b3, dr⟩ := dr.cons
  cases dr.nil
  simp only [List.map_cons, List.map_nil] at ed
  have m1 : dMul (.int 2) (.int 1000000000000000000) = .ok (.sh (.int 2000000000000000000)) := dMul_p (m := 10) (n := 80) (by unfold Bd; decide) (by unfold Bd; decide) (by decide)
  obtain ⟨L, hL⟩ : ∃ L : Int, L = rows.length := ⟨_, rfl⟩
  have hL1 : 1 ≤ L := by have := hr.2.2.1; omega
  have md : dMod (.int r1) (.int L) = .ok (.sh (.int (r1 % L))) := dMod_p (by omega)
  obtain ⟨r, hm, e1, _⟩ := dIx_map (g := TR.enc) (xs := rows) (i := r1 % L) (Int.emod_nonneg _ (by omega)) (by rw [← hL]; exact Int.emod_lt_of_pos _ (by omega))
  have ht := (hr.1 r hm).1
  have e2 : dIx r.enc (.int 0) = .ok (.sh (.int r.t)) := by simp [TR.enc]
  obtain ⟨n, hn, e3, _⟩ := dIx_map (g := PyData.int) (xs := [r2, r.t, max 0 (r.t - 1), r.t + 1, r3]) (i := r0) a0 (by simp; omega)
  simp only [List.map_cons, List.map_nil] at e3
  refine ⟨n, ?_, ?_⟩
  · simp [f_law_asked, pow18, pow40, m1, ed, ← hL, md, e1, e2, e3]
  · simp at hn
    omega
theorem f_law_whole_ok (n : Int) : f_law_whole [.int n] = .ok (.sh (.bool true)) := by
  have e1 : dIsi "int" (.int n) = .ok (.sh (.bool true)) := rfl
  have e2 : dIsi "bool" (.int n) = .ok (.sh (.bool false)) := rfl
  simp [f_law_whole, e1, e2]
theorem f_law_is_ok (ns : List Int) (h : ns.length ≤ 1000) : f_law_is [.list (ns.map .int), .list (ns.map .int)] = .ok (.sh (.bool true)) := by
  have e1 : dIsi "list" (.list (ns.map .int)) = .ok (.sh (.bool true)) := rfl
  obtain ⟨ys, e, q, hl⟩ := compL_all (ρ := [.sh (.list (ns.map .int)), .sh (.list (ns.map .int)), .un]) (k := kName 2) (f := cCall f_law_whole (cCons (cVar 2) cNil)) (ds := ns.map .int) (fun y => ∃ b : Bool, y = .bool b ∧ b = true) (by
    intro d hd
    obtain ⟨n, _, rfl⟩ := List.mem_map.mp hd
    exact ⟨_, rfl, .sh (.bool true), _, by simp [f_law_whole_ok], rfl, true, rfl, rfl⟩)
  obtain ⟨bs, rfl, hb, _⟩ := map_of q
  have hall : bs.all id = true := List.all_eq_true.mpr hb
  have ea : dAll [.list (bs.map .bool)] = .ok (.sh (.bool true)) := by
    simp only [dAll, blsOf_map, hall]
  have hs : ns.length ≤ sizeLine := by rw [sz24]; omega
  simp [f_law_is, f_law_is_c1, e1, e, hs, ea, dEq_self (shaped_ints ns)]
theorem canTri : ∀ {ds : List D}, (∀ d ∈ ds, Tri d) → PyData.canLayAll0 ds = true ∧ PyData.depthAll ds ≤ 1
  | [], _ => ⟨rfl, Nat.zero_le _⟩
  | d :: ds, h => by
    obtain ⟨a, b⟩ := canTri (ds := ds) fun x m => h x (List.mem_cons_of_mem _ m)
    obtain ⟨x, y, z, rfl⟩ := h d List.mem_cons_self
    refine ⟨?_, ?_⟩
    · simp [PyData.canLayAll0, PyData.canLay0, a]
    · simp [PyData.depthAll, PyData.depth]
      exact Nat.max_le.mpr ⟨Nat.le_refl _, b⟩
theorem canRows : ∀ {rows : List TR}, (∀ r ∈ rows, r.ok) → PyData.canLayAll0 (rows.map TR.enc) = true ∧ PyData.depthAll (rows.map TR.enc) ≤ 5
  | [], _ => ⟨rfl, Nat.zero_le _⟩
  | r :: rs, h => by
    obtain ⟨a, b⟩ := canRows (rows := rs) fun x m => h x (List.mem_cons_of_mem _ m)
    obtain ⟨_, _, q1, q2, _⟩ := h r List.mem_cons_self
    obtain ⟨c1, d1⟩ := canTri q1
    obtain ⟨c2, d2⟩ := canTri q2
    refine ⟨?_, ?_⟩
    · simp [PyData.canLayAll0, PyData.canLay0, TR.enc, a, c1, c2, canInts]
    · simp only [List.map_cons, PyData.depthAll, PyData.depth, TR.enc, depthInts]
      omega
theorem cut_map {α : Type} (g : α → D) (xs : List α) (lo hi : Int) : ∃ ys : List α, cutD (xs.map g) (some lo) (some hi) = ys.map g ∧ ys.length ≤ xs.length := by
  refine ⟨(xs.drop (HT.sIx (xs.map g).length 0 (some lo))).take (HT.sIx (xs.map g).length (xs.map g).length (some hi) - HT.sIx (xs.map g).length 0 (some lo)), ?_, ?_⟩
  · unfold cutD
    rw [List.map_take, List.map_drop]
  · rw [List.length_take, List.length_drop]
    omega
@[simp] theorem cSl_ap {f : Env → Rs RV} {lo hi : Option (Env → Rs RV)} {ρ : Env} : cSl f lo hi ρ = (f ρ).bind fun a => (cPart lo ρ).bind fun l => (cPart hi ρ).bind fun h => dSl a.val l h := rfl
@[simp] theorem cPart_some {f : Env → Rs RV} {ρ : Env} : cPart (some f) ρ = (f ρ).bind fun r => match r.val with
    | .int i => .ok (some i)
    | _ => .bad := rfl
@[simp] theorem dSl_list {xs : List D} {lo hi : Option Int} : dSl (.list xs) lo hi = .ok (.fr (.list (cutD xs lo hi))) := rfl
theorem dAdd_ll {xs ys : List D} (h : xs.length + ys.length ≤ 100000) : dAdd (.list xs) (.list ys) = .ok (.fr (.list (xs ++ ys))) := by
  simp only [dAdd]
  rw [if_pos (by rw [sz24]; omega)]
theorem f_law_c1_ok (ns : List Int) (hn : ns.length ≤ 63) (rows : List TR) (hr : TabOk rows) (s1 s2 s3 s4 s6 s7 s8 s9 s10 : Sl) : ∃ ms : List Int, f_law_c1 [.sh (.list (ns.map .int)), s1, s2, s3, s4, .sh (.list (rows.map TR.enc)), s6, s7, s8, s9, s10] = .ok (.fr (.list (ms.map .int))) ∧ (∀ m ∈ ms, 0 ≤ m) ∧ 1 ≤ ms.length ∧ ms.length ≤ 64 := by
  obtain ⟨c12, e1⟩ := f_law_cell_ok ns 12 (by decide) (by unfold Bd; decide)
  obtain ⟨cs, e2, hcl⟩ := cut_map PyData.int ns 13 63
  have hadd : dAdd (.list [.int c12]) (.list (cs.map .int)) = .ok (.fr (.list (.int c12 :: cs.map .int))) := dAdd_ll (by simp; omega)
  obtain ⟨ys, e, q, hl⟩ := compL_all (ρ := [.sh (.list (ns.map .int)), s1, s2, s3, s4, .sh (.list (rows.map TR.enc)), s6, s7, s8, s9, .un]) (k := kName 10) (f := cCall f_law_asked (cCons (cVar 5) (cCons (cVar 10) cNil))) (ds := .int c12 :: cs.map .int) (fun y => ∃ n : Int, y = .int n ∧ 0 ≤ n) (by
    intro d hd
    obtain ⟨c, rfl⟩ : ∃ c : Int, d = .int c := by
      rcases List.mem_cons.mp hd with m | m
      · exact ⟨_, m⟩
      · obtain ⟨c, _, rfl⟩ := List.mem_map.mp m
        exact ⟨c, rfl⟩
    obtain ⟨n, e3, h0⟩ := f_law_asked_ok rows hr c
    exact ⟨_, rfl, .sh (.int n), _, by simp [e3], rfl, n, rfl, h0⟩)
  obtain ⟨ms, rfl, q2, hl2⟩ := map_of q
  simp only [List.length_map, List.length_cons] at hl
  have hs : cs.length + 1 ≤ sizeLine := by rw [sz24]; omega
  exact ⟨ms, by simp [f_law_c1, e1, e2, hadd, e, hs], q2, by omega, by omega⟩
theorem pick_len (t : Int) (B : Nat) : ∀ (rows : List TR) (acc : List Int), (∀ r ∈ rows, r.s.length ≤ B) → acc.length ≤ B → (pick t rows acc).length ≤ B
  | [], acc, _, h => h
  | r :: rs, acc, h, ha => by
    unfold pick
    refine pick_len t B rs _ (fun x m => h x (List.mem_cons_of_mem _ m)) ?_
    split
    · exact h r List.mem_cons_self
    · exact ha
theorem f_law_l1_ok (script book homes weights side numbers : D) (rows : List TR) (hr : TabOk rows) (t : Int) (ht : 0 ≤ t) (s10 : Sl) :
    f_law_l1 [.sh script, .sh book, .sh homes, .sh weights, .sh side, .sh (.list (rows.map TR.enc)), .sh (.list (rows.map TR.enc)), .sh numbers, .sh (.int t), .un, s10] =
      .ok (.nx [.sh script, .sh book, .sh homes, .sh weights, .sh side, .sh (.list (rows.map TR.enc)), .sh (.list (rows.map TR.enc)), .sh numbers, .sh (.int t), .ow (.list ((pick t rows []).map .int ++ [.int t])), s10]) := by
  have e1 := f_some_at_ok rows t
  have e2 := f_law_due_ok rows hr t ht
  have hl : (pick t rows []).length ≤ 1000 := pick_len t 1000 rows [] (fun r m => (hr.1 r m).2.2.2.2) (by simp)
  have e3 := f_law_is_ok (pick t rows []) hl
  have hs : (pick t rows []).length < sizeLine := by rw [sz24]; omega
  simp [f_law_l1, e1, e2, e3, hs, safeB, noL, noD]
theorem f_law_true (ns : List Int) (hn : ns.length ≤ 63) : f_law [.list (ns.map PyData.int)] = .ok (.sh (.bool true)) := by
  obtain ⟨_, e1, book, homes, weights, side, rfl, hh, hw, hl, hb, hp⟩ := f_law_blocks_ok ns
  obtain ⟨rows, e2, hr⟩ := f_law_known_ok book homes weights side hh hw hl hb hp
  have e3 := f_law_copy_ok rows hr
  obtain ⟨ms, e4, hm, hm1, hm2⟩ := f_law_c1_ok ns hn rows hr (.sh (.list book)) (.sh (.list (homes.map .int))) (.sh (.list (weights.map .int))) (.sh (.str side)) (.sh (.list (rows.map TR.enc))) .un .un .un .un
  cases ms with
  | nil => simp at hm1
  | cons m ms =>
    obtain ⟨N, hN⟩ : ∃ N : D, N = .list (.int 0 :: .int m :: ms.map .int) := ⟨_, rfl⟩
    simp only [List.length_cons] at hm2
    have a1 : dAdd (.list [.int 0]) (.list (.int m :: ms.map .int)) = .ok (.fr (.list (.int 0 :: .int m :: ms.map .int))) := dAdd_ll (by simp; omega)
    have a2 : dAdd (.list (.int 0 :: .int m :: ms.map .int)) (.list [.int m, .int 0]) = .ok (.fr (.list (.int 0 :: .int m :: ms.map .int ++ [.int m, .int 0]))) := dAdd_ll (by simp; omega)
    obtain ⟨ρ', e5, rfl⟩ := forL_ok (k := kName 8) (is := [8, 9]) (F := f_law_l1)
      (fun n ρ => ρ = [.sh (.list (ns.map .int)), .sh (.list book), .sh (.list (homes.map .int)), .sh (.list (weights.map .int)), .sh (.str side), .sh (.list (rows.map TR.enc)), .sh (.list (rows.map TR.enc)), .sh (.list (.int 0 :: .int m :: ms.map .int)), .un, .un, .un])
      (.int 0 :: .int m :: ms.map .int ++ [.int m, .int 0]) 0 rfl (by
        rintro i d ρ hd rfl
        obtain ⟨t, rfl, ht⟩ : ∃ t : Int, d = .int t ∧ 0 ≤ t := by
          have hmem := List.mem_of_getElem? hd
          simp at hmem
          rcases hmem with h | h | ⟨x, hx, h⟩ | h | h
          · exact ⟨0, h, by decide⟩
          · exact ⟨m, h, hm m List.mem_cons_self⟩
          · exact ⟨x, h.symm, hm x (List.mem_cons_of_mem _ hx)⟩
          · exact ⟨m, h, hm m List.mem_cons_self⟩
          · exact ⟨0, h, by decide⟩
        exact ⟨_, rfl, _, f_law_l1_ok (.list (ns.map .int)) (.list book) (.list (homes.map .int)) (.list (weights.map .int)) (.str side) _ rows hr t ht .un, by simp⟩)
    have hsh : SeqAt.shaped (.list (rows.map TR.enc)) = true := by
      obtain ⟨c1, c2⟩ := canRows hr.1
      unfold SeqAt.shaped
      rw [PyData.canLay0, c1, PyData.depth]
      simp
      omega
    have e6 := dEq_self hsh
    simp only [List.map_cons] at e4
    simp only [List.cons_append] at e5 a2
    simp [f_law, e1, e2, e3, e4, a1, a2, e5, e6]
end VL

set_option Elab.async false
set_option linter.all false
set_option maxRecDepth 100000
set_option maxHeartbeats 4000000
namespace Hd
open PySem PySem.Spec PyProof.Rows L2 VL
def top (i : Nat) : Stmt := PySem.Challenge.pw_likebook_k78_some_at_a_number.main.body.getD i (.Pass ⟨0, 0, 0, 0⟩)
def b_1 : PB := .cons (.set 2 "found" false (.lst (.nil) ⟨3, 12, 3, 14⟩) ⟨3, 4, 3, 9⟩ ⟨3, 4, 3, 14⟩) (.cons (.for_ (.nm 3 "row" ⟨4, 8, 4, 11⟩) .seq (.cons (.var 0 "table" ⟨4, 15, 4, 20⟩) .nil) [3] (.cons (.if_ (.cmp .le (.sub
    (.var 3 "row" ⟨5, 11, 5, 14⟩) (.int 0 0 ⟨5, 15, 5, 16⟩) ⟨5, 11, 5, 17⟩) (.var 1 "t" ⟨5, 21, 5, 22⟩) ⟨5, 11, 5, 22⟩) (.cons (.set 2 "found" false (.sub (.var 3 "row" ⟨6, 20, 6, 23⟩) (.int 1 0 ⟨6, 24, 6, 25⟩) ⟨6, 20, 6,
    26⟩) ⟨6, 12, 6, 17⟩ ⟨6, 12, 6, 26⟩) .nil) (.nil) ⟨5, 8, 6, 26⟩) .nil) ⟨4, 4, 6, 26⟩) (.cons (.ret (.blt .list (.var 2 "found" ⟨7, 16, 7, 21⟩) (.nil) ⟨7, 11, 7, 15⟩ ⟨7, 11, 7, 22⟩) ⟨7, 4, 7, 22⟩) .nil))
def N_1 : List Str := ["table", "t", "found", "row"]
theorem S_1 : FnScope N_1 ["table", "t"] (defScope (top 1)) := ⟨rfl, rfl, rfl, by decide +kernel, rfl, by decide +kernel, by decide +kernel⟩
theorem t_1 : b_1.sts = defBody (top 1) := by kernel_rfl
theorem o_1 : b_1.ok N_1 (defScope (top 1)) = true := by decide +kernel
theorem e_1 : runE 2 N_1.length b_1.ev = f_some_at := rfl
theorem u_1 : b_1.uses = [] := rfl
def b_3 : PB := .cons (.if_ (.cmp .lt (.var 1 "k" ⟨10, 7, 10, 8⟩) (.blt .len (.var 0 "script" ⟨10, 15, 10, 21⟩) (.nil) ⟨10, 11, 10, 14⟩ ⟨10, 11, 10, 22⟩) ⟨10, 7, 10, 22⟩) (.cons (.ret (.sub (.var 0 "script" ⟨11, 15, 11, 21⟩)
    (.var 1 "k" ⟨11, 22, 11, 23⟩) ⟨11, 15, 11, 24⟩) ⟨11, 8, 11, 24⟩) .nil) (.nil) ⟨10, 4, 11, 24⟩) (.cons (.ret (.bin .add (.bin .mul (.int 7 0 ⟨12, 11, 12, 12⟩) (.var 1 "k" ⟨12, 15, 12, 16⟩) ⟨12, 11, 12, 16⟩) (.int 5 0 ⟨12,
    19, 12, 20⟩) ⟨12, 11, 12, 20⟩) ⟨12, 4, 12, 20⟩) .nil)
def N_3 : List Str := ["script", "k"]
theorem S_3 : FnScope N_3 ["script", "k"] (defScope (top 3)) := ⟨rfl, rfl, rfl, by decide +kernel, rfl, by decide +kernel, by decide +kernel⟩
theorem t_3 : b_3.sts = defBody (top 3) := by kernel_rfl
theorem o_3 : b_3.ok N_3 (defScope (top 3)) = true := by decide +kernel
theorem e_3 : runE 2 N_3.length b_3.ev = f_law_cell := rfl
theorem u_3 : b_3.uses = [] := rfl
def b_4 : PB := .cons (.set 2 "number" false (.bin .mod (.bin .add (.bin .add (.bin .mul (.bin .mod (.var 0 "cell" ⟨14, 14, 14, 18⟩) (.int 2147483629 0 ⟨14, 21, 14, 31⟩) ⟨14, 14, 14, 31⟩) (.int 48271 0 ⟨14, 34, 14, 39⟩) ⟨14,
    14, 14, 39⟩) (.bin .mul (.bin .mul (.int 7919 0 ⟨14, 42, 14, 46⟩) (.var 1 "k" ⟨14, 49, 14, 50⟩) ⟨14, 42, 14, 50⟩) (.var 1 "k" ⟨14, 53, 14, 54⟩) ⟨14, 42, 14, 54⟩) ⟨14, 14, 14, 54⟩) (.int 104729 0 ⟨14, 57, 14, 63⟩) ⟨14,
    14, 14, 63⟩) (.int 2147483647 0 ⟨14, 67, 14, 77⟩) ⟨14, 13, 14, 77⟩) ⟨14, 4, 14, 10⟩ ⟨14, 4, 14, 77⟩) (.cons (.set 2 "number" false (.bin .mod (.bin .mul (.var 2 "number" ⟨15, 13, 15, 19⟩) (.var 2 "number" ⟨15, 22, 15,
    28⟩) ⟨15, 13, 15, 28⟩) (.int 2147483587 0 ⟨15, 31, 15, 41⟩) ⟨15, 13, 15, 41⟩) ⟨15, 4, 15, 10⟩ ⟨15, 4, 15, 41⟩) (.cons (.ret (.bin .div (.bin .mod (.bin .mul (.bin .add (.var 2 "number" ⟨16, 12, 16, 18⟩) (.bin .mul (.int
    31 0 ⟨16, 21, 16, 23⟩) (.var 1 "k" ⟨16, 26, 16, 27⟩) ⟨16, 21, 16, 27⟩) ⟨16, 12, 16, 27⟩) (.bin .add (.var 1 "k" ⟨16, 32, 16, 33⟩) (.int 39373 0 ⟨16, 36, 16, 41⟩) ⟨16, 32, 16, 41⟩) ⟨16, 11, 16, 42⟩) (.int 2147483629 0
    ⟨16, 45, 16, 55⟩) ⟨16, 11, 16, 55⟩) (.int 16 0 ⟨16, 59, 16, 61⟩) ⟨16, 11, 16, 61⟩) ⟨16, 4, 16, 61⟩) .nil))
def N_4 : List Str := ["cell", "k", "number"]
theorem S_4 : FnScope N_4 ["cell", "k"] (defScope (top 4)) := ⟨rfl, rfl, rfl, by decide +kernel, rfl, by decide +kernel, by decide +kernel⟩
theorem t_4 : b_4.sts = defBody (top 4) := by kernel_rfl
theorem o_4 : b_4.ok N_4 (defScope (top 4)) = true := by decide +kernel
theorem e_4 : runE 2 N_4.length b_4.ev = f_law_number := rfl
theorem u_4 : b_4.uses = [] := rfl
def b_5 : PB := .cons (.set 2 "found" true (.lst (.nil) ⟨18, 12, 18, 14⟩) ⟨18, 4, 18, 9⟩ ⟨18, 4, 18, 14⟩) (.cons (.set 3 "great" false (.cmp .ge (.var 0 "cell" ⟨19, 12, 19, 16⟩) (.bin .pow (.int 10 0 ⟨19, 20, 19, 22⟩) (.int
    18 0 ⟨19, 26, 19, 28⟩) ⟨19, 20, 19, 28⟩) ⟨19, 12, 19, 28⟩) ⟨19, 4, 19, 9⟩ ⟨19, 4, 19, 28⟩) (.cons (.for_ (.tp (.cons (.nm 4 "k" ⟨20, 8, 20, 9⟩) (.cons (.nm 5 "size" ⟨20, 11, 20, 15⟩) .nil)) 0 ⟨20, 8, 20, 15⟩) (.enum ⟨20,
    19, 20, 28⟩ ⟨20, 19, 20, 35⟩) (.cons (.var 1 "sizes" ⟨20, 29, 20, 34⟩) .nil) [4, 5] (.cons (.if_ (.var 3 "great" ⟨21, 11, 21, 16⟩) (.cons (.app 2 "found" (.bin .mod (.var 0 "cell" ⟨22, 25, 22, 29⟩) (.var 5 "size" ⟨22,
    32, 22, 36⟩) ⟨22, 25, 22, 36⟩) ⟨22, 12, 22, 17⟩ ⟨22, 12, 22, 24⟩ ⟨22, 12, 22, 37⟩ ⟨22, 12, 22, 37⟩) (.cons (.set 0 "cell" false (.bin .div (.var 0 "cell" ⟨23, 19, 23, 23⟩) (.var 5 "size" ⟨23, 27, 23, 31⟩) ⟨23, 19, 23,
    31⟩) ⟨23, 12, 23, 16⟩ ⟨23, 12, 23, 31⟩) .nil)) (.cons (.if_ (.cmp .gt (.var 5 "size" ⟨24, 13, 24, 17⟩) (.int 100000000 0 ⟨24, 20, 24, 29⟩) ⟨24, 13, 24, 29⟩) (.cons (.set 6 "number" false (.bin .add (.bin .mul (.call "_law_number"
    f_law_number 2 (.var 0 "cell" ⟨25, 33, 25, 37⟩) (.cons (.var 4 "k" ⟨25, 39, 25, 40⟩) .nil) ⟨25, 21, 25, 32⟩ ⟨25, 21, 25, 41⟩) (.int 134217757 0 ⟨25, 44, 25, 53⟩) ⟨25, 21, 25, 53⟩) (.call "_law_number" f_law_number 2 (.var
    0 "cell" ⟨25, 68, 25, 72⟩) (.cons (.bin .add (.var 4 "k" ⟨25, 74, 25, 75⟩) (.int 97 0 ⟨25, 78, 25, 80⟩) ⟨25, 74, 25, 80⟩) .nil) ⟨25, 56, 25, 67⟩ ⟨25, 56, 25, 81⟩) ⟨25, 21, 25, 81⟩) ⟨25, 12, 25, 18⟩ ⟨25, 12, 25, 81⟩) (.cons
    (.app 2 "found" (.bin .mod (.bin .add (.bin .mul (.var 6 "number" ⟨26, 26, 26, 32⟩) (.int 134217757 0 ⟨26, 35, 26, 44⟩) ⟨26, 26, 26, 44⟩) (.call "_law_number" f_law_number 2 (.var 0 "cell" ⟨26, 59, 26, 63⟩) (.cons (.bin
    .add (.var 4 "k" ⟨26, 65, 26, 66⟩) (.int 181 0 ⟨26, 69, 26, 72⟩) ⟨26, 65, 26, 72⟩) .nil) ⟨26, 47, 26, 58⟩ ⟨26, 47, 26, 73⟩) ⟨26, 26, 26, 73⟩) (.var 5 "size" ⟨26, 77, 26, 81⟩) ⟨26, 25, 26, 81⟩) ⟨26, 12, 26, 17⟩ ⟨26, 12,
    26, 24⟩ ⟨26, 12, 26, 82⟩ ⟨26, 12, 26, 82⟩) .nil)) (.cons (.app 2 "found" (.bin .mod (.call "_law_number" f_law_number 2 (.var 0 "cell" ⟨28, 37, 28, 41⟩) (.cons (.var 4 "k" ⟨28, 43, 28, 44⟩) .nil) ⟨28, 25, 28, 36⟩ ⟨28,
    25, 28, 45⟩) (.var 5 "size" ⟨28, 48, 28, 52⟩) ⟨28, 25, 28, 52⟩) ⟨28, 12, 28, 17⟩ ⟨28, 12, 28, 24⟩ ⟨28, 12, 28, 53⟩ ⟨28, 12, 28, 53⟩) .nil) ⟨24, 8, 28, 53⟩) .nil) ⟨21, 8, 28, 53⟩) .nil) ⟨20, 4, 28, 53⟩) (.cons (.ret (.var
    2 "found" ⟨29, 11, 29, 16⟩) ⟨29, 4, 29, 16⟩) .nil)))
def N_5 : List Str := ["cell", "sizes", "found", "great", "k", "size", "number"]
theorem S_5 : FnScope N_5 ["cell", "sizes"] (defScope (top 5)) := ⟨rfl, rfl, rfl, by decide +kernel, rfl, by decide +kernel, by decide +kernel⟩
theorem t_5 : b_5.sts = defBody (top 5) := by kernel_rfl
theorem o_5 : b_5.ok N_5 (defScope (top 5)) = true := by decide +kernel
theorem e_5 : runE 2 N_5.length b_5.ev = f_law_draws := rfl
theorem u_5 : b_5.uses = [.fn "_law_number" 2 f_law_number, .fn "_law_number" 2 f_law_number, .fn "_law_number" 2 f_law_number, .fn "_law_number" 2 f_law_number] := rfl
def b_6 : PB := .cons (.set 2 "letters" false (.str "bcdfghjklmnpqrstvwxyz" 0 ⟨31, 14, 31, 37⟩) ⟨31, 4, 31, 11⟩ ⟨31, 4, 31, 37⟩) (.cons (.set 3 "row" false (.call "_law_draws" f_law_draws 2 (.var 0 "cell" ⟨32, 21, 32, 25⟩)
    (.cons (.lst (.cons (.int 12 0 ⟨32, 28, 32, 30⟩) (.cons (.int 12 0 ⟨32, 32, 32, 34⟩) (.cons (.int 21 0 ⟨32, 36, 32, 38⟩) (.cons (.int 12 0 ⟨32, 40, 32, 42⟩) (.cons (.int 13 0 ⟨32, 44, 32, 46⟩) (.cons (.int 2 0 ⟨32, 48,
    32, 49⟩) .nil)))))) ⟨32, 27, 32, 50⟩) .nil) ⟨32, 10, 32, 20⟩ ⟨32, 10, 32, 51⟩) ⟨32, 4, 32, 7⟩ ⟨32, 4, 32, 51⟩) (.cons (.set 4 "at" false (.bin .mul (.bin .mod (.sub (.var 3 "row" ⟨33, 9, 33, 12⟩) (.int 1 0 ⟨33, 13, 33,
    14⟩) ⟨33, 9, 33, 15⟩) (.bin .add (.int 1 0 ⟨33, 19, 33, 20⟩) (.sub (.var 3 "row" ⟨33, 23, 33, 26⟩) (.int 0 0 ⟨33, 27, 33, 28⟩) ⟨33, 23, 33, 29⟩) ⟨33, 19, 33, 29⟩) ⟨33, 9, 33, 30⟩) (.sub (.var 3 "row" ⟨33, 33, 33, 36⟩)
    (.int 5 0 ⟨33, 37, 33, 38⟩) ⟨33, 33, 33, 39⟩) ⟨33, 9, 33, 39⟩) ⟨33, 4, 33, 6⟩ ⟨33, 4, 33, 39⟩) (.cons (.set 5 "words" true (.lst (.nil) ⟨34, 12, 34, 14⟩) ⟨34, 4, 34, 9⟩ ⟨34, 4, 34, 14⟩) (.cons (.for_ (.nm 6 "k" ⟨35, 8,
    35, 9⟩) (.range ⟨35, 13, 35, 18⟩ ⟨35, 13, 35, 24⟩) (.cons (.var 1 "many" ⟨35, 19, 35, 23⟩) .nil) [6, 7, 8, 9, 10] (.cons (.set 7 "place" false (.bin .mod (.bin .add (.bin .mul (.bin .add (.int 1 0 ⟨36, 18, 36, 19⟩) (.sub
    (.var 3 "row" ⟨36, 22, 36, 25⟩) (.int 3 0 ⟨36, 26, 36, 27⟩) ⟨36, 22, 36, 28⟩) ⟨36, 18, 36, 28⟩) (.var 6 "k" ⟨36, 32, 36, 33⟩) ⟨36, 17, 36, 33⟩) (.sub (.var 3 "row" ⟨36, 36, 36, 39⟩) (.int 4 0 ⟨36, 40, 36, 41⟩) ⟨36, 36,
    36, 42⟩) ⟨36, 17, 36, 42⟩) (.int 13 0 ⟨36, 46, 36, 48⟩) ⟨36, 16, 36, 48⟩) ⟨36, 8, 36, 13⟩ ⟨36, 8, 36, 48⟩) (.cons (.set 8 "spelt" false (.str "" 0 ⟨37, 16, 37, 18⟩) ⟨37, 8, 37, 13⟩ ⟨37, 8, 37, 18⟩) (.cons (.set 9 "size"
    false (.bin .add (.int 1 0 ⟨38, 15, 38, 16⟩) (.bin .mod (.bin .add (.sub (.var 3 "row" ⟨38, 20, 38, 23⟩) (.int 0 0 ⟨38, 24, 38, 25⟩) ⟨38, 20, 38, 26⟩) (.bin .mul (.bin .mul (.int 5 0 ⟨38, 29, 38, 30⟩) (.var 7 "place"
    ⟨38, 33, 38, 38⟩) ⟨38, 29, 38, 38⟩) (.bin .sub (.int 1 0 ⟨38, 42, 38, 43⟩) (.sub (.var 3 "row" ⟨38, 46, 38, 49⟩) (.int 5 0 ⟨38, 50, 38, 51⟩) ⟨38, 46, 38, 52⟩) ⟨38, 42, 38, 52⟩) ⟨38, 29, 38, 53⟩) ⟨38, 20, 38, 53⟩) (.int
    12 0 ⟨38, 57, 38, 59⟩) ⟨38, 19, 38, 59⟩) ⟨38, 15, 38, 59⟩) ⟨38, 8, 38, 12⟩ ⟨38, 8, 38, 59⟩) (.cons (.for_ (.nm 10 "j" ⟨39, 12, 39, 13⟩) (.range ⟨39, 17, 39, 22⟩ ⟨39, 17, 39, 28⟩) (.cons (.var 9 "size" ⟨39, 23, 39, 27⟩)
    .nil) [] (.cons (.set 11 "step" false (.bin .add (.bin .add (.sub (.var 3 "row" ⟨40, 19, 40, 22⟩) (.int 2 0 ⟨40, 23, 40, 24⟩) ⟨40, 19, 40, 25⟩) (.bin .mul (.var 10 "j" ⟨40, 28, 40, 29⟩) (.var 10 "j" ⟨40, 32, 40, 33⟩)
    ⟨40, 28, 40, 33⟩) ⟨40, 19, 40, 33⟩) (.bin .mul (.bin .mul (.int 4 0 ⟨40, 36, 40, 37⟩) (.var 7 "place" ⟨40, 40, 40, 45⟩) ⟨40, 36, 40, 45⟩) (.blt .int (.cmp .eq (.var 10 "j" ⟨40, 52, 40, 53⟩) (.var 4 "at" ⟨40, 57, 40, 59⟩)
    ⟨40, 52, 40, 59⟩) (.nil) ⟨40, 48, 40, 51⟩ ⟨40, 48, 40, 60⟩) ⟨40, 36, 40, 60⟩) ⟨40, 19, 40, 60⟩) ⟨40, 12, 40, 16⟩ ⟨40, 12, 40, 60⟩) (.cons (.set 8 "spelt" false (.bin .add (.var 8 "spelt" ⟨41, 20, 41, 25⟩) (.sub (.var
    2 "letters" ⟨41, 28, 41, 35⟩) (.bin .mod (.var 11 "step" ⟨41, 36, 41, 40⟩) (.int 21 0 ⟨41, 43, 41, 45⟩) ⟨41, 36, 41, 45⟩) ⟨41, 28, 41, 46⟩) ⟨41, 20, 41, 46⟩) ⟨41, 12, 41, 17⟩ ⟨41, 12, 41, 46⟩) .nil)) ⟨39, 8, 41, 46⟩)
    (.cons (.app 5 "words" (.var 8 "spelt" ⟨42, 21, 42, 26⟩) ⟨42, 8, 42, 13⟩ ⟨42, 8, 42, 20⟩ ⟨42, 8, 42, 27⟩ ⟨42, 8, 42, 27⟩) .nil))))) ⟨35, 4, 42, 27⟩) (.cons (.ret (.var 5 "words" ⟨43, 11, 43, 16⟩) ⟨43, 4, 43, 16⟩) .nil)))))
def N_6 : List Str := ["cell", "many", "letters", "row", "at", "words", "k", "place", "spelt", "size", "j", "step"]
theorem S_6 : FnScope N_6 ["cell", "many"] (defScope (top 6)) := ⟨rfl, rfl, rfl, by decide +kernel, rfl, by decide +kernel, by decide +kernel⟩
theorem t_6 : b_6.sts = defBody (top 6) := by kernel_rfl
theorem o_6 : b_6.ok N_6 (defScope (top 6)) = true := by decide +kernel
theorem e_6 : runE 2 N_6.length b_6.ev = f_law_names := rfl
theorem u_6 : b_6.uses = [.fn "_law_draws" 2 f_law_draws] := rfl
def b_7 : PB := .cons (.set 2 "head" false (.call "_law_draws" f_law_draws 2 (.call "_law_cell" f_law_cell 2 (.var 0 "script" ⟨45, 32, 45, 38⟩) (.cons (.int 0 0 ⟨45, 40, 45, 41⟩) .nil) ⟨45, 22, 45, 31⟩ ⟨45, 22, 45, 42⟩) (.cons
    (.lst (.cons (.bin .add (.var 1 "most" ⟨45, 45, 45, 49⟩) (.int 1 0 ⟨45, 52, 45, 53⟩) ⟨45, 45, 45, 53⟩) (.cons (.int 5 0 ⟨45, 55, 45, 56⟩) (.cons (.int 6 0 ⟨45, 58, 45, 59⟩) (.cons (.int 2 0 ⟨45, 61, 45, 62⟩) (.cons (.int
    2 0 ⟨45, 64, 45, 65⟩) .nil))))) ⟨45, 44, 45, 66⟩) .nil) ⟨45, 11, 45, 21⟩ ⟨45, 11, 45, 67⟩) ⟨45, 4, 45, 8⟩ ⟨45, 4, 45, 67⟩) (.cons (.set 3 "words" false (.call "_law_names" f_law_names 2 (.call "_law_cell" f_law_cell 2
    (.var 0 "script" ⟨46, 33, 46, 39⟩) (.cons (.int 1 0 ⟨46, 41, 46, 42⟩) .nil) ⟨46, 23, 46, 32⟩ ⟨46, 23, 46, 43⟩) (.cons (.bin .add (.int 1 0 ⟨46, 45, 46, 46⟩) (.sub (.var 2 "head" ⟨46, 49, 46, 53⟩) (.int 1 0 ⟨46, 54, 46,
    55⟩) ⟨46, 49, 46, 56⟩) ⟨46, 45, 46, 56⟩) .nil) ⟨46, 12, 46, 22⟩ ⟨46, 12, 46, 57⟩) ⟨46, 4, 46, 9⟩ ⟨46, 4, 46, 57⟩) (.cons (.set 4 "top" false (.sub (.lst (.cons (.int 1 0 ⟨47, 11, 47, 12⟩) (.cons (.int 3 0 ⟨47, 14, 47,
    15⟩) (.cons (.int 12 0 ⟨47, 17, 47, 19⟩) (.cons (.bin .pow (.int 10 0 ⟨47, 21, 47, 23⟩) (.int 6 0 ⟨47, 27, 47, 28⟩) ⟨47, 21, 47, 28⟩) (.cons (.bin .pow (.int 10 0 ⟨47, 30, 47, 32⟩) (.int 17 0 ⟨47, 36, 47, 38⟩) ⟨47, 30,
    47, 38⟩) (.cons (.bin .pow (.int 10 0 ⟨47, 40, 47, 42⟩) (.int 18 0 ⟨47, 46, 47, 48⟩) ⟨47, 40, 47, 48⟩) .nil)))))) ⟨47, 10, 47, 49⟩) (.sub (.var 2 "head" ⟨47, 50, 47, 54⟩) (.int 2 0 ⟨47, 55, 47, 56⟩) ⟨47, 50, 47, 57⟩)
    ⟨47, 10, 47, 58⟩) ⟨47, 4, 47, 7⟩ ⟨47, 4, 47, 58⟩) (.cons (.set 5 "rows" false (.lc (.range ⟨48, 84, 48, 89⟩ ⟨48, 84, 48, 98⟩) (.cons (.sub (.var 2 "head" ⟨48, 90, 48, 94⟩) (.int 0 0 ⟨48, 95, 48, 96⟩) ⟨48, 90, 48, 97⟩)
    .nil) (.nm 11 "k" ⟨48, 79, 48, 80⟩) (.nil) (.call "_law_draws" f_law_draws 2 (.call "_law_cell" f_law_cell 2 (.var 0 "script" ⟨48, 33, 48, 39⟩) (.cons (.bin .add (.int 2 0 ⟨48, 41, 48, 42⟩) (.var 11 "k" ⟨48, 45, 48, 46⟩)
    ⟨48, 41, 48, 46⟩) .nil) ⟨48, 23, 48, 32⟩ ⟨48, 23, 48, 47⟩) (.cons (.lst (.cons (.int 2 0 ⟨48, 50, 48, 51⟩) (.cons (.bin .add (.int 1 0 ⟨48, 53, 48, 54⟩) (.sub (.var 2 "head" ⟨48, 57, 48, 61⟩) (.int 1 0 ⟨48, 62, 48, 63⟩)
    ⟨48, 57, 48, 64⟩) ⟨48, 53, 48, 64⟩) (.cons (.var 4 "top" ⟨48, 66, 48, 69⟩) (.cons (.int 2 0 ⟨48, 71, 48, 72⟩) .nil)))) ⟨48, 49, 48, 73⟩) .nil) ⟨48, 12, 48, 22⟩ ⟨48, 12, 48, 74⟩) (.mk .function [(".0", .local), ("k", .local),
    ("_law_draws", .globalImplicit), ("_law_cell", .globalImplicit), ("head", .free), ("script", .free), ("top", .free)] false false []) [("k", 11)] ⟨48, 11, 48, 99⟩) ⟨48, 4, 48, 8⟩ ⟨48, 4, 48, 99⟩) (.cons (.set 6 "book"
    true (.lst (.nil) ⟨49, 11, 49, 13⟩) ⟨49, 4, 49, 8⟩ ⟨49, 4, 49, 13⟩) (.cons (.for_ (.nm 7 "row" ⟨50, 8, 50, 11⟩) .seq (.cons (.var 5 "rows" ⟨50, 15, 50, 19⟩) .nil) [8, 9] (.cons (.set 8 "case" false (.tup (.cons (.tup
    (.cons (.tup (.cons (.sub (.var 3 "words" ⟨51, 18, 51, 23⟩) (.sub (.var 7 "row" ⟨51, 24, 51, 27⟩) (.int 1 0 ⟨51, 28, 51, 29⟩) ⟨51, 24, 51, 30⟩) ⟨51, 18, 51, 31⟩) (.cons (.bin .add (.int 1 0 ⟨51, 33, 51, 34⟩) (.sub (.var
    7 "row" ⟨51, 37, 51, 40⟩) (.int 3 0 ⟨51, 41, 51, 42⟩) ⟨51, 37, 51, 43⟩) ⟨51, 33, 51, 43⟩) .nil)) 0 ⟨51, 17, 51, 44⟩) .nil) 0 ⟨51, 16, 51, 46⟩) (.cons (.tup (.nil) 0 ⟨51, 48, 51, 50⟩) .nil)) 0 ⟨51, 15, 51, 51⟩) ⟨51, 8,
    51, 12⟩ ⟨51, 8, 51, 51⟩) (.cons (.set 9 "one" false (.tup (.cons (.var 8 "case" ⟨52, 15, 52, 19⟩) (.cons (.str "for" 0 ⟨52, 21, 52, 26⟩) (.cons (.tup (.cons (.tup (.cons (.sub (.var 3 "words" ⟨52, 30, 52, 35⟩) (.sub (.var
    7 "row" ⟨52, 36, 52, 39⟩) (.int 1 0 ⟨52, 40, 52, 41⟩) ⟨52, 36, 52, 42⟩) ⟨52, 30, 52, 43⟩) (.cons (.int 1 0 ⟨52, 45, 52, 46⟩) .nil)) 0 ⟨52, 29, 52, 47⟩) .nil) 0 ⟨52, 28, 52, 49⟩) .nil))) 0 ⟨52, 14, 52, 50⟩) ⟨52, 8, 52,
    11⟩ ⟨52, 8, 52, 50⟩) (.cons (.if_ (.cmp .eq (.sub (.var 7 "row" ⟨53, 11, 53, 14⟩) (.int 0 0 ⟨53, 15, 53, 16⟩) ⟨53, 11, 53, 17⟩) (.int 1 0 ⟨53, 21, 53, 22⟩) ⟨53, 11, 53, 22⟩) (.cons (.set 9 "one" false (.tup (.cons (.var
    8 "case" ⟨54, 19, 54, 23⟩) (.cons (.str "against" 0 ⟨54, 25, 54, 34⟩) (.cons (.tup (.nil) 0 ⟨54, 36, 54, 38⟩) .nil))) 0 ⟨54, 18, 54, 39⟩) ⟨54, 12, 54, 15⟩ ⟨54, 12, 54, 39⟩) .nil) (.nil) ⟨53, 8, 54, 39⟩) (.cons (.if_ (.cmp
    .eq (.sub (.var 2 "head" ⟨55, 11, 55, 15⟩) (.int 3 0 ⟨55, 16, 55, 17⟩) ⟨55, 11, 55, 18⟩) (.int 1 0 ⟨55, 22, 55, 23⟩) ⟨55, 11, 55, 23⟩) (.cons (.set 9 "one" false (.tup (.cons (.tup (.cons (.sub (.var 8 "case" ⟨56, 20,
    56, 24⟩) (.int 1 0 ⟨56, 25, 56, 26⟩) ⟨56, 20, 56, 27⟩) (.cons (.sub (.var 8 "case" ⟨56, 29, 56, 33⟩) (.int 0 0 ⟨56, 34, 56, 35⟩) ⟨56, 29, 56, 36⟩) .nil)) 0 ⟨56, 19, 56, 37⟩) (.cons (.sub (.lst (.cons (.str "for" 0 ⟨56,
    40, 56, 45⟩) (.cons (.str "against" 0 ⟨56, 47, 56, 56⟩) .nil)) ⟨56, 39, 56, 57⟩) (.bin .sub (.int 1 0 ⟨56, 58, 56, 59⟩) (.sub (.var 7 "row" ⟨56, 62, 56, 65⟩) (.int 0 0 ⟨56, 66, 56, 67⟩) ⟨56, 62, 56, 68⟩) ⟨56, 58, 56,
    68⟩) ⟨56, 39, 56, 69⟩) (.cons (.sub (.var 9 "one" ⟨56, 71, 56, 74⟩) (.int 2 0 ⟨56, 75, 56, 76⟩) ⟨56, 71, 56, 77⟩) .nil))) 0 ⟨56, 18, 56, 78⟩) ⟨56, 12, 56, 15⟩ ⟨56, 12, 56, 78⟩) .nil) (.nil) ⟨55, 8, 56, 78⟩) (.cons (.app
    6 "book" (.var 9 "one" ⟨57, 20, 57, 23⟩) ⟨57, 8, 57, 12⟩ ⟨57, 8, 57, 19⟩ ⟨57, 8, 57, 24⟩ ⟨57, 8, 57, 24⟩) .nil))))) ⟨50, 4, 57, 24⟩) (.frz 6 (.cons (.set 10 "side" false (.sub (.lst (.cons (.str "for" 0 ⟨58, 12, 58, 17⟩)
    (.cons (.str "against" 0 ⟨58, 19, 58, 28⟩) .nil)) ⟨58, 11, 58, 29⟩) (.sub (.var 2 "head" ⟨58, 30, 58, 34⟩) (.int 4 0 ⟨58, 35, 58, 36⟩) ⟨58, 30, 58, 37⟩) ⟨58, 11, 58, 38⟩) ⟨58, 4, 58, 8⟩ ⟨58, 4, 58, 38⟩) (.cons (.ret (.tup
    (.cons (.var 6 "book" ⟨59, 12, 59, 16⟩) (.cons (.lc .seq (.cons (.var 5 "rows" ⟨59, 37, 59, 41⟩) .nil) (.nm 7 "row" ⟨59, 30, 59, 33⟩) (.nil) (.sub (.var 7 "row" ⟨59, 19, 59, 22⟩) (.int 1 0 ⟨59, 23, 59, 24⟩) ⟨59, 19, 59,
    25⟩) (.mk .function [(".0", .local), ("row", .local)] false false []) [("row", 7)] ⟨59, 18, 59, 42⟩) (.cons (.lc .seq (.cons (.var 5 "rows" ⟨59, 67, 59, 71⟩) .nil) (.nm 7 "row" ⟨59, 60, 59, 63⟩) (.nil) (.bin .add (.int
    1 0 ⟨59, 45, 59, 46⟩) (.sub (.var 7 "row" ⟨59, 49, 59, 52⟩) (.int 2 0 ⟨59, 53, 59, 54⟩) ⟨59, 49, 59, 55⟩) ⟨59, 45, 59, 55⟩) (.mk .function [(".0", .local), ("row", .local)] false false []) [("row", 7)] ⟨59, 44, 59, 72⟩)
    (.cons (.var 10 "side" ⟨59, 74, 59, 78⟩) .nil)))) 0 ⟨59, 11, 59, 79⟩) ⟨59, 4, 59, 79⟩) .nil))))))))
def N_7 : List Str := ["script", "most", "head", "words", "top", "rows", "book", "row", "case", "one", "side", "k"]
theorem S_7 : FnScope N_7 ["script", "most"] (defScope (top 7)) := ⟨rfl, rfl, rfl, by decide +kernel, rfl, by decide +kernel, by decide +kernel⟩
theorem t_7 : b_7.sts = defBody (top 7) := by kernel_rfl
theorem o_7 : b_7.ok N_7 (defScope (top 7)) = true := by decide +kernel
theorem e_7 : runE 2 N_7.length b_7.ev = f_law_blocks := rfl
theorem u_7 : b_7.uses = [.fn "_law_draws" 2 f_law_draws, .fn "_law_cell" 2 f_law_cell, .fn "_law_names" 2 f_law_names, .fn "_law_cell" 2 f_law_cell, .fn "_law_draws" 2 f_law_draws, .fn "_law_cell" 2 f_law_cell] := rfl
def b_8 : PB := .cons (.set 4 "found" true (.dnew ⟨61, 12, 61, 14⟩) ⟨61, 4, 61, 9⟩ ⟨61, 4, 61, 14⟩) (.cons (.for_ (.nm 5 "block" ⟨62, 8, 62, 13⟩) .seq (.cons (.sset (.var 1 "home" ⟨62, 28, 62, 32⟩) ⟨62, 17, 62, 23⟩ ⟨62, 24,
    62, 27⟩ ⟨62, 24, 62, 33⟩ ⟨62, 17, 62, 34⟩) .nil) [5, 6, 7] (.cons (.set 6 "mine" false (.lc (.enum ⟨63, 41, 63, 50⟩ ⟨63, 41, 63, 56⟩) (.cons (.var 0 "book" ⟨63, 51, 63, 55⟩) .nil) (.tp (.cons (.nm 8 "k" ⟨63, 31, 63, 32⟩)
    (.cons (.nm 9 "one" ⟨63, 34, 63, 37⟩) .nil)) 0 ⟨63, 31, 63, 37⟩) (.cons (.and (.cmp .eq (.sub (.var 1 "home" ⟨63, 60, 63, 64⟩) (.var 8 "k" ⟨63, 65, 63, 66⟩) ⟨63, 60, 63, 67⟩) (.var 5 "block" ⟨63, 71, 63, 76⟩) ⟨63, 60,
    63, 76⟩) (.cons (.cmp .eq (.sub (.var 9 "one" ⟨63, 81, 63, 84⟩) (.int 1 0 ⟨63, 85, 63, 86⟩) ⟨63, 81, 63, 87⟩) (.var 3 "side" ⟨63, 91, 63, 95⟩) ⟨63, 81, 63, 95⟩) .nil) ⟨63, 60, 63, 95⟩) .nil) (.sub (.var 2 "weights" ⟨63,
    16, 63, 23⟩) (.var 8 "k" ⟨63, 24, 63, 25⟩) ⟨63, 16, 63, 26⟩) (.mk .function [(".0", .local), ("k", .local), ("one", .local), ("block", .free), ("home", .free), ("side", .free), ("weights", .free)] false false []) [("k",
    8), ("one", 9)] ⟨63, 15, 63, 96⟩) ⟨63, 8, 63, 12⟩ ⟨63, 8, 63, 96⟩) (.cons (.set 7 "across" false (.lc (.enum ⟨64, 43, 64, 52⟩ ⟨64, 43, 64, 58⟩) (.cons (.var 0 "book" ⟨64, 53, 64, 57⟩) .nil) (.tp (.cons (.nm 8 "k" ⟨64,
    33, 64, 34⟩) (.cons (.nm 9 "one" ⟨64, 36, 64, 39⟩) .nil)) 0 ⟨64, 33, 64, 39⟩) (.cons (.and (.cmp .eq (.sub (.var 1 "home" ⟨64, 62, 64, 66⟩) (.var 8 "k" ⟨64, 67, 64, 68⟩) ⟨64, 62, 64, 69⟩) (.var 5 "block" ⟨64, 73, 64,
    78⟩) ⟨64, 62, 64, 78⟩) (.cons (.cmp .ne (.sub (.var 9 "one" ⟨64, 83, 64, 86⟩) (.int 1 0 ⟨64, 87, 64, 88⟩) ⟨64, 83, 64, 89⟩) (.var 3 "side" ⟨64, 93, 64, 97⟩) ⟨64, 83, 64, 97⟩) .nil) ⟨64, 62, 64, 97⟩) .nil) (.sub (.var
    2 "weights" ⟨64, 18, 64, 25⟩) (.var 8 "k" ⟨64, 26, 64, 27⟩) ⟨64, 18, 64, 28⟩) (.mk .function [(".0", .local), ("k", .local), ("one", .local), ("block", .free), ("home", .free), ("side", .free), ("weights", .free)] false
    false []) [("k", 8), ("one", 9)] ⟨64, 17, 64, 98⟩) ⟨64, 8, 64, 14⟩ ⟨64, 8, 64, 98⟩) (.cons (.if_ (.and (.cmp .ne (.var 6 "mine" ⟨65, 11, 65, 15⟩) (.lst (.nil) ⟨65, 19, 65, 21⟩) ⟨65, 11, 65, 21⟩) (.cons (.cmp .ne (.var
    7 "across" ⟨65, 26, 65, 32⟩) (.lst (.nil) ⟨65, 36, 65, 38⟩) ⟨65, 26, 65, 38⟩) .nil) ⟨65, 11, 65, 38⟩) (.cons (.put 4 "found" (.var 5 "block" ⟨66, 18, 66, 23⟩) (.blt .max (.int 0 0 ⟨66, 31, 66, 32⟩) (.cons (.neg (.bin
    .div (.bin .sub (.blt .sum (.var 6 "mine" ⟨66, 41, 66, 45⟩) (.nil) ⟨66, 37, 66, 40⟩ ⟨66, 37, 66, 46⟩) (.blt .sum (.var 7 "across" ⟨66, 53, 66, 59⟩) (.nil) ⟨66, 49, 66, 52⟩ ⟨66, 49, 66, 60⟩) ⟨66, 37, 66, 60⟩) (.blt .len
    (.var 6 "mine" ⟨66, 69, 66, 73⟩) (.nil) ⟨66, 65, 66, 68⟩ ⟨66, 65, 66, 74⟩) ⟨66, 36, 66, 74⟩) ⟨66, 34, 66, 75⟩) .nil) ⟨66, 27, 66, 30⟩ ⟨66, 27, 66, 76⟩) ⟨66, 12, 66, 17⟩ ⟨66, 12, 66, 24⟩ ⟨66, 12, 66, 76⟩) .nil) (.nil)
    ⟨65, 8, 66, 76⟩) .nil))) ⟨62, 4, 66, 76⟩) (.cons (.ret (.var 4 "found" ⟨67, 11, 67, 16⟩) ⟨67, 4, 67, 16⟩) .nil))
def N_8 : List Str := ["book", "home", "weights", "side", "found", "block", "mine", "across", "k", "one"]
theorem S_8 : FnScope N_8 ["book", "home", "weights", "side"] (defScope (top 8)) := ⟨rfl, rfl, rfl, by decide +kernel, rfl, by decide +kernel, by decide +kernel⟩
theorem t_8 : b_8.sts = defBody (top 8) := by kernel_rfl
theorem o_8 : b_8.ok N_8 (defScope (top 8)) = true := by decide +kernel
theorem e_8 : runE 4 N_8.length b_8.ev = f_law_crossings := rfl
theorem u_8 : b_8.uses = [] := rfl
def b_9 : PB := .cons (.set 5 "found" true (.lst (.nil) ⟨69, 12, 69, 14⟩) ⟨69, 4, 69, 9⟩ ⟨69, 4, 69, 14⟩) (.cons (.for_ (.tp (.cons (.nm 6 "k" ⟨70, 8, 70, 9⟩) (.cons (.nm 7 "one" ⟨70, 11, 70, 14⟩) .nil)) 0 ⟨70, 8, 70, 14⟩)
    (.enum ⟨70, 18, 70, 27⟩ ⟨70, 18, 70, 33⟩) (.cons (.var 0 "book" ⟨70, 28, 70, 32⟩) .nil) [6, 7] (.cons (.if_ (.and (.mem false (.sub (.var 1 "home" ⟨71, 11, 71, 15⟩) (.var 6 "k" ⟨71, 16, 71, 17⟩) ⟨71, 11, 71, 18⟩) (.var
    3 "crossings" ⟨71, 22, 71, 31⟩) ⟨71, 11, 71, 31⟩) (.cons (.cmp .eq (.cmp .eq (.sub (.var 7 "one" ⟨71, 37, 71, 40⟩) (.int 1 0 ⟨71, 41, 71, 42⟩) ⟨71, 37, 71, 43⟩) (.var 2 "side" ⟨71, 47, 71, 51⟩) ⟨71, 37, 71, 51⟩) (.cmp
    .lt (.var 4 "t" ⟨71, 57, 71, 58⟩) (.sub (.var 3 "crossings" ⟨71, 61, 71, 70⟩) (.sub (.var 1 "home" ⟨71, 71, 71, 75⟩) (.var 6 "k" ⟨71, 76, 71, 77⟩) ⟨71, 71, 71, 78⟩) ⟨71, 61, 71, 79⟩) ⟨71, 57, 71, 79⟩) ⟨71, 36, 71, 80⟩)
    .nil) ⟨71, 11, 71, 80⟩) (.cons (.app 5 "found" (.var 6 "k" ⟨72, 25, 72, 26⟩) ⟨72, 12, 72, 17⟩ ⟨72, 12, 72, 24⟩ ⟨72, 12, 72, 27⟩ ⟨72, 12, 72, 27⟩) .nil) (.nil) ⟨71, 8, 72, 27⟩) .nil) ⟨70, 4, 72, 27⟩) (.cons (.ret (.var
    5 "found" ⟨73, 11, 73, 16⟩) ⟨73, 4, 73, 16⟩) .nil))
def N_9 : List Str := ["book", "home", "side", "crossings", "t", "found", "k", "one"]
theorem S_9 : FnScope N_9 ["book", "home", "side", "crossings", "t"] (defScope (top 9)) := ⟨rfl, rfl, rfl, by decide +kernel, rfl, by decide +kernel, by decide +kernel⟩
theorem t_9 : b_9.sts = defBody (top 9) := by kernel_rfl
theorem o_9 : b_9.ok N_9 (defScope (top 9)) = true := by decide +kernel
theorem e_9 : runE 5 N_9.length b_9.ev = f_law_some_by := rfl
theorem u_9 : b_9.uses = [] := rfl
def b_10 : PB := .cons (.set 3 "spare" true (.blt .list (.var 2 "weights" ⟨75, 17, 75, 24⟩) (.nil) ⟨75, 12, 75, 16⟩ ⟨75, 12, 75, 25⟩) ⟨75, 4, 75, 9⟩ ⟨75, 4, 75, 25⟩) (.cons (.set 4 "found" true (.lst (.nil) ⟨76, 12, 76, 14⟩)
    ⟨76, 4, 76, 9⟩ ⟨76, 4, 76, 14⟩) (.cons (.for_ (.tp (.cons (.nm 5 "k" ⟨77, 8, 77, 9⟩) (.cons (.nm 6 "one" ⟨77, 11, 77, 14⟩) .nil)) 0 ⟨77, 8, 77, 14⟩) (.enum ⟨77, 18, 77, 27⟩ ⟨77, 18, 77, 33⟩) (.cons (.var 0 "book" ⟨77,
    28, 77, 32⟩) .nil) [5, 6, 7, 8] (.cons (.for_ (.tp (.cons (.nm 7 "j" ⟨78, 12, 78, 13⟩) (.cons (.nm 8 "other" ⟨78, 15, 78, 20⟩) .nil)) 0 ⟨78, 12, 78, 20⟩) (.enum ⟨78, 24, 78, 33⟩ ⟨78, 24, 78, 39⟩) (.cons (.var 0 "book"
    ⟨78, 34, 78, 38⟩) .nil) [] (.cons (.if_ (.and (.cmp .eq (.sub (.var 6 "one" ⟨79, 15, 79, 18⟩) (.int 1 0 ⟨79, 19, 79, 20⟩) ⟨79, 15, 79, 21⟩) (.str "for" 0 ⟨79, 25, 79, 30⟩) ⟨79, 15, 79, 30⟩) (.cons (.cmp .eq (.sub (.var
    8 "other" ⟨79, 35, 79, 40⟩) (.int 1 0 ⟨79, 41, 79, 42⟩) ⟨79, 35, 79, 43⟩) (.str "against" 0 ⟨79, 47, 79, 56⟩) ⟨79, 35, 79, 56⟩) (.cons (.cmp .eq (.sub (.var 1 "home" ⟨79, 62, 79, 66⟩) (.var 5 "k" ⟨79, 67, 79, 68⟩) ⟨79,
    62, 79, 69⟩) (.sub (.var 1 "home" ⟨79, 73, 79, 77⟩) (.var 7 "j" ⟨79, 78, 79, 79⟩) ⟨79, 73, 79, 80⟩) ⟨79, 62, 79, 80⟩) .nil)) ⟨79, 15, 79, 81⟩) (.cons (.set 9 "share" false (.blt .min (.sub (.var 3 "spare" ⟨80, 28, 80,
    33⟩) (.var 5 "k" ⟨80, 34, 80, 35⟩) ⟨80, 28, 80, 36⟩) (.cons (.sub (.var 3 "spare" ⟨80, 38, 80, 43⟩) (.var 7 "j" ⟨80, 44, 80, 45⟩) ⟨80, 38, 80, 46⟩) .nil) ⟨80, 24, 80, 27⟩ ⟨80, 24, 80, 47⟩) ⟨80, 16, 80, 21⟩ ⟨80, 16, 80,
    47⟩) (.cons (.if_ (.cmp .gt (.var 9 "share" ⟨81, 19, 81, 24⟩) (.int 0 0 ⟨81, 27, 81, 28⟩) ⟨81, 19, 81, 28⟩) (.cons (.app 4 "found" (.tup (.cons (.var 5 "k" ⟨82, 34, 82, 35⟩) (.cons (.var 7 "j" ⟨82, 37, 82, 38⟩) (.cons
    (.var 9 "share" ⟨82, 40, 82, 45⟩) .nil))) 0 ⟨82, 33, 82, 46⟩) ⟨82, 20, 82, 25⟩ ⟨82, 20, 82, 32⟩ ⟨82, 20, 82, 47⟩ ⟨82, 20, 82, 47⟩) (.cons (.put 3 "spare" (.var 5 "k" ⟨83, 26, 83, 27⟩) (.bin .sub (.sub (.var 3 "spare"
    ⟨83, 31, 83, 36⟩) (.var 5 "k" ⟨83, 37, 83, 38⟩) ⟨83, 31, 83, 39⟩) (.var 9 "share" ⟨83, 42, 83, 47⟩) ⟨83, 31, 83, 47⟩) ⟨83, 20, 83, 25⟩ ⟨83, 20, 83, 28⟩ ⟨83, 20, 83, 47⟩) (.cons (.put 3 "spare" (.var 7 "j" ⟨84, 26, 84,
    27⟩) (.bin .sub (.sub (.var 3 "spare" ⟨84, 31, 84, 36⟩) (.var 7 "j" ⟨84, 37, 84, 38⟩) ⟨84, 31, 84, 39⟩) (.var 9 "share" ⟨84, 42, 84, 47⟩) ⟨84, 31, 84, 47⟩) ⟨84, 20, 84, 25⟩ ⟨84, 20, 84, 28⟩ ⟨84, 20, 84, 47⟩) .nil))) (.nil)
    ⟨81, 16, 84, 47⟩) .nil)) (.nil) ⟨79, 12, 84, 47⟩) .nil) ⟨78, 8, 84, 47⟩) .nil) ⟨77, 4, 84, 47⟩) (.cons (.ret (.var 4 "found" ⟨85, 11, 85, 16⟩) ⟨85, 4, 85, 16⟩) .nil)))
def N_10 : List Str := ["book", "home", "weights", "spare", "found", "k", "one", "j", "other", "share"]
theorem S_10 : FnScope N_10 ["book", "home", "weights"] (defScope (top 10)) := ⟨rfl, rfl, rfl, by decide +kernel, rfl, by decide +kernel, by decide +kernel⟩
theorem t_10 : b_10.sts = defBody (top 10) := by kernel_rfl
theorem o_10 : b_10.ok N_10 (defScope (top 10)) = true := by decide +kernel
theorem e_10 : runE 3 N_10.length b_10.ev = f_law_shares_by := rfl
theorem u_10 : b_10.uses = [] := rfl
def b_12 : PB := .cons (.ret (.lc (.zip ⟨98, 64, 98, 67⟩ ⟨98, 64, 98, 82⟩) (.cons (.var 0 "book" ⟨98, 68, 98, 72⟩) (.cons (.var 1 "weights" ⟨98, 74, 98, 81⟩) .nil)) (.tp (.cons (.nm 4 "one" ⟨98, 49, 98, 52⟩) (.cons (.nm 5
    "weight" ⟨98, 54, 98, 60⟩) .nil)) 0 ⟨98, 49, 98, 60⟩) (.nil) (.bin .add (.var 5 "weight" ⟨98, 12, 98, 18⟩) (.bin .mul (.var 3 "t" ⟨98, 21, 98, 22⟩) (.blt .int (.cmp .eq (.sub (.var 4 "one" ⟨98, 29, 98, 32⟩) (.int 1 0
    ⟨98, 33, 98, 34⟩) ⟨98, 29, 98, 35⟩) (.var 2 "side" ⟨98, 39, 98, 43⟩) ⟨98, 29, 98, 43⟩) (.nil) ⟨98, 25, 98, 28⟩ ⟨98, 25, 98, 44⟩) ⟨98, 21, 98, 44⟩) ⟨98, 12, 98, 44⟩) (.mk .function [(".0", .local), ("one", .local), ("weight",
    .local), ("int", .globalImplicit), ("side", .free), ("t", .free)] false false []) [("one", 4), ("weight", 5)] ⟨98, 11, 98, 83⟩) ⟨98, 4, 98, 83⟩) .nil
def N_12 : List Str := ["book", "weights", "side", "t", "one", "weight"]
theorem S_12 : FnScope N_12 ["book", "weights", "side", "t"] (defScope (top 12)) := ⟨rfl, rfl, rfl, by decide +kernel, rfl, by decide +kernel, by decide +kernel⟩
theorem t_12 : b_12.sts = defBody (top 12) := by kernel_rfl
theorem o_12 : b_12.ok N_12 (defScope (top 12)) = true := by decide +kernel
theorem e_12 : runE 4 N_12.length b_12.ev = f_law_leaned := rfl
theorem u_12 : b_12.uses = [] := rfl
def b_13 : PB := .cons (.ret (.and (.isi .int (.var 0 "thing" ⟨100, 22, 100, 27⟩) ⟨100, 11, 100, 21⟩ ⟨100, 29, 100, 32⟩ ⟨100, 11, 100, 33⟩) (.cons (.not (.isi .bool (.var 0 "thing" ⟨100, 54, 100, 59⟩) ⟨100, 43, 100, 53⟩ ⟨100,
    61, 100, 65⟩ ⟨100, 43, 100, 66⟩) ⟨100, 39, 100, 66⟩) .nil) ⟨100, 11, 100, 67⟩) ⟨100, 4, 100, 67⟩) .nil
def N_13 : List Str := ["thing"]
theorem S_13 : FnScope N_13 ["thing"] (defScope (top 13)) := ⟨rfl, rfl, rfl, by decide +kernel, rfl, by decide +kernel, by decide +kernel⟩
theorem t_13 : b_13.sts = defBody (top 13) := by kernel_rfl
theorem o_13 : b_13.ok N_13 (defScope (top 13)) = true := by decide +kernel
theorem e_13 : runE 1 N_13.length b_13.ev = f_law_whole := rfl
theorem u_13 : b_13.uses = [] := rfl
def b_14 : PB := .cons (.ret (.lc .seq (.cons (.var 0 "table" ⟨102, 81, 102, 86⟩) .nil) (.tp (.cons (.nm 1 "t" ⟨102, 57, 102, 58⟩) (.cons (.nm 2 "some" ⟨102, 60, 102, 64⟩) (.cons (.nm 3 "first" ⟨102, 66, 102, 71⟩) (.cons
    (.nm 4 "last" ⟨102, 73, 102, 77⟩) .nil)))) 0 ⟨102, 57, 102, 77⟩) (.nil) (.tup (.cons (.var 1 "t" ⟨102, 13, 102, 14⟩) (.cons (.blt .list (.var 2 "some" ⟨102, 21, 102, 25⟩) (.nil) ⟨102, 16, 102, 20⟩ ⟨102, 16, 102, 26⟩)
    (.cons (.blt .list (.var 3 "first" ⟨102, 33, 102, 38⟩) (.nil) ⟨102, 28, 102, 32⟩ ⟨102, 28, 102, 39⟩) (.cons (.blt .list (.var 4 "last" ⟨102, 46, 102, 50⟩) (.nil) ⟨102, 41, 102, 45⟩ ⟨102, 41, 102, 51⟩) .nil)))) 0 ⟨102,
    12, 102, 52⟩) (.mk .function [(".0", .local), ("t", .local), ("some", .local), ("first", .local), ("last", .local), ("list", .globalImplicit)] false false []) [("t", 1), ("some", 2), ("first", 3), ("last", 4)] ⟨102, 11,
    102, 87⟩) ⟨102, 4, 102, 87⟩) .nil
def N_14 : List Str := ["table", "t", "some", "first", "last"]
theorem S_14 : FnScope N_14 ["table"] (defScope (top 14)) := ⟨rfl, rfl, rfl, by decide +kernel, rfl, by decide +kernel, by decide +kernel⟩
theorem t_14 : b_14.sts = defBody (top 14) := by kernel_rfl
theorem o_14 : b_14.ok N_14 (defScope (top 14)) = true := by decide +kernel
theorem e_14 : runE 1 N_14.length b_14.ev = f_law_copy := rfl
theorem u_14 : b_14.uses = [] := rfl
def b_15 : PB := .cons (.set 2 "row" false (.call "_law_draws" f_law_draws 2 (.var 1 "cell" ⟨104, 21, 104, 25⟩) (.cons (.lst (.cons (.int 5 0 ⟨104, 28, 104, 29⟩) (.cons (.int 60 0 ⟨104, 31, 104, 33⟩) (.cons (.bin .mul (.int
    2 0 ⟨104, 35, 104, 36⟩) (.bin .pow (.int 10 0 ⟨104, 39, 104, 41⟩) (.int 18 0 ⟨104, 45, 104, 47⟩) ⟨104, 39, 104, 47⟩) ⟨104, 35, 104, 47⟩) (.cons (.bin .pow (.int 10 0 ⟨104, 49, 104, 51⟩) (.int 40 0 ⟨104, 55, 104, 57⟩)
    ⟨104, 49, 104, 57⟩) .nil)))) ⟨104, 27, 104, 58⟩) .nil) ⟨104, 10, 104, 20⟩ ⟨104, 10, 104, 59⟩) ⟨104, 4, 104, 7⟩ ⟨104, 4, 104, 59⟩) (.cons (.set 3 "t" false (.sub (.sub (.var 0 "table" ⟨105, 8, 105, 13⟩) (.bin .mod (.sub
    (.var 2 "row" ⟨105, 14, 105, 17⟩) (.int 1 0 ⟨105, 18, 105, 19⟩) ⟨105, 14, 105, 20⟩) (.blt .len (.var 0 "table" ⟨105, 27, 105, 32⟩) (.nil) ⟨105, 23, 105, 26⟩ ⟨105, 23, 105, 33⟩) ⟨105, 14, 105, 33⟩) ⟨105, 8, 105, 34⟩) (.int
    0 0 ⟨105, 35, 105, 36⟩) ⟨105, 8, 105, 37⟩) ⟨105, 4, 105, 5⟩ ⟨105, 4, 105, 37⟩) (.cons (.ret (.sub (.lst (.cons (.sub (.var 2 "row" ⟨106, 12, 106, 15⟩) (.int 2 0 ⟨106, 16, 106, 17⟩) ⟨106, 12, 106, 18⟩) (.cons (.var 3 "t"
    ⟨106, 20, 106, 21⟩) (.cons (.blt .max (.int 0 0 ⟨106, 27, 106, 28⟩) (.cons (.bin .sub (.var 3 "t" ⟨106, 30, 106, 31⟩) (.int 1 0 ⟨106, 34, 106, 35⟩) ⟨106, 30, 106, 35⟩) .nil) ⟨106, 23, 106, 26⟩ ⟨106, 23, 106, 36⟩) (.cons
    (.bin .add (.var 3 "t" ⟨106, 38, 106, 39⟩) (.int 1 0 ⟨106, 42, 106, 43⟩) ⟨106, 38, 106, 43⟩) (.cons (.sub (.var 2 "row" ⟨106, 45, 106, 48⟩) (.int 3 0 ⟨106, 49, 106, 50⟩) ⟨106, 45, 106, 51⟩) .nil))))) ⟨106, 11, 106, 52⟩)
    (.sub (.var 2 "row" ⟨106, 53, 106, 56⟩) (.int 0 0 ⟨106, 57, 106, 58⟩) ⟨106, 53, 106, 59⟩) ⟨106, 11, 106, 60⟩) ⟨106, 4, 106, 60⟩) .nil))
def N_15 : List Str := ["table", "cell", "row", "t"]
theorem S_15 : FnScope N_15 ["table", "cell"] (defScope (top 15)) := ⟨rfl, rfl, rfl, by decide +kernel, rfl, by decide +kernel, by decide +kernel⟩
theorem t_15 : b_15.sts = defBody (top 15) := by kernel_rfl
theorem o_15 : b_15.ok N_15 (defScope (top 15)) = true := by decide +kernel
theorem e_15 : runE 2 N_15.length b_15.ev = f_law_asked := rfl
theorem u_15 : b_15.uses = [.fn "_law_draws" 2 f_law_draws] := rfl
def b_16 : PB := .cons (.if_ (.or (.not (.isi .list (.var 0 "found" ⟨108, 22, 108, 27⟩) ⟨108, 11, 108, 21⟩ ⟨108, 29, 108, 33⟩ ⟨108, 11, 108, 34⟩) ⟨108, 7, 108, 34⟩) (.cons (.not (.blt .all (.lc .seq (.cons (.var 0 "found"
    ⟨108, 74, 108, 79⟩) .nil) (.nm 2 "one" ⟨108, 67, 108, 70⟩) (.nil) (.call "_law_whole" f_law_whole 1 (.var 2 "one" ⟨108, 58, 108, 61⟩) (.nil) ⟨108, 47, 108, 57⟩ ⟨108, 47, 108, 62⟩) (.mk .function [(".0", .local), ("one",
    .local), ("_law_whole", .globalImplicit)] false false []) [("one", 2)] ⟨108, 46, 108, 80⟩) (.nil) ⟨108, 42, 108, 45⟩ ⟨108, 42, 108, 81⟩) ⟨108, 38, 108, 81⟩) .nil) ⟨108, 7, 108, 81⟩) (.cons (.ret (.bl false 0 ⟨109, 15,
    109, 20⟩) ⟨109, 8, 109, 20⟩) .nil) (.nil) ⟨108, 4, 109, 20⟩) (.cons (.ret (.cmp .eq (.var 0 "found" ⟨110, 11, 110, 16⟩) (.var 1 "due" ⟨110, 20, 110, 23⟩) ⟨110, 11, 110, 23⟩) ⟨110, 4, 110, 23⟩) .nil)
def N_16 : List Str := ["found", "due", "one"]
theorem S_16 : FnScope N_16 ["found", "due"] (defScope (top 16)) := ⟨rfl, rfl, rfl, by decide +kernel, rfl, by decide +kernel, by decide +kernel⟩
theorem t_16 : b_16.sts = defBody (top 16) := by kernel_rfl
theorem o_16 : b_16.ok N_16 (defScope (top 16)) = true := by decide +kernel
theorem e_16 : runE 2 N_16.length b_16.ev = f_law_is := rfl
theorem u_16 : b_16.uses = [.fn "_law_whole" 1 f_law_whole] := rfl
def b_17 : PB := .cons (.ret (.sub (.lc .seq (.cons (.var 0 "table" ⟨112, 49, 112, 54⟩) .nil) (.tp (.cons (.nm 2 "begin" ⟨112, 21, 112, 26⟩) (.cons (.nm 3 "some" ⟨112, 28, 112, 32⟩) (.cons (.nm 4 "first" ⟨112, 34, 112, 39⟩)
    (.cons (.nm 5 "last" ⟨112, 41, 112, 45⟩) .nil)))) 0 ⟨112, 21, 112, 45⟩) (.cons (.cmp .le (.var 2 "begin" ⟨112, 58, 112, 63⟩) (.var 1 "t" ⟨112, 67, 112, 68⟩) ⟨112, 58, 112, 68⟩) .nil) (.var 3 "some" ⟨112, 12, 112, 16⟩)
    (.mk .function [(".0", .local), ("begin", .local), ("some", .local), ("first", .local), ("last", .local), ("t", .free)] false false []) [("begin", 2), ("some", 3), ("first", 4), ("last", 5)] ⟨112, 11, 112, 69⟩) (.neg
    (.int 1 0 ⟨112, 71, 112, 72⟩) ⟨112, 70, 112, 72⟩) ⟨112, 11, 112, 73⟩) ⟨112, 4, 112, 73⟩) .nil
def N_17 : List Str := ["table", "t", "begin", "some", "first", "last"]
theorem S_17 : FnScope N_17 ["table", "t"] (defScope (top 17)) := ⟨rfl, rfl, rfl, by decide +kernel, rfl, by decide +kernel, by decide +kernel⟩
theorem t_17 : b_17.sts = defBody (top 17) := by kernel_rfl
theorem o_17 : b_17.ok N_17 (defScope (top 17)) = true := by decide +kernel
theorem e_17 : runE 2 N_17.length b_17.ev = f_law_due := rfl
theorem u_17 : b_17.uses = [] := rfl
def b_11 : PB := .cons (.set 4 "crossings" false (.call "_law_crossings" f_law_crossings 4 (.var 0 "book" ⟨87, 31, 87, 35⟩) (.cons (.var 1 "home" ⟨87, 37, 87, 41⟩) (.cons (.var 2 "weights" ⟨87, 43, 87, 50⟩) (.cons (.var 3
    "side" ⟨87, 52, 87, 56⟩) .nil))) ⟨87, 16, 87, 30⟩ ⟨87, 16, 87, 57⟩) ⟨87, 4, 87, 13⟩ ⟨87, 4, 87, 57⟩) (.cons (.set 6 "starts" false (.bin .add (.lst (.cons (.int 0 0 ⟨88, 14, 88, 15⟩) .nil) ⟨88, 13, 88, 16⟩) (.lc .seq
    (.cons (.sset (.dvals 4 11 "crossings" "block" (.mk .function [(".0", .local), ("block", .local), ("crossings", .free)] false false []) [("block", 11)] ⟨88, 43, 88, 52⟩ ⟨88, 53, 88, 58⟩ ⟨88, 43, 88, 59⟩ ⟨88, 64, 88, 69⟩
    ⟨88, 73, 88, 82⟩ ⟨88, 42, 88, 83⟩) ⟨88, 31, 88, 37⟩ ⟨88, 38, 88, 41⟩ ⟨88, 38, 88, 84⟩ ⟨88, 31, 88, 85⟩) .nil) (.nm 5 "t" ⟨88, 26, 88, 27⟩) (.cons (.cmp .gt (.var 5 "t" ⟨88, 89, 88, 90⟩) (.int 0 0 ⟨88, 93, 88, 94⟩) ⟨88,
    89, 88, 94⟩) .nil) (.var 5 "t" ⟨88, 20, 88, 21⟩) (.mk .function [(".0", .local), ("t", .local)] false false []) [("t", 5)] ⟨88, 19, 88, 95⟩) ⟨88, 13, 88, 95⟩) ⟨88, 4, 88, 10⟩ ⟨88, 4, 88, 95⟩) (.cons (.set 7 "found" true
    (.lst (.nil) ⟨89, 12, 89, 14⟩) ⟨89, 4, 89, 9⟩ ⟨89, 4, 89, 14⟩) (.cons (.for_ (.tp (.cons (.nm 8 "place" ⟨90, 8, 90, 13⟩) (.cons (.nm 5 "t" ⟨90, 15, 90, 16⟩) .nil)) 0 ⟨90, 8, 90, 16⟩) (.enum ⟨90, 20, 90, 29⟩ ⟨90, 20, 90,
    37⟩) (.cons (.var 6 "starts" ⟨90, 30, 90, 36⟩) .nil) [5, 8, 9, 10] (.cons (.set 9 "first" false (.call "_law_shares_by" f_law_shares_by 3 (.var 0 "book" ⟨91, 31, 91, 35⟩) (.cons (.var 1 "home" ⟨91, 37, 91, 41⟩) (.cons
    (.call "_law_leaned" f_law_leaned 4 (.var 0 "book" ⟨91, 55, 91, 59⟩) (.cons (.var 2 "weights" ⟨91, 61, 91, 68⟩) (.cons (.var 3 "side" ⟨91, 70, 91, 74⟩) (.cons (.var 5 "t" ⟨91, 76, 91, 77⟩) .nil))) ⟨91, 43, 91, 54⟩ ⟨91,
    43, 91, 78⟩) .nil)) ⟨91, 16, 91, 30⟩ ⟨91, 16, 91, 79⟩) ⟨91, 8, 91, 13⟩ ⟨91, 8, 91, 79⟩) (.cons (.set 10 "last" false (.lst (.nil) ⟨92, 15, 92, 17⟩) ⟨92, 8, 92, 12⟩ ⟨92, 8, 92, 17⟩) (.cons (.if_ (.cmp .lt (.bin .add (.var
    8 "place" ⟨93, 11, 93, 16⟩) (.int 1 0 ⟨93, 19, 93, 20⟩) ⟨93, 11, 93, 20⟩) (.blt .len (.var 6 "starts" ⟨93, 27, 93, 33⟩) (.nil) ⟨93, 23, 93, 26⟩ ⟨93, 23, 93, 34⟩) ⟨93, 11, 93, 34⟩) (.cons (.set 10 "last" false (.call "_law_shares_by"
    f_law_shares_by 3 (.var 0 "book" ⟨94, 34, 94, 38⟩) (.cons (.var 1 "home" ⟨94, 40, 94, 44⟩) (.cons (.call "_law_leaned" f_law_leaned 4 (.var 0 "book" ⟨94, 58, 94, 62⟩) (.cons (.var 2 "weights" ⟨94, 64, 94, 71⟩) (.cons
    (.var 3 "side" ⟨94, 73, 94, 77⟩) (.cons (.bin .sub (.sub (.var 6 "starts" ⟨94, 79, 94, 85⟩) (.bin .add (.var 8 "place" ⟨94, 86, 94, 91⟩) (.int 1 0 ⟨94, 94, 94, 95⟩) ⟨94, 86, 94, 95⟩) ⟨94, 79, 94, 96⟩) (.int 1 0 ⟨94, 99,
    94, 100⟩) ⟨94, 79, 94, 100⟩) .nil))) ⟨94, 46, 94, 57⟩ ⟨94, 46, 94, 101⟩) .nil)) ⟨94, 19, 94, 33⟩ ⟨94, 19, 94, 102⟩) ⟨94, 12, 94, 16⟩ ⟨94, 12, 94, 102⟩) .nil) (.nil) ⟨93, 8, 94, 102⟩) (.cons (.app 7 "found" (.tup (.cons
    (.var 5 "t" ⟨95, 22, 95, 23⟩) (.cons (.call "_law_some_by" f_law_some_by 5 (.var 0 "book" ⟨95, 38, 95, 42⟩) (.cons (.var 1 "home" ⟨95, 44, 95, 48⟩) (.cons (.var 3 "side" ⟨95, 50, 95, 54⟩) (.cons (.var 4 "crossings" ⟨95,
    56, 95, 65⟩) (.cons (.var 5 "t" ⟨95, 67, 95, 68⟩) .nil)))) ⟨95, 25, 95, 37⟩ ⟨95, 25, 95, 69⟩) (.cons (.var 9 "first" ⟨95, 71, 95, 76⟩) (.cons (.var 10 "last" ⟨95, 78, 95, 82⟩) .nil)))) 0 ⟨95, 21, 95, 83⟩) ⟨95, 8, 95,
    13⟩ ⟨95, 8, 95, 20⟩ ⟨95, 8, 95, 84⟩ ⟨95, 8, 95, 84⟩) .nil)))) ⟨90, 4, 95, 84⟩) (.cons (.ret (.var 7 "found" ⟨96, 11, 96, 16⟩) ⟨96, 4, 96, 16⟩) .nil))))
def N_11 : List Str := ["book", "home", "weights", "side", "crossings", "t", "starts", "found", "place", "first", "last", "block"]
theorem S_11 : FnScope N_11 ["book", "home", "weights", "side"] (defScope (top 11)) := ⟨rfl, rfl, rfl, by decide +kernel, rfl, by decide +kernel, by decide +kernel⟩
theorem t_11 : b_11.sts = defBody (top 11) := by kernel_rfl
theorem o_11 : b_11.ok N_11 (defScope (top 11)) = true := by decide +kernel
theorem e_11 : runE 4 N_11.length b_11.ev = f_law_known := rfl
theorem u_11 : b_11.uses = [.fn "_law_crossings" 4 f_law_crossings, .fn "_law_shares_by" 3 f_law_shares_by, .fn "_law_leaned" 4 f_law_leaned, .fn "_law_shares_by" 3 f_law_shares_by, .fn "_law_leaned" 4 f_law_leaned, .fn "_law_some_by"
    5 f_law_some_by] := rfl
def b_18 : PB := .cons (.tgt (.cons (.nm 1 "book" ⟨114, 4, 114, 8⟩) (.cons (.nm 2 "home" ⟨114, 10, 114, 14⟩) (.cons (.nm 3 "weights" ⟨114, 16, 114, 23⟩) (.cons (.nm 4 "side" ⟨114, 25, 114, 29⟩) .nil)))) 0 ⟨114, 4, 114, 29⟩
    (.call "_law_blocks" f_law_blocks 2 (.var 0 "script" ⟨114, 44, 114, 50⟩) (.cons (.int 10 0 ⟨114, 52, 114, 54⟩) .nil) ⟨114, 32, 114, 43⟩ ⟨114, 32, 114, 55⟩) ⟨114, 4, 114, 55⟩) (.cons (.set 5 "table" false (.call "_law_known"
    f_law_known 4 (.var 1 "book" ⟨115, 23, 115, 27⟩) (.cons (.var 2 "home" ⟨115, 29, 115, 33⟩) (.cons (.var 3 "weights" ⟨115, 35, 115, 42⟩) (.cons (.var 4 "side" ⟨115, 44, 115, 48⟩) .nil))) ⟨115, 12, 115, 22⟩ ⟨115, 12, 115,
    49⟩) ⟨115, 4, 115, 9⟩ ⟨115, 4, 115, 49⟩) (.cons (.set 6 "handed" false (.call "_law_copy" f_law_copy 1 (.var 5 "table" ⟨116, 23, 116, 28⟩) (.nil) ⟨116, 13, 116, 22⟩ ⟨116, 13, 116, 29⟩) ⟨116, 4, 116, 10⟩ ⟨116, 4, 116,
    29⟩) (.cons (.set 7 "numbers" false (.bin .add (.lst (.cons (.int 0 0 ⟨117, 15, 117, 16⟩) .nil) ⟨117, 14, 117, 17⟩) (.lc .seq (.cons (.bin .add (.lst (.cons (.call "_law_cell" f_law_cell 2 (.var 0 "script" ⟨117, 68, 117,
    74⟩) (.cons (.int 12 0 ⟨117, 76, 117, 78⟩) .nil) ⟨117, 58, 117, 67⟩ ⟨117, 58, 117, 79⟩) .nil) ⟨117, 57, 117, 80⟩) (.slice (.var 0 "script" ⟨117, 83, 117, 89⟩) (.cons (.int 13 0 ⟨117, 90, 117, 92⟩) .nil) (.cons (.int 63
    0 ⟨117, 93, 117, 95⟩) .nil) ⟨117, 90, 117, 95⟩ ⟨117, 83, 117, 96⟩) ⟨117, 57, 117, 96⟩) .nil) (.nm 10 "cell" ⟨117, 49, 117, 53⟩) (.nil) (.call "_law_asked" f_law_asked 2 (.var 5 "table" ⟨117, 32, 117, 37⟩) (.cons (.var
    10 "cell" ⟨117, 39, 117, 43⟩) .nil) ⟨117, 21, 117, 31⟩ ⟨117, 21, 117, 44⟩) (.mk .function [(".0", .local), ("cell", .local), ("_law_asked", .globalImplicit), ("table", .free)] false false []) [("cell", 10)] ⟨117, 20,
    117, 97⟩) ⟨117, 14, 117, 97⟩) ⟨117, 4, 117, 11⟩ ⟨117, 4, 117, 97⟩) (.cons (.for_ (.nm 8 "t" ⟨118, 8, 118, 9⟩) .seq (.cons (.bin .add (.var 7 "numbers" ⟨118, 13, 118, 20⟩) (.lst (.cons (.sub (.var 7 "numbers" ⟨118, 24,
    118, 31⟩) (.int 1 0 ⟨118, 32, 118, 33⟩) ⟨118, 24, 118, 34⟩) (.cons (.int 0 0 ⟨118, 36, 118, 37⟩) .nil)) ⟨118, 23, 118, 38⟩) ⟨118, 13, 118, 38⟩) .nil) [8, 9] (.cons (.set 9 "found" true (.call "some_at" f_some_at 2 (.var
    6 "handed" ⟨119, 24, 119, 30⟩) (.cons (.var 8 "t" ⟨119, 32, 119, 33⟩) .nil) ⟨119, 16, 119, 23⟩ ⟨119, 16, 119, 34⟩) ⟨119, 8, 119, 13⟩ ⟨119, 8, 119, 34⟩) (.cons (.if_ (.not (.call "_law_is" f_law_is 2 (.var 9 "found" ⟨120,
    23, 120, 28⟩) (.cons (.call "_law_due" f_law_due 2 (.var 5 "table" ⟨120, 39, 120, 44⟩) (.cons (.var 8 "t" ⟨120, 46, 120, 47⟩) .nil) ⟨120, 30, 120, 38⟩ ⟨120, 30, 120, 48⟩) .nil) ⟨120, 15, 120, 22⟩ ⟨120, 15, 120, 49⟩) ⟨120,
    11, 120, 49⟩) (.cons (.ret (.bl false 0 ⟨121, 19, 121, 24⟩) ⟨121, 12, 121, 24⟩) .nil) (.nil) ⟨120, 8, 121, 24⟩) (.cons (.app 9 "found" (.var 8 "t" ⟨122, 21, 122, 22⟩) ⟨122, 8, 122, 13⟩ ⟨122, 8, 122, 20⟩ ⟨122, 8, 122,
    23⟩ ⟨122, 8, 122, 23⟩) .nil))) ⟨118, 4, 122, 23⟩) (.cons (.ret (.cmp .eq (.var 6 "handed" ⟨123, 11, 123, 17⟩) (.var 5 "table" ⟨123, 21, 123, 26⟩) ⟨123, 11, 123, 26⟩) ⟨123, 4, 123, 26⟩) .nil)))))
def N_18 : List Str := ["script", "book", "home", "weights", "side", "table", "handed", "numbers", "t", "found", "cell"]
theorem S_18 : FnScope N_18 ["script"] (defScope (top 18)) := ⟨rfl, rfl, rfl, by decide +kernel, rfl, by decide +kernel, by decide +kernel⟩
theorem t_18 : b_18.sts = defBody (top 18) := by kernel_rfl
theorem o_18 : b_18.ok N_18 (defScope (top 18)) = true := by decide +kernel
theorem e_18 : runE 1 N_18.length b_18.ev = f_law := rfl
theorem u_18 : b_18.uses = [.fn "_law_blocks" 2 f_law_blocks, .fn "_law_known" 4 f_law_known, .fn "_law_copy" 1 f_law_copy, .fn "_law_cell" 2 f_law_cell, .fn "_law_asked" 2 f_law_asked, .fn "some_at" 2 f_some_at, .fn "_law_is"
    2 f_law_is, .fn "_law_due" 2 f_law_due] := rfl
def d_1 : He.DefD := ⟨("some_at", none), "some_at", "some_at", defArgs (top 1), defBody (top 1), defScope (top 1), [], []⟩
def d_3 : He.DefD := ⟨("_law_cell", none), "_law_cell", "_law_cell", defArgs (top 3), defBody (top 3), defScope (top 3), [], []⟩
def d_4 : He.DefD := ⟨("_law_number", none), "_law_number", "_law_number", defArgs (top 4), defBody (top 4), defScope (top 4), [], []⟩
def d_5 : He.DefD := ⟨("_law_draws", none), "_law_draws", "_law_draws", defArgs (top 5), defBody (top 5), defScope (top 5), [], []⟩
def d_6 : He.DefD := ⟨("_law_names", none), "_law_names", "_law_names", defArgs (top 6), defBody (top 6), defScope (top 6), [], []⟩
def d_7 : He.DefD := ⟨("_law_blocks", none), "_law_blocks", "_law_blocks", defArgs (top 7), defBody (top 7), defScope (top 7), [], []⟩
def d_8 : He.DefD := ⟨("_law_crossings", none), "_law_crossings", "_law_crossings", defArgs (top 8), defBody (top 8), defScope (top 8), [], []⟩
def d_9 : He.DefD := ⟨("_law_some_by", none), "_law_some_by", "_law_some_by", defArgs (top 9), defBody (top 9), defScope (top 9), [], []⟩
def d_10 : He.DefD := ⟨("_law_shares_by", none), "_law_shares_by", "_law_shares_by", defArgs (top 10), defBody (top 10), defScope (top 10), [], []⟩
def d_12 : He.DefD := ⟨("_law_leaned", none), "_law_leaned", "_law_leaned", defArgs (top 12), defBody (top 12), defScope (top 12), [], []⟩
def d_13 : He.DefD := ⟨("_law_whole", none), "_law_whole", "_law_whole", defArgs (top 13), defBody (top 13), defScope (top 13), [], []⟩
def d_14 : He.DefD := ⟨("_law_copy", none), "_law_copy", "_law_copy", defArgs (top 14), defBody (top 14), defScope (top 14), [], []⟩
def d_15 : He.DefD := ⟨("_law_asked", none), "_law_asked", "_law_asked", defArgs (top 15), defBody (top 15), defScope (top 15), [], []⟩
def d_16 : He.DefD := ⟨("_law_is", none), "_law_is", "_law_is", defArgs (top 16), defBody (top 16), defScope (top 16), [], []⟩
def d_17 : He.DefD := ⟨("_law_due", none), "_law_due", "_law_due", defArgs (top 17), defBody (top 17), defScope (top 17), [], []⟩
def d_11 : He.DefD := ⟨("_law_known", none), "_law_known", "_law_known", defArgs (top 11), defBody (top 11), defScope (top 11), [], []⟩
def d_18 : He.DefD := ⟨("law", none), "law", "law", defArgs (top 18), defBody (top 18), defScope (top 18), [], []⟩
def fn : List He.DefD := [d_1, d_3, d_4, d_5, d_6, d_7, d_8, d_9, d_10, d_11, d_12, d_13, d_14, d_15, d_16, d_17, d_18]
def fa : List He.Fa := [.glo "some_at", .glo "_law_cell", .glo "_law_number", .glo "_law_draws", .glo "_law_names", .glo "_law_blocks", .glo "_law_crossings", .glo "_law_some_by", .glo "_law_shares_by", .glo "_law_known",
    .glo "_law_leaned", .glo "_law_whole", .glo "_law_copy", .glo "_law_asked", .glo "_law_is", .glo "_law_due", .glo "law", .free "len", .free "list", .free "tuple", .free "sum", .free "all", .free "any", .free "max", .free
    "min", .free "abs", .free "int", .free "str", .free "sorted", .free "bool", .free "dict", .free "isinstance", .free "range", .free "enumerate", .free "zip", .free "set"]
abbrev R : PySem.W.OpenRow := PySem.W.OpenLaw.row PySem.Challenge.rw_likebook_k78_some_at_a_number
abbrev hk : PySem.W.Hook := He.hookD 4 fa fn
def ob (s : PySem.W.SharedT) : He.AlD := He.obsDG 4 fa fn (HandSHeadRun.getT s)
theorem ob_eq (s : PySem.W.SharedT) : ob s = hk.obs s.abs := He.obsDG_eq (HandSHeadRun.getT_eq s)
abbrev loose : List Str := ["some_at", "_law_cell", "_law_number", "_law_draws", "_law_names", "_law_blocks", "_law_crossings", "_law_some_by", "_law_shares_by", "_law_known", "_law_leaned", "_law_whole", "_law_copy", "_law_asked",
    "_law_is", "_law_due"]
theorem run (w : World) : HandSHeadRun.RunEq R (PySem.W.view R.prog [18]) hk ob 4000 loose w := by
  intro os
  kernel_rfl
theorem facts {P : Program} {w : World} {K : PySem.W.Frag} {h : Heap} {mg : Str → Option Value} {f : Addr} (X : K.In h) (G : h.Ns mainGlobals mg) (hfa : mg ("law" : Str) = some (.ref f)) (c : He.SaysD fa fn K) :
    ∃ fd : FuncData, (∀ (s : Shared) (v : Value), BindsTo s fd ⟨[v], []⟩ [("script", v)]) ∧ ∀ base : Heap, K.In base → base.Ns mainGlobals mg → FnOk P w K mg base (CXw P) 6 f fd ["script"] (spO K mg 1 f_law) := by
  obtain ⟨fd1, F1⟩ := c.def_ 0 (d := d_1) rfl
  obtain ⟨fd3, F3⟩ := c.def_ 1 (d := d_3) rfl
  obtain ⟨fd4, F4⟩ := c.def_ 2 (d := d_4) rfl
  obtain ⟨fd5, F5⟩ := c.def_ 3 (d := d_5) rfl
  obtain ⟨fd6, F6⟩ := c.def_ 4 (d := d_6) rfl
  obtain ⟨fd7, F7⟩ := c.def_ 5 (d := d_7) rfl
  obtain ⟨fd8, F8⟩ := c.def_ 6 (d := d_8) rfl
  obtain ⟨fd9, F9⟩ := c.def_ 7 (d := d_9) rfl
  obtain ⟨fd10, F10⟩ := c.def_ 8 (d := d_10) rfl
  obtain ⟨fd11, F11⟩ := c.def_ 9 (d := d_11) rfl
  obtain ⟨fd12, F12⟩ := c.def_ 10 (d := d_12) rfl
  obtain ⟨fd13, F13⟩ := c.def_ 11 (d := d_13) rfl
  obtain ⟨fd14, F14⟩ := c.def_ 12 (d := d_14) rfl
  obtain ⟨fd15, F15⟩ := c.def_ 13 (d := d_15) rfl
  obtain ⟨fd16, F16⟩ := c.def_ 14 (d := d_16) rfl
  obtain ⟨fd17, F17⟩ := c.def_ 15 (d := d_17) rfl
  obtain ⟨fd18, F18⟩ := c.def_ 16 (d := d_18) rfl
  have e := hfa.symm.trans (He.glo_ok X G (c.fact 16 (f := .glo "law") rfl))
  cases e
  have hb : ∀ x ∈ builtinNames, mg x = none := all_cons (He.free_ok X G (c.fact 17 (f := .free "len") rfl)) (all_cons (He.free_ok X G (c.fact 18 (f := .free "list") rfl)) (all_cons (He.free_ok X G (c.fact 19 (f := .free "tuple")
    rfl)) (all_cons (He.free_ok X G (c.fact 20 (f := .free "sum") rfl)) (all_cons (He.free_ok X G (c.fact 21 (f := .free "all") rfl)) (all_cons (He.free_ok X G (c.fact 22 (f := .free "any") rfl)) (all_cons (He.free_ok X G
    (c.fact 23 (f := .free "max") rfl)) (all_cons (He.free_ok X G (c.fact 24 (f := .free "min") rfl)) (all_cons (He.free_ok X G (c.fact 25 (f := .free "abs") rfl)) (all_cons (He.free_ok X G (c.fact 26 (f := .free "int") rfl))
    (all_cons (He.free_ok X G (c.fact 27 (f := .free "str") rfl)) (all_cons (He.free_ok X G (c.fact 28 (f := .free "sorted") rfl)) (all_cons (He.free_ok X G (c.fact 29 (f := .free "bool") rfl)) (all_cons (He.free_ok X G (c.fact
    30 (f := .free "dict") rfl)) (all_cons (He.free_ok X G (c.fact 31 (f := .free "isinstance") rfl)) (all_cons (He.free_ok X G (c.fact 32 (f := .free "range") rfl)) (all_cons (He.free_ok X G (c.fact 33 (f := .free "enumerate")
    rfl)) (all_cons (He.free_ok X G (c.fact 34 (f := .free "zip") rfl)) (all_cons (He.free_ok X G (c.fact 35 (f := .free "set") rfl)) (all_nil)))))))))))))))))))
  refine ⟨fd18, fun s v => FunD.bindsA (ps := ["script"]) F18 (fun _ _ _ _ _ _ us hl => match us, hl with | [_], _ => rfl) s [v] rfl, fun base _ _ => ?_⟩
  have D1 : FnD P w K mg base 2 "some_at" 2 f_some_at := mkFnD F1 (He.glo_ok X G (c.fact 0 (f := .glo "some_at") rfl)) S_1 b_1 t_1 o_1 rfl (by decide) (by rw [u_1]; exact all_nil) hb (F1.bindsN fun _ _ _ _ _ _ us hl => match
    us, hl with | [_, _], _ => rfl) e_1
  have D3 : FnD P w K mg base 2 "_law_cell" 2 f_law_cell := mkFnD F3 (He.glo_ok X G (c.fact 1 (f := .glo "_law_cell") rfl)) S_3 b_3 t_3 o_3 rfl (by decide) (by rw [u_3]; exact all_nil) hb (F3.bindsN fun _ _ _ _ _ _ us hl
    => match us, hl with | [_, _], _ => rfl) e_3
  have D4 : FnD P w K mg base 2 "_law_number" 2 f_law_number := mkFnD F4 (He.glo_ok X G (c.fact 2 (f := .glo "_law_number") rfl)) S_4 b_4 t_4 o_4 rfl (by decide) (by rw [u_4]; exact all_nil) hb (F4.bindsN fun _ _ _ _ _ _
    us hl => match us, hl with | [_, _], _ => rfl) e_4
  have D5 : FnD P w K mg base 3 "_law_draws" 2 f_law_draws := mkFnD F5 (He.glo_ok X G (c.fact 3 (f := .glo "_law_draws") rfl)) S_5 b_5 t_5 o_5 rfl (by decide) (by rw [u_5]; exact all_cons (D4.mono (by decide)) (all_cons (D4.mono
    (by decide)) (all_cons (D4.mono (by decide)) (all_cons (D4.mono (by decide)) (all_nil))))) hb (F5.bindsN fun _ _ _ _ _ _ us hl => match us, hl with | [_, _], _ => rfl) e_5
  have D6 : FnD P w K mg base 4 "_law_names" 2 f_law_names := mkFnD F6 (He.glo_ok X G (c.fact 4 (f := .glo "_law_names") rfl)) S_6 b_6 t_6 o_6 rfl (by decide) (by rw [u_6]; exact all_cons (D5.mono (by decide)) (all_nil))
    hb (F6.bindsN fun _ _ _ _ _ _ us hl => match us, hl with | [_, _], _ => rfl) e_6
  have D7 : FnD P w K mg base 5 "_law_blocks" 2 f_law_blocks := mkFnD F7 (He.glo_ok X G (c.fact 5 (f := .glo "_law_blocks") rfl)) S_7 b_7 t_7 o_7 rfl (by decide) (by rw [u_7]; exact all_cons (D5.mono (by decide)) (all_cons
    (D3.mono (by decide)) (all_cons (D6.mono (by decide)) (all_cons (D3.mono (by decide)) (all_cons (D5.mono (by decide)) (all_cons (D3.mono (by decide)) (all_nil))))))) hb (F7.bindsN fun _ _ _ _ _ _ us hl => match us, hl
    with | [_, _], _ => rfl) e_7
  have D8 : FnD P w K mg base 2 "_law_crossings" 4 f_law_crossings := mkFnD F8 (He.glo_ok X G (c.fact 6 (f := .glo "_law_crossings") rfl)) S_8 b_8 t_8 o_8 rfl (by decide) (by rw [u_8]; exact all_nil) hb (F8.bindsN fun _ _
    _ _ _ _ us hl => match us, hl with | [_, _, _, _], _ => rfl) e_8
  have D9 : FnD P w K mg base 2 "_law_some_by" 5 f_law_some_by := mkFnD F9 (He.glo_ok X G (c.fact 7 (f := .glo "_law_some_by") rfl)) S_9 b_9 t_9 o_9 rfl (by decide) (by rw [u_9]; exact all_nil) hb (F9.bindsN fun _ _ _ _ _
    _ us hl => match us, hl with | [_, _, _, _, _], _ => rfl) e_9
  have D10 : FnD P w K mg base 2 "_law_shares_by" 3 f_law_shares_by := mkFnD F10 (He.glo_ok X G (c.fact 8 (f := .glo "_law_shares_by") rfl)) S_10 b_10 t_10 o_10 rfl (by decide) (by rw [u_10]; exact all_nil) hb (F10.bindsN
    fun _ _ _ _ _ _ us hl => match us, hl with | [_, _, _], _ => rfl) e_10
  have D12 : FnD P w K mg base 2 "_law_leaned" 4 f_law_leaned := mkFnD F12 (He.glo_ok X G (c.fact 10 (f := .glo "_law_leaned") rfl)) S_12 b_12 t_12 o_12 rfl (by decide) (by rw [u_12]; exact all_nil) hb (F12.bindsN fun _ _
    _ _ _ _ us hl => match us, hl with | [_, _, _, _], _ => rfl) e_12
  have D13 : FnD P w K mg base 2 "_law_whole" 1 f_law_whole := mkFnD F13 (He.glo_ok X G (c.fact 11 (f := .glo "_law_whole") rfl)) S_13 b_13 t_13 o_13 rfl (by decide) (by rw [u_13]; exact all_nil) hb (F13.bindsN fun _ _ _
    _ _ _ us hl => match us, hl with | [_], _ => rfl) e_13
  have D14 : FnD P w K mg base 2 "_law_copy" 1 f_law_copy := mkFnD F14 (He.glo_ok X G (c.fact 12 (f := .glo "_law_copy") rfl)) S_14 b_14 t_14 o_14 rfl (by decide) (by rw [u_14]; exact all_nil) hb (F14.bindsN fun _ _ _ _ _
    _ us hl => match us, hl with | [_], _ => rfl) e_14
  have D15 : FnD P w K mg base 4 "_law_asked" 2 f_law_asked := mkFnD F15 (He.glo_ok X G (c.fact 13 (f := .glo "_law_asked") rfl)) S_15 b_15 t_15 o_15 rfl (by decide) (by rw [u_15]; exact all_cons (D5.mono (by decide)) (all_nil))
    hb (F15.bindsN fun _ _ _ _ _ _ us hl => match us, hl with | [_, _], _ => rfl) e_15
  have D16 : FnD P w K mg base 3 "_law_is" 2 f_law_is := mkFnD F16 (He.glo_ok X G (c.fact 14 (f := .glo "_law_is") rfl)) S_16 b_16 t_16 o_16 rfl (by decide) (by rw [u_16]; exact all_cons (D13.mono (by decide)) (all_nil))
    hb (F16.bindsN fun _ _ _ _ _ _ us hl => match us, hl with | [_, _], _ => rfl) e_16
  have D17 : FnD P w K mg base 2 "_law_due" 2 f_law_due := mkFnD F17 (He.glo_ok X G (c.fact 15 (f := .glo "_law_due") rfl)) S_17 b_17 t_17 o_17 rfl (by decide) (by rw [u_17]; exact all_nil) hb (F17.bindsN fun _ _ _ _ _ _
    us hl => match us, hl with | [_, _], _ => rfl) e_17
  have D11 : FnD P w K mg base 3 "_law_known" 4 f_law_known := mkFnD F11 (He.glo_ok X G (c.fact 9 (f := .glo "_law_known") rfl)) S_11 b_11 t_11 o_11 rfl (by decide) (by rw [u_11]; exact all_cons (D8.mono (by decide)) (all_cons
    (D10.mono (by decide)) (all_cons (D12.mono (by decide)) (all_cons (D10.mono (by decide)) (all_cons (D12.mono (by decide)) (all_cons (D9.mono (by decide)) (all_nil))))))) hb (F11.bindsN fun _ _ _ _ _ _ us hl => match us,
    hl with | [_, _, _, _], _ => rfl) e_11
  exact FnOk.cxw (mkOk F18 S_18 b_18 t_18 o_18 rfl (by decide) (by rw [u_18]; exact all_cons (D7.mono (by decide)) (all_cons (D11.mono (by decide)) (all_cons (D14.mono (by decide)) (all_cons (D3.mono (by decide)) (all_cons
    (D15.mono (by decide)) (all_cons (D1.mono (by decide)) (all_cons (D16.mono (by decide)) (all_cons (D17.mono (by decide)) (all_nil))))))))) hb e_18)
end Hd

set_option Elab.async false
set_option linter.all false
set_option maxRecDepth 100000
set_option maxHeartbeats 0
open PySem PySem.W PySem.Calls PyProof.Rows
theorem PySem.Challenge.cw_likebook_k78_some_at_a_number_holds : PySem.Challenge.rw_likebook_k78_some_at_a_number.Holds := by
  w_on; o_law
  refine HandSHeadRun.head_any (r := OpenLaw.row PySem.Challenge.rw_likebook_k78_some_at_a_number) (q := view (OpenLaw.row PySem.Challenge.rw_likebook_k78_some_at_a_number).prog [18]) (H := Hd.hk) (ob := Hd.ob) (M := 4000) (loose := Hd.loose) (d := HandSHeadRun.topDef (OpenLaw.row PySem.Challenge.rw_likebook_k78_some_at_a_number).prog 18) (kwd := []) Hd.ob_eq
    (by kernel_rfl) (fun s => by kernel_rfl) Hd.run (by kernel_rfl) (by kernel_rfl) (by kernel_rfl) (by rfl) (by first | assumption | decide +kernel) (by decide +kernel) ⟨rfl, rfl, rfl, rfl, rfl, by decide +kernel⟩ ?hw ?hc
  case hw => w_witness2
  case hc =>
    refine L2.walk_ofE (l := PySem.Challenge.rw_likebook_k78_some_at_a_number) (n := 63) (k := 6) (x := "script") (CX := VL.CXw (PySem.Challenge.rw_likebook_k78_some_at_a_number).prog) rfl (by decide) (by kernel_rfl) ⟨rfl, by decide, by decide⟩ ?F VL.CXw.no
    case F =>
      intro w mg fa h Y G hmg0
      obtain ⟨K, KX, c⟩ := Y
      have hmg : mg ("law" : PySem.Str) = some (.ref fa) := by
        have e : (HandSHeadRun.topDef (OpenLaw.row PySem.Challenge.rw_likebook_k78_some_at_a_number).prog 18).name = ("law" : PySem.Str) := by kernel_rfl
        rw [← e]
        exact hmg0
      obtain ⟨fd, hb, hF⟩ := Hd.facts (P := (PySem.Challenge.rw_likebook_k78_some_at_a_number).prog) (w := w) KX G hmg c
      refine ⟨K, fd, _, KX, hb, fun H a ns hl _ hS => ?_, hF⟩
      exact VL.spO_law (VL.f_law_true ns hl) hS
