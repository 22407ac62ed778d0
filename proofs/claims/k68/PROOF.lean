import PyProof.Rows.All
import Wide.All
import OpenK.AllK
import Wide.FinOn
import KE.KStateDown
import Lean
import HandS.ForMost
import HandS.Evl
import HandS.Sort
import HandS.Style
import HandS.Wide
import HandS.RaiseMore
import HandS.Conv
import HandS.Defaults
import HandS.WordsExc
import HandS.Flow
import HandS.Zip
import PyProof.ReprRoads
import HandS.TupAny
import HandS.TupMul
import HandS.Deep
import HandS.IsInst
import HandS.DeepEq
import KE.DataMinMax
import KE.KRevSl
import HandS.Star
import KE.GoesMore
import HandS.HeadEnd
import PyProof.ReprLen
import PyProof.P3Eq
import HandS.Base
import HandS.Call
import HandS.Ends
import HandS.More
import HandS.Words
import HandS.Head0
import HandS.Head1
import HandS.Head2
import HandS.HeadHook1
import HandS.HeadHook2
import PySem.Challenge.RW_steeredback_k68_whole_rows_of_settings_t
set_option Elab.async false
set_option linter.all false
set_option maxRecDepth 100000
set_option maxHeartbeats 4000000
/-! values as data: what a value of the layer stands for in a heap whose lists no longer change -/
namespace Dx
open PySem PySem.Spec PyProof.Rows L2
open Evl (Ex)

inductive D where
  | non | bl (b : Bool) | int (i : Int) | str (x : Str)
  | tup (l : List D) | lst (l : List D) | rng (lo hi : Int)
  | dct (ks vs : List D) | pot | scr (ns : List Int)

/-- a dict's key -/
def keyK : D → Option Key
  | .int i => some (.inl i)
  | .str x => some (.inr x)
  | _ => none
def keysK : List D → Option (List Key)
  | [] => some []
  | d :: l => match keyK d, keysK l with
    | some k, some r => some (k :: r)
    | _, _ => none
def keyT : D → Option (List Key)
  | .tup l => keysK l
  | _ => none

mutual
/-- the value v stands for the data d, by what stands in F; pa: the one list that goes on changing -/
def Den (K : PySem.W.Frag) (pa : Option Addr) (F : Hp) : D → V → Prop
  | .non, v => v = .non
  | .bl b, v => v = .bl b
  | .int i, v => v = .int i
  | .str x, v => v = .str x
  | .tup l, v => ∃ a xs, v = .ref a ∧ F a = some (.tup xs) ∧ DenL K pa F l xs
  | .lst l, v => ∃ a xs, v = .ref a ∧ F a = some (.lst xs) ∧ DenL K pa F l xs
  | .rng lo hi, v => ∃ a, v = .ref a ∧ F a = some (.rng lo hi)
  | .dct ks vs, v => ∃ a, v = .ref a ∧
      ((∃ kvs : List (Key × V), F a = some (.dK kvs) ∧ ks.map keyK = kvs.map (fun p => some p.1) ∧ DenL K pa F vs (kvs.map (·.2))) ∨
        ∃ kvs : List (List Key × V), F a = some (.dT kvs) ∧ ks.map keyT = kvs.map (fun p => some p.1) ∧ DenL K pa F vs (kvs.map (·.2)))
  | .pot, v => ∃ a, v = .ref a ∧ pa = some a
  | .scr ns, v => ∃ a, v = .ref a ∧ SqL K F a (ns.map V.int)
def DenL (K : PySem.W.Frag) (pa : Option Addr) (F : Hp) : List D → List V → Prop
  | [], xs => xs = []
  | d :: l, xs => ∃ v r, xs = v :: r ∧ Den K pa F d v ∧ DenL K pa F l r
end

section
variable {K : PySem.W.Frag} {pa : Option Addr} {F F' G G' H H' : Hp}
mutual
theorem Den.mono (e : Ex F F') : ∀ (d : D) (v : V), Den K pa F d v → Den K pa F' d v
  | .non, _, h => by simpa only [Den] using h
  | .bl _, _, h => by simpa only [Den] using h
  | .int _, _, h => by simpa only [Den] using h
  | .str _, _, h => by simpa only [Den] using h
  | .tup l, v, h => by
    simp only [Den] at h ⊢
    obtain ⟨a, xs, e1, e2, e3⟩ := h
    exact ⟨a, xs, e1, e _ _ e2, DenL.mono e l xs e3⟩
  | .lst l, v, h => by
    simp only [Den] at h ⊢
    obtain ⟨a, xs, e1, e2, e3⟩ := h
    exact ⟨a, xs, e1, e _ _ e2, DenL.mono e l xs e3⟩
  | .rng lo hi, v, h => by
    simp only [Den] at h ⊢
    obtain ⟨a, e1, e2⟩ := h
    exact ⟨a, e1, e _ _ e2⟩
  | .dct ks vs, v, h => by
    simp only [Den] at h ⊢
    obtain ⟨a, e1, h⟩ := h
    refine ⟨a, e1, ?_⟩
    rcases h with ⟨kvs, e2, e3, e4⟩ | ⟨kvs, e2, e3, e4⟩
    · exact .inl ⟨kvs, e _ _ e2, e3, DenL.mono e vs _ e4⟩
    · exact .inr ⟨kvs, e _ _ e2, e3, DenL.mono e vs _ e4⟩
  | .pot, _, h => by simpa only [Den] using h
  | .scr _, _, h => by
    simp only [Den] at h ⊢
    obtain ⟨a, e1, e2⟩ := h
    exact ⟨a, e1, Evl.ex_l e e2⟩
theorem DenL.mono (e : Ex F F') : ∀ (l : List D) (xs : List V), DenL K pa F l xs → DenL K pa F' l xs
  | [], _, h => by simpa only [DenL] using h
  | d :: l, xs, h => by
    simp only [DenL] at h ⊢
    obtain ⟨v, r, e1, e2, e3⟩ := h
    exact ⟨v, r, e1, Den.mono e d v e2, DenL.mono e l r e3⟩
end
theorem DenL.nil : DenL K pa F [] [] := by simp only [DenL]
theorem DenL.cons {d : D} {v : V} {l : List D} {r : List V} (h : Den K pa F d v) (t : DenL K pa F l r) : DenL K pa F (d :: l) (v :: r) := by
  simp only [DenL]
  exact ⟨v, r, rfl, h, t⟩
theorem DenL.nil_iff {xs : List V} (h : DenL K pa F [] xs) : xs = [] := by simpa only [DenL] using h
theorem DenL.cons_iff {d : D} {l : List D} {xs : List V} (h : DenL K pa F (d :: l) xs) : ∃ v r, xs = v :: r ∧ Den K pa F d v ∧ DenL K pa F l r := by simpa only [DenL] using h
theorem DenL.length : ∀ {l : List D} {xs : List V}, DenL K pa F l xs → xs.length = l.length
  | [], _, h => by rw [h.nil_iff]; rfl
  | d :: l, _, h => by
    obtain ⟨v, r, rfl, _, t⟩ := h.cons_iff
    rw [List.length_cons, List.length_cons, DenL.length t]
theorem DenL.get : ∀ {l : List D} {xs : List V} {i : Nat} {d : D}, DenL K pa F l xs → l[i]? = some d → ∃ v, xs[i]? = some v ∧ Den K pa F d v
  | [], _, _, _, _, e => by simp at e
  | c :: l, _, 0, d, h, e => by
    obtain ⟨v, r, rfl, h1, _⟩ := h.cons_iff
    simp at e
    subst e
    exact ⟨v, rfl, h1⟩
  | c :: l, _, i + 1, d, h, e => by
    obtain ⟨v, r, rfl, _, t⟩ := h.cons_iff
    obtain ⟨u, e1, e2⟩ := DenL.get (i := i) (d := d) t (by simpa using e)
    exact ⟨u, by simpa using e1, e2⟩
theorem DenL.append : ∀ {l m : List D} {xs ys : List V}, DenL K pa F l xs → DenL K pa F m ys → DenL K pa F (l ++ m) (xs ++ ys)
  | [], _, _, _, h, g => by
    rw [h.nil_iff]
    exact g
  | d :: l, _, _, _, h, g => by
    obtain ⟨v, r, rfl, h1, t⟩ := h.cons_iff
    exact DenL.cons h1 (DenL.append t g)
theorem DenL.take : ∀ {l : List D} {xs : List V} (n : Nat), DenL K pa F l xs → DenL K pa F (l.take n) (xs.take n)
  | _, _, 0, _ => by simpa using DenL.nil
  | [], _, n + 1, h => by
    rw [h.nil_iff]
    simpa using DenL.nil
  | d :: l, _, n + 1, h => by
    obtain ⟨v, r, rfl, h1, t⟩ := h.cons_iff
    simpa using DenL.cons h1 (DenL.take n t)
theorem DenL.drop : ∀ {l : List D} {xs : List V} (n : Nat), DenL K pa F l xs → DenL K pa F (l.drop n) (xs.drop n)
  | _, _, 0, h => by simpa using h
  | [], _, n + 1, h => by
    rw [h.nil_iff]
    simpa using DenL.nil
  | d :: l, _, n + 1, h => by
    obtain ⟨v, r, rfl, h1, t⟩ := h.cons_iff
    simpa using DenL.drop n t
theorem DenL.set {d : D} {v : V} (h : Den K pa F d v) : ∀ {l : List D} {xs : List V} (i : Nat), DenL K pa F l xs → DenL K pa F (l.set i d) (xs.set i v)
  | [], _, i, g => by
    rw [g.nil_iff]
    simpa using DenL.nil
  | c :: l, _, 0, g => by
    obtain ⟨u, r, rfl, _, t⟩ := g.cons_iff
    simpa using DenL.cons h t
  | c :: l, _, i + 1, g => by
    obtain ⟨u, r, rfl, h1, t⟩ := g.cons_iff
    simpa using DenL.cons h1 (DenL.set h i t)
theorem DenL.eraseIdx : ∀ {l : List D} {xs : List V} (i : Nat), DenL K pa F l xs → DenL K pa F (l.eraseIdx i) (xs.eraseIdx i)
  | [], _, i, g => by
    rw [g.nil_iff]
    simpa using DenL.nil
  | c :: l, _, 0, g => by
    obtain ⟨u, r, rfl, _, t⟩ := g.cons_iff
    simpa using t
  | c :: l, _, i + 1, g => by
    obtain ⟨u, r, rfl, h1, t⟩ := g.cons_iff
    simpa using DenL.cons h1 (DenL.eraseIdx i t)
theorem DenL.reverse : ∀ {l : List D} {xs : List V}, DenL K pa F l xs → DenL K pa F l.reverse xs.reverse
  | [], _, g => by
    rw [g.nil_iff]
    simpa using DenL.nil
  | c :: l, _, g => by
    obtain ⟨u, r, rfl, h1, t⟩ := g.cons_iff
    rw [List.reverse_cons, List.reverse_cons]
    exact DenL.append (DenL.reverse t) (DenL.cons h1 DenL.nil)
theorem DenL.rep {l : List D} {xs : List V} (h : DenL K pa F l xs) : ∀ k : Nat, DenL K pa F (List.replicate k l).flatten (List.replicate k xs).flatten
  | 0 => by simpa using DenL.nil
  | k + 1 => by
    rw [List.replicate_succ, List.replicate_succ, List.flatten_cons, List.flatten_cons]
    exact DenL.append h (DenL.rep h k)
theorem DenL.ints : ∀ {ns : List Int} {xs : List V}, DenL K pa F (ns.map D.int) xs → xs = ns.map V.int
  | [], _, h => h.nil_iff
  | n :: ns, _, h => by
    obtain ⟨v, r, rfl, h1, t⟩ := h.cons_iff
    have e : v = .int n := by simpa only [Den] using h1
    rw [e, DenL.ints t]
    rfl
theorem DenL.of_ints : ∀ {ns : List Int}, DenL K pa F (ns.map D.int) (ns.map V.int)
  | [] => DenL.nil
  | n :: ns => DenL.cons (by simp only [Den]) (DenL.of_ints (ns := ns))
theorem DenL.bls : ∀ {bs : List Bool} {xs : List V}, DenL K pa F (bs.map D.bl) xs → xs = bs.map V.bl
  | [], _, h => h.nil_iff
  | n :: ns, _, h => by
    obtain ⟨v, r, rfl, h1, t⟩ := h.cons_iff
    have e : v = .bl n := by simpa only [Den] using h1
    rw [e, DenL.bls t]
    rfl

/-- the same, the object itself in G, its parts in F -/
def Den1 (K : PySem.W.Frag) (pa : Option Addr) (F G : Hp) : D → V → Prop
  | .lst l, v => ∃ a xs, v = .ref a ∧ G a = some (.lst xs) ∧ DenL K pa F l xs
  | .dct ks vs, v => ∃ a, v = .ref a ∧
      ((∃ kvs : List (Key × V), G a = some (.dK kvs) ∧ ks.map keyK = kvs.map (fun p => some p.1) ∧ DenL K pa F vs (kvs.map (·.2))) ∨
        ∃ kvs : List (List Key × V), G a = some (.dT kvs) ∧ ks.map keyT = kvs.map (fun p => some p.1) ∧ DenL K pa F vs (kvs.map (·.2)))
  | d, v => Den K pa F d v
theorem Den.one (e : Ex F G) : ∀ {d : D} {v : V}, Den K pa F d v → Den1 K pa F G d v
  | .non, _, h => h
  | .bl _, _, h => h
  | .int _, _, h => h
  | .str _, _, h => h
  | .tup l, v, h => h
  | .lst l, v, h => by
    simp only [Den] at h
    obtain ⟨a, xs, e1, e2, e3⟩ := h
    exact ⟨a, xs, e1, e _ _ e2, e3⟩
  | .rng lo hi, v, h => h
  | .dct ks vs, v, h => by
    simp only [Den] at h
    obtain ⟨a, e1, h⟩ := h
    refine ⟨a, e1, ?_⟩
    rcases h with ⟨kvs, e2, e3, e4⟩ | ⟨kvs, e2, e3, e4⟩
    · exact .inl ⟨kvs, e _ _ e2, e3, e4⟩
    · exact .inr ⟨kvs, e _ _ e2, e3, e4⟩
  | .pot, _, h => h
  | .scr _, _, h => h
theorem Den1.mono (e : Ex F F') (g : Ex G G') : ∀ {d : D} {v : V}, Den1 K pa F G d v → Den1 K pa F' G' d v
  | .non, _, h => Den.mono e _ _ h
  | .bl _, _, h => Den.mono e _ _ h
  | .int _, _, h => Den.mono e _ _ h
  | .str _, _, h => Den.mono e _ _ h
  | .tup l, v, h => Den.mono e _ _ h
  | .lst l, v, ⟨a, xs, e1, e2, e3⟩ => ⟨a, xs, e1, g _ _ e2, DenL.mono e _ _ e3⟩
  | .rng lo hi, v, h => Den.mono e _ _ h
  | .dct ks vs, v, ⟨a, e1, h⟩ => by
    refine ⟨a, e1, ?_⟩
    rcases h with ⟨kvs, e2, e3, e4⟩ | ⟨kvs, e2, e3, e4⟩
    · exact .inl ⟨kvs, g _ _ e2, e3, DenL.mono e _ _ e4⟩
    · exact .inr ⟨kvs, g _ _ e2, e3, DenL.mono e _ _ e4⟩
  | .pot, _, h => Den.mono e _ _ h
  | .scr _, _, h => Den.mono e _ _ h

/-- the heap without the list that goes on changing -/
def Hx (pa : Option Addr) (H : Hp) : Hp := fun b => if pa = some b then none else H b
theorem Hx.sub (pa : Option Addr) (H : Hp) : Ex (Hx pa H) H := fun a o h => by
  unfold Hx at h
  split at h
  · cases h
  · exact h

/-- how heaps go on: F what no longer changes -/
structure Grow (pa : Option Addr) (H F H' F' : Hp) : Prop where
  ff : Ex F F'
  fh : Ex F' H'
  stay : ∀ b o, H b = some o → pa ≠ some b → H' b = some o
  there : ∀ b, H b ≠ none → H' b ≠ none
  new : ∀ b o, F' b = some o → F b = some o ∨ H b = none
theorem Grow.refl (h : Ex F H) : Grow pa H F H F := ⟨Ex.refl F, h, fun _ _ e _ => e, fun _ e => e, fun _ _ e => .inl e⟩
theorem Grow.trans {H1 F1 H2 F2 : Hp} (a : Grow pa H F H1 F1) (b : Grow pa H1 F1 H2 F2) : Grow pa H F H2 F2 :=
  ⟨a.ff.trans b.ff, b.fh, fun c o e n => b.stay c o (a.stay c o e n) n, fun c e => b.there c (a.there c e), fun c o e => by
    rcases b.new c o e with h | h
    · exact a.new c o h
    · refine .inr ?_
      cases q : H c with
      | none => rfl
      | some u => exact absurd h (a.there c (by rw [q]; exact fun z => nomatch z))⟩
theorem Grow.hx (g : Grow pa H F H' F') : Ex (Hx pa H) (Hx pa H') := fun a o h => by
  unfold Hx at h ⊢
  split at h
  · cases h
  · rename_i n
    rw [if_neg n]
    exact g.stay a o h n
/-- nothing that stood has changed -/
structure Pur (H F H' F' : Hp) : Prop where
  hh : Ex H H'
  ff : Ex F F'
  fh : Ex F' H'
  new : ∀ b o, F' b = some o → F b = some o ∨ H b = none
theorem Pur.refl (h : Ex F H) : Pur H F H F := ⟨Ex.refl H, Ex.refl F, h, fun _ _ e => .inl e⟩
theorem Pur.grow (p : Pur H F H' F') : Grow pa H F H' F' := by
  refine ⟨p.ff, p.fh, fun b o e _ => p.hh b o e, fun b e => ?_, p.new⟩
  cases q : H b with
  | none => exact absurd q e
  | some o =>
    rw [p.hh b o q]
    exact fun z => nomatch z
theorem fresh_F (h : Ex F H) {p : Addr} (n : H p = none) : F p = none := by
  cases q : F p with
  | none => rfl
  | some o => rw [h p o q] at n; cases n
/-- a new object that no longer changes -/
theorem Pur.put (h : Ex F H) {p : Addr} {o : HO} (n : H p = none) : Pur H F (upd H p o) (upd F p o) := by
  have nF := fresh_F h n
  refine ⟨Ex.new n, Ex.new nF, fun a u e => ?_, fun a u e => ?_⟩
  · by_cases q : a = p
    · rw [q, upd_same] at e ⊢
      exact e
    · rw [upd_ne q] at e ⊢
      exact h a u e
  · by_cases q : a = p
    · rw [q]
      exact .inr n
    · rw [upd_ne q] at e
      exact .inl e
theorem Pur.trans {H1 F1 H2 F2 : Hp} (a : Pur H F H1 F1) (b : Pur H1 F1 H2 F2) : Pur H F H2 F2 :=
  ⟨a.hh.trans b.hh, a.ff.trans b.ff, b.fh, fun c o e => by
    rcases b.new c o e with h | h
    · exact a.new c o h
    · exact .inr (fresh_F a.hh h)⟩
/-- a new object that may still change, or that is nobody's -/
theorem Pur.lay (h : Ex F H) {p : Addr} {o : HO} (n : H p = none) : Pur H F (upd H p o) F :=
  ⟨Ex.new n, Ex.refl F, h.trans (Ex.new n), fun _ _ e => .inl e⟩

abbrev Pt := List Int
/-- the list that goes on changing holds p -/
def PotAt (pa : Option Addr) (H F : Hp) (p : Pt) : Prop := ∀ a, pa = some a → F a = none ∧ H a = some (.lst (p.map V.int))
theorem PotAt.pur {p : Pt} (h : PotAt pa H F p) (q : Pur H F H' F') : PotAt pa H' F' p := fun a e => by
  obtain ⟨h1, h2⟩ := h a e
  refine ⟨?_, q.hh a _ h2⟩
  cases z : F' a with
  | none => rfl
  | some o =>
    rcases q.new a o z with y | y
    · rw [h1] at y; cases y
    · rw [h2] at y; cases y
theorem PotAt.fx {p : Pt} (h : PotAt pa H F p) (fh : Ex F H) : Ex F (Hx pa H) := fun a o e => by
  unfold Hx
  by_cases q : pa = some a
  · obtain ⟨h1, _⟩ := h a q
    rw [h1] at e
    cases e
  · rw [if_neg q]
    exact fh a o e
end
end Dx

set_option Elab.async false
set_option linter.all false
set_option maxRecDepth 100000
set_option maxHeartbeats 4000000
/-! what code makes of data: expressions -/
namespace Dx
open PySem PySem.Spec PyProof.Rows L2
open Evl (Ex)

/-! ### a reading's steps: the data, the list that goes on changing -/
abbrev M (α : Type) := Pt → Option (α × Pt)
def ret {α : Type} (a : α) : M α := fun p => some (a, p)
def bnd {α β : Type} (m : M α) (f : α → M β) : M β := fun p => match m p with
  | none => none
  | some (a, q) => f a q
def fail {α : Type} : M α := fun _ => none
def lift {α : Type} (o : Option α) : M α := fun p => match o with
  | none => none
  | some a => some (a, p)
theorem bnd_some {α β : Type} {m : M α} {f : α → M β} {p : Pt} {r : β × Pt} (h : bnd m f p = some r) : ∃ a q, m p = some (a, q) ∧ f a q = some r := by
  unfold bnd at h
  cases e : m p with
  | none => rw [e] at h; cases h
  | some x =>
    obtain ⟨a, q⟩ := x
    rw [e] at h
    exact ⟨a, q, rfl, h⟩
theorem lift_some {α : Type} {o : Option α} {p : Pt} {r : α × Pt} (h : lift o p = some r) : o = some r.1 ∧ r.2 = p := by
  unfold lift at h
  cases o with
  | none => cases h
  | some a =>
    have e := Option.some.inj h
    subst e
    exact ⟨rfl, rfl⟩
theorem ret_some {α : Type} {a : α} {p : Pt} {r : α × Pt} (h : ret a p = some r) : r = (a, p) := (Option.some.inj h).symm

/-- what a name holds: data, or a list (a dict) of the def's own that may still change -/
inductive Slot where
  | none | val (d : D) | own (d : D)
abbrev Gam := List Slot

section
variable {K : PySem.W.Frag} {pa : Option Addr} {F F' G G' H H' : Hp}
def Own1 (K : PySem.W.Frag) (pa : Option Addr) (F H : Hp) (a : Addr) : D → Prop
  | .lst l => ∃ xs, H a = some (.lst xs) ∧ DenL K pa F l xs
  | .dct ks vs => (∃ kvs : List (Key × V), H a = some (.dK kvs) ∧ ks.map keyK = kvs.map (fun p => some p.1) ∧ DenL K pa F vs (kvs.map (·.2))) ∨
      ∃ kvs : List (List Key × V), H a = some (.dT kvs) ∧ ks.map keyT = kvs.map (fun p => some p.1) ∧ DenL K pa F vs (kvs.map (·.2))
  | _ => False
structure OwnAt (K : PySem.W.Frag) (pa : Option Addr) (F H : Hp) (a : Addr) (d : D) : Prop where
  nf : F a = none
  np : pa ≠ some a
  at_ : Own1 K pa F H a d
theorem Own1.ex {a : Addr} {d : D} (o : Own1 K pa F H a d) : ∃ u, H a = some u := by
  cases d with
  | lst l => obtain ⟨xs, e, _⟩ := o; exact ⟨_, e⟩
  | dct ks vs =>
    rcases o with ⟨_, e, _⟩ | ⟨_, e, _⟩
    · exact ⟨_, e⟩
    · exact ⟨_, e⟩
  | _ => exact o.elim
theorem Own1.mono {a : Addr} {d : D} (o : Own1 K pa F H a d) (ff : Ex F F') (k : ∀ u, H a = some u → H' a = some u) : Own1 K pa F' H' a d := by
  cases d with
  | lst l =>
    obtain ⟨xs, e, h⟩ := o
    exact ⟨xs, k _ e, DenL.mono ff _ _ h⟩
  | dct ks vs =>
    rcases o with ⟨kvs, e, h1, h2⟩ | ⟨kvs, e, h1, h2⟩
    · exact .inl ⟨kvs, k _ e, h1, DenL.mono ff _ _ h2⟩
    · exact .inr ⟨kvs, k _ e, h1, DenL.mono ff _ _ h2⟩
  | _ => exact o.elim
theorem OwnAt.grow {a : Addr} {d : D} (o : OwnAt K pa F H a d) (g : Grow pa H F H' F') : OwnAt K pa F' H' a d := by
  obtain ⟨u, hu⟩ := o.at_.ex
  refine ⟨?_, o.np, Own1.mono (K := K) (pa := pa) o.at_ g.ff fun u e => g.stay a u e o.np⟩
  cases z : F' a with
  | none => rfl
  | some w =>
    rcases g.new a w z with y | y
    · rw [o.nf] at y; cases y
    · rw [hu] at y; cases y
theorem OwnAt.one {a : Addr} {d : D} (o : OwnAt K pa F H a d) : Den1 K pa F (Hx pa H) d (.ref a) := by
  have k : ∀ u, H a = some u → Hx pa H a = some u := fun u e => by
    unfold Hx
    rw [if_neg o.np]
    exact e
  have q : Own1 K pa F H a d := o.at_
  cases d with
  | lst l =>
    obtain ⟨xs, e, h⟩ := q
    exact ⟨a, xs, rfl, k _ e, h⟩
  | dct ks vs =>
    rcases q with ⟨kvs, e, h⟩ | ⟨kvs, e, h⟩
    · exact ⟨a, rfl, .inl ⟨kvs, k _ e, h⟩⟩
    · exact ⟨a, rfl, .inr ⟨kvs, k _ e, h⟩⟩
  | _ => exact q.elim

def SlotOk (K : PySem.W.Frag) (pa : Option Addr) (F H : Hp) (o : Option (Option V)) : Slot → Prop
  | .none => True
  | .val d => ∃ v, o = some (some v) ∧ Den K pa F d v
  | .own d => ∃ a, o = some (some (.ref a)) ∧ OwnAt K pa F H a d
structure Rel (K : PySem.W.Frag) (pa : Option Addr) (σ : L2.St) (H F : Hp) (Γ : Gam) (p : Pt) : Prop where
  fh : Ex F H
  pot : PotAt pa H F p
  len : Γ.length ≤ σ.length
  slot : ∀ (i : Nat) (s : Slot), Γ[i]? = some s → SlotOk K pa F H σ[i]? s
  apart : ∀ (i j : Nat) (d e : D) (a : Addr), Γ[i]? = some (.own d) → Γ[j]? = some (.own e) → σ[i]? = some (some (.ref a)) → σ[j]? = some (some (.ref a)) → i = j
theorem Rel.grow {σ : L2.St} {Γ : Gam} {p p' : Pt} (r : Rel K pa σ H F Γ p) (g : Grow pa H F H' F') (q : PotAt pa H' F' p') : Rel K pa σ H' F' Γ p' := by
  refine ⟨g.fh, q, r.len, fun i s e => ?_, r.apart⟩
  have h := r.slot i s e
  cases s with
  | none => trivial
  | val d =>
    obtain ⟨v, e1, e2⟩ := h
    exact ⟨v, e1, Den.mono g.ff _ _ e2⟩
  | own d =>
    obtain ⟨a, e1, e2⟩ := h
    exact ⟨a, e1, e2.grow g⟩
theorem Rel.refl {σ : L2.St} {Γ : Gam} {p : Pt} (r : Rel K pa σ H F Γ p) : Grow pa H F H F := Grow.refl r.fh
end

/-! ### what is shown of a piece of code -/
/-- the value of an expression stands for what f reads, and no longer changes -/
def tEv (K : PySem.W.Frag) (f : Gam → M D) : TE := fun σ H Q => ∃ (pa : Option Addr) (F : Hp) (Γ : Gam) (p : Pt) (d : D) (p' : Pt), Rel K pa σ H F Γ p ∧ f Γ p = some (d, p') ∧
  ∀ v H' F', Grow pa H F H' F' → PotAt pa H' F' p' → Den K pa F' d v → Q v H'
/-- it may be an own list that is only looked at -/
def tPk (K : PySem.W.Frag) (f : Gam → M D) : TE := fun σ H Q => ∃ (pa : Option Addr) (F : Hp) (Γ : Gam) (p : Pt) (d : D) (p' : Pt), Rel K pa σ H F Γ p ∧ f Γ p = some (d, p') ∧
  ∀ v H' F', Grow pa H F H' F' → PotAt pa H' F' p' → Den1 K pa F' (Hx pa H') d v → Q v H'
/-- a new list -/
def tNw (K : PySem.W.Frag) (f : Gam → M (List D)) : TE := fun σ H Q => ∃ (pa : Option Addr) (F : Hp) (Γ : Gam) (p : Pt) (d : List D) (p' : Pt), Rel K pa σ H F Γ p ∧ f Γ p = some (d, p') ∧
  ∀ a xs H' F', Grow pa H F H' F' → PotAt pa H' F' p' → H a = none → F' a = none → H' a = some (.lst xs) → DenL K pa F' d xs → Q (.ref a) H'
def tTs (K : PySem.W.Frag) (f : Gam → M Bool) : TT := fun σ H Q => ∃ (pa : Option Addr) (F : Hp) (Γ : Gam) (p : Pt) (b : Bool) (p' : Pt), Rel K pa σ H F Γ p ∧ f Γ p = some (b, p') ∧
  ∀ H' F', Grow pa H F H' F' → PotAt pa H' F' p' → Q b H'
def tAr (K : PySem.W.Frag) (f : Gam → M (List D)) : TA := fun σ H Q => ∃ (pa : Option Addr) (F : Hp) (Γ : Gam) (p : Pt) (ds : List D) (p' : Pt), Rel K pa σ H F Γ p ∧ f Γ p = some (ds, p') ∧
  ∀ vs H' F', Grow pa H F H' F' → PotAt pa H' F' p' → DenL K pa F' ds vs → Q vs H'
def Den1L (K : PySem.W.Frag) (pa : Option Addr) (F G : Hp) : List D → List V → Prop
  | [], xs => xs = []
  | d :: l, xs => ∃ v r, xs = v :: r ∧ Den1 K pa F G d v ∧ Den1L K pa F G l r
def tAk (K : PySem.W.Frag) (f : Gam → M (List D)) : TA := fun σ H Q => ∃ (pa : Option Addr) (F : Hp) (Γ : Gam) (p : Pt) (ds : List D) (p' : Pt), Rel K pa σ H F Γ p ∧ f Γ p = some (ds, p') ∧
  ∀ vs H' F', Grow pa H F H' F' → PotAt pa H' F' p' → Den1L K pa F' (Hx pa H') ds vs → Q vs H'

abbrev DE (X : Cx) (e : Expr) (f : Gam → M D) : Prop := PE X e (tEv X.K f)
abbrev DP (X : Cx) (e : Expr) (f : Gam → M D) : Prop := PE X e (tPk X.K f)
abbrev DN (X : Cx) (e : Expr) (f : Gam → M (List D)) : Prop := PE X e (tNw X.K f)
abbrev DT (X : Cx) (e : Expr) (f : Gam → M Bool) : Prop := PT X e (tTs X.K f)
abbrev DA (X : Cx) (es : List Expr) (f : Gam → M (List D)) : Prop := PA X es (tAr X.K f)
abbrev DAk (X : Cx) (es : List Expr) (f : Gam → M (List D)) : Prop := PA X es (tAk X.K f)

theorem pe_imp {X : Cx} {e : Expr} {t t' : TE} (h : PE X e t) (q : ∀ σ H Q, t' σ H Q → t σ H Q) : PE X e t' := ⟨fun pins s σ H Q I w => h.run pins s σ H Q I (q σ H Q w)⟩
theorem pt_imp {X : Cx} {e : Expr} {t t' : TT} (h : PT X e t) (q : ∀ σ H Q, t' σ H Q → t σ H Q) : PT X e t' := ⟨fun pins s σ H Q I w => h.run pins s σ H Q I (q σ H Q w)⟩
theorem pw_imp {X : Cx} {e : Expr} {t t' : TT} (h : PW X e t) (q : ∀ σ H Q, t' σ H Q → t σ H Q) : PW X e t' := ⟨fun wh pins s σ H Q I w => h.run wh pins s σ H Q I (q σ H Q w)⟩
theorem pa_imp {X : Cx} {es : List Expr} {t t' : TA} (h : PA X es t) (q : ∀ σ H Q, t' σ H Q → t σ H Q) : PA X es t' := ⟨fun pos pins s σ H Q I w => h.run pos pins s σ H Q I (q σ H Q w)⟩

/-- what stands fast of the place where code runs -/
structure Gd (X : Cx) (N : List Str) (sc : Scope) : Prop where
  calm : X.calm = true
  nd : N.Nodup
  hu : X.A.units + 64 + 64 < cLine
  gu : X.A.guards = some []
  xe : X.xe = fun _ _ => False
  names : X.N = N
  scope : X.env.scope = sc
/-- the name x in slot i -/
structure VisAt (N : List Str) (sc : Scope) (i : Nat) (x : Str) : Prop where
  hN : N[i]? = some x
  hv : Vis sc x
  hd : (x == ("__debug__" : Str)) = false := by decide
  hcd : (x == ("__classdict__" : Str)) = false := by decide

section
variable {X : Cx} {N : List Str} {sc : Scope} {a b c e : Expr} {es : List Expr} {pos : Pos} {fa fb fc : Gam → M D}

theorem de_peek (h : DE X e fa) : DP X e fa := pe_imp h fun σ H Q ⟨pa, F, Γ, p, d, p', r, ev, k⟩ => ⟨pa, F, Γ, p, d, p', r, ev, fun v H' F' g q dn => k v H' F' g q (Den.one (q.fx g.fh) dn)⟩

/-! ### names and constants -/
def evv (i : Nat) : Gam → M D := fun Γ => match Γ[i]? with
  | some (.val d) => ret d
  | _ => fail
def pkv (i : Nat) : Gam → M D := fun Γ => match Γ[i]? with
  | some (.val d) => ret d
  | some (.own d) => ret d
  | _ => fail
theorem de_var {i : Nat} {x : Str} (g : Gd X N sc) (v : VisAt N sc i x) : DE X (.Name x pos) (evv i) := by
  refine pe_imp (pe_var (i := i) (by rw [g.names]; exact v.hN) (by rw [g.scope]; exact v.hv) v.hd v.hcd) fun σ H Q ⟨pa, F, Γ, p, d, p', r, ev, k⟩ => ?_
  unfold evv at ev
  cases z : Γ[i]? with
  | none => rw [z] at ev; cases ev
  | some s =>
    rw [z] at ev
    have hs := r.slot i s z
    cases s with
    | none => cases ev
    | own d => cases ev
    | val d' =>
      have q := ret_some ev
      injection q with q1 q2
      subst q1; subst q2
      obtain ⟨u, e1, e2⟩ := hs
      exact ⟨u, e1, k u H F r.refl r.pot e2⟩
theorem dp_var {i : Nat} {x : Str} (g : Gd X N sc) (v : VisAt N sc i x) : DP X (.Name x pos) (pkv i) := by
  refine pe_imp (pe_var (i := i) (by rw [g.names]; exact v.hN) (by rw [g.scope]; exact v.hv) v.hd v.hcd) fun σ H Q ⟨pa, F, Γ, p, d, p', r, ev, k⟩ => ?_
  unfold pkv at ev
  cases z : Γ[i]? with
  | none => rw [z] at ev; cases ev
  | some s =>
    rw [z] at ev
    have hs := r.slot i s z
    cases s with
    | none => cases ev
    | own d' =>
      have q := ret_some ev
      injection q with q1 q2
      subst q1; subst q2
      obtain ⟨u, e1, e2⟩ := hs
      exact ⟨.ref u, e1, k _ H F r.refl r.pot e2.one⟩
    | val d' =>
      have q := ret_some ev
      injection q with q1 q2
      subst q1; subst q2
      obtain ⟨u, e1, e2⟩ := hs
      exact ⟨u, e1, k u H F r.refl r.pot (Den.one (r.pot.fx r.fh) e2)⟩
/-- data that are written -/
def con (d : D) : Gam → M D := fun _ => ret d
theorem de_con {v : V} {d : D} (h : PE X e (tC v)) (hd : ∀ K pa F, Den K pa F d v) : DE X e (con d) := pe_imp h fun σ H Q ⟨pa, F, Γ, p, d', p', r, ev, k⟩ => by
  have q := ret_some ev
  injection q with q1 q2
  subst q1; subst q2
  exact k v H F r.refl r.pot (hd _ _ _)
theorem de_int {i j} : DE X (.Constant (.int i) j pos) (con (.int i)) := de_con pe_int fun _ _ _ => by simp only [Den]
theorem de_bl {i j} : DE X (.Constant (.bool i) j pos) (con (.bl i)) := de_con pe_bl fun _ _ _ => by simp only [Den]
theorem de_non {j} : DE X (.Constant .none j pos) (con .non) := de_con pe_non fun _ _ _ => by simp only [Den]
theorem de_str {i j} : DE X (.Constant (.str i) j pos) (con (.str i)) := de_con pe_str fun _ _ _ => by simp only [Den]
theorem gl_of {x : Str} (g : Gd X N sc) (h : sc.names.lookup x = some .globalImplicit) : Gl X x := by
  unfold Gl Env.kindOf
  rw [g.scope]
  exact h
theorem de_gint {x : Str} {i : Int} (g : Gd X N sc) (h : sc.names.lookup x = some .globalImplicit) (hm : ∃ t, X.mg x = some (.int i t)) (hd : (x == ("__debug__" : Str)) = false := by decide) : DE X (.Name x pos) (con (.int i)) := by
  obtain ⟨t, hm⟩ := hm
  exact de_con (pe_glob (v := .int i) (gl_of g h) hm ⟨t, rfl⟩ hd) fun _ _ _ => by simp only [Den]
theorem de_gstr {x z : Str} (g : Gd X N sc) (h : sc.names.lookup x = some .globalImplicit) (hm : ∃ t, X.mg x = some (.str z t)) (hd : (x == ("__debug__" : Str)) = false := by decide) : DE X (.Name x pos) (con (.str z)) := by
  obtain ⟨t, hm⟩ := hm
  exact de_con (pe_glob (v := .str z) (gl_of g h) hm ⟨t, rfl⟩ hd) fun _ _ _ => by simp only [Den]

/-! ### two operands, by their data -/
/-- an operation on data that are looked at: g its answer -/
def OpD (X : Cx) (f : Value → Value → Sem Value) (g : D → D → Option D) : Prop :=
  OpR X f fun x y H Q => ∃ (pa : Option Addr) (F : Hp) (d e r : D), Ex F H ∧ Den1 X.K pa F (Hx pa H) d x ∧ Den1 X.K pa F (Hx pa H) e y ∧ g d e = some r ∧
    ∀ v H' F', Pur H F H' F' → Den X.K pa F' r v → Q v H'
def op2 (g : D → D → Option D) (fa fb : Gam → M D) : Gam → M D := fun Γ => bnd (fa Γ) fun x => bnd (fb Γ) fun y => lift (g x y)
/-- both operands behind one another, then what they are needed for -/
theorem two {pa : Option Addr} {F : Hp} {Γ : Gam} {p p' : Pt} {σ : L2.St} {H : Hp} {α : Type} {r : α} {k : D → D → M α} {R : V → V → Hp → Prop} (rl : Rel X.K pa σ H F Γ p)
    (ev : (bnd (fa Γ) fun x => bnd (fb Γ) fun y => k x y) p = some (r, p'))
    (h : ∀ x y p2 v u H' F', k x y p2 = some (r, p') → Grow pa H F H' F' → PotAt pa H' F' p2 → Den1 X.K pa F' (Hx pa H') x v → Den1 X.K pa F' (Hx pa H') y u → R v u H') :
    tPk X.K fa σ H fun v H1 => tPk X.K fb σ H1 fun u H2 => R v u H2 := by
  obtain ⟨x, p1, e1, ev⟩ := bnd_some ev
  obtain ⟨y, p2, e2, ev⟩ := bnd_some ev
  refine ⟨pa, F, Γ, p, x, p1, rl, e1, fun v H1 F1 g1 q1 d1 => ?_⟩
  refine ⟨pa, F1, Γ, p1, y, p2, rl.grow g1 q1, e2, fun u H2 F2 g2 q2 d2 => ?_⟩
  exact h x y p2 v u H2 F2 ev (g1.trans g2) q2 (Den1.mono g2.ff g2.hx d1) d2
theorem de_op {o : Operator} {g : D → D → Option D} (ho : OpD X (binaryOp o) g) (ha : DP X a fa) (hb : DP X b fb) : DE X (.BinOp a o b pos) (op2 g fa fb) :=
  pe_imp (pe_op ho ha hb) fun σ H Q ⟨pa, F, Γ, p, d, p', r, ev, k⟩ => two r ev fun x y p2 v u H' F' e g q d1 d2 => by
    obtain ⟨e1, e2⟩ := lift_some e
    have e2' : p' = p2 := e2
    subst e2'
    exact ⟨pa, F', x, y, _, g.fh, d1, d2, e1, fun z H2 F2 pu dn => k z H2 F2 (g.trans pu.grow) (q.pur pu) dn⟩
theorem de_cmp {o : CmpOp} {g : D → D → Option D} (ho : OpD X (compareOp o) g) (ha : DP X a fa) (hb : DP X b fb) (hm : behindInMarks o b = false) : DE X (.Compare a [o] [b] pos) (op2 g fa fb) :=
  pe_imp (pe_cmpR ho ha hb hm) fun σ H Q ⟨pa, F, Γ, p, d, p', r, ev, k⟩ => two r ev fun x y p2 v u H' F' e g q d1 d2 => by
    obtain ⟨e1, e2⟩ := lift_some e
    have e2' : p' = p2 := e2
    subst e2'
    exact ⟨pa, F', x, y, _, g.fh, d1, d2, e1, fun z H2 F2 pu dn => k z H2 F2 (g.trans pu.grow) (q.pur pu) dn⟩
/-- the answer as a bool -/
def asB : D → Option Bool
  | .bl b => some b
  | _ => none
def ts2 (g : D → D → Option D) (fa fb : Gam → M D) : Gam → M Bool := fun Γ => bnd (fa Γ) fun x => bnd (fb Γ) fun y => lift ((g x y).bind asB)
theorem asB_den {K : PySem.W.Frag} {pa : Option Addr} {F : Hp} {d : D} {b : Bool} {v : V} (h : asB d = some b) (dn : Den K pa F d v) : v = .bl b := by
  cases d with
  | bl c =>
    have e := Option.some.inj h
    subst e
    simpa only [Den] using dn
  | _ => cases h
theorem dt_cmp {o : CmpOp} {g : D → D → Option D} (ho : OpD X (compareOp o) g) (ha : DP X a fa) (hb : DP X b fb) (hm : behindInMarks o b = false) : DT X (.Compare a [o] [b] pos) (ts2 g fa fb) :=
  pt_imp (pt_cmpR ho ha hb hm) fun σ H Q ⟨pa, F, Γ, p, d, p', r, ev, k⟩ => two r ev fun x y p2 v u H' F' e g q d1 d2 => by
    obtain ⟨e1, e2⟩ := lift_some e
    have e2' : p' = p2 := e2
    subst e2'
    obtain ⟨c, e3, e4⟩ := Option.bind_eq_some_iff.mp e1
    exact ⟨pa, F', x, y, c, g.fh, d1, d2, e3, fun z H2 F2 pu dn => ⟨d, asB_den e4 dn, k H2 F2 (g.trans pu.grow) (q.pur pu)⟩⟩
/-- an expression that is a bool, as a test -/
def tsB (f : Gam → M D) : Gam → M Bool := fun Γ => bnd (f Γ) fun d => lift (asB d)
theorem dt_val (h : DE X e fa) (he : ∀ whole, isTrue e X.env whole = (do let v ← whole; standAt e.pos; holding [v] (truthy v)) := by intro _; rfl) : DT X e (tsB fa) :=
  pt_imp (pt_val h he) fun σ H Q ⟨pa, F, Γ, p, d, p', r, ev, k⟩ => by
    obtain ⟨x, p1, e1, ev⟩ := bnd_some ev
    obtain ⟨e2, e3⟩ := lift_some ev
    have e3' : p' = p1 := e3
    subst e3'
    exact ⟨pa, F, Γ, p, x, p', r, e1, fun v H' F' g q dn => ⟨d, asB_den e2 dn, k H' F' g q⟩⟩

/-! ### and, or, not, if -/
def tAndM (f g : Gam → M Bool) : Gam → M Bool := fun Γ => bnd (f Γ) fun b => if b = true then g Γ else ret false
def tOrM (f g : Gam → M Bool) : Gam → M Bool := fun Γ => bnd (f Γ) fun b => if b = true then ret true else g Γ
def tNotM (f : Gam → M Bool) : Gam → M Bool := fun Γ => bnd (f Γ) fun b => ret (!b)
variable {ta tb : Gam → M Bool} {rest : List Expr}
abbrev DW (X : Cx) (e : Expr) (f : Gam → M Bool) : Prop := PW X e (tTs X.K f)
theorem dw_and1 (h : DT X a ta) : DW X (.BoolOp .And [a] pos) ta := pw_and1 h
theorem dw_or1 (h : DT X a ta) : DW X (.BoolOp .Or [a] pos) ta := pw_or1 h
theorem dw_and (h : DT X a ta) (h2 : DW X (.BoolOp .And (b :: rest) pos) tb) : DW X (.BoolOp .And (a :: b :: rest) pos) (tAndM ta tb) :=
  pw_imp (pw_and h h2) fun σ H Q ⟨pa, F, Γ, p, d, p', r, ev, k⟩ => by
    obtain ⟨x, p1, e1, ev⟩ := bnd_some ev
    refine ⟨pa, F, Γ, p, x, p1, r, e1, fun H1 F1 g q => ?_⟩
    cases x with
    | true => exact ⟨pa, F1, Γ, p1, d, p', r.grow g q, ev, fun H2 F2 g2 q2 => k H2 F2 (g.trans g2) q2⟩
    | false =>
      have z := ret_some ev
      injection z with z1 z2
      subst z1; subst z2
      exact k H1 F1 g q
theorem dw_or (h : DT X a ta) (h2 : DW X (.BoolOp .Or (b :: rest) pos) tb) : DW X (.BoolOp .Or (a :: b :: rest) pos) (tOrM ta tb) :=
  pw_imp (pw_or h h2) fun σ H Q ⟨pa, F, Γ, p, d, p', r, ev, k⟩ => by
    obtain ⟨x, p1, e1, ev⟩ := bnd_some ev
    refine ⟨pa, F, Γ, p, x, p1, r, e1, fun H1 F1 g q => ?_⟩
    cases x with
    | false => exact ⟨pa, F1, Γ, p1, d, p', r.grow g q, ev, fun H2 F2 g2 q2 => k H2 F2 (g.trans g2) q2⟩
    | true =>
      have z := ret_some ev
      injection z with z1 z2
      subst z1; subst z2
      exact k H1 F1 g q
theorem dt_w (h : DW X e ta) : DT X e ta := h.pt
theorem dt_not (h : DT X a ta) : DT X (.UnaryOp .Not a pos) (tNotM ta) :=
  pt_imp (pt_not h) fun σ H Q ⟨pa, F, Γ, p, d, p', r, ev, k⟩ => by
    obtain ⟨x, p1, e1, ev⟩ := bnd_some ev
    have z := ret_some ev
    injection z with z1 z2
    subst z1; subst z2
    exact ⟨pa, F, Γ, p, x, p', r, e1, fun H1 F1 g q => k H1 F1 g q⟩
/-- .. as values -/
def andM (f g : Gam → M D) : Gam → M D := fun Γ => bnd (f Γ) fun d => bnd (lift (asB d)) fun b => if b = true then g Γ else ret (.bl false)
def orM (f g : Gam → M D) : Gam → M D := fun Γ => bnd (f Γ) fun d => bnd (lift (asB d)) fun b => if b = true then ret (.bl true) else g Γ
def notM (f : Gam → M D) : Gam → M D := fun Γ => bnd (f Γ) fun d => bnd (lift (asB d)) fun b => ret (.bl (!b))
theorem de_one {op} (h : DE X a fa) : DE X (.BoolOp op [a] pos) fa := pe_one h
theorem de_and (h : DE X a fa) (h2 : DE X (.BoolOp .And (b :: rest) pos) fb) : DE X (.BoolOp .And (a :: b :: rest) pos) (andM fa fb) :=
  pe_imp (pe_and h h2) fun σ H Q ⟨pa, F, Γ, p, d, p', r, ev, k⟩ => by
    obtain ⟨x, p1, e1, ev⟩ := bnd_some ev
    obtain ⟨c, p2, e2, ev⟩ := bnd_some ev
    obtain ⟨e3, e4⟩ := lift_some e2
    have e4' : p2 = p1 := e4
    subst e4'
    refine ⟨pa, F, Γ, p, x, p2, r, e1, fun v H1 F1 g q dn => ⟨c, asB_den e3 dn, ?_⟩⟩
    cases c with
    | true => exact ⟨pa, F1, Γ, p2, d, p', r.grow g q, ev, fun v2 H2 F2 g2 q2 => k v2 H2 F2 (g.trans g2) q2⟩
    | false =>
      have z := ret_some ev
      injection z with z1 z2
      subst z1; subst z2
      exact k _ H1 F1 g q (by simp only [Den])
theorem de_or (h : DE X a fa) (h2 : DE X (.BoolOp .Or (b :: rest) pos) fb) : DE X (.BoolOp .Or (a :: b :: rest) pos) (orM fa fb) :=
  pe_imp (pe_or h h2) fun σ H Q ⟨pa, F, Γ, p, d, p', r, ev, k⟩ => by
    obtain ⟨x, p1, e1, ev⟩ := bnd_some ev
    obtain ⟨c, p2, e2, ev⟩ := bnd_some ev
    obtain ⟨e3, e4⟩ := lift_some e2
    have e4' : p2 = p1 := e4
    subst e4'
    refine ⟨pa, F, Γ, p, x, p2, r, e1, fun v H1 F1 g q dn => ⟨c, asB_den e3 dn, ?_⟩⟩
    cases c with
    | false => exact ⟨pa, F1, Γ, p2, d, p', r.grow g q, ev, fun v2 H2 F2 g2 q2 => k v2 H2 F2 (g.trans g2) q2⟩
    | true =>
      have z := ret_some ev
      injection z with z1 z2
      subst z1; subst z2
      exact k _ H1 F1 g q (by simp only [Den])
theorem de_not (h : DE X a fa) : DE X (.UnaryOp .Not a pos) (notM fa) :=
  pe_imp (pe_not h) fun σ H Q ⟨pa, F, Γ, p, d, p', r, ev, k⟩ => by
    obtain ⟨x, p1, e1, ev⟩ := bnd_some ev
    obtain ⟨c, p2, e2, ev2⟩ := bnd_some ev
    obtain ⟨e3, e4⟩ := lift_some e2
    have e4' : p2 = p1 := e4
    have z := ret_some ev2
    injection z with z1 z2
    subst z1
    have z3 : p' = p1 := z2.trans e4'
    subst z3
    exact ⟨pa, F, Γ, p, x, p', r, e1, fun v H1 F1 g q dn => ⟨c, asB_den e3 dn, k _ H1 F1 g q (by simp only [Den])⟩⟩
def iteM (t : Gam → M Bool) (f g : Gam → M D) : Gam → M D := fun Γ => bnd (t Γ) fun b => if b = true then f Γ else g Γ
theorem de_if (ht : DT X c ta) (ha : DE X a fa) (hb : DE X b fb) : DE X (.IfExp c a b pos) (iteM ta fa fb) :=
  pe_imp (pe_ifExp ht ha hb) fun σ H Q ⟨pa, F, Γ, p, d, p', r, ev, k⟩ => by
    obtain ⟨x, p1, e1, ev⟩ := bnd_some ev
    refine ⟨pa, F, Γ, p, x, p1, r, e1, fun H1 F1 g q => ?_⟩
    cases x with
    | true => exact ⟨pa, F1, Γ, p1, d, p', r.grow g q, ev, fun v H2 F2 g2 q2 => k v H2 F2 (g.trans g2) q2⟩
    | false => exact ⟨pa, F1, Γ, p1, d, p', r.grow g q, ev, fun v H2 F2 g2 q2 => k v H2 F2 (g.trans g2) q2⟩

/-! ### several in a row -/
def nilM : Gam → M (List D) := fun _ => ret []
def consM (f : Gam → M D) (g : Gam → M (List D)) : Gam → M (List D) := fun Γ => bnd (f Γ) fun d => bnd (g Γ) fun l => ret (d :: l)
variable {fs : Gam → M (List D)}
theorem da_nil : DA X [] nilM := pa_imp pa_nil fun σ H Q ⟨pa, F, Γ, p, d, p', r, ev, k⟩ => by
  have z := ret_some ev
  injection z with z1 z2
  subst z1; subst z2
  exact k [] H F r.refl r.pot DenL.nil
theorem da_cons (h : DE X e fa) (t : DA X es fs) (hs : starEach (e :: es) X.env = (false, eval e X.env) :: starEach es X.env := by rfl) : DA X (e :: es) (consM fa fs) :=
  pa_imp (pa_cons h t hs) fun σ H Q ⟨pa, F, Γ, p, d, p', r, ev, k⟩ => by
    obtain ⟨x, p1, e1, ev⟩ := bnd_some ev
    obtain ⟨l, p2, e2, ev⟩ := bnd_some ev
    have z := ret_some ev
    injection z with z1 z2
    subst z1; subst z2
    refine ⟨pa, F, Γ, p, x, p1, r, e1, fun v H1 F1 g q dn => ?_⟩
    exact ⟨pa, F1, Γ, p1, l, p', r.grow g q, e2, fun vs H2 F2 g2 q2 d2 => k _ H2 F2 (g.trans g2) q2 (DenL.cons (Den.mono g2.ff _ _ dn) d2)⟩
theorem Den1L.mono {K : PySem.W.Frag} {pa : Option Addr} {F F' G G' : Hp} (e : Ex F F') (g : Ex G G') : ∀ {l : List D} {xs : List V}, Den1L K pa F G l xs → Den1L K pa F' G' l xs
  | [], _, h => h
  | d :: l, _, ⟨v, r, h1, h2, h3⟩ => ⟨v, r, h1, Den1.mono e g h2, Den1L.mono e g h3⟩
theorem dak_nil : DAk X [] nilM := pa_imp pa_nil fun σ H Q ⟨pa, F, Γ, p, d, p', r, ev, k⟩ => by
  have z := ret_some ev
  injection z with z1 z2
  subst z1; subst z2
  exact k [] H F r.refl r.pot rfl
theorem dak_cons (h : DP X e fa) (t : DAk X es fs) (hs : starEach (e :: es) X.env = (false, eval e X.env) :: starEach es X.env := by rfl) : DAk X (e :: es) (consM fa fs) :=
  pa_imp (pa_cons h t hs) fun σ H Q ⟨pa, F, Γ, p, d, p', r, ev, k⟩ => by
    obtain ⟨x, p1, e1, ev⟩ := bnd_some ev
    obtain ⟨l, p2, e2, ev⟩ := bnd_some ev
    have z := ret_some ev
    injection z with z1 z2
    subst z1; subst z2
    refine ⟨pa, F, Γ, p, x, p1, r, e1, fun v H1 F1 g q dn => ?_⟩
    exact ⟨pa, F1, Γ, p1, l, p', r.grow g q, e2, fun vs H2 F2 g2 q2 d2 => k _ H2 F2 (g.trans g2) q2 ⟨v, vs, rfl, Den1.mono g2.ff g2.hx dn, d2⟩⟩

/-! ### tuples and lists that are written -/
def szOk (n : Nat) : Bool := decide (n ≤ 16777216)
theorem szOk_ok {n : Nat} (h : szOk n = true) : n ≤ sizeLine := by
  rw [sizeLine_eq]
  exact of_decide_eq_true h
def tupM (f : Gam → M (List D)) : Gam → M D := fun Γ => bnd (f Γ) fun l => if szOk l.length = true then ret (.tup l) else fail
theorem de_tup {x1} (h : DA X es fs) : DE X (.Tuple es x1 pos) (tupM fs) :=
  pe_imp (pe_tup h) fun σ H Q ⟨pa, F, Γ, p, d, p', r, ev, k⟩ => by
    obtain ⟨l, p1, e1, ev⟩ := bnd_some ev
    by_cases hz : szOk l.length = true
    · rw [if_pos hz] at ev
      have z := ret_some ev
      injection z with z1 z2
      subst z1; subst z2
      refine ⟨pa, F, Γ, p, l, p', r, e1, fun vs H1 F1 g q dn => ⟨by rw [dn.length]; exact szOk_ok hz, fun a ha => ?_⟩⟩
      have pu : Pur H1 F1 (upd H1 a (.tup vs)) (upd F1 a (.tup vs)) := Pur.put g.fh ha
      refine k _ _ _ (g.trans pu.grow) (q.pur pu) ?_
      simp only [Den]
      exact ⟨a, vs, rfl, upd_same, DenL.mono pu.ff _ _ dn⟩
    · rw [if_neg hz] at ev
      cases ev
def lstM (f : Gam → M (List D)) : Gam → M (List D) := fun Γ => bnd (f Γ) fun l => if szOk l.length = true then ret l else fail
theorem dn_lst (h : DA X es fs) : DN X (.List es pos) (lstM fs) :=
  pe_imp (pe_lst h) fun σ H Q ⟨pa, F, Γ, p, d, p', r, ev, k⟩ => by
    obtain ⟨l, p1, e1, ev⟩ := bnd_some ev
    by_cases hz : szOk l.length = true
    · rw [if_pos hz] at ev
      have z := ret_some ev
      injection z with z1 z2
      subst z1; subst z2
      refine ⟨pa, F, Γ, p, d, p', r, e1, fun vs H1 F1 g q dn => ⟨by rw [dn.length]; exact szOk_ok hz, fun a ha => ?_⟩⟩
      have pu : Pur H1 F1 (upd H1 a (.lst vs)) F1 := Pur.lay g.fh ha
      refine k a vs _ F1 (g.trans pu.grow) (q.pur pu) ?_ (fresh_F g.fh ha) upd_same dn
      cases z : H a with
      | none => rfl
      | some o => exact absurd ha (g.there a (by rw [z]; exact fun y => nomatch y))
    · rw [if_neg hz] at ev
      cases ev
/-- a new list that won't change any more -/
def frzM (f : Gam → M (List D)) : Gam → M D := fun Γ => bnd (f Γ) fun l => ret (.lst l)
theorem de_new (h : DN X e fs) : DE X e (frzM fs) := pe_imp h fun σ H Q ⟨pa, F, Γ, p, d, p', r, ev, k⟩ => by
  obtain ⟨l, p1, e1, ev⟩ := bnd_some ev
  have z := ret_some ev
  injection z with z1 z2
  subst z1; subst z2
  refine ⟨pa, F, Γ, p, l, p', r, e1, fun a xs H' F' g q n nF e dn => ?_⟩
  have ex : Ex F' (upd F' a (.lst xs)) := Ex.new nF
  have g2 : Grow pa H F H' (upd F' a (.lst xs)) := by
    refine ⟨g.ff.trans ex, fun b o h => ?_, g.stay, g.there, fun b o h => ?_⟩
    · by_cases hb : b = a
      · rw [hb, upd_same] at h
        rw [hb, ← h]
        exact e
      · rw [upd_ne hb] at h
        exact g.fh b o h
    · by_cases hb : b = a
      · rw [hb]
        exact .inr n
      · rw [upd_ne hb] at h
        exact g.new b o h
  refine k (.ref a) H' _ g2 (fun b hb => ?_) ?_
  · obtain ⟨h1, h2⟩ := q b hb
    refine ⟨?_, h2⟩
    by_cases hba : b = a
    · exfalso
      obtain ⟨_, h3⟩ := r.pot b hb
      rw [hba, n] at h3
      cases h3
    · rw [upd_ne hba]
      exact h1
  · simp only [Den]
    exact ⟨a, xs, rfl, upd_same, DenL.mono ex _ _ dn⟩
end
end Dx

set_option Elab.async false
set_option linter.all false
set_option maxRecDepth 100000
set_option maxHeartbeats 4000000
/-! operations on data -/
namespace Dx
open PySem PySem.Spec PyProof.Rows L2
open Evl (Ex)

mutual
/-- data as the library's own -/
def toP : D → PyData
  | .bl b => .bool b
  | .int i => .int i
  | .str x => .str x
  | .tup l => .tuple (toPL l)
  | .lst l => .list (toPL l)
  | _ => .none
def toPL : List D → List PyData
  | [] => []
  | d :: l => toP d :: toPL l
end
mutual
/-- no ranges, dicts, nor what goes on changing -/
def plain : D → Bool
  | .non => true
  | .bl _ => true
  | .int _ => true
  | .str _ => true
  | .tup l => plainL l
  | .lst l => plainL l
  | _ => false
def plainL : List D → Bool
  | [] => true
  | d :: l => plain d && plainL l
end
section
variable {K : PySem.W.Frag} {pa : Option Addr} {F G H : Hp}
mutual
theorem den_dp (e : Ex F H) : ∀ (d : D) (v : V), plain d = true → Den K pa F d v → Dp K H v (toP d)
  | .non, v, _, h => by
    have q : v = .non := by simpa only [Den] using h
    subst q
    exact Dp.non
  | .bl b, v, _, h => by
    have q : v = .bl b := by simpa only [Den] using h
    subst q
    exact Dp.bl b
  | .int i, v, _, h => by
    have q : v = .int i := by simpa only [Den] using h
    subst q
    exact Dp.int i
  | .str x, v, _, h => by
    have q : v = .str x := by simpa only [Den] using h
    subst q
    exact Dp.str x
  | .tup l, v, p, h => by
    simp only [Den] at h
    obtain ⟨a, xs, rfl, h2, h3⟩ := h
    simp only [toP]
    exact Dp.tup (SqT.of (e _ _ h2)) (denL_dp e l xs (by simpa only [plain] using p) h3)
  | .lst l, v, p, h => by
    simp only [Den] at h
    obtain ⟨a, xs, rfl, h2, h3⟩ := h
    simp only [toP]
    exact Dp.lst (SqL.of (e _ _ h2)) (denL_dp e l xs (by simpa only [plain] using p) h3)
  | .rng _ _, _, p, _ => by simp [plain] at p
  | .dct _ _, _, p, _ => by simp [plain] at p
  | .pot, _, p, _ => by simp [plain] at p
  | .scr _, _, p, _ => by simp [plain] at p
theorem denL_dp (e : Ex F H) : ∀ (l : List D) (xs : List V), plainL l = true → DenL K pa F l xs → DpAll K H xs (toPL l)
  | [], xs, _, h => by
    rw [h.nil_iff]
    simp only [toPL]
    exact DpAll.nil
  | d :: l, xs, p, h => by
    obtain ⟨v, r, rfl, h1, h2⟩ := h.cons_iff
    simp only [plainL, Bool.and_eq_true] at p
    simp only [toPL]
    exact DpAll.cons (den_dp e d v p.1 h1) (denL_dp e l r p.2 h2)
end
theorem den1_dp (e : Ex F H) (g : Ex G H) : ∀ {d : D} {v : V}, plain d = true → Den1 K pa F G d v → Dp K H v (toP d)
  | .non, _, p, h => den_dp (pa := pa) e _ _ p h
  | .bl _, _, p, h => den_dp (pa := pa) e _ _ p h
  | .int _, _, p, h => den_dp (pa := pa) e _ _ p h
  | .str _, _, p, h => den_dp (pa := pa) e _ _ p h
  | .tup _, _, p, h => den_dp (pa := pa) e _ _ p h
  | .lst l, _, p, ⟨a, xs, e1, e2, e3⟩ => by
    subst e1
    simp only [toP]
    exact Dp.lst (SqL.of (g _ _ e2)) (denL_dp (pa := pa) e l xs (by simpa only [plain] using p) e3)
  | .rng _ _, _, p, _ => by simp [plain] at p
  | .dct _ _, _, p, _ => by simp [plain] at p
  | .pot, _, p, _ => by simp [plain] at p
  | .scr _, _, p, _ => by simp [plain] at p
theorem d1_int {i : Int} {v : V} (h : Den1 K pa F G (.int i) v) : v = .int i := by simpa only [Den1, Den] using h
theorem d1_bl {i : Bool} {v : V} (h : Den1 K pa F G (.bl i) v) : v = .bl i := by simpa only [Den1, Den] using h
theorem d1_str {i : Str} {v : V} (h : Den1 K pa F G (.str i) v) : v = .str i := by simpa only [Den1, Den] using h
theorem d1_non {v : V} (h : Den1 K pa F G .non v) : v = .non := by simpa only [Den1, Den] using h
theorem d1_tup {l : List D} {v : V} (h : Den1 K pa F G (.tup l) v) : ∃ a xs, v = .ref a ∧ F a = some (.tup xs) ∧ DenL K pa F l xs := by simpa only [Den1, Den] using h
theorem d1_lst {l : List D} {v : V} (h : Den1 K pa F G (.lst l) v) : ∃ a xs, v = .ref a ∧ G a = some (.lst xs) ∧ DenL K pa F l xs := h
theorem d_int (i : Int) : Den K pa F (.int i) (.int i) := by simp only [Den]
theorem d_bl (i : Bool) : Den K pa F (.bl i) (.bl i) := by simp only [Den]
theorem d_non : Den K pa F .non .non := by simp only [Den]
theorem d_str (i : Str) : Den K pa F (.str i) (.str i) := by simp only [Den]
theorem d_tup {l : List D} {a : Addr} {xs : List V} (h : F a = some (.tup xs)) (t : DenL K pa F l xs) : Den K pa F (.tup l) (.ref a) := by
  simp only [Den]
  exact ⟨a, xs, rfl, h, t⟩
theorem d_lst {l : List D} {a : Addr} {xs : List V} (h : F a = some (.lst xs)) (t : DenL K pa F l xs) : Den K pa F (.lst l) (.ref a) := by
  simp only [Den]
  exact ⟨a, xs, rfl, h, t⟩
end

/-! ### + - * // % ** -/
def addD : D → D → Option D
  | .int i, .int j => some (.int (i + j))
  | .tup a, .tup b => if szOk (a.length + b.length) = true then some (.tup (a ++ b)) else none
  | .lst a, .lst b => if szOk (a.length + b.length) = true then some (.lst (a ++ b)) else none
  | _, _ => none
def subD : D → D → Option D
  | .int i, .int j => some (.int (i - j))
  | _, _ => none
def mulOk (i j : Int) : Bool := decide ((-(2 ^ 64) < i ∧ i < 2 ^ 64) ∨ (-(2 ^ 64) < j ∧ j < 2 ^ 64)) || decide (i.natAbs.log2 + j.natAbs.log2 < 1000000)
def repOk (n : Nat) (k : Int) : Bool := decide (0 < n ∧ n ≤ 1000 ∧ 2 ≤ k ∧ k ≤ 1000)
def mulD : D → D → Option D
  | .int i, .int j => if mulOk i j = true then some (.int (i * j)) else none
  | .tup a, .int k => if repOk a.length k = true then some (.tup (List.replicate k.toNat a).flatten) else none
  | _, _ => none
def divOk (j : Int) : Bool := decide (0 < j ∧ j < 1073741824) || decide (0 < j ∧ j.natAbs.log2 < 9000)
def fdivD : D → D → Option D
  | .int i, .int j => if divOk j = true then some (.int (i / j)) else none
  | _, _ => none
def modD : D → D → Option D
  | .int i, .int j => if 0 < j then some (.int (i % j)) else none
  | _, _ => none
def powOk (i j : Int) : Bool := decide (0 ≤ j ∧ j ≤ 1000) && decide (i.natAbs < 2 ^ 2000)
def powD : D → D → Option D
  | .int i, .int j => if powOk i j = true then some (.int (i ^ j.toNat)) else none
  | _, _ => none
section
variable {X : Cx}
theorem opd_add : OpD X (binaryOp .Add) addD := by
  intro pins s σ H x y v u Q I rx ry ⟨pa, F, d, e, r, fh, dx, dy, eg, k⟩
  unfold addD at eg
  split at eg
  · rename_i i j
    have z := Option.some.inj eg
    subst z
    exact op_add pins s σ H x y v u Q I rx ry ⟨i, j, d1_int dx, d1_int dy, k _ H F (Pur.refl fh) (d_int _)⟩
  · rename_i a b
    by_cases hz : szOk (a.length + b.length) = true
    · rw [if_pos hz] at eg
      have z := Option.some.inj eg
      subst z
      obtain ⟨p, xs, rfl, hp, hl⟩ := d1_tup dx
      obtain ⟨q, ys, rfl, hq, hm⟩ := d1_tup dy
      refine op_catA pins s σ H _ _ v u Q I rx ry ⟨p, q, xs, ys, rfl, rfl, SqT.of (fh _ _ hp), SqT.of (fh _ _ hq), by rw [hl.length, hm.length]; exact szOk_ok hz, fun e0 => ?_, fun _ e0 => ?_, fun _ _ t ht => ?_⟩
      · subst e0
        have ea : a = [] := List.length_eq_zero_iff.mp hl.length.symm
        subst ea
        exact k _ H F (Pur.refl fh) (d_tup hq hm)
      · subst e0
        have ea : b = [] := List.length_eq_zero_iff.mp hm.length.symm
        subst ea
        exact k _ H F (Pur.refl fh) (by rw [List.append_nil]; exact d_tup hp hl)
      · have pu := Pur.put (o := .tup (xs ++ ys)) fh ht
        exact k _ _ _ pu (d_tup upd_same (DenL.append (DenL.mono pu.ff _ _ hl) (DenL.mono pu.ff _ _ hm)))
    · rw [if_neg hz] at eg
      cases eg
  · rename_i a b
    by_cases hz : szOk (a.length + b.length) = true
    · rw [if_pos hz] at eg
      have z := Option.some.inj eg
      subst z
      obtain ⟨p, xs, rfl, hp, hl⟩ := d1_lst dx
      obtain ⟨q, ys, rfl, hq, hm⟩ := d1_lst dy
      refine op_cat pins s σ H _ _ v u Q I rx ry ⟨p, q, xs, ys, rfl, rfl, Hx.sub _ _ _ _ hp, Hx.sub _ _ _ _ hq, by rw [hl.length, hm.length]; exact szOk_ok hz, fun t ht => ?_⟩
      have pu := Pur.put (o := .lst (xs ++ ys)) fh ht
      exact k _ _ _ pu (d_lst upd_same (DenL.append (DenL.mono pu.ff _ _ hl) (DenL.mono pu.ff _ _ hm)))
    · rw [if_neg hz] at eg
      cases eg
  · cases eg
theorem opd_sub : OpD X (binaryOp .Sub) subD := by
  intro pins s σ H x y v u Q I rx ry ⟨pa, F, d, e, r, fh, dx, dy, eg, k⟩
  unfold subD at eg
  split at eg
  · rename_i i j
    have z := Option.some.inj eg
    subst z
    exact op_sub pins s σ H x y v u Q I rx ry ⟨i, j, d1_int dx, d1_int dy, k _ H F (Pur.refl fh) (d_int _)⟩
  · cases eg
theorem opd_mul : OpD X (binaryOp .Mult) mulD := by
  intro pins s σ H x y v u Q I rx ry ⟨pa, F, d, e, r, fh, dx, dy, eg, k⟩
  unfold mulD at eg
  split at eg
  · rename_i i j
    by_cases hz : mulOk i j = true
    · rw [if_pos hz] at eg
      have z := Option.some.inj eg
      subst z
      unfold mulOk at hz
      rcases Bool.or_eq_true_iff.mp hz with h | h
      · have h' := of_decide_eq_true h
        exact op_mul pins s σ H x y v u Q I rx ry ⟨i, j, d1_int dx, d1_int dy, h', k _ H F (Pur.refl fh) (d_int _)⟩
      · have h' := of_decide_eq_true h
        exact op_mulW pins s σ H x y v u Q I rx ry ⟨i, j, d1_int dx, d1_int dy, h', k _ H F (Pur.refl fh) (d_int _)⟩
    · rw [if_neg hz] at eg
      cases eg
  · rename_i a n
    by_cases hz : repOk a.length n = true
    · rw [if_pos hz] at eg
      have z := Option.some.inj eg
      subst z
      obtain ⟨h1, h2, h3, h4⟩ := of_decide_eq_true hz
      obtain ⟨p, xs, rfl, hp, hl⟩ := d1_tup dx
      have ln := hl.length
      refine op_repT pins s σ H _ _ v u Q I rx ry ⟨p, n, xs, rfl, d1_int dy, SqT.of (fh _ _ hp), ?_, h3, h4, by omega, fun t ht => ?_⟩
      · intro e0
        rw [e0] at ln
        simp at ln
        omega
      · have pu := Pur.put (o := .tup (List.replicate n.toNat xs).flatten) fh ht
        exact k _ _ _ pu (d_tup upd_same (DenL.rep (DenL.mono pu.ff _ _ hl) _))
    · rw [if_neg hz] at eg
      cases eg
  · cases eg
theorem opd_fdiv : OpD X (binaryOp .FloorDiv) fdivD := by
  intro pins s σ H x y v u Q I rx ry ⟨pa, F, d, e, r, fh, dx, dy, eg, k⟩
  unfold fdivD at eg
  split at eg
  · rename_i i j
    by_cases hz : divOk j = true
    · rw [if_pos hz] at eg
      have z := Option.some.inj eg
      subst z
      unfold divOk at hz
      rcases Bool.or_eq_true_iff.mp hz with h | h
      · have h' := of_decide_eq_true h
        exact op_fdiv pins s σ H x y v u Q I rx ry ⟨i, j, d1_int dx, d1_int dy, h', k _ H F (Pur.refl fh) (d_int _)⟩
      · have h' := of_decide_eq_true h
        exact op_fdivW pins s σ H x y v u Q I rx ry ⟨i, j, d1_int dx, d1_int dy, h', k _ H F (Pur.refl fh) (d_int _)⟩
    · rw [if_neg hz] at eg
      cases eg
  · cases eg
theorem opd_mod : OpD X (binaryOp .Mod) modD := by
  intro pins s σ H x y v u Q I rx ry ⟨pa, F, d, e, r, fh, dx, dy, eg, k⟩
  unfold modD at eg
  split at eg
  · rename_i i j
    by_cases hz : 0 < j
    · rw [if_pos hz] at eg
      have z := Option.some.inj eg
      subst z
      exact op_mod pins s σ H x y v u Q I rx ry ⟨i, j, d1_int dx, d1_int dy, hz, k _ H F (Pur.refl fh) (d_int _)⟩
    · rw [if_neg hz] at eg
      cases eg
  · cases eg
def CPowW (i j : Int) : Prop := (0 ≤ j ∧ j ≤ 1000) ∧ i.natAbs < 2 ^ 2000
theorem op_powW : OpR X (binaryOp .Pow) (rI CPowW fun i j => .int (i ^ j.toNat)) := opI fun i j _ _ _ _ _ hc q => by
  refine PyProof.Rows.pow_int hc.1.1 ?_ q
  have b : Builtin.Int.intBits i ≤ 2000 := by
    have l : i.natAbs.log2 < 2000 := PySem.Flt.log2_lt_of (by decide) hc.2
    unfold Builtin.Int.intBits
    split <;> omega
  have h1 := hc.1.1
  have h2 := hc.1.2
  have h3 : (Builtin.Int.intBits i : Int) * j ≤ 2000 * 1000 := by
    have b' : (Builtin.Int.intBits i : Int) ≤ 2000 := by omega
    exact Int.mul_le_mul b' h2 h1 (by decide)
  omega
theorem opd_pow : OpD X (binaryOp .Pow) powD := by
  intro pins s σ H x y v u Q I rx ry ⟨pa, F, d, e, r, fh, dx, dy, eg, k⟩
  unfold powD at eg
  split at eg
  · rename_i i j
    by_cases hz : powOk i j = true
    · rw [if_pos hz] at eg
      have z := Option.some.inj eg
      subst z
      unfold powOk at hz
      obtain ⟨h1, h2⟩ := Bool.and_eq_true_iff.mp hz
      exact op_powW pins s σ H x y v u Q I rx ry ⟨i, j, d1_int dx, d1_int dy, ⟨of_decide_eq_true h1, of_decide_eq_true h2⟩, k _ H F (Pur.refl fh) (d_int _)⟩
    · rw [if_neg hz] at eg
      cases eg
  · cases eg

/-! ### comparisons -/
def cmpI (p : Int → Int → Bool) : D → D → Option D
  | .int i, .int j => some (.bl (p i j))
  | _, _ => none
theorem opd_cmpI {f : Value → Value → Sem Value} {p : Int → Int → Bool} (h : OpR X f (rI0 fun i j => .bl (p i j))) : OpD X f (cmpI p) := by
  intro pins s σ H x y v u Q I rx ry ⟨pa, F, d, e, r, fh, dx, dy, eg, k⟩
  unfold cmpI at eg
  split at eg
  · rename_i i j
    have z := Option.some.inj eg
    subst z
    exact h pins s σ H x y v u Q I rx ry ⟨i, j, d1_int dx, d1_int dy, k _ H F (Pur.refl fh) (d_bl _)⟩
  · cases eg
abbrev ltD := cmpI fun i j => decide (i < j)
abbrev leD := cmpI fun i j => decide (i ≤ j)
abbrev gtD := cmpI fun i j => decide (j < i)
abbrev geD := cmpI fun i j => decide (j ≤ i)
theorem opd_lt : OpD X (compareOp .Lt) ltD := opd_cmpI op_lt
theorem opd_le : OpD X (compareOp .LtE) leD := opd_cmpI op_le
theorem opd_gt : OpD X (compareOp .Gt) gtD := opd_cmpI op_gt
theorem opd_ge : OpD X (compareOp .GtE) geD := opd_cmpI op_ge
/-- two data of any depth -/
def shp (d : D) : Bool := plain d && SeqAt.shaped (toP d)
def eqvD (d e : D) : Bool := PyData.eqv (toP d) (toP e)
def eqD : D → D → Option D
  | .str x, .str y => some (.bl (x == y))
  | d, e => if (shp d && shp e) = true then some (.bl (eqvD d e)) else none
def neD : D → D → Option D
  | .str x, .str y => some (.bl (!(x == y)))
  | d, e => if (shp d && shp e) = true then some (.bl (!eqvD d e)) else none
theorem decStr (x y : Str) : decide (V.str x = V.str y) = (x == y) := by
  rw [Bool.eq_iff_iff]
  simp
theorem opd_eq (hu : X.A.units + 64 + 64 < cLine) : OpD X (compareOp .Eq) eqD := by
  intro pins s σ H x y v u Q I rx ry ⟨pa, F, d, e, r, fh, dx, dy, eg, k⟩
  unfold eqD at eg
  split at eg
  · have z := Option.some.inj eg
    subst z
    refine op_eq pins s σ H x y v u Q I rx ry ?_
    rw [d1_str dx, d1_str dy]
    exact ⟨rfl, by rw [decStr]; exact k _ H F (Pur.refl fh) (d_bl _)⟩
  by_cases hz : (shp d && shp e) = true
  · rw [if_pos hz] at eg
    have z := Option.some.inj eg
    subst z
    simp only [Bool.and_eq_true, shp] at hz
    obtain ⟨⟨p1, s1⟩, p2, s2⟩ := hz
    exact op_eqD (by omega) pins s σ H x y v u Q I rx ry ⟨toP d, toP e, den1_dp fh (Hx.sub _ _) p1 dx, den1_dp fh (Hx.sub _ _) p2 dy, s1, s2, k _ H F (Pur.refl fh) (d_bl _)⟩
  · rw [if_neg hz] at eg
    cases eg
theorem opd_ne (hu : X.A.units + 64 + 64 < cLine) : OpD X (compareOp .NotEq) neD := by
  intro pins s σ H x y v u Q I rx ry ⟨pa, F, d, e, r, fh, dx, dy, eg, k⟩
  unfold neD at eg
  split at eg
  · have z := Option.some.inj eg
    subst z
    refine op_ne pins s σ H x y v u Q I rx ry ?_
    rw [d1_str dx, d1_str dy]
    exact ⟨rfl, by rw [decStr]; exact k _ H F (Pur.refl fh) (d_bl _)⟩
  by_cases hz : (shp d && shp e) = true
  · rw [if_pos hz] at eg
    have z := Option.some.inj eg
    subst z
    simp only [Bool.and_eq_true, shp] at hz
    obtain ⟨⟨p1, s1⟩, p2, s2⟩ := hz
    exact op_neD (by omega) pins s σ H x y v u Q I rx ry ⟨toP d, toP e, den1_dp fh (Hx.sub _ _) p1 dx, den1_dp fh (Hx.sub _ _) p2 dy, s1, s2, k _ H F (Pur.refl fh) (d_bl _)⟩
  · rw [if_neg hz] at eg
    cases eg
/-- is None, is True, is False (a bool is told from another bool alone) -/
def isD : D → D → Option D
  | .bl a, .bl b => some (.bl (decide (a = b)))
  | .non, .non => some (.bl true)
  | .int _, .non => some (.bl false)
  | .bl _, .non => some (.bl false)
  | .str _, .non => some (.bl false)
  | .tup _, .non => some (.bl false)
  | .lst _, .non => some (.bl false)
  | .dct _ _, .non => some (.bl false)
  | _, _ => none
def notR : Option D → Option D
  | some (.bl b) => some (.bl (!b))
  | _ => none
def isNotD : D → D → Option D := fun d e => notR (isD d e)
theorem ref_ne_non {K : PySem.W.Frag} {pa : Option Addr} {F G : Hp} {d : D} {v : V} (h : Den1 K pa F G d v) (hd : (match d with | .int _ | .bl _ | .str _ | .tup _ | .lst _ | .dct _ _ => true | _ => false) = true) : decide (v = V.non) = false := by
  apply decide_eq_false
  intro e
  subst e
  cases d with
  | int i => cases d1_int h
  | bl i => cases d1_bl h
  | str i => cases d1_str h
  | tup l => obtain ⟨_, _, q, _⟩ := d1_tup h; cases q
  | lst l => obtain ⟨_, _, q, _⟩ := d1_lst h; cases q
  | dct ks vs => obtain ⟨_, q, _⟩ := h; cases q
  | _ => cases hd
theorem isD_non {K : PySem.W.Frag} {pa : Option Addr} {F G : Hp} {d r : D} {v : V} (h : Den1 K pa F G d v) (e : isD d .non = some r) : r = .bl (decide (v = V.non)) := by
  cases d with
  | non =>
    have q := d1_non h
    subst q
    simp only [isD] at e
    exact (Option.some.inj e).symm
  | int i => rw [ref_ne_non h rfl]; simp only [isD] at e; exact (Option.some.inj e).symm
  | bl i => rw [ref_ne_non h rfl]; simp only [isD] at e; exact (Option.some.inj e).symm
  | str i => rw [ref_ne_non h rfl]; simp only [isD] at e; exact (Option.some.inj e).symm
  | tup i => rw [ref_ne_non h rfl]; simp only [isD] at e; exact (Option.some.inj e).symm
  | lst i => rw [ref_ne_non h rfl]; simp only [isD] at e; exact (Option.some.inj e).symm
  | dct i j => rw [ref_ne_non h rfl]; simp only [isD] at e; exact (Option.some.inj e).symm
  | rng _ _ => simp [isD] at e
  | pot => simp [isD] at e
  | scr _ => simp [isD] at e
theorem isD_shape {d e r : D} (h : isD d e = some r) : (∃ a b, d = .bl a ∧ e = .bl b) ∨ e = .non := by
  cases e with
  | non => exact .inr rfl
  | bl b =>
    cases d with
    | bl a => exact .inl ⟨a, b, rfl, rfl⟩
    | _ => simp [isD] at h
  | _ => cases d <;> simp [isD] at h
theorem opd_is : OpD X (compareOp .Is) isD := by
  intro pins s σ H x y v u Q I rx ry ⟨pa, F, d, e, r, fh, dx, dy, eg, k⟩
  rcases isD_shape eg with ⟨a, b, rfl, rfl⟩ | rfl
  · simp only [isD] at eg
    have z := Option.some.inj eg
    subst z
    exact op_isBl pins s σ H x y v u Q I rx ry ⟨a, b, d1_bl dx, d1_bl dy, k _ H F (Pur.refl fh) (d_bl _)⟩
  · have z := isD_non dx eg
    subst z
    exact op_isN pins s σ H x y v u Q I rx ry ⟨d1_non dy, k _ H F (Pur.refl fh) (d_bl _)⟩
theorem opd_isnot : OpD X (compareOp .IsNot) isNotD := by
  intro pins s σ H x y v u Q I rx ry ⟨pa, F, d, e, r, fh, dx, dy, eg, k⟩
  unfold isNotD at eg
  cases hr : isD d e with
  | none => rw [hr] at eg; cases eg
  | some q =>
    rw [hr] at eg
    rcases isD_shape hr with ⟨a, b, rfl, rfl⟩ | rfl
    · simp only [isD] at hr
      have z := Option.some.inj hr
      subst z
      have z := Option.some.inj eg
      subst z
      exact op_notBl pins s σ H x y v u Q I rx ry ⟨a, b, d1_bl dx, d1_bl dy, k _ H F (Pur.refl fh) (d_bl _)⟩
    · have z := isD_non dx hr
      subst z
      have z := Option.some.inj eg
      subst z
      exact op_notN pins s σ H x y v u Q I rx ry ⟨d1_non dy, k _ H F (Pur.refl fh) (d_bl _)⟩
/-- one of a list or a tuple -/
def memD (d : D) (l : List D) : Bool := l.any fun z => eqvD z d
def inD : D → D → Option D
  | d, .lst l => if (shp d && shp (.lst l)) = true then some (.bl (memD d l)) else none
  | d, .tup l => if (shp d && shp (.tup l)) = true then some (.bl (memD d l)) else none
  | .int i, .rng lo hi => some (.bl (decide (lo ≤ i ∧ i < hi)))
  | _, _ => none
def notInD : D → D → Option D := fun d e => match e with
  | .rng _ _ => none
  | e => notR (inD d e)
theorem any_toPL (f : PyData → Bool) : ∀ l : List D, (toPL l).any f = l.any fun z => f (toP z)
  | [] => by simp only [toPL, List.any_nil]
  | d :: l => by simp only [toPL, List.any_cons, any_toPL f l]
theorem in_tupD {pins : List (Addr × Obj)} {s : Shared} {σ : L2.St} {H : Hp} {x : V} {v u : Value} {y : V} {d : PyData} {ds : List PyData} {Q : Value → Shared → Prop} (hu : X.A.units + 64 + 64 < cLine) (I : Inv X pins σ H s) (rx : RelV x v) (ry : RelV y u)
    (hd : Dp X.K H x d) (he : Dp X.K H y (.tuple ds)) (sd : SeqAt.shaped d = true) (se : SeqAt.shaped (.tuple ds) = true) :
    (Q (.bool (ds.any fun z => PyData.eqv z d)) s → wpAny (model X.prog X.w) X.A (compareOp .In v u) Q X.xe s) ∧
    (Q (.bool (!ds.any fun z => PyData.eqv z d)) s → wpAny (model X.prog X.w) X.A (compareOp .NotIn v u) Q X.xe s) := by
  obtain ⟨as, r1⟩ := Dp.reads I d x v hd rx
  obtain ⟨bs, r2⟩ := Dp.reads I (.tuple ds) y u he ry
  have hroom : X.A.units + 1 + min (PyData.depthAll ds) d.depth < cLine := by
    have h1 := SeqAt.depth_of_shaped sd
    have h2 := Nat.min_le_right (PyData.depthAll ds) d.depth
    omega
  exact ⟨fun q => SeqAt.in_tuple_reads r2 r1 (SeqAt.canLay_of_shaped se) (SeqAt.canLay_of_shaped sd) hroom q, fun q => SeqAt.notIn_tuple_reads r2 r1 (SeqAt.canLay_of_shaped se) (SeqAt.canLay_of_shaped sd) hroom q⟩
theorem inD_shape {d e r : D} (h : inD d e = some r) : (∃ l, e = .lst l) ∨ (∃ l, e = .tup l) ∨ ∃ i lo hi, d = .int i ∧ e = .rng lo hi := by
  cases e with
  | lst l => exact .inl ⟨l, rfl⟩
  | tup l => exact .inr (.inl ⟨l, rfl⟩)
  | rng lo hi =>
    cases d with
    | int i => exact .inr (.inr ⟨i, lo, hi, rfl, rfl⟩)
    | _ => simp [inD] at h
  | _ => cases d <;> simp [inD] at h
theorem opd_in (hu : X.A.units + 64 + 64 < cLine) : OpD X (compareOp .In) inD := by
  intro pins s σ H x y v u Q I rx ry ⟨pa, F, d, e, r, fh, dx, dy, eg, k⟩
  rcases inD_shape eg with ⟨l, rfl⟩ | ⟨l, rfl⟩ | ⟨i, lo, hi, rfl, rfl⟩
  · simp only [inD] at eg
    by_cases hz : (shp d && shp (.lst l)) = true
    · rw [if_pos hz] at eg
      have z := Option.some.inj eg
      subst z
      simp only [Bool.and_eq_true, shp] at hz
      obtain ⟨⟨p1, s1⟩, p2, s2⟩ := hz
      have dy2 := den1_dp fh (Hx.sub _ _) p2 dy
      simp only [toP] at dy2 s2
      refine op_inD (by omega) pins s σ H x y v u Q I rx ry ⟨toP d, toPL l, den1_dp fh (Hx.sub _ _) p1 dx, dy2, s1, s2, ?_⟩
      rw [any_toPL]
      exact k _ H F (Pur.refl fh) (d_bl _)
    · rw [if_neg hz] at eg
      cases eg
  · simp only [inD] at eg
    by_cases hz : (shp d && shp (.tup l)) = true
    · rw [if_pos hz] at eg
      have z := Option.some.inj eg
      subst z
      simp only [Bool.and_eq_true, shp] at hz
      obtain ⟨⟨p1, s1⟩, p2, s2⟩ := hz
      have dy2 := den1_dp fh (Hx.sub _ _) p2 dy
      simp only [toP] at dy2 s2
      refine (in_tupD hu I rx ry (den1_dp fh (Hx.sub _ _) p1 dx) dy2 s1 s2).1 ?_
      rw [any_toPL]
      exact ⟨.bl _, H, I, rfl, k _ H F (Pur.refl fh) (d_bl _)⟩
    · rw [if_neg hz] at eg
      cases eg
  · simp only [inD] at eg
    have z := Option.some.inj eg
    subst z
    have hy : ∃ a, y = .ref a ∧ F a = some (.rng lo hi) := by simpa only [Den1, Den] using dy
    obtain ⟨a, rfl, ha⟩ := hy
    exact op_in_rng pins s σ H x _ v u Q I rx ry ⟨i, a, lo, hi, d1_int dx, rfl, fh _ _ ha, k _ H F (Pur.refl fh) (d_bl _)⟩
theorem opd_notin (hu : X.A.units + 64 + 64 < cLine) : OpD X (compareOp .NotIn) notInD := by
  intro pins s σ H x y v u Q I rx ry ⟨pa, F, d, e, r, fh, dx, dy, eg, k⟩
  have eg2 : notR (inD d e) = some r ∧ ∀ lo hi, e ≠ .rng lo hi := by
    unfold notInD at eg
    split at eg
    · cases eg
    · rename_i hn
      exact ⟨eg, fun lo hi z => hn lo hi z⟩
  obtain ⟨eg, hn⟩ := eg2
  cases hr : inD d e with
  | none => rw [hr] at eg; cases eg
  | some q =>
    rw [hr] at eg
    rcases inD_shape hr with ⟨l, rfl⟩ | ⟨l, rfl⟩ | ⟨i, lo, hi, rfl, rfl⟩
    · simp only [inD] at hr
      by_cases hz : (shp d && shp (.lst l)) = true
      · rw [if_pos hz] at hr
        have z := Option.some.inj hr
        subst z
        have z := Option.some.inj eg
        subst z
        simp only [Bool.and_eq_true, shp] at hz
        obtain ⟨⟨p1, s1⟩, p2, s2⟩ := hz
        have dy2 := den1_dp fh (Hx.sub _ _) p2 dy
        simp only [toP] at dy2 s2
        refine op_notInD (by omega) pins s σ H x y v u Q I rx ry ⟨toP d, toPL l, den1_dp fh (Hx.sub _ _) p1 dx, dy2, s1, s2, ?_⟩
        rw [any_toPL]
        exact k _ H F (Pur.refl fh) (d_bl _)
      · rw [if_neg hz] at hr
        cases hr
    · simp only [inD] at hr
      by_cases hz : (shp d && shp (.tup l)) = true
      · rw [if_pos hz] at hr
        have z := Option.some.inj hr
        subst z
        have z := Option.some.inj eg
        subst z
        simp only [Bool.and_eq_true, shp] at hz
        obtain ⟨⟨p1, s1⟩, p2, s2⟩ := hz
        have dy2 := den1_dp fh (Hx.sub _ _) p2 dy
        simp only [toP] at dy2 s2
        refine (in_tupD hu I rx ry (den1_dp fh (Hx.sub _ _) p1 dx) dy2 s1 s2).2 ?_
        rw [any_toPL]
        exact ⟨.bl _, H, I, rfl, k _ H F (Pur.refl fh) (d_bl _)⟩
      · rw [if_neg hz] at hr
        cases hr
    · exact absurd rfl (hn lo hi)
end
end Dx

set_option Elab.async false
set_option linter.all false
set_option maxRecDepth 100000
set_option maxHeartbeats 4000000
/-! places, slices, built-in calls on data -/
namespace Dx
open PySem PySem.Spec PyProof.Rows L2
open Evl (Ex)

section
variable {K : PySem.W.Frag} {pa : Option Addr} {F F' G H : Hp}
theorem DenL.atI {l : List D} {xs : List V} {i : Int} {d : D} (h : DenL K pa F l xs) (e : L2.atI l i = some d) : ∃ v, L2.atI xs i = some v ∧ Den K pa F d v := by
  obtain ⟨j, e1, e2, e3, e4, e5⟩ := atI_get e
  obtain ⟨v, h1, h2⟩ := h.get e2
  refine ⟨v, ?_, h2⟩
  have hl := h.length
  unfold L2.atI at e ⊢
  rw [hl]
  cases q : ixN l.length i with
  | none => rw [q] at e; cases e
  | some m =>
    rw [q] at e
    obtain ⟨q1, _⟩ := ixN_seq q
    rw [e1] at q1
    have z := Option.some.inj q1
    subst z
    exact h1
def cutD {α : Type} (xs : List α) (lo hi : Option Int) : List α := (xs.drop (HT.sIx xs.length 0 lo)).take (HT.sIx xs.length xs.length hi - HT.sIx xs.length 0 lo)
theorem DenL.cut {l : List D} {xs : List V} (lo hi : Option Int) (h : DenL K pa F l xs) : DenL K pa F (cutD l lo hi) (cutV xs lo hi) := by
  unfold cutD cutV
  rw [h.length]
  exact DenL.take _ (DenL.drop _ h)
end

/-! ### t[i] -/
def ixD : D → D → Option D
  | .tup l, .int i => L2.atI l i
  | .lst l, .int i => L2.atI l i
  | .scr ns, .int i => (L2.atI ns i).map .int
  | _, _ => none
theorem atI_map {α β : Type} (f : α → β) (xs : List α) (i : Int) : L2.atI (xs.map f) i = (L2.atI xs i).map f := by
  unfold L2.atI
  rw [List.length_map]
  cases ixN xs.length i with
  | none => rfl
  | some j => simp
section
variable {X : Cx} {N : List Str} {sc : Scope} {a b c e : Expr} {es : List Expr} {pos : Pos} {fa fb fc : Gam → M D} {fs : Gam → M (List D)}
def rIxD (K : PySem.W.Frag) : R2 := fun x y H Q => ∃ (pa : Option Addr) (F : Hp) (d e r : D), Ex F H ∧ Den1 K pa F (Hx pa H) d x ∧ Den1 K pa F (Hx pa H) e y ∧ ixD d e = some r ∧
    ∀ v H' F', Pur H F H' F' → Den K pa F' r v → Q v H'
theorem ix_d : IxR X (rIxD X.K) := by
  intro value slice pins s σ H x y v u Q I rx ry ⟨pa, F, d, e, r, fh, dx, dy, eg, k⟩ hs
  unfold ixD at eg
  split at eg
  · rename_i l i
    obtain ⟨p, xs, rfl, hp, hl⟩ := d1_tup dx
    obtain ⟨z, e1, e2⟩ := hl.atI eg
    exact ix_tup value slice pins s σ H _ y v u Q I rx ry ⟨p, xs, i, z, rfl, d1_int dy, SqT.of (fh _ _ hp), e1, k _ H F (Pur.refl fh) e2⟩ hs
  · rename_i l i
    obtain ⟨p, xs, rfl, hp, hl⟩ := d1_lst dx
    obtain ⟨z, e1, e2⟩ := hl.atI eg
    exact ix_list value slice pins s σ H _ y v u Q I rx ry ⟨p, xs, i, z, rfl, d1_int dy, SqL.of (Hx.sub _ _ _ _ hp), e1, k _ H F (Pur.refl fh) e2⟩ hs
  · rename_i ns i
    have hx : ∃ a, x = .ref a ∧ SqL X.K F a (ns.map V.int) := by simpa only [Den1, Den] using dx
    obtain ⟨p, rfl, hp⟩ := hx
    cases q : L2.atI ns i with
    | none => rw [q] at eg; cases eg
    | some n =>
      rw [q] at eg
      have z := Option.some.inj eg
      subst z
      exact ix_list value slice pins s σ H _ y v u Q I rx ry ⟨p, ns.map V.int, i, .int n, rfl, d1_int dy, Evl.ex_l fh hp, by rw [atI_map, q]; rfl, k _ H F (Pur.refl fh) (d_int _)⟩ hs
  · cases eg
theorem de_ix (ha : DP X a fa) (hb : DP X b fb) (hs : PlainIx b) : DE X (.Subscript a b pos) (op2 ixD fa fb) :=
  pe_imp (pe_ix ix_d ha hb hs) fun σ H Q ⟨pa, F, Γ, p, d, p', r, ev, k⟩ => two r ev fun x y p2 v u H' F' e g q d1 d2 => by
    obtain ⟨e1, e2⟩ := lift_some e
    have e2' : p' = p2 := e2
    subst e2'
    exact ⟨pa, F', x, y, _, g.fh, d1, d2, e1, fun z H2 F2 pu dn => k z H2 F2 (g.trans pu.grow) (q.pur pu) dn⟩

/-! ### t[a:b] -/
def sliceD : D → Option Int → Option Int → Option D
  | .tup l, lo, hi => some (.tup (cutD l lo hi))
  | .lst l, lo, hi => some (.lst (cutD l lo hi))
  | .scr ns, lo, hi => some (.lst ((cutD ns lo hi).map .int))
  | _, _, _ => none
theorem cut_whole {α : Type} (xs : List α) (lo hi : Option Int) (h : HT.sIx xs.length 0 lo = 0 ∧ HT.sIx xs.length xs.length hi = xs.length) : cutD xs lo hi = xs := by
  unfold cutD
  rw [h.1, h.2, List.drop_zero, Nat.sub_zero, List.take_length]
theorem cut_map (ns : List Int) (lo hi : Option Int) : cutV (ns.map V.int) lo hi = ((cutD ns lo hi).map V.int) := by
  unfold cutV cutD
  rw [List.length_map, List.map_take, List.map_drop]
def rSlD (K : PySem.W.Frag) : V → Option Int → Option Int → Hp → VK → Prop := fun x lo hi H Q => ∃ (pa : Option Addr) (F : Hp) (d r : D), Ex F H ∧ Den1 K pa F (Hx pa H) d x ∧ sliceD d lo hi = some r ∧
    ∀ v H' F', Pur H F H' F' → Den K pa F' r v → Q v H'
theorem sl_d : SlR X (rSlD X.K) := by
  intro pins s σ H x v vl vu lo hi sl Q I rx hs pl pu ⟨pa, F, d, r, fh, dx, eg, k⟩
  cases d with
  | tup l =>
    simp only [sliceD] at eg
    have z := Option.some.inj eg
    subst z
    obtain ⟨p, xs, rfl, hp, hl⟩ := d1_tup dx
    refine sl_tupA pins s σ H _ v vl vu _ _ sl Q I rx hs pl pu ⟨p, xs, rfl, SqT.of (fh _ _ hp), fun hw => ?_, fun hw t ht => ?_⟩
    · have hw' := hw
      rw [hl.length] at hw'
      rw [cut_whole l _ _ hw'] at k
      exact k _ H F (Pur.refl fh) (d_tup hp hl)
    · have pu := Pur.put (o := .tup (cutV xs lo hi)) fh ht
      exact k _ _ _ pu (d_tup upd_same (DenL.cut _ _ (DenL.mono pu.ff _ _ hl)))
  | lst l =>
    simp only [sliceD] at eg
    have z := Option.some.inj eg
    subst z
    obtain ⟨p, xs, rfl, hp, hl⟩ := d1_lst dx
    refine sl_list pins s σ H _ v vl vu _ _ sl Q I rx hs pl pu ⟨p, xs, rfl, SqL.of (Hx.sub _ _ _ _ hp), fun t ht => ?_⟩
    have pu := Pur.put (o := .lst (cutV xs lo hi)) fh ht
    exact k _ _ _ pu (d_lst upd_same (DenL.cut _ _ (DenL.mono pu.ff _ _ hl)))
  | scr ns =>
    simp only [sliceD] at eg
    have z := Option.some.inj eg
    subst z
    have hx : ∃ a, x = .ref a ∧ SqL X.K F a (ns.map V.int) := by simpa only [Den1, Den] using dx
    obtain ⟨p, rfl, hp⟩ := hx
    refine sl_list pins s σ H _ v vl vu _ _ sl Q I rx hs pl pu ⟨p, _, rfl, Evl.ex_l fh hp, fun t ht => ?_⟩
    have pu := Pur.put (o := .lst (cutV (ns.map V.int) lo hi)) fh ht
    refine k _ _ _ pu (d_lst upd_same ?_)
    rw [cut_map]
    exact DenL.of_ints
  | _ => simp [sliceD] at eg
/-- a slice's bound -/
def tBd (K : PySem.W.Frag) (f : Gam → M (Option Int)) : TO := fun σ H Q => ∃ (pa : Option Addr) (F : Hp) (Γ : Gam) (p : Pt) (o : Option Int) (p' : Pt), Rel K pa σ H F Γ p ∧ f Γ p = some (o, p') ∧
  ∀ H' F', Grow pa H F H' F' → PotAt pa H' F' p' → Q o H'
abbrev DO (X : Cx) (e : Option Expr) (f : Gam → M (Option Int)) : Prop := PO X e (tBd X.K f)
theorem po_imp {e : Option Expr} {t t' : TO} (h : PO X e t) (q : ∀ σ H Q, t' σ H Q → t σ H Q) : PO X e t' := ⟨fun pins s σ H Q I w => h.run pins s σ H Q I (q σ H Q w)⟩
def noBd : Gam → M (Option Int) := fun _ => ret none
def asI : D → Option Int
  | .int i => some i
  | _ => none
def someBd (f : Gam → M D) : Gam → M (Option Int) := fun Γ => bnd (f Γ) fun d => bnd (lift (asI d)) fun i => ret (some i)
theorem asI_den {K : PySem.W.Frag} {pa : Option Addr} {F : Hp} {d : D} {b : Int} {v : V} (h : asI d = some b) (dn : Den K pa F d v) : v = .int b := by
  cases d with
  | int c =>
    have e := Option.some.inj h
    subst e
    simpa only [Den] using dn
  | _ => cases h
theorem do_none : DO X none noBd := po_imp po_none fun σ H Q ⟨pa, F, Γ, p, o, p', r, ev, k⟩ => by
  have z := ret_some ev
  injection z with z1 z2
  subst z1; subst z2
  exact k H F r.refl r.pot
theorem do_some (h : DE X e fa) : DO X (some e) (someBd fa) := po_imp (po_some h) fun σ H Q ⟨pa, F, Γ, p, o, p', r, ev, k⟩ => by
  obtain ⟨x, p1, e1, ev1⟩ := bnd_some ev
  obtain ⟨c, p2, e2, ev2⟩ := bnd_some ev1
  obtain ⟨e3, e4⟩ := lift_some e2
  have e4' : p2 = p1 := e4
  have z := ret_some ev2
  injection z with z1 z2
  subst z1
  have z3 : p' = p1 := z2.trans e4'
  subst z3
  exact ⟨pa, F, Γ, p, x, p', r, e1, fun v H' F' g q dn => ⟨c, asI_den e3 dn, k H' F' g q⟩⟩
def sliceM (fa : Gam → M D) (fl fh : Gam → M (Option Int)) : Gam → M D := fun Γ => bnd (fa Γ) fun x => bnd (fl Γ) fun lo => bnd (fh Γ) fun hi => lift (sliceD x lo hi)
theorem de_slice {lo hi : Option Expr} {p2 : Pos} {fl fh : Gam → M (Option Int)} (he : DP X e fa) (hl : DO X lo fl) (hu : DO X hi fh) : DE X (.Subscript e (.Slice lo hi none p2) pos) (sliceM fa fl fh) :=
  pe_imp (pe_slice sl_d he hl hu) fun σ H Q ⟨pa, F, Γ, p, d, p', r, ev, k⟩ => by
    obtain ⟨x, p1, e1, ev1⟩ := bnd_some ev
    obtain ⟨l, p2, e2, ev2⟩ := bnd_some ev1
    obtain ⟨u, p3, e3, ev3⟩ := bnd_some ev2
    obtain ⟨e4, e5⟩ := lift_some ev3
    have e5' : p' = p3 := e5
    subst e5'
    refine ⟨pa, F, Γ, p, x, p1, r, e1, fun v H1 F1 g1 q1 d1 => ?_⟩
    have r1 := r.grow g1 q1
    refine ⟨pa, F1, Γ, p1, l, p2, r1, e2, fun H2 F2 g2 q2 => ?_⟩
    have r2 := r1.grow g2 q2
    refine ⟨pa, F2, Γ, p2, u, p', r2, e3, fun H3 F3 g3 q3 => ?_⟩
    have g := (g1.trans g2).trans g3
    exact ⟨pa, F3, x, d, g3.fh, Den1.mono (g2.trans g3).ff (g2.trans g3).hx d1, e4, fun z H4 F4 pu dn => k z H4 F4 (g.trans pu.grow) (q3.pur pu) dn⟩

/-! ### built-in calls -/
def CallD (X : Cx) (f : Value) (g : List D → Option D) : Prop :=
  CallR X f fun vs H Q => ∃ (pa : Option Addr) (F : Hp) (ds : List D) (r : D), Ex F H ∧ Den1L X.K pa F (Hx pa H) ds vs ∧ g ds = some r ∧ ∀ v H' F', Pur H F H' F' → Den X.K pa F' r v → Q v H'
def CallN (X : Cx) (f : Value) (g : List D → Option (List D)) : Prop :=
  CallR X f fun vs H Q => ∃ (pa : Option Addr) (F : Hp) (ds : List D) (r : List D), Ex F H ∧ Den1L X.K pa F (Hx pa H) ds vs ∧ g ds = some r ∧ ∀ a xs H' F', Pur H F H' F' → H a = none → F' a = none → H' a = some (.lst xs) → DenL X.K pa F' r xs → Q (.ref a) H'
def biM {α : Type} (g : List D → Option α) (fs : Gam → M (List D)) : Gam → M α := fun Γ => bnd (fs Γ) fun ds => lift (g ds)
theorem bi_use {g : List D → Option D} {σ : L2.St} {H : Hp} {Q : VK} (h : tEv X.K (biM g fs) σ H Q) :
    tAk X.K fs σ H fun vs H => ∃ (pa : Option Addr) (F : Hp) (ds : List D) (r : D), Ex F H ∧ Den1L X.K pa F (Hx pa H) ds vs ∧ g ds = some r ∧ ∀ v H' F', Pur H F H' F' → Den X.K pa F' r v → Q v H' := by
  obtain ⟨pa, F, Γ, p, d, p', r, ev, k⟩ := h
  obtain ⟨x, p1, e1, ev1⟩ := bnd_some ev
  obtain ⟨e4, e5⟩ := lift_some ev1
  have e5' : p' = p1 := e5
  subst e5'
  exact ⟨pa, F, Γ, p, x, p', r, e1, fun vs H1 F1 g1 q1 d1 => ⟨pa, F1, x, d, g1.fh, d1, e4, fun v H2 F2 pu dn => k v H2 F2 (g1.trans pu.grow) (q1.pur pu) dn⟩⟩
theorem bn_use {g : List D → Option (List D)} {σ : L2.St} {H : Hp} {Q : VK} (h : tNw X.K (biM g fs) σ H Q) :
    tAk X.K fs σ H fun vs H => ∃ (pa : Option Addr) (F : Hp) (ds : List D) (r : List D), Ex F H ∧ Den1L X.K pa F (Hx pa H) ds vs ∧ g ds = some r ∧ ∀ a xs H' F', Pur H F H' F' → H a = none → F' a = none → H' a = some (.lst xs) → DenL X.K pa F' r xs → Q (.ref a) H' := by
  obtain ⟨pa, F, Γ, p, d, p', r, ev, k⟩ := h
  obtain ⟨x, p1, e1, ev1⟩ := bnd_some ev
  obtain ⟨e4, e5⟩ := lift_some ev1
  have e5' : p' = p1 := e5
  subst e5'
  refine ⟨pa, F, Γ, p, x, p', r, e1, fun vs H1 F1 g1 q1 d1 => ⟨pa, F1, x, d, g1.fh, d1, e4, fun a xs H2 F2 pu n1 n2 e dn => k a xs H2 F2 (g1.trans pu.grow) (q1.pur pu) ?_ n2 e dn⟩⟩
  cases z : H a with
  | none => rfl
  | some o => exact absurd n1 (g1.there a (by rw [z]; exact fun y => nomatch y))
theorem de_bi {id : String} {x : Str} {p : Pos} {g : List D → Option D} (gd : Gd X N sc) (hc : CallD X (.builtin id) g) (hg : sc.names.lookup x = some .globalImplicit) (hm : X.mg x = none) (hv : bootBuiltins x = some (.builtin id)) (ha : DAk X (e :: es) fs)
    (hn : x ≠ "__name__" := by decide) (hdb : (x == ("__debug__" : Str)) = false := by decide) (he : starEach (e :: es) X.env = (false, eval e X.env) :: starEach es X.env := by rfl) (hpl : (backTo pos (starEach es X.env)).any (·.1) = false := by rfl) :
    DE X (.Call (.Name x p) (e :: es) [] pos) (biM g fs) := pe_imp (pe_callB hc (gl_of gd hg) hm hv ha hn hdb he hpl) fun σ H Q h => bi_use h
theorem de_ty {T : String} {x : Str} {p : Pos} {g : List D → Option D} (gd : Gd X N sc) (hc : CallD X (.type T) g) (hg : sc.names.lookup x = some .globalImplicit) (hm : X.mg x = none) (hv : bootBuiltins x = some (.type T)) (ha : DAk X (e :: es) fs)
    (hn : x ≠ "__name__" := by decide) (hdb : (x == ("__debug__" : Str)) = false := by decide) (he : starEach (e :: es) X.env = (false, eval e X.env) :: starEach es X.env := by rfl) (hpl : (backTo pos (starEach es X.env)).any (·.1) = false := by rfl) :
    DE X (.Call (.Name x p) (e :: es) [] pos) (biM g fs) := pe_imp (pe_callTy hc (gl_of gd hg) hm hv ha hn hdb he hpl) fun σ H Q h => bi_use h
theorem dn_bi {id : String} {x : Str} {p : Pos} {g : List D → Option (List D)} (gd : Gd X N sc) (hc : CallN X (.builtin id) g) (hg : sc.names.lookup x = some .globalImplicit) (hm : X.mg x = none) (hv : bootBuiltins x = some (.builtin id)) (ha : DAk X (e :: es) fs)
    (hn : x ≠ "__name__" := by decide) (hdb : (x == ("__debug__" : Str)) = false := by decide) (he : starEach (e :: es) X.env = (false, eval e X.env) :: starEach es X.env := by rfl) (hpl : (backTo pos (starEach es X.env)).any (·.1) = false := by rfl) :
    DN X (.Call (.Name x p) (e :: es) [] pos) (biM g fs) := pe_imp (pe_callB hc (gl_of gd hg) hm hv ha hn hdb he hpl) fun σ H Q h => bn_use h
theorem dn_ty {T : String} {x : Str} {p : Pos} {g : List D → Option (List D)} (gd : Gd X N sc) (hc : CallN X (.type T) g) (hg : sc.names.lookup x = some .globalImplicit) (hm : X.mg x = none) (hv : bootBuiltins x = some (.type T)) (ha : DAk X (e :: es) fs)
    (hn : x ≠ "__name__" := by decide) (hdb : (x == ("__debug__" : Str)) = false := by decide) (he : starEach (e :: es) X.env = (false, eval e X.env) :: starEach es X.env := by rfl) (hpl : (backTo pos (starEach es X.env)).any (·.1) = false := by rfl) :
    DN X (.Call (.Name x p) (e :: es) [] pos) (biM g fs) := pe_imp (pe_callTy hc (gl_of gd hg) hm hv ha hn hdb he hpl) fun σ H Q h => bn_use h

theorem dl1 {K : PySem.W.Frag} {pa : Option Addr} {F G : Hp} {d : D} {vs : List V} (h : Den1L K pa F G [d] vs) : ∃ v, vs = [v] ∧ Den1 K pa F G d v := by
  obtain ⟨v, r, h1, h2, h3⟩ := h
  have h3' : r = [] := h3
  subst h3'
  exact ⟨v, h1, h2⟩
theorem dl2 {K : PySem.W.Frag} {pa : Option Addr} {F G : Hp} {d e : D} {vs : List V} (h : Den1L K pa F G [d, e] vs) : ∃ v u, vs = [v, u] ∧ Den1 K pa F G d v ∧ Den1 K pa F G e u := by
  obtain ⟨v, r, h1, h2, h3⟩ := h
  obtain ⟨u, e1, e2⟩ := dl1 h3
  subst e1
  exact ⟨v, u, h1, h2, e2⟩

def absG : List D → Option D
  | [.int i] => some (.int (if i < 0 then -i else i))
  | _ => none
theorem cd_abs : CallD X (.builtin "abs") absG := by
  intro pins s σ H vs us Q I r ⟨pa, F, ds, d, fh, dl, eg, k⟩
  unfold absG at eg
  split at eg
  · rename_i i
    have z := Option.some.inj eg
    subst z
    obtain ⟨v, rfl, dv⟩ := dl1 dl
    exact call_abs pins s σ H _ us Q I r ⟨i, by rw [d1_int dv], k _ H F (Pur.refl fh) (d_int _)⟩
  · cases eg
/-- the ints of data -/
def intsOf : List D → Option (List Int)
  | [] => some []
  | .int i :: l => (intsOf l).map fun r => i :: r
  | _ => none
theorem intsOf_map : ∀ {l : List D} {ns : List Int}, intsOf l = some ns → l = ns.map D.int
  | [], ns, h => by
    have e := Option.some.inj h
    subst e
    rfl
  | .int i :: l, ns, h => by
    simp only [intsOf] at h
    cases q : intsOf l with
    | none => rw [q] at h; cases h
    | some r =>
      rw [q] at h
      have e := Option.some.inj h
      subst e
      rw [intsOf_map q]
      rfl
  | .non :: _, _, h => by simp [intsOf] at h
  | .bl _ :: _, _, h => by simp [intsOf] at h
  | .str _ :: _, _, h => by simp [intsOf] at h
  | .tup _ :: _, _, h => by simp [intsOf] at h
  | .lst _ :: _, _, h => by simp [intsOf] at h
  | .rng _ _ :: _, _, h => by simp [intsOf] at h
  | .dct _ _ :: _, _, h => by simp [intsOf] at h
  | .pot :: _, _, h => by simp [intsOf] at h
  | .scr _ :: _, _, h => by simp [intsOf] at h
theorem intsOf_ints (ns : List Int) : intsOf (ns.map D.int) = some ns := by
  induction ns with
  | nil => rfl
  | cons n ns ih => simp only [List.map_cons, intsOf, ih, Option.map_some]
def bls : List D → Option (List Bool)
  | [] => some []
  | .bl i :: l => (bls l).map fun r => i :: r
  | _ => none
theorem bls_map : ∀ {l : List D} {ns : List Bool}, bls l = some ns → l = ns.map D.bl
  | [], ns, h => by
    have e := Option.some.inj h
    subst e
    rfl
  | .bl i :: l, ns, h => by
    simp only [bls] at h
    cases q : bls l with
    | none => rw [q] at h; cases h
    | some r =>
      rw [q] at h
      have e := Option.some.inj h
      subst e
      rw [bls_map q]
      rfl
  | .non :: _, _, h => by simp [bls] at h
  | .int _ :: _, _, h => by simp [bls] at h
  | .str _ :: _, _, h => by simp [bls] at h
  | .tup _ :: _, _, h => by simp [bls] at h
  | .lst _ :: _, _, h => by simp [bls] at h
  | .rng _ _ :: _, _, h => by simp [bls] at h
  | .dct _ _ :: _, _, h => by simp [bls] at h
  | .pot :: _, _, h => by simp [bls] at h
  | .scr _ :: _, _, h => by simp [bls] at h
theorem bls_bls (ns : List Bool) : bls (ns.map D.bl) = some ns := by
  induction ns with
  | nil => rfl
  | cons n ns ih => simp only [List.map_cons, bls, ih, Option.map_some]
/-- the greatest, the least (0 of none) -/
def maxI : List Int → Int
  | [] => 0
  | x :: l => l.foldl (fun a b => if a < b then b else a) x
def minI : List Int → Int
  | [] => 0
  | x :: l => l.foldl (fun a b => if b < a then b else a) x
theorem foldmax (l : List Int) : ∀ x : Int, (x ≤ l.foldl (fun a b => if a < b then b else a) x) ∧ (∀ y ∈ l, y ≤ l.foldl (fun a b => if a < b then b else a) x) ∧ (l.foldl (fun a b => if a < b then b else a) x = x ∨ l.foldl (fun a b => if a < b then b else a) x ∈ l) := by
  induction l with
  | nil =>
    intro x
    refine ⟨Int.le_refl _, fun y h => ?_, Or.inl rfl⟩
    cases h
  | cons z l ih =>
    intro x
    simp only [List.foldl_cons]
    obtain ⟨h1, h2, h3⟩ := ih (if x < z then z else x)
    refine ⟨?_, fun y hy => ?_, ?_⟩
    · by_cases q : x < z
      · rw [if_pos q] at h1 ⊢; omega
      · rw [if_neg q] at h1 ⊢; exact h1
    · rcases List.mem_cons.mp hy with e | hy
      · subst e
        by_cases q : x < y
        · rw [if_pos q] at h1 ⊢; exact h1
        · rw [if_neg q] at h1 ⊢; omega
      · exact h2 y hy
    · rcases h3 with h3 | h3
      · by_cases q : x < z
        · rw [if_pos q] at h3 ⊢
          exact .inr (by rw [h3]; exact List.mem_cons_self ..)
        · rw [if_neg q] at h3 ⊢
          exact .inl h3
      · exact .inr (List.mem_cons_of_mem _ h3)
theorem foldmin (l : List Int) : ∀ x : Int, (l.foldl (fun a b => if b < a then b else a) x ≤ x) ∧ (∀ y ∈ l, l.foldl (fun a b => if b < a then b else a) x ≤ y) ∧ (l.foldl (fun a b => if b < a then b else a) x = x ∨ l.foldl (fun a b => if b < a then b else a) x ∈ l) := by
  induction l with
  | nil =>
    intro x
    refine ⟨Int.le_refl _, fun y h => ?_, Or.inl rfl⟩
    cases h
  | cons z l ih =>
    intro x
    simp only [List.foldl_cons]
    obtain ⟨h1, h2, h3⟩ := ih (if z < x then z else x)
    refine ⟨?_, fun y hy => ?_, ?_⟩
    · by_cases q : z < x
      · rw [if_pos q] at h1 ⊢; omega
      · rw [if_neg q] at h1 ⊢; exact h1
    · rcases List.mem_cons.mp hy with e | hy
      · subst e
        by_cases q : y < x
        · rw [if_pos q] at h1 ⊢; exact h1
        · rw [if_neg q] at h1 ⊢; omega
      · exact h2 y hy
    · rcases h3 with h3 | h3
      · by_cases q : z < x
        · rw [if_pos q] at h3 ⊢
          exact .inr (by rw [h3]; exact List.mem_cons_self ..)
        · rw [if_neg q] at h3 ⊢
          exact .inl h3
      · exact .inr (List.mem_cons_of_mem _ h3)
theorem maxI_mem {l : List Int} (h : l ≠ []) : maxI l ∈ l := by
  cases l with
  | nil => exact absurd rfl h
  | cons x l =>
    rcases (foldmax l x).2.2 with e | e
    · show l.foldl (fun a b => if a < b then b else a) x ∈ x :: l
      rw [e]
      exact List.mem_cons_self ..
    · exact List.mem_cons_of_mem _ e
theorem maxI_le {l : List Int} {y : Int} (h : y ∈ l) : y ≤ maxI l := by
  cases l with
  | nil => cases h
  | cons x l =>
    rcases List.mem_cons.mp h with e | e
    · subst e; exact (foldmax l y).1
    · exact (foldmax l x).2.1 y e
theorem minI_mem {l : List Int} (h : l ≠ []) : minI l ∈ l := by
  cases l with
  | nil => exact absurd rfl h
  | cons x l =>
    rcases (foldmin l x).2.2 with e | e
    · show l.foldl (fun a b => if b < a then b else a) x ∈ x :: l
      rw [e]
      exact List.mem_cons_self ..
    · exact List.mem_cons_of_mem _ e
theorem minI_le {l : List Int} {y : Int} (h : y ∈ l) : minI l ≤ y := by
  cases l with
  | nil => cases h
  | cons x l =>
    rcases List.mem_cons.mp h with e | e
    · subst e; exact (foldmin l y).1
    · exact (foldmin l x).2.1 y e
theorem maxI_of {l : List Int} {m : Int} (h1 : m ∈ l) (h2 : ∀ y ∈ l, y ≤ m) : m = maxI l := by
  have a := maxI_le h1
  have b := h2 _ (maxI_mem (fun e => by rw [e] at h1; cases h1))
  omega
theorem minI_of {l : List Int} {m : Int} (h1 : m ∈ l) (h2 : ∀ y ∈ l, m ≤ y) : m = minI l := by
  have a := minI_le h1
  have b := h2 _ (minI_mem (fun e => by rw [e] at h1; cases h1))
  omega
def extG (f : List Int → Int) (g : Int → Int → Int) : List D → Option D
  | [.int i, .int j] => some (.int (g i j))
  | [.lst l] => match intsOf l with
    | some (n :: ns) => some (.int (f (n :: ns)))
    | _ => none
  | [.tup l] => match intsOf l with
    | some (n :: ns) => some (.int (f (n :: ns)))
    | _ => none
  | _ => none
abbrev maxG := extG maxI fun i j => if j > i then j else i
abbrev minG := extG minI fun i j => if j < i then j else i
theorem toks_ints {ns : List Int} : ∀ {us : List Value}, Vals (ns.map V.int) us → ∀ h : Heap, ∃ as, ReadsAll h us (ns.map PyData.int) as := by
  induction ns with
  | nil =>
    intro us r h
    cases r
    exact ⟨_, .nil⟩
  | cons n ns ih =>
    intro us r h
    cases r with
    | cons r rs =>
      obtain ⟨t, rfl⟩ := r
      obtain ⟨as, q⟩ := ih rs h
      exact ⟨_, .cons (.int n t) q⟩
theorem alike_ints (ns : List Int) : PySem.W.AlikeAll (ns.map PyData.int) := by
  refine ⟨fun x hx y hy => ?_, fun x hx => ?_⟩
  · obtain ⟨i, _, rfl⟩ := List.mem_map.mp hx
    obtain ⟨j, _, rfl⟩ := List.mem_map.mp hy
    simp [PySem.W.alike]
  · obtain ⟨i, _, rfl⟩ := List.mem_map.mp hx
    exact fun z => nomatch z
theorem dataLt_int (a b : Int) : PySem.W.dataLt (.int a) (.int b) = decide (a < b) := by
  simp [PySem.W.dataLt, PySem.W.keyToks, PyProof.Rows.lexLt, PyProof.Rows.itemOrd, PyProof.Rows.itemLt]
theorem maxD_ints (ns : List Int) : ∀ n : Int, PySem.W.maxD (.int n) (ns.map PyData.int) = .int (ns.foldl (fun a b => if a < b then b else a) n) := by
  induction ns with
  | nil => intro n; rfl
  | cons m ns ih =>
    intro n
    unfold PySem.W.maxD at ih ⊢
    simp only [List.map_cons, List.foldl_cons, dataLt_int, decide_eq_true_eq]
    by_cases h : n < m
    · rw [if_pos h, if_pos h]; exact ih m
    · rw [if_neg h, if_neg h]; exact ih n
theorem minD_ints (ns : List Int) : ∀ n : Int, PySem.W.minD (.int n) (ns.map PyData.int) = .int (ns.foldl (fun a b => if b < a then b else a) n) := by
  induction ns with
  | nil => intro n; rfl
  | cons m ns ih =>
    intro n
    unfold PySem.W.minD at ih ⊢
    simp only [List.map_cons, List.foldl_cons, dataLt_int, decide_eq_true_eq]
    by_cases h : m < n
    · rw [if_pos h, if_pos h]; exact ih m
    · rw [if_neg h, if_neg h]; exact ih n
theorem depth_ints (ns : List Int) : PyData.depthAll (ns.map PyData.int) = 0 := by
  induction ns with
  | nil => simp [PyData.depthAll]
  | cons n ns ih => simp [PyData.depthAll, PyData.depth, ih]
end
end Dx

set_option Elab.async false
set_option linter.all false
set_option maxRecDepth 100000
set_option maxHeartbeats 4000000
/-! built-in calls on data, further -/
namespace Dx
open PySem PySem.Spec PyProof.Rows L2
open Evl (Ex)
section
variable {X : Cx}
theorem atHeap {l : Addr} {t u : Nat} {hp : Heap} {s : Shared} (h : s.heap = hp) : hp = s.heap := h.symm
theorem read_int {h : Heap} {v : Value} {n : Int} {bs : List Addr} (r : Reads h v (.int n) bs) : ∃ t, v = .int n t := by
  cases r with
  | int i t => exact ⟨t, rfl⟩
theorem tupMax (hc : X.calm = true) (hu : X.A.units + 64 + 64 < cLine) {pins : List (Addr × Obj)} {s : Shared} {σ : L2.St} {H : Hp} {p : Addr} {n : Int} {ns : List Int} {Q : VK} (I : Inv X pins σ H s) (hp : H p = some (.tup ((n :: ns).map V.int)))
    (q : Q (.int (maxI (n :: ns))) H) : wpAny (model X.prog X.w) X.A (call (.builtin "max") [.ref p]) (EP X pins σ Q) X.xe s := by
  obtain ⟨its, rv, ht, hz⟩ := I.tuple (SqT.of hp)
  obtain ⟨as, hr⟩ := toks_ints rv s.heap
  refine PySem.W.max_tuple_data (x := .int n) (xs := ns.map PyData.int) (I.ok.hd hc) (show s.heap.IsTuple p its.toArray from ht) (by simpa using hr) (alike_ints (n :: ns)) ?_ fun i v h' tk bs hi hv hk => ?_
  · have e := depth_ints (n :: ns)
    have e' : PyData.depthAll (PyData.int n :: ns.map PyData.int) = 0 := e
    rw [e']
    omega
  · rw [maxD_ints] at hv
    obtain ⟨t, rfl⟩ := read_int hv
    exact ⟨.int _, H, I.kept (t' := tk) hk, ⟨t, rfl⟩, q⟩
theorem tupMin (hc : X.calm = true) (hu : X.A.units + 64 + 64 < cLine) {pins : List (Addr × Obj)} {s : Shared} {σ : L2.St} {H : Hp} {p : Addr} {n : Int} {ns : List Int} {Q : VK} (I : Inv X pins σ H s) (hp : H p = some (.tup ((n :: ns).map V.int)))
    (q : Q (.int (minI (n :: ns))) H) : wpAny (model X.prog X.w) X.A (call (.builtin "min") [.ref p]) (EP X pins σ Q) X.xe s := by
  obtain ⟨its, rv, ht, hz⟩ := I.tuple (SqT.of hp)
  obtain ⟨as, hr⟩ := toks_ints rv s.heap
  refine PySem.W.min_tuple_data (x := .int n) (xs := ns.map PyData.int) (I.ok.hd hc) (show s.heap.IsTuple p its.toArray from ht) (by simpa using hr) (alike_ints (n :: ns)) ?_ fun i v h' tk bs hi hv hk => ?_
  · have e := depth_ints (n :: ns)
    have e' : PyData.depthAll (PyData.int n :: ns.map PyData.int) = 0 := e
    rw [e']
    omega
  · rw [minD_ints] at hv
    obtain ⟨t, rfl⟩ := read_int hv
    exact ⟨.int _, H, I.kept (t' := tk) hk, ⟨t, rfl⟩, q⟩
theorem cd_max (hc : X.calm = true) (hu : X.A.units + 64 + 64 < cLine) : CallD X (.builtin "max") maxG := by
  intro pins s σ H vs us Q I r ⟨pa, F, ds, d, fh, dl, eg, k⟩
  unfold maxG extG at eg
  split at eg
  · rename_i i j
    have z := Option.some.inj eg
    subst z
    obtain ⟨v, u, rfl, dv, du⟩ := dl2 dl
    exact call_max2 hc pins s σ H _ us Q I r ⟨i, j, by rw [d1_int dv, d1_int du], k _ H F (Pur.refl fh) (d_int _)⟩
  · rename_i l
    split at eg
    · rename_i n ns hi
      have z := Option.some.inj eg
      subst z
      obtain ⟨v, rfl, dv⟩ := dl1 dl
      obtain ⟨p, xs, rfl, hp, hl⟩ := d1_lst dv
      rw [intsOf_map hi] at hl
      have ex := hl.ints
      subst ex
      exact cr_max hc pins s σ H _ us Q I r ⟨p, n :: ns, rfl, SqL.of (Hx.sub _ _ _ _ hp), by simp, fun m h1 h2 => by rw [maxI_of h1 h2]; exact k _ H F (Pur.refl fh) (d_int _)⟩
    · cases eg
  · rename_i l
    split at eg
    · rename_i n ns hi
      have z := Option.some.inj eg
      subst z
      obtain ⟨v, rfl, dv⟩ := dl1 dl
      obtain ⟨p, xs, rfl, hp, hl⟩ := d1_tup dv
      rw [intsOf_map hi] at hl
      have ex := hl.ints
      subst ex
      rw [Vals.ref1 r]
      exact tupMax hc hu I (fh _ _ hp) (k _ H F (Pur.refl fh) (d_int _))
    · cases eg
  · cases eg
theorem cd_min (hc : X.calm = true) (hu : X.A.units + 64 + 64 < cLine) : CallD X (.builtin "min") minG := by
  intro pins s σ H vs us Q I r ⟨pa, F, ds, d, fh, dl, eg, k⟩
  unfold minG extG at eg
  split at eg
  · rename_i i j
    have z := Option.some.inj eg
    subst z
    obtain ⟨v, u, rfl, dv, du⟩ := dl2 dl
    exact call_min2 hc pins s σ H _ us Q I r ⟨i, j, by rw [d1_int dv, d1_int du], k _ H F (Pur.refl fh) (d_int _)⟩
  · rename_i l
    split at eg
    · rename_i n ns hi
      have z := Option.some.inj eg
      subst z
      obtain ⟨v, rfl, dv⟩ := dl1 dl
      obtain ⟨p, xs, rfl, hp, hl⟩ := d1_lst dv
      rw [intsOf_map hi] at hl
      have ex := hl.ints
      subst ex
      exact cr_min hc pins s σ H _ us Q I r ⟨p, n :: ns, rfl, SqL.of (Hx.sub _ _ _ _ hp), by simp, fun m h1 h2 => by rw [minI_of h1 h2]; exact k _ H F (Pur.refl fh) (d_int _)⟩
    · cases eg
  · rename_i l
    split at eg
    · rename_i n ns hi
      have z := Option.some.inj eg
      subst z
      obtain ⟨v, rfl, dv⟩ := dl1 dl
      obtain ⟨p, xs, rfl, hp, hl⟩ := d1_tup dv
      rw [intsOf_map hi] at hl
      have ex := hl.ints
      subst ex
      rw [Vals.ref1 r]
      exact tupMin hc hu I (fh _ _ hp) (k _ H F (Pur.refl fh) (d_int _))
    · cases eg
  · cases eg
def intG : List D → Option D
  | [.int i] => some (.int i)
  | [.bl b] => some (.int (if b then 1 else 0))
  | _ => none
theorem cd_int : CallD X (.type "int") intG := by
  intro pins s σ H vs us Q I r ⟨pa, F, ds, d, fh, dl, eg, k⟩
  unfold intG at eg
  split at eg
  · rename_i i
    have z := Option.some.inj eg
    subst z
    obtain ⟨v, rfl, dv⟩ := dl1 dl
    exact call_int1 pins s σ H _ us Q I r (.inl ⟨i, by rw [d1_int dv], k _ H F (Pur.refl fh) (d_int _)⟩)
  · rename_i i
    have z := Option.some.inj eg
    subst z
    obtain ⟨v, rfl, dv⟩ := dl1 dl
    exact call_int1 pins s σ H _ us Q I r (.inr ⟨i, by rw [d1_bl dv], k _ H F (Pur.refl fh) (d_int _)⟩)
  · cases eg
def lenG : List D → Option D
  | [.lst l] => some (.int l.length)
  | [.tup l] => some (.int l.length)
  | [.scr l] => some (.int l.length)
  | _ => none
theorem cd_len : CallD X (.builtin "len") lenG := by
  intro pins s σ H vs us Q I r ⟨pa, F, ds, d, fh, dl, eg, k⟩
  unfold lenG at eg
  split at eg
  · rename_i l
    have z := Option.some.inj eg
    subst z
    obtain ⟨v, rfl, dv⟩ := dl1 dl
    obtain ⟨p, xs, rfl, hp, hl⟩ := d1_lst dv
    refine call_len_seq pins s σ H _ us Q I r ⟨p, xs, rfl, .inl (SqL.of (Hx.sub _ _ _ _ hp)), ?_⟩
    rw [hl.length]
    exact k _ H F (Pur.refl fh) (d_int _)
  · rename_i l
    have z := Option.some.inj eg
    subst z
    obtain ⟨v, rfl, dv⟩ := dl1 dl
    obtain ⟨p, xs, rfl, hp, hl⟩ := d1_tup dv
    refine call_len_seq pins s σ H _ us Q I r ⟨p, xs, rfl, .inr (SqT.of (fh _ _ hp)), ?_⟩
    rw [hl.length]
    exact k _ H F (Pur.refl fh) (d_int _)
  · rename_i l
    have z := Option.some.inj eg
    subst z
    obtain ⟨v, rfl, dv⟩ := dl1 dl
    have hx : ∃ a, v = .ref a ∧ SqL X.K F a (l.map V.int) := by simpa only [Den1, Den] using dv
    obtain ⟨p, rfl, hp⟩ := hx
    refine call_len_seq pins s σ H _ us Q I r ⟨p, _, rfl, .inl (Evl.ex_l fh hp), ?_⟩
    rw [List.length_map]
    exact k _ H F (Pur.refl fh) (d_int _)
  · cases eg
/-- list(..): a new list -/
def listG : List D → Option (List D)
  | [.lst l] => some l
  | [.tup l] => some l
  | [.scr l] => some (l.map .int)
  | _ => none
theorem cn_list : CallN X (.type "list") listG := by
  intro pins s σ H vs us Q I r ⟨pa, F, ds, d, fh, dl, eg, k⟩
  unfold listG at eg
  split at eg
  · rename_i l
    have z := Option.some.inj eg
    subst z
    obtain ⟨v, rfl, dv⟩ := dl1 dl
    obtain ⟨p, xs, rfl, hp, hl⟩ := d1_lst dv
    exact call_list_of pins s σ H _ us Q I r ⟨p, xs, rfl, .inl (SqL.of (Hx.sub _ _ _ _ hp)), fun t ht => k t xs _ F (Pur.lay fh ht) ht (fresh_F fh ht) upd_same hl⟩
  · rename_i l
    have z := Option.some.inj eg
    subst z
    obtain ⟨v, rfl, dv⟩ := dl1 dl
    obtain ⟨p, xs, rfl, hp, hl⟩ := d1_tup dv
    exact call_list_of pins s σ H _ us Q I r ⟨p, xs, rfl, .inr (SqT.of (fh _ _ hp)), fun t ht => k t xs _ F (Pur.lay fh ht) ht (fresh_F fh ht) upd_same hl⟩
  · rename_i l
    have z := Option.some.inj eg
    subst z
    obtain ⟨v, rfl, dv⟩ := dl1 dl
    have hx : ∃ a, v = .ref a ∧ SqL X.K F a (l.map V.int) := by simpa only [Den1, Den] using dv
    obtain ⟨p, rfl, hp⟩ := hx
    exact call_list_of pins s σ H _ us Q I r ⟨p, _, rfl, .inl (Evl.ex_l fh hp), fun t ht => k t _ _ F (Pur.lay fh ht) ht (fresh_F fh ht) upd_same DenL.of_ints⟩
  · cases eg
def tupG : List D → Option D
  | [.lst l] => some (.tup l)
  | [.tup l] => some (.tup l)
  | [.scr l] => some (.tup (l.map .int))
  | _ => none
theorem cd_tuple : CallD X (.type "tuple") tupG := by
  intro pins s σ H vs us Q I r ⟨pa, F, ds, d, fh, dl, eg, k⟩
  unfold tupG at eg
  split at eg
  · rename_i l
    have z := Option.some.inj eg
    subst z
    obtain ⟨v, rfl, dv⟩ := dl1 dl
    obtain ⟨p, xs, rfl, hp, hl⟩ := d1_lst dv
    exact call_tuple_of pins s σ H _ us Q I r ⟨p, xs, rfl, .inl ⟨SqL.of (Hx.sub _ _ _ _ hp), fun t ht => by
      have pu := Pur.put (o := .tup xs) fh ht
      exact k _ _ _ pu (d_tup upd_same (DenL.mono pu.ff _ _ hl))⟩⟩
  · rename_i l
    have z := Option.some.inj eg
    subst z
    obtain ⟨v, rfl, dv⟩ := dl1 dl
    obtain ⟨p, xs, rfl, hp, hl⟩ := d1_tup dv
    exact call_tuple_of pins s σ H _ us Q I r ⟨p, xs, rfl, .inr ⟨SqT.of (fh _ _ hp), k _ H F (Pur.refl fh) (d_tup hp hl)⟩⟩
  · rename_i l
    have z := Option.some.inj eg
    subst z
    obtain ⟨v, rfl, dv⟩ := dl1 dl
    have hx : ∃ a, v = .ref a ∧ SqL X.K F a (l.map V.int) := by simpa only [Den1, Den] using dv
    obtain ⟨p, rfl, hp⟩ := hx
    exact call_tuple_of pins s σ H _ us Q I r ⟨p, _, rfl, .inl ⟨Evl.ex_l fh hp, fun t ht => by
      have pu := Pur.put (o := .tup (l.map V.int)) fh ht
      exact k _ _ _ pu (d_tup upd_same DenL.of_ints)⟩⟩
  · cases eg
def sumG : List D → Option D
  | [.lst l] => (intsOf l).map fun ns => .int ns.sum
  | _ => none
theorem cd_sum (hc : X.calm = true) : CallD X (.builtin "sum") sumG := by
  intro pins s σ H vs us Q I r ⟨pa, F, ds, d, fh, dl, eg, k⟩
  unfold sumG at eg
  split at eg
  · rename_i l
    cases q : intsOf l with
    | none => rw [q] at eg; cases eg
    | some ns =>
      rw [q] at eg
      have z := Option.some.inj eg
      subst z
      obtain ⟨v, rfl, dv⟩ := dl1 dl
      obtain ⟨p, xs, rfl, hp, hl⟩ := d1_lst dv
      rw [intsOf_map q] at hl
      have ex := hl.ints
      subst ex
      exact cr_sum hc pins s σ H _ us Q I r ⟨p, ns, rfl, SqL.of (Hx.sub _ _ _ _ hp), k _ H F (Pur.refl fh) (d_int _)⟩
  · cases eg
def allG (f : List Bool → Bool) : List D → Option D
  | [.lst l] => (bls l).map fun ns => .bl (f ns)
  | _ => none
theorem cd_all (hc : X.calm = true) : CallD X (.builtin "all") (allG fun bs => bs.all id) := by
  intro pins s σ H vs us Q I r ⟨pa, F, ds, d, fh, dl, eg, k⟩
  unfold allG at eg
  split at eg
  · rename_i l
    cases q : bls l with
    | none => rw [q] at eg; cases eg
    | some ns =>
      rw [q] at eg
      have z := Option.some.inj eg
      subst z
      obtain ⟨v, rfl, dv⟩ := dl1 dl
      obtain ⟨p, xs, rfl, hp, hl⟩ := d1_lst dv
      rw [bls_map q] at hl
      have ex := hl.bls
      subst ex
      exact cr_all hc pins s σ H _ us Q I r ⟨p, ns, rfl, SqL.of (Hx.sub _ _ _ _ hp), k _ H F (Pur.refl fh) (d_bl _)⟩
  · cases eg
theorem cd_any (hc : X.calm = true) : CallD X (.builtin "any") (allG fun bs => bs.any id) := by
  intro pins s σ H vs us Q I r ⟨pa, F, ds, d, fh, dl, eg, k⟩
  unfold allG at eg
  split at eg
  · rename_i l
    cases q : bls l with
    | none => rw [q] at eg; cases eg
    | some ns =>
      rw [q] at eg
      have z := Option.some.inj eg
      subst z
      obtain ⟨v, rfl, dv⟩ := dl1 dl
      obtain ⟨p, xs, rfl, hp, hl⟩ := d1_lst dv
      rw [bls_map q] at hl
      have ex := hl.bls
      subst ex
      exact cr_any hc pins s σ H _ us Q I r ⟨p, ns, rfl, SqL.of (Hx.sub _ _ _ _ hp), k _ H F (Pur.refl fh) (d_bl _)⟩
  · cases eg
def rngG : List D → Option D
  | [.int i, .int j] => some (.rng i j)
  | _ => none
theorem cd_range : CallD X (.type "range") rngG := by
  intro pins s σ H vs us Q I r ⟨pa, F, ds, d, fh, dl, eg, k⟩
  unfold rngG at eg
  split at eg
  · rename_i i j
    have z := Option.some.inj eg
    subst z
    obtain ⟨v, u, rfl, dv, du⟩ := dl2 dl
    refine cr_range2 pins s σ H _ us Q I r ⟨i, j, by rw [d1_int dv, d1_int du], fun t ht => ?_⟩
    have pu := Pur.put (o := .rng i j) fh ht
    refine k _ _ _ pu ?_
    simp only [Den]
    exact ⟨t, rfl, upd_same⟩
  · cases eg
/-- repr of any data -/
def reprG : List D → Option D
  | [d] => if (shp d && PyData.showable (toP d) && !PyData.hasDict (toP d) && decide ((toP d).shown.length ≤ 16777216)) = true then some (.str (toP d).shown) else none
  | _ => none
theorem cd_repr (hu : X.A.units + 64 + 64 < cLine) (hg : X.A.guards = some []) : CallD X (.builtin "repr") reprG := by
  intro pins s σ H vs us Q I r ⟨pa, F, ds, d, fh, dl, eg, k⟩
  unfold reprG at eg
  split at eg
  · rename_i d
    by_cases hz : (shp d && PyData.showable (toP d) && !PyData.hasDict (toP d) && decide ((toP d).shown.length ≤ 16777216)) = true
    · rw [if_pos hz] at eg
      have z := Option.some.inj eg
      subst z
      simp only [Bool.and_eq_true, shp, decide_eq_true_eq, Bool.not_eq_true'] at hz
      obtain ⟨⟨⟨⟨p1, s1⟩, h2⟩, h3⟩, h4⟩ := hz
      obtain ⟨v, rfl, dv⟩ := dl1 dl
      have dp := den1_dp fh (Hx.sub _ _) p1 dv
      obtain ⟨u, rfl, ru⟩ := vals1 r
      obtain ⟨as, hr⟩ := Dp.reads I _ _ u dp ru
      have dep := SeqAt.depth_of_shaped s1
      have hsz : (toP d).shown.length ≤ sizeLine := by rw [sizeLine_eq]; exact h4
      have fin : ∀ h' t tk, (∀ b o, s.heap.get? b = some o → h'.get? b = some o) → EP X pins σ Q (.str (toP d).shown t) { s with heap := h', toks := tk } := fun h' t tk hk =>
        ⟨.str _, H, I.kept (t' := tk) hk, ⟨t, rfl⟩, k _ H F (Pur.refl fh) (d_str _)⟩
      have big : ∀ a : Addr, u = .ref a → wpAny (model X.prog X.w) X.A (call (.builtin "repr") [u]) (EP X pins σ Q) X.xe s := fun a e => by
        subst e
        exact repr_of_reads' hr h2 (fun z => by rw [h3] at z; cases z) hg (by omega) (fun _ _ e => e) fin hsz
      cases d with
      | non =>
        cases d1_non dv
        cases (show u = Value.none from ru)
        have sh : (toP .non).shown = "None" := by simp [toP, PyData.shown]
        rw [sh] at fin
        exact PySem.P.repr_of_none (fin s.heap _ _ fun _ _ e => e)
      | bl b =>
        cases d1_bl dv
        cases (show u = Value.bool b from ru)
        have sh : (toP (.bl b)).shown = (if b = true then Str.ofString "True" else Str.ofString "False") := by simp [toP, PyData.shown]
        rw [sh] at fin
        exact PySem.P.repr_of_bool (fin s.heap _ _ fun _ _ e => e)
      | int i =>
        cases d1_int dv
        obtain ⟨t, rfl⟩ := ru
        have h2' : i.natAbs.log2 < 1920 := by simpa [toP, PyData.showable] using h2
        have sh : (toP (.int i)).shown = toString i := by simp [toP, PyData.shown]
        rw [sh] at fin
        exact PySem.P.repr_of_int h2' (fin s.heap _ _ fun _ _ e => e)
      | str x =>
        cases d1_str dv
        obtain ⟨t, rfl⟩ := ru
        have sh : (toP (.str x)).shown = reprText x := by simp [toP, PyData.shown]
        rw [sh] at fin hsz
        exact PySem.P.repr_of_str (fin s.heap _ _ fun _ _ e => e) hsz
      | tup l =>
        obtain ⟨a, xs, rfl, _⟩ := d1_tup dv
        exact big a ru
      | lst l =>
        obtain ⟨a, xs, rfl, _⟩ := d1_lst dv
        exact big a ru
      | _ => simp [plain] at p1
    · rw [if_neg hz] at eg
      cases eg
  · cases eg
end
end Dx

set_option Elab.async false
set_option linter.all false
set_option maxRecDepth 100000
set_option maxHeartbeats 4000000
/-! defs, by what they make of data; statements -/
namespace Dx
open PySem PySem.Spec PyProof.Rows L2
open Evl (Ex)

/-! ### a def's promise -/
def spD (K : PySem.W.Frag) (n : Nat) (m : List D → M D) (vs : List V) (H : Hp) (Q : VK) : Prop :=
  ∃ (pa : Option Addr) (F : Hp) (ds : List D) (p : Pt) (d : D) (p' : Pt), Ex F H ∧ PotAt pa H F p ∧ DenL K pa F ds vs ∧ ds.length = n ∧ m ds p = some (d, p') ∧
    ∀ v H' F', Grow pa H F H' F' → PotAt pa H' F' p' → Den K pa F' d v → Q v H'
/-- the def at f hands back what m makes of the data, where nothing is being shown -/
structure FnG (P : Program) (w : World) (K : PySem.W.Frag) (mg : Str → Option Value) (base : Heap) (k : Nat) (f : Addr) (fd : FuncData) (ps : List Str) (m : List D → M D) : Prop where
  run : ∀ (A : Around) (outer : List Env) (s : Shared) (H : Hp) (args : Args) (us : List Value) (vs : List V) (Q : VK), A.guards = some [] → Room k A → Env0 P w K mg base A outer s H → BindsTo s fd args (ps.zip us) → Vals vs us →
    spD K ps.length m vs H Q → codeAny (model P w) A (.call (.ref f) args) (CR CX0 outer P w H s Q E0) s
/-- the module's name x is such a def -/
structure OwnFn (P : Program) (w : World) (K : PySem.W.Frag) (mg : Str → Option Value) (base : Heap) (k : Nat) (x : Str) (m : List D → M D) : Prop where
  ex : ∃ (f : Addr) (fd : FuncData) (ps : List Str), mg x = some (.ref f) ∧ PySem.W.keepIn K (.ref f) = true ∧ Binds K fd ps [] ∧ FnG P w K mg base k f fd ps m ∧ ∀ ds p r, m ds p = some r → ds.length = ps.length
section
variable {X : Cx} {N : List Str} {sc : Scope} {a b c e : Expr} {es : List Expr} {pos : Pos} {fa fb fc : Gam → M D} {fs : Gam → M (List D)}
def callM (m : List D → M D) (fs : Gam → M (List D)) : Gam → M D := fun Γ => bnd (fs Γ) m
theorem de_call {k : Nat} {x : Str} {p : Pos} {m : List D → M D} (g : Gd X N sc) (o : OwnFn X.prog X.w X.K X.mg X.base k x m) (hr : Room k X.A) (hg : sc.names.lookup x = some .globalImplicit) (ha : DA X (e :: es) fs)
    (hdb : (x == ("__debug__" : Str)) = false := by decide) (he : starEach (e :: es) X.env = (false, eval e X.env) :: starEach es X.env := by rfl) (hpl : (backTo pos (starEach es X.env)).any (·.1) = false := by rfl) :
    DE X (.Call (.Name x p) (e :: es) [] pos) (callM m fs) := by
  obtain ⟨f, fd, ps, hm, hk, hb, F, ha2⟩ := o.ex
  refine ⟨fun pins s σ H Q I ⟨pa, G, Γ, pt, d, pt', r, ev, kk⟩ => ?_⟩
  obtain ⟨ds, p1, e1, e2⟩ := bnd_some ev
  refine wpAny_Call_Name_kw (ld_glob I (gl_of g hg) hm ?_ hdb)
  refine PySem.W.callWith_K (h₀ := X.base) I.ok.mod.kin hk (thn (ha.run pos pins s σ H (fun vs H1 => ∃ G1, Grow pa H G H1 G1 ∧ PotAt pa H1 G1 p1 ∧ DenL X.K pa G1 ds vs) I ⟨pa, G, Γ, pt, ds, p1, r, e1, fun vs H1 G1 g1 q1 d1 => ⟨G1, g1, q1, d1⟩⟩) fun us s1 hx => ?_) he hpl
  obtain ⟨vs, H1, I1, rv, G1, g1, q1, d1⟩ := hx
  refine ⟨I1.kIn, ?_⟩
  have hn := ha2 ds p1 _ e2
  have hl : us.length = ps.length := by rw [← rv.length, d1.length, hn]
  have hb' := hb s1 us I1.kIn (by rw [List.append_nil]; exact hl)
  rw [List.append_nil] at hb'
  refine wpAny_call (codeAny_mono (F.run X.A X.stack s1 H1 ⟨us, []⟩ us vs Q g.gu hr I1.env0 hb' rv ⟨pa, G1, ds, p1, d, pt', g1.fh, q1, d1, hn, e2, fun v H2 G2 g2 q2 d2 => kk v H2 G2 (g1.trans g2) q2 d2⟩) fun rs s' hq => ?_)
  cases rs with
  | error z => exact False.elim hq
  | ok fl =>
    cases fl with
    | ret u => exact I1.after hq
    | next => exact False.elim hq
    | brk => exact False.elim hq
    | cont => exact False.elim hq

/-! ### statements -/
inductive Fl where
  | next | brk | cont | ret (d : D)
/-- what was made within the def alone may still change -/
def NewO (H0 : Hp) (σ : L2.St) (Γ : Gam) : Prop := ∀ (i : Nat) (d : D) (a : Addr), Γ[i]? = some (.own d) → σ[i]? = some (some (.ref a)) → H0 a = none
def After (K : PySem.W.Frag) (pa : Option Addr) (H0 F0 Fs : Hp) (D : Ends) (p' : Pt) : Fl × Gam → Prop
  | (.next, Γ') => ∀ σ' H' F', Ex Fs F' → Rel K pa σ' H' F' Γ' p' → Grow pa H0 F0 H' F' → NewO H0 σ' Γ' → D.nx σ' H'
  | (.brk, Γ') => ∀ σ' H' F', Ex Fs F' → Rel K pa σ' H' F' Γ' p' → Grow pa H0 F0 H' F' → NewO H0 σ' Γ' → D.bk σ' H'
  | (.cont, Γ') => ∀ σ' H' F', Ex Fs F' → Rel K pa σ' H' F' Γ' p' → Grow pa H0 F0 H' F' → NewO H0 σ' Γ' → D.ct σ' H'
  | (.ret d, _) => ∀ v H' F', Ex Fs F' → Grow pa H0 F0 H' F' → PotAt pa H' F' p' → Den K pa F' d v → D.rt v H'
def tSt (K : PySem.W.Frag) (f : Gam → M (Fl × Gam)) : TS := fun D σ H => ∃ (pa : Option Addr) (H0 F0 F : Hp) (Γ : Gam) (p : Pt) (r : Fl × Gam) (p' : Pt),
  Rel K pa σ H F Γ p ∧ Grow pa H0 F0 H F ∧ NewO H0 σ Γ ∧ f Γ p = some (r, p') ∧ After K pa H0 F0 F D p' r
theorem After.mono {K : PySem.W.Frag} {pa : Option Addr} {H0 F0 F1 F2 : Hp} {En : Ends} {p' : Pt} {r : Fl × Gam} (h : After K pa H0 F0 F1 En p' r) (e : Ex F1 F2) : After K pa H0 F0 F2 En p' r := by
  obtain ⟨fl, Γ'⟩ := r
  cases fl with
  | next => exact fun σ' H' F' ex => h σ' H' F' (e.trans ex)
  | brk => exact fun σ' H' F' ex => h σ' H' F' (e.trans ex)
  | cont => exact fun σ' H' F' ex => h σ' H' F' (e.trans ex)
  | ret d => exact fun v H' F' ex => h v H' F' (e.trans ex)
abbrev DS (X : Cx) (st : Stmt) (f : Gam → M (Fl × Gam)) : Prop := PS X st (tSt X.K f)
abbrev DSs (X : Cx) (st : List Stmt) (f : Gam → M (Fl × Gam)) : Prop := PSs X st (tSt X.K f)
theorem ps_imp {st : Stmt} {t t' : TS} (h : PS X st t) (q : ∀ D σ H, t' D σ H → t D σ H) : PS X st t' := ⟨fun pins s σ H D I w => h.run pins s σ H D I (q D σ H w)⟩
theorem pss_imp {st : List Stmt} {t t' : TS} (h : PSs X st t) (q : ∀ D σ H, t' D σ H → t D σ H) : PSs X st t' := ⟨fun pins s σ H D I w => h.run pins s σ H D I (q D σ H w)⟩
def skipM : Gam → M (Fl × Gam) := fun Γ => ret (.next, Γ)
def seqM (f g : Gam → M (Fl × Gam)) : Gam → M (Fl × Gam) := fun Γ => bnd (f Γ) fun r => match r with
  | (.next, Γ') => g Γ'
  | r => ret r
def failM : Gam → M (Fl × Gam) := fun _ => fail
variable {st : Stmt} {sts : List Stmt} {f g : Gam → M (Fl × Gam)}
theorem dss_nil : DSs X [] skipM := pss_imp pss_nil fun En σ H ⟨pa, H0, F0, F, Γ, p, r, p', rl, gr, nw, ev, k⟩ => by
  have z := ret_some ev
  injection z with z1 z2
  subst z1; subst z2
  exact k σ H F (Ex.refl _) rl gr nw
theorem dss_cons (h1 : DS X st f) (h2 : DSs X sts g) : DSs X (st :: sts) (seqM f g) := pss_imp (pss_cons h1 h2) fun En σ H ⟨pa, H0, F0, F, Γ, p, r, p', rl, gr, nw, ev, k⟩ => by
  obtain ⟨q, p1, e1, e2⟩ := bnd_some ev
  refine ⟨pa, H0, F0, F, Γ, p, q, p1, rl, gr, nw, e1, ?_⟩
  obtain ⟨fl, Γ1⟩ := q
  cases fl with
  | next =>
    refine fun σ' H' F' ex rl' gr' nw' => ⟨pa, H0, F0, F', Γ1, p1, r, p', rl', gr', nw', e2, k.mono ex⟩
  | brk =>
    have z := ret_some e2
    injection z with z1 z2
    subst z1; subst z2
    exact k
  | cont =>
    have z := ret_some e2
    injection z with z1 z2
    subst z1; subst z2
    exact k
  | ret d =>
    have z := ret_some e2
    injection z with z1 z2
    subst z1; subst z2
    exact k
theorem dss_one (h1 : DS X st f) : DSs X [st] f := pss_one h1
theorem ds_never : DS X st failM := ps_imp ps_never fun En σ H ⟨pa, H0, F0, F, Γ, p, r, p', rl, gr, nw, ev, k⟩ => by cases ev
theorem ds_pass : DS X (.Pass pos) skipM := ps_imp ps_pass fun En σ H ⟨pa, H0, F0, F, Γ, p, r, p', rl, gr, nw, ev, k⟩ => by
  have z := ret_some ev
  injection z with z1 z2
  subst z1; subst z2
  exact k σ H F (Ex.refl _) rl gr nw
def brkM : Gam → M (Fl × Gam) := fun Γ => ret (.brk, Γ)
def contM : Gam → M (Fl × Gam) := fun Γ => ret (.cont, Γ)
theorem ds_brk : DS X (.Break pos) brkM := ps_imp ps_break fun En σ H ⟨pa, H0, F0, F, Γ, p, r, p', rl, gr, nw, ev, k⟩ => by
  have z := ret_some ev
  injection z with z1 z2
  subst z1; subst z2
  exact k σ H F (Ex.refl _) rl gr nw
theorem ds_cont : DS X (.Continue pos) contM := ps_imp ps_continue fun En σ H ⟨pa, H0, F0, F, Γ, p, r, p', rl, gr, nw, ev, k⟩ => by
  have z := ret_some ev
  injection z with z1 z2
  subst z1; subst z2
  exact k σ H F (Ex.refl _) rl gr nw
theorem NewO.of (H0 : Hp) {σ : L2.St} {Γ : Gam} (h : NewO H0 σ Γ) : NewO H0 σ Γ := h
def exprM (fa : Gam → M D) : Gam → M (Fl × Gam) := fun Γ => bnd (fa Γ) fun _ => ret (.next, Γ)
theorem ds_expr (h : DE X e fa) (hs : swapsWith e none pos.line X.env = pure false := by rfl) : DS X (.Expr e pos) (exprM fa) := ps_imp (ps_expr h hs) fun En σ H ⟨pa, H0, F0, F, Γ, p, r, p', rl, gr, nw, ev, k⟩ => by
  obtain ⟨d, p1, e1, e2⟩ := bnd_some ev
  have z := ret_some e2
  injection z with z1 z2
  subst z1; subst z2
  exact ⟨pa, F, Γ, p, d, p', rl, e1, fun v H' F' g q _ => k σ H' F' g.ff (rl.grow g q) (gr.trans g) nw⟩
def retM (fa : Gam → M D) : Gam → M (Fl × Gam) := fun Γ => bnd (fa Γ) fun d => ret (.ret d, Γ)
theorem ds_ret (h : DE X e fa) : DS X (.Return (some e) pos) (retM fa) := ps_imp (ps_ret h) fun En σ H ⟨pa, H0, F0, F, Γ, p, r, p', rl, gr, nw, ev, k⟩ => by
  obtain ⟨d, p1, e1, e2⟩ := bnd_some ev
  have z := ret_some e2
  injection z with z1 z2
  subst z1; subst z2
  exact ⟨pa, F, Γ, p, d, p', rl, e1, fun v H' F' g q dn => k v H' F' g.ff (gr.trans g) q dn⟩
def ifM (t : Gam → M Bool) (f g : Gam → M (Fl × Gam)) : Gam → M (Fl × Gam) := fun Γ => bnd (t Γ) fun b => if b = true then f Γ else g Γ
theorem ds_if {t : Gam → M Bool} {A B : List Stmt} (ht : DT X c t) (ha : DSs X A f) (hb : DSs X B g) : DS X (.If c A B pos) (ifM t f g) := ps_imp (ps_if ht ha hb) fun En σ H ⟨pa, H0, F0, F, Γ, p, r, p', rl, gr, nw, ev, k⟩ => by
  obtain ⟨b, p1, e1, e2⟩ := bnd_some ev
  refine ⟨pa, F, Γ, p, b, p1, rl, e1, fun H' F' g q => ?_⟩
  cases b with
  | true => exact ⟨pa, H0, F0, F', Γ, p1, r, p', rl.grow g q, gr.trans g, nw, e2, k.mono g.ff⟩
  | false => exact ⟨pa, H0, F0, F', Γ, p1, r, p', rl.grow g q, gr.trans g, nw, e2, k.mono g.ff⟩

/-! ### names are stored -/
theorem Rel.setVal {K : PySem.W.Frag} {pa : Option Addr} {σ : L2.St} {H F : Hp} {Γ : Gam} {p : Pt} {d : D} {v : V} (r : Rel K pa σ H F Γ p) (i : Nat) (h : Den K pa F d v) : Rel K pa (σ.set i (some v)) H F (Γ.set i (.val d)) p := by
  refine ⟨r.fh, r.pot, by simpa using r.len, fun j s e => ?_, fun j l d1 d2 a e1 e2 e3 e4 => ?_⟩
  · by_cases q : i = j
    · subst q
      have hi : i < Γ.length := by
        have := List.getElem?_eq_some_iff.mp e
        simpa using this.1
      rw [List.getElem?_set_self hi] at e
      have z := Option.some.inj e
      subst z
      rw [List.getElem?_set_self (by have := r.len; omega)]
      exact ⟨v, rfl, h⟩
    · rw [List.getElem?_set_ne q] at e
      rw [List.getElem?_set_ne q]
      exact r.slot j s e
  · have n1 : i ≠ j := fun q => by
      subst q
      have hi : i < Γ.length := by
        have := List.getElem?_eq_some_iff.mp e1
        simpa using this.1
      rw [List.getElem?_set_self hi] at e1
      cases e1
    have n2 : i ≠ l := fun q => by
      subst q
      have hi : i < Γ.length := by
        have := List.getElem?_eq_some_iff.mp e2
        simpa using this.1
      rw [List.getElem?_set_self hi] at e2
      cases e2
    rw [List.getElem?_set_ne n1] at e1 e3
    rw [List.getElem?_set_ne n2] at e2 e4
    exact r.apart j l d1 d2 a e1 e2 e3 e4
theorem Rel.setOwn {K : PySem.W.Frag} {pa : Option Addr} {σ : L2.St} {H F : Hp} {Γ : Gam} {p : Pt} {d : D} {b : Addr} (r : Rel K pa σ H F Γ p) (i : Nat) (h : OwnAt K pa F H b d)
    (nw : ∀ (j : Nat) (e : D), i ≠ j → Γ[j]? = some (.own e) → σ[j]? ≠ some (some (.ref b))) : Rel K pa (σ.set i (some (.ref b))) H F (Γ.set i (.own d)) p := by
  refine ⟨r.fh, r.pot, by simpa using r.len, fun j s e => ?_, fun j l d1 d2 a e1 e2 e3 e4 => ?_⟩
  · by_cases q : i = j
    · subst q
      have hi : i < Γ.length := by
        have := List.getElem?_eq_some_iff.mp e
        simpa using this.1
      rw [List.getElem?_set_self hi] at e
      have z := Option.some.inj e
      subst z
      rw [List.getElem?_set_self (by have := r.len; omega)]
      exact ⟨b, rfl, h⟩
    · rw [List.getElem?_set_ne q] at e
      rw [List.getElem?_set_ne q]
      exact r.slot j s e
  · have at_i : ∀ (x : D), (Γ.set i (.own d))[i]? = some (.own x) → ∀ y, (σ.set i (some (.ref b)))[i]? = some (some (.ref y)) → y = b := fun x e y e' => by
      have hi : i < Γ.length := by
        have := List.getElem?_eq_some_iff.mp e
        simpa using this.1
      rw [List.getElem?_set_self (by have := r.len; omega)] at e'
      injection e' with e'
      injection e' with e'
      injection e' with e'
      exact e'.symm
    by_cases n1 : i = j
    · by_cases n2 : i = l
      · exact n1.symm.trans n2
      · subst n1
        have ea := at_i d1 e1 a e3
        subst ea
        rw [List.getElem?_set_ne n2] at e2 e4
        exact absurd e4 (nw l d2 n2 e2)
    · by_cases n2 : i = l
      · subst n2
        have ea := at_i d2 e2 a e4
        subst ea
        rw [List.getElem?_set_ne n1] at e1 e3
        exact absurd e3 (nw j d1 n1 e1)
      · rw [List.getElem?_set_ne n1] at e1 e3
        rw [List.getElem?_set_ne n2] at e2 e4
        exact r.apart j l d1 d2 a e1 e2 e3 e4
theorem NewO.setVal {H0 : Hp} {σ : L2.St} {Γ : Gam} (h : NewO H0 σ Γ) (i : Nat) (v : V) (d : D) : NewO H0 (σ.set i (some v)) (Γ.set i (.val d)) := fun j e a e1 e2 => by
  by_cases q : i = j
  · subst q
    have hi : i < Γ.length := by
      have := List.getElem?_eq_some_iff.mp e1
      simpa using this.1
    rw [List.getElem?_set_self hi] at e1
    cases e1
  · rw [List.getElem?_set_ne q] at e1 e2
    exact h j e a e1 e2
theorem NewO.setOwn {H0 : Hp} {σ : L2.St} {Γ : Gam} (h : NewO H0 σ Γ) (i : Nat) {b : Addr} (n : H0 b = none) (d : D) : NewO H0 (σ.set i (some (.ref b))) (Γ.set i (.own d)) := fun j e a e1 e2 => by
  by_cases q : i = j
  · subst q
    by_cases hi : i < σ.length
    · rw [List.getElem?_set_self hi] at e2
      injection e2 with e2
      injection e2 with e2
      injection e2 with e2
      rw [← e2]
      exact n
    · rw [List.getElem?_eq_none (by simpa using hi)] at e2
      cases e2
  · rw [List.getElem?_set_ne q] at e1 e2
    exact h j e a e1 e2
/-- the name x in slot i, that may be stored -/
structure LocAt (X : Cx) (N : List Str) (sc : Scope) (i : Nat) (x : Str) : Prop where
  hN : N[i]? = some x
  hx : Loc sc x
  hf : X.fn x = true ∨ sc.names.lookup x = some .local
def setM (i : Nat) (fa : Gam → M D) : Gam → M (Fl × Gam) := fun Γ => bnd (fa Γ) fun d => ret (.next, Γ.set i (.val d))
def setN (i : Nat) (fa : Gam → M (List D)) : Gam → M (Fl × Gam) := fun Γ => bnd (fa Γ) fun d => ret (.next, Γ.set i (.own (.lst d)))
theorem ds_set {i : Nat} {x : Str} {pos' : Pos} (gd : Gd X N sc) (l : LocAt X N sc i x) (h : DE X e fa) (hs : swapsWith e (some (.Name x pos')) pos.line X.env = pure false := by rfl) : DS X (.Assign [.Name x pos'] e pos) (setM i fa) :=
  ps_imp (ps_set (i := i) (by rw [gd.names]; exact gd.nd) (by rw [gd.names]; exact l.hN) (by rw [gd.scope]; exact l.hx) h hs (by rw [gd.scope]; exact l.hf)) fun En σ H ⟨pa, H0, F0, F, Γ, p, r, p', rl, gr, nw, ev, k⟩ => by
    obtain ⟨d, p1, e1, e2⟩ := bnd_some ev
    have z := ret_some e2
    injection z with z1 z2
    subst z1; subst z2
    exact ⟨pa, F, Γ, p, d, p', rl, e1, fun v H' F' g q dn => k _ H' F' g.ff ((rl.grow g q).setVal i dn) (gr.trans g) (nw.setVal i v d)⟩
theorem own_new {K : PySem.W.Frag} {pa : Option Addr} {σ : L2.St} {H F H' F' : Hp} {Γ : Gam} {p : Pt} {a : Addr} {xs : List V} {l : List D} (rl : Rel K pa σ H F Γ p) (g : Grow pa H F H' F') (n : H a = none) (n2 : F' a = none) (ea : H' a = some (.lst xs)) (dn : DenL K pa F' l xs) :
    OwnAt K pa F' H' a (.lst l) ∧ ∀ (i j : Nat) (e : D), i ≠ j → Γ[j]? = some (.own e) → σ[j]? ≠ some (some (.ref a)) := by
  refine ⟨⟨n2, fun e => ?_, ⟨xs, ea, dn⟩⟩, fun i j e _ e1 e2 => ?_⟩
  · obtain ⟨_, h2⟩ := rl.pot a e
    rw [n] at h2
    cases h2
  · obtain ⟨b, e3, o⟩ := rl.slot j _ e1
    rw [e2] at e3
    injection e3 with e3
    injection e3 with e3
    injection e3 with e3
    subst e3
    obtain ⟨u, hu⟩ := o.at_.ex
    rw [n] at hu
    cases hu
theorem ds_setN {i : Nat} {x : Str} {pos' : Pos} (gd : Gd X N sc) (l : LocAt X N sc i x) (h : DN X e fs) (hs : swapsWith e (some (.Name x pos')) pos.line X.env = pure false := by rfl) : DS X (.Assign [.Name x pos'] e pos) (setN i fs) :=
  ps_imp (ps_set (i := i) (by rw [gd.names]; exact gd.nd) (by rw [gd.names]; exact l.hN) (by rw [gd.scope]; exact l.hx) h hs (by rw [gd.scope]; exact l.hf)) fun En σ H ⟨pa, H0, F0, F, Γ, p, r, p', rl, gr, nw, ev, k⟩ => by
    obtain ⟨d, p1, e1, e2⟩ := bnd_some ev
    have z := ret_some e2
    injection z with z1 z2
    subst z1; subst z2
    refine ⟨pa, F, Γ, p, d, p', rl, e1, fun a xs H' F' g q n n2 ea dn => ?_⟩
    obtain ⟨o1, o2⟩ := own_new rl g n n2 ea dn
    have n0 : H0 a = none := by
      cases z : H0 a with
      | none => rfl
      | some u => exact absurd n (gr.there a (by rw [z]; exact fun y => nomatch y))
    exact k _ H' F' g.ff ((rl.grow g q).setOwn i o1 fun j e => o2 i j e) (gr.trans g) (nw.setOwn i n0 _)
end
end Dx

set_option Elab.async false
set_option linter.all false
set_option maxRecDepth 100000
set_option maxHeartbeats 4000000
/-! targets, walks, comprehensions, loops -/
namespace Dx
open PySem PySem.Spec PyProof.Rows L2
open Evl (Ex)

theorem wipe_at (σ : L2.St) (j : Nat) : ∀ vs : List Nat, (wipe σ vs)[j]? = if j ∈ vs then (if j < σ.length then some none else none) else σ[j]?
  | [] => by simp [wipe]
  | v :: vs => by
    unfold wipe
    by_cases h : v = j
    · subst h
      rw [if_pos (List.mem_cons_self ..)]
      by_cases q : v < σ.length
      · rw [if_pos q, List.getElem?_set_self (by rw [wipe_length]; exact q)]
      · rw [if_neg q, List.getElem?_eq_none (by rw [List.length_set, wipe_length]; omega)]
    · rw [List.getElem?_set_ne h, wipe_at σ j vs]
      have e : (j ∈ v :: vs) = (j ∈ vs) := by
        rw [List.mem_cons]
        exact propext ⟨fun z => z.elim (fun y => absurd y.symm h) id, .inr⟩
      simp only [e]
theorem wipe_set {σ : L2.St} {i : Nat} {x : Option V} {vs : List Nat} (h : i ∈ vs) : wipe (σ.set i x) vs = wipe σ vs := by
  apply List.ext_getElem?
  intro j
  rw [wipe_at, wipe_at, List.length_set]
  by_cases q : j ∈ vs
  · rw [if_pos q, if_pos q]
  · rw [if_neg q, if_neg q, List.getElem?_set_ne (fun e => q (by rw [← e]; exact h))]
theorem wipe_wipe (σ : L2.St) (vs : List Nat) : wipe (wipe σ vs) vs = wipe σ vs := by
  apply List.ext_getElem?
  intro j
  rw [wipe_at, wipe_at, wipe_length]
  by_cases q : j ∈ vs
  · rw [if_pos q, if_pos q]
  · rw [if_neg q, if_neg q]

/-! ### what is stored where -/
inductive Tgt where
  | nm (i : Nat) | tp (l : List Nat)
def Tgt.slots : Tgt → List Nat
  | .nm i => [i]
  | .tp l => l
def setAll : List Nat → List D → Gam → Gam
  | i :: is, d :: ds, Γ => setAll is ds (Γ.set i (.val d))
  | _, _, Γ => Γ
def asgT : Tgt → D → Gam → Option Gam
  | .nm i, d, Γ => some (Γ.set i (.val d))
  | .tp is, .tup ds, Γ => if ds.length = is.length then some (setAll is ds Γ) else none
  | _, _, _ => none
def tAg (K : PySem.W.Frag) (t : Tgt) : TG := fun v σ H Q => ∃ (pa : Option Addr) (F : Hp) (Γ : Gam) (p : Pt) (d : D) (Γ' : Gam), Rel K pa σ H F Γ p ∧ Den K pa F d v ∧ asgT t d Γ = some Γ' ∧
  ∀ σ', Rel K pa σ' H F Γ' p → (∀ vs : List Nat, (∀ i ∈ t.slots, i ∈ vs) → wipe σ' vs = wipe σ vs) → (∀ H0, NewO H0 σ Γ → NewO H0 σ' Γ') → Q σ' H
def tAgs (K : PySem.W.Frag) (is : List Nat) : TGs := fun vs σ H Q => ∃ (pa : Option Addr) (F : Hp) (Γ : Gam) (p : Pt) (ds : List D), Rel K pa σ H F Γ p ∧ DenL K pa F ds vs ∧ ds.length = is.length ∧
  ∀ σ', Rel K pa σ' H F (setAll is ds Γ) p → (∀ vs : List Nat, (∀ i ∈ is, i ∈ vs) → wipe σ' vs = wipe σ vs) → (∀ H0, NewO H0 σ Γ → NewO H0 σ' (setAll is ds Γ)) → Q σ' H
abbrev DG (X : Cx) (tg : Expr) (t : Tgt) : Prop := PG X tg (tAg X.K t)
abbrev DGs (X : Cx) (es : List Expr) (is : List Nat) : Prop := PGs X es (tAgs X.K is)
theorem pg_imp {X : Cx} {e : Expr} {t t' : TG} (h : PG X e t) (q : ∀ v σ H Q, t' v σ H Q → t v σ H Q) : PG X e t' := ⟨fun pins s σ H v u Q I r w => h.run pins s σ H v u Q I r (q v σ H Q w)⟩
theorem pgs_imp {X : Cx} {e : List Expr} {t t' : TGs} (h : PGs X e t) (q : ∀ v σ H Q, t' v σ H Q → t v σ H Q) : PGs X e t' := ⟨fun pins s σ H v u Q I r w => h.run pins s σ H v u Q I r (q v σ H Q w)⟩
section
variable {X : Cx} {N : List Str} {sc : Scope} {a b c e : Expr} {es : List Expr} {pos : Pos} {fa fb fc : Gam → M D} {fs : Gam → M (List D)}
theorem dg_nm {i : Nat} {x : Str} (g : Gd X N sc) (l : LocAt X N sc i x) : DG X (.Name x pos) (.nm i) :=
  pg_imp (pg_name (i := i) (by rw [g.names]; exact g.nd) (by rw [g.names]; exact l.hN) (by rw [g.scope]; exact l.hx) (by rw [g.scope]; exact l.hf)) fun v σ H Q ⟨pa, F, Γ, p, d, Γ', r, dn, ev, k⟩ => by
    have z := Option.some.inj ev
    subst z
    exact k _ (r.setVal i dn) (fun vs h => wipe_set (h i (List.mem_cons_self ..))) fun H0 n => n.setVal i v d
theorem dgs_nil : DGs X [] [] := pgs_imp pgs_nil fun vs σ H Q ⟨pa, F, Γ, p, ds, r, dn, hl, k⟩ => by
  have e : ds = [] := List.length_eq_zero_iff.mp hl
  subst e
  exact ⟨dn.nil_iff, k σ r (fun _ _ => rfl) fun _ n => n⟩
theorem dgs_cons {i : Nat} {is : List Nat} (h : DG X e (.nm i)) (t : DGs X es is) (hs : (assignEach (e :: es) X.env).map (·.2) = assign e X.env :: (assignEach es X.env).map (·.2) := by rfl) : DGs X (e :: es) (i :: is) :=
  pgs_imp (pgs_cons h t hs) fun vs σ H Q ⟨pa, F, Γ, p, ds, r, dn, hl, k⟩ => by
    cases ds with
    | nil => simp at hl
    | cons d ds =>
      obtain ⟨v, vr, rfl, h1, h2⟩ := dn.cons_iff
      refine ⟨v, vr, rfl, pa, F, Γ, p, d, _, r, h1, rfl, fun σ1 r1 w1 n1 => ?_⟩
      refine ⟨pa, F, _, p, ds, r1, h2, by simpa using hl, fun σ2 r2 w2 n2 => ?_⟩
      refine k σ2 r2 (fun ws hw => ?_) fun H0 n => n2 H0 (n1 H0 n)
      rw [w2 ws fun j hj => hw j (List.mem_cons_of_mem _ hj), w1 ws fun j hj => by
        have e : j = i := by simpa [Tgt.slots] using hj
        rw [e]
        exact hw i (List.mem_cons_self ..)]
theorem dg_tp {is : List Nat} {k : Nat} (g : Gd X N sc) (h : DGs X es is) (hn : (assignEach es X.env).length = is.length := by rfl) (hst : (assignEach es X.env).findIdx? (·.1) = none := by rfl) : DG X (.Tuple es k pos) (.tp is) :=
  pg_imp (pg_tup g.calm h hn hst) fun v σ H Q ⟨pa, F, Γ, p, d, Γ', r, dn, ev, kk⟩ => by
    cases d with
    | tup ds =>
      simp only [asgT] at ev
      by_cases hl : ds.length = is.length
      · rw [if_pos hl] at ev
        have z := Option.some.inj ev
        subst z
        have dn' : ∃ a xs, v = .ref a ∧ F a = some (.tup xs) ∧ DenL X.K pa F ds xs := by simpa only [Den] using dn
        obtain ⟨a, xs, rfl, ha, dl⟩ := dn'
        exact ⟨a, xs, rfl, SqT.of (r.fh _ _ ha), by rw [dl.length, hl], pa, F, Γ, p, ds, r, dl, hl, kk⟩
      · rw [if_neg hl] at ev
        cases ev
    | _ => simp [asgT] at ev
/-- a tuple taken apart -/
def asgM (t : Tgt) (fa : Gam → M D) : Gam → M (Fl × Gam) := fun Γ => bnd (fa Γ) fun d => bnd (lift (asgT t d Γ)) fun Γ' => ret (.next, Γ')
theorem ds_asg {tg : Expr} {t : Tgt} (h : DE X e fa) (hg : DG X tg t) (hs : swapsWithSole [tg] e pos.line X.env = pure false := by rfl) (hw : swappedStores [tg] e X.env = pure none := by rfl)
    (h1 : (assignEach [tg] X.env).map (·.2) = [assign tg X.env] := by rfl) : DS X (.Assign [tg] e pos) (asgM t fa) :=
  ps_imp (ps_asg h hg hs hw h1) fun En σ H ⟨pa, H0, F0, F, Γ, p, r, p', rl, gr, nw, ev, k⟩ => by
    obtain ⟨d, p1, e1, ev2⟩ := bnd_some ev
    obtain ⟨Γ1, p2, e2, ev3⟩ := bnd_some ev2
    obtain ⟨e4, e5⟩ := lift_some e2
    have e5' : p2 = p1 := e5
    have z := ret_some ev3
    injection z with z1 z2
    subst z1
    have z3 : p' = p1 := z2.trans e5'
    subst z3
    exact ⟨pa, F, Γ, p, d, p', rl, e1, fun v H' F' g q dn => ⟨pa, F', Γ, p', d, Γ1, rl.grow g q, dn, e4, fun σ' r' _ n' => k σ' H' F' g.ff r' (gr.trans g) (n' H0 nw)⟩⟩

/-! ### a, b = x, y -/
inductive Val where
  | old (d : D) | new (l : List D)
def Val.slot : Val → Slot
  | .old d => .val d
  | .new l => .own (.lst l)
def oldM (fa : Gam → M D) : Gam → M Val := fun Γ => bnd (fa Γ) fun d => ret (.old d)
def newM (fa : Gam → M (List D)) : Gam → M Val := fun Γ => bnd (fa Γ) fun d => ret (.new d)
def ValAt (K : PySem.W.Frag) (pa : Option Addr) (H H' F' : Hp) (v : V) : Val → Prop
  | .old d => Den K pa F' d v
  | .new l => ∃ a xs, v = .ref a ∧ H a = none ∧ F' a = none ∧ H' a = some (.lst xs) ∧ DenL K pa F' l xs
def tVl (K : PySem.W.Frag) (f : Gam → M Val) : TE := fun σ H Q => ∃ (pa : Option Addr) (F : Hp) (Γ : Gam) (p : Pt) (d : Val) (p' : Pt), Rel K pa σ H F Γ p ∧ f Γ p = some (d, p') ∧
  ∀ v H' F', Grow pa H F H' F' → PotAt pa H' F' p' → ValAt K pa H H' F' v d → Q v H'
abbrev DV (X : Cx) (e : Expr) (f : Gam → M Val) : Prop := PE X e (tVl X.K f)
theorem dv_old (h : DE X e fa) : DV X e (oldM fa) := pe_imp h fun σ H Q ⟨pa, F, Γ, p, d, p', r, ev, k⟩ => by
  obtain ⟨x, p1, e1, ev2⟩ := bnd_some ev
  have z := ret_some ev2
  injection z with z1 z2
  subst z1; subst z2
  exact ⟨pa, F, Γ, p, x, p', r, e1, fun v H' F' g q dn => k v H' F' g q dn⟩
theorem dv_new (h : DN X e fs) : DV X e (newM fs) := pe_imp h fun σ H Q ⟨pa, F, Γ, p, d, p', r, ev, k⟩ => by
  obtain ⟨x, p1, e1, ev2⟩ := bnd_some ev
  have z := ret_some ev2
  injection z with z1 z2
  subst z1; subst z2
  exact ⟨pa, F, Γ, p, x, p', r, e1, fun a xs H' F' g q n n2 e dn => k (.ref a) H' F' g q ⟨a, xs, rfl, n, n2, e, dn⟩⟩
def parM (i j : Nat) (f g : Gam → M Val) : Gam → M (Fl × Gam) := fun Γ => bnd (f Γ) fun x => bnd (g Γ) fun y => ret (.next, (Γ.set i x.slot).set j y.slot)
theorem grow_none {pa : Option Addr} {H F H' F' : Hp} (g : Grow pa H F H' F') {a : Addr} (n : H' a = none) : H a = none := by
  cases z : H a with
  | none => rfl
  | some u => exact absurd n (g.there a (by rw [z]; exact fun y => nomatch y))
/-- a value is stored -/
theorem Rel.put {K : PySem.W.Frag} {pa : Option Addr} {σ : L2.St} {H F H' F' : Hp} {Γ : Gam} {p p1 : Pt} {v : V} {d : Val} {H0 : Hp} (rl : Rel K pa σ H F Γ p) (g : Grow pa H F H' F') (q : PotAt pa H' F' p1) (h : ValAt K pa H H' F' v d) (i : Nat)
    (nw : NewO H0 σ Γ) (n0 : ∀ a, H a = none → H0 a = none) : Rel K pa (σ.set i (some v)) H' F' (Γ.set i d.slot) p1 ∧ NewO H0 (σ.set i (some v)) (Γ.set i d.slot) := by
  cases d with
  | old d => exact ⟨(rl.grow g q).setVal i h, nw.setVal i v d⟩
  | new l =>
    obtain ⟨a, xs, rfl, n, n2, e, dn⟩ := h
    obtain ⟨o1, o2⟩ := own_new rl g n n2 e dn
    exact ⟨(rl.grow g q).setOwn i o1 fun j e => o2 i j e, nw.setOwn i (n0 a n) _⟩
theorem ds_par {i j : Nat} {x y : Str} {px py pt : Pos} {kt k2 : Nat} {pt2 : Pos} {f g : Gam → M Val} (gd : Gd X N sc) (l1 : LocAt X N sc i x) (l2 : LocAt X N sc j y) (hij : i ≠ j) (hx : sc.names.lookup x = some .local) (hy : sc.names.lookup y = some .local)
    (ha : DV X a f) (hb : DV X b g) (hsa : starEach [a, b] X.env = (false, eval a X.env) :: starEach [b] X.env := by rfl) (hsb : starEach [b] X.env = (false, eval b X.env) :: starEach [] X.env := by rfl)
    (hw : swappedStores [.Tuple [.Name x px, .Name y py] kt pt] (.Tuple [a, b] k2 pt2) X.env = pure (some [x, y]))
    (hs : swapsWithSole [.Tuple [.Name x px, .Name y py] kt pt] (.Tuple [a, b] k2 pt2) pos.line X.env = pure false := by rfl) :
    DS X (.Assign [.Tuple [.Name x px, .Name y py] kt pt] (.Tuple [a, b] k2 pt2) pos) (parM i j f g) :=
  ps_imp (ps_par gd.calm (by rw [gd.names]; exact gd.nd) (by rw [gd.names]; exact l1.hN) (by rw [gd.names]; exact l2.hN) hij (by rw [gd.scope]; exact hx) (by rw [gd.scope]; exact hy) (pa_cons ha (pa_cons hb pa_nil hsb) hsa) hw hs) fun En σ H ⟨pa, H0, F0, F, Γ, p, r, p', rl, gr, nw, ev, k⟩ => by
    obtain ⟨v1, p1, e1, ev2⟩ := bnd_some ev
    obtain ⟨v2, p2, e2, ev3⟩ := bnd_some ev2
    have z := ret_some ev3
    injection z with z1 z2
    subst z1; subst z2
    refine ⟨pa, F, Γ, p, v1, p1, rl, e1, fun u1 H1 F1 g1 q1 d1 => ?_⟩
    have r1 := rl.grow g1 q1
    refine ⟨pa, F1, Γ, p1, v2, p', r1, e2, fun u2 H2 F2 g2 q2 d2 => ?_⟩
    refine ⟨u1, u2, rfl, ?_⟩
    have n0 : ∀ a, H a = none → H0 a = none := fun a n => grow_none gr n
    have d1' : ValAt X.K pa H H2 F2 u1 v1 := by
      cases v1 with
      | old d => exact Den.mono g2.ff _ _ d1
      | new l =>
        obtain ⟨a, xs, rfl, n, n2, e, dn⟩ := d1
        have np : pa ≠ some a := fun e => by
          obtain ⟨_, h2⟩ := rl.pot a e
          rw [n] at h2
          cases h2
        refine ⟨a, xs, rfl, n, ?_, g2.stay a _ e np, DenL.mono g2.ff _ _ dn⟩
        cases z : F2 a with
        | none => rfl
        | some w =>
          rcases g2.new a w z with h | h
          · rw [n2] at h; cases h
          · rw [e] at h; cases h
    obtain ⟨ra, na⟩ := Rel.put rl (g1.trans g2) q2 d1' i nw n0
    have g12 := g1.trans g2
    -- the second, beside the first
    cases v2 with
    | old d => exact k _ H2 F2 g12.ff (ra.setVal j d2) (gr.trans g12) (na.setVal j u2 d)
    | new l =>
      obtain ⟨a, xs, rfl, n, n2, e, dn⟩ := d2
      have nH : H a = none := grow_none g1 n
      obtain ⟨o1, o2⟩ := own_new rl g12 nH n2 e dn
      refine k _ H2 F2 g12.ff (ra.setOwn j o1 fun m em hm hΓ hσ => ?_) (gr.trans g12) (na.setOwn j (n0 a nH) _)
      by_cases hi : i = m
      · subst hi
        have hΓ' : i < Γ.length := by
          have := List.getElem?_eq_some_iff.mp hΓ
          simpa using this.1
        rw [List.getElem?_set_self hΓ'] at hΓ
        rw [List.getElem?_set_self (by have := rl.len; omega)] at hσ
        cases v1 with
        | old d => exact nomatch (Option.some.inj hΓ)
        | new l1' =>
          obtain ⟨b, ys, rfl, nb, nb2, eb, _⟩ := d1
          injection hσ with hσ
          injection hσ with hσ
          injection hσ with hσ
          subst hσ
          rw [n] at eb
          cases eb
      · rw [List.getElem?_set_ne hi] at hΓ hσ
        exact o2 j m em hm hΓ hσ

/-! ### an own list that will not change any more -/
def frzG : List Nat → Gam → Gam
  | [], Γ => Γ
  | i :: is, Γ => frzG is (match Γ[i]? with
    | some (.own d) => Γ.set i (.val d)
    | _ => Γ)
theorem Rel.frz1 {K : PySem.W.Frag} {pa : Option Addr} {σ : L2.St} {H F : Hp} {Γ : Gam} {p : Pt} (r : Rel K pa σ H F Γ p) {i : Nat} {d : D} (e : Γ[i]? = some (.own d)) {H0 F0 : Hp} (gr : Grow pa H0 F0 H F) (nw : NewO H0 σ Γ) :
    ∃ F', Ex F F' ∧ Rel K pa σ H F' (Γ.set i (.val d)) p ∧ Grow pa H0 F0 H F' ∧ NewO H0 σ (Γ.set i (.val d)) := by
  obtain ⟨b, e1, o⟩ := r.slot i _ e
  obtain ⟨u, hu⟩ := o.at_.ex
  have ex : Ex F (upd F b u) := Ex.new o.nf
  have fh : Ex (upd F b u) H := fun a w h => by
    by_cases q : a = b
    · rw [q, upd_same] at h
      rw [q, ← h]
      exact hu
    · rw [upd_ne q] at h
      exact r.fh a w h
  have dn : Den K pa (upd F b u) d (.ref b) := by
    have z := o.at_
    cases d with
    | lst l =>
      obtain ⟨xs, h1, h2⟩ := z
      rw [hu] at h1
      have h1' := Option.some.inj h1
      subst h1'
      simp only [Den]
      exact ⟨b, xs, rfl, upd_same, DenL.mono ex _ _ h2⟩
    | dct ks vs =>
      simp only [Den]
      refine ⟨b, rfl, ?_⟩
      rcases z with ⟨kvs, h1, h2, h3⟩ | ⟨kvs, h1, h2, h3⟩
      · rw [hu] at h1
        have h1' := Option.some.inj h1
        subst h1'
        exact .inl ⟨kvs, upd_same, h2, DenL.mono ex _ _ h3⟩
      · rw [hu] at h1
        have h1' := Option.some.inj h1
        subst h1'
        exact .inr ⟨kvs, upd_same, h2, DenL.mono ex _ _ h3⟩
    | _ => exact z.elim
  refine ⟨upd F b u, ex, ⟨fh, fun a h => ?_, by simpa using r.len, fun j s h => ?_, fun j l d1 d2 a h1 h2 h3 h4 => ?_⟩, ⟨gr.ff.trans ex, fh, gr.stay, gr.there, fun a w h => ?_⟩, fun j d1 a h1 h2 => ?_⟩
  · obtain ⟨z1, z2⟩ := r.pot a h
    refine ⟨?_, z2⟩
    rw [upd_ne (fun q => o.np (by rw [h, q]))]
    exact z1
  · by_cases q : i = j
    · subst q
      have hi : i < Γ.length := by
        have := List.getElem?_eq_some_iff.mp h
        simpa using this.1
      rw [List.getElem?_set_self hi] at h
      have z := Option.some.inj h
      subst z
      exact ⟨.ref b, e1, dn⟩
    · rw [List.getElem?_set_ne q] at h
      have z := r.slot j s h
      cases s with
      | none => trivial
      | val d' =>
        obtain ⟨v, z1, z2⟩ := z
        exact ⟨v, z1, Den.mono ex _ _ z2⟩
      | own d' =>
        obtain ⟨b', z1, z2⟩ := z
        have ne : b' ≠ b := fun qq => by
          subst qq
          exact q (r.apart i j d d' b' e h e1 z1)
        exact ⟨b', z1, ⟨by rw [upd_ne ne]; exact z2.nf, z2.np, Own1.mono z2.at_ ex fun _ y => y⟩⟩
  · have n1 : i ≠ j := fun q => by
      subst q
      have hi : i < Γ.length := by
        have := List.getElem?_eq_some_iff.mp h1
        simpa using this.1
      rw [List.getElem?_set_self hi] at h1
      cases h1
    have n2 : i ≠ l := fun q => by
      subst q
      have hi : i < Γ.length := by
        have := List.getElem?_eq_some_iff.mp h2
        simpa using this.1
      rw [List.getElem?_set_self hi] at h2
      cases h2
    rw [List.getElem?_set_ne n1] at h1
    rw [List.getElem?_set_ne n2] at h2
    exact r.apart j l d1 d2 a h1 h2 h3 h4
  · by_cases q : a = b
    · rw [q]
      exact .inr (nw i d b e e1)
    · rw [upd_ne q] at h
      exact gr.new a w h
  · by_cases q : i = j
    · subst q
      have hi : i < Γ.length := by
        have := List.getElem?_eq_some_iff.mp h1
        simpa using this.1
      rw [List.getElem?_set_self hi] at h1
      cases h1
    · rw [List.getElem?_set_ne q] at h1
      exact nw j d1 a h1 h2
theorem Rel.frz {K : PySem.W.Frag} {pa : Option Addr} {σ : L2.St} {H H0 F0 : Hp} {p : Pt} : ∀ (is : List Nat) {F : Hp} {Γ : Gam}, Rel K pa σ H F Γ p → Grow pa H0 F0 H F → NewO H0 σ Γ →
    ∃ F', Ex F F' ∧ Rel K pa σ H F' (frzG is Γ) p ∧ Grow pa H0 F0 H F' ∧ NewO H0 σ (frzG is Γ)
  | [], F, Γ, r, g, n => ⟨F, Ex.refl _, r, g, n⟩
  | i :: is, F, Γ, r, g, n => by
    unfold frzG
    cases e : Γ[i]? with
    | none => exact Rel.frz is r g n
    | some s =>
      cases s with
      | none => exact Rel.frz is r g n
      | val d => exact Rel.frz is r g n
      | own d =>
        obtain ⟨F1, x1, r1, g1, n1⟩ := r.frz1 e g n
        obtain ⟨F2, x2, r2, g2, n2⟩ := Rel.frz is r1 g1 n1
        exact ⟨F2, x1.trans x2, r2, g2, n2⟩
def frzS (is : List Nat) (f : Gam → M (Fl × Gam)) : Gam → M (Fl × Gam) := fun Γ => f (frzG is Γ)
theorem ds_frz {st : Stmt} {f : Gam → M (Fl × Gam)} (is : List Nat) (h : DS X st f) : DS X st (frzS is f) := ps_imp h fun En σ H ⟨pa, H0, F0, F, Γ, p, r, p', rl, gr, nw, ev, k⟩ => by
  obtain ⟨F1, x1, r1, g1, n1⟩ := rl.frz is gr nw
  exact ⟨pa, H0, F0, F1, _, p, r, p', r1, g1, n1, ev, k.mono x1⟩
end
end Dx

set_option Elab.async false
set_option linter.all false
set_option maxRecDepth 100000
set_option maxHeartbeats 4000000
/-! what is walked; for; comprehensions -/
namespace Dx
open PySem PySem.Spec PyProof.Rows L2
open Evl (Ex)

/-- the walk J comes by the data ds, one behind another -/
def ItOk (K : PySem.W.Frag) (pa : Option Addr) (F : Hp) (J : It) (ds : List D) : Prop := ∀ (i : Nat) (H F' : Hp), Ex F F' → Ex F' H →
  (∀ d, ds[i]? = some d → J.go i H ∧ ∀ x H', J.yld i H x H' → ∃ F'', Pur H F' H' F'' ∧ Den K pa F'' d x) ∧ (ds.length = i → J.stop i H)
def tIt (K : PySem.W.Frag) (f : Gam → M (List D)) : TI := fun σ H R => ∃ (pa : Option Addr) (F : Hp) (Γ : Gam) (p : Pt) (ds : List D) (p' : Pt), Rel K pa σ H F Γ p ∧ f Γ p = some (ds, p') ∧
  ∀ J H' F', Grow pa H F H' F' → PotAt pa H' F' p' → ItOk K pa F' J ds → R J H'
abbrev DI (X : Cx) (tg iter : Expr) (f : Gam → M (List D)) : Prop := PI X tg iter (tIt X.K f)
theorem pi_imp {X : Cx} {tg e : Expr} {t t' : TI} (h : PI X tg e t) (q : ∀ σ H R, t' σ H R → t σ H R) : PI X tg e t' := ⟨fun pins s σ H R I w => h.run pins s σ H R I (q σ H R w)⟩
section
variable {X : Cx} {N : List Str} {sc : Scope} {a b c e tg iter : Expr} {es : List Expr} {pos : Pos} {fa fb fc : Gam → M D} {fs fi : Gam → M (List D)}

/-- any list, tuple, range that a value stands for -/
def iAny (K : PySem.W.Frag) (te : TE) : TI := fun σ H R => te σ H fun x H1 => ∃ a, x = .ref a ∧
  (((∃ xs, SqL K H1 a xs) ∧ R (Itl K a) H1) ∨ ((∃ xs, SqT K H1 a xs) ∧ R (Itt K a) H1) ∨
    ∃ lo hi : Int, H1 a = some (.rng lo hi) ∧ (-(2 ^ 62) ≤ lo ∧ lo < 2 ^ 62 ∧ -(2 ^ 62) ≤ hi ∧ hi < 2 ^ 62) ∧ R (Itr lo (hi - lo).toNat) H1)
theorem pi_any {te : TE} (he : PE X e te) : PI X tg e (iAny X.K te) := by
  refine ⟨fun pins s σ H R I h => ?_⟩
  refine thn (he.run pins s σ H _ I h) fun v s1 ⟨x, H1, I1, r1, a, ex, q⟩ => ?_
  subst ex
  cases r1
  have fresh : ∀ c, c ∈ [s1.heap.objs.size] → FpOk X pins H1 c := fun c hc => by
    have e : c = s1.heap.objs.size := by simpa using hc
    rw [e]
    exact I1.fpOk (Nat.le_refl _) (I1.hok.fresh (Nat.le_refl _))
  rcases q with ⟨⟨xs, hq⟩, q⟩ | ⟨⟨xs, hq⟩, q⟩ | ⟨lo, hi, hq, ⟨b1, b2, b3, b4⟩, q⟩
  · obtain ⟨its, rv, pl, hz⟩ := I1.list hq
    refine wpAny_pyIter_list pl.isList ?_
    exact ⟨s1.heap.objs.size, [s1.heap.objs.size], _, _, H1, rfl, I1.kept (t' := s1.toks) fun c o z => Heap.get?_push_of_some _ z, turn_list a _, ⟨_, Heap.get?_push_size _ rfl, rfl, rfl⟩, fresh, q⟩
  · obtain ⟨its, rv, pl, hz⟩ := I1.tuple hq
    refine wpAny_pyIter_tuple (show s1.heap.IsTuple a its.toArray from pl) ?_
    exact ⟨s1.heap.objs.size, [s1.heap.objs.size], _, _, H1, rfl, I1.kept (t' := s1.toks) fun c o z => Heap.get?_push_of_some _ z, turn_tuple a _, ⟨_, Heap.get?_push_size _ rfl, rfl, rfl⟩, fresh, q⟩
  · obtain ⟨t, u, w, ho⟩ := I1.hok a _ hq
    refine wpAny_pyIter_range ho (small_one b1 b2 b3 b4) ?_
    refine ⟨s1.heap.objs.size, [s1.heap.objs.size], _, _, H1, rfl, I1.kept (t' := s1.toks) fun c o z => Heap.get?_push_of_some _ z, turn_range _ lo (hi - lo).toNat, ?_, fresh, q⟩
    have e1 : lo + ((0 : Nat) : Int) * 1 = lo := by simp
    have e2 : (((hi - lo).toNat : Nat) : Int) - ((0 : Nat) : Int) = Builtin.Range.rangeSize lo hi 1 := by
      rw [rangeSize_one]
      split <;> omega
    show IsRangeIter _ _ (lo + ((0 : Nat) : Int) * 1) ((((hi - lo).toNat : Nat) : Int) - ((0 : Nat) : Int)) 1
    rw [e1, e2]
    exact Heap.get?_push_size _ rfl
/-- lo, lo + 1, .., n of them -/
def rngL (lo : Int) : Nat → List D
  | 0 => []
  | n + 1 => .int lo :: rngL (lo + 1) n
theorem rngL_length (lo : Int) (n : Nat) : (rngL lo n).length = n := by
  induction n generalizing lo with
  | zero => rfl
  | succ n ih => simp [rngL, ih]
theorem rngL_get (lo : Int) (n i : Nat) (h : i < n) : (rngL lo n)[i]? = some (.int (lo + i)) := by
  induction n generalizing lo i with
  | zero => omega
  | succ n ih =>
    cases i with
    | zero => simp [rngL]
    | succ i =>
      simp only [rngL, List.getElem?_cons_succ]
      rw [ih (lo + 1) i (by omega)]
      congr 2
      omega
def rbOk (lo hi : Int) : Bool := decide (-(2 ^ 62) ≤ lo ∧ lo < 2 ^ 62 ∧ -(2 ^ 62) ≤ hi ∧ hi < 2 ^ 62)
theorem it_rng {K : PySem.W.Frag} {pa : Option Addr} {F : Hp} (lo : Int) (n : Nat) : ItOk K pa F (Itr lo n) (rngL lo n) := fun i H F' e1 e2 => by
  refine ⟨fun d hd => ?_, fun h => ?_⟩
  · have hi : i < n := by
      have := (List.getElem?_eq_some_iff.mp hd).1
      rwa [rngL_length] at this
    rw [rngL_get lo n i hi] at hd
    have z := Option.some.inj hd
    subst z
    refine ⟨hi, fun x H' y => ?_⟩
    obtain ⟨y1, y2⟩ := y
    subst y1; subst y2
    exact ⟨F', Pur.refl e2, d_int _⟩
  · rw [rngL_length] at h
    exact Nat.le_of_eq h
theorem it_lst {K : PySem.W.Frag} {pa : Option Addr} {F : Hp} {a : Addr} {xs : List V} {l : List D} (h : F a = some (.lst xs)) (dn : DenL K pa F l xs) : ItOk K pa F (Itl K a) l := fun i H F' e1 e2 => by
  have hq : SqL K H a xs := SqL.of (e2 _ _ (e1 _ _ h))
  refine ⟨fun d hd => ?_, fun hl => ⟨xs, hq, by rw [dn.length]; exact Nat.le_of_eq hl⟩⟩
  obtain ⟨v, hv, dv⟩ := dn.get hd
  refine ⟨⟨xs, v, hq, hv⟩, fun x H' y => ?_⟩
  obtain ⟨y1, y2⟩ := y
  subst y1
  have z := y2 xs hq
  rw [hv] at z
  have z' := Option.some.inj z
  subst z'
  exact ⟨F', Pur.refl e2, Den.mono e1 _ _ dv⟩
theorem it_scr {K : PySem.W.Frag} {pa : Option Addr} {F : Hp} {a : Addr} {ns : List Int} (h : SqL K F a (ns.map V.int)) : ItOk K pa F (Itl K a) (ns.map D.int) := fun i H F' e1 e2 => by
  have hq : SqL K H a (ns.map V.int) := Evl.ex_l e2 (Evl.ex_l e1 h)
  refine ⟨fun d hd => ?_, fun hl => ⟨_, hq, by rw [List.length_map] at hl ⊢; exact Nat.le_of_eq hl⟩⟩
  obtain ⟨v, hv, dv⟩ := (DenL.of_ints (K := K) (pa := pa) (F := F') (ns := ns)).get hd
  refine ⟨⟨_, v, hq, hv⟩, fun x H' y => ?_⟩
  obtain ⟨y1, y2⟩ := y
  subst y1
  have z := y2 _ hq
  rw [hv] at z
  have z' := Option.some.inj z
  subst z'
  exact ⟨F', Pur.refl e2, dv⟩
theorem it_tup {K : PySem.W.Frag} {pa : Option Addr} {F : Hp} {a : Addr} {xs : List V} {l : List D} (h : F a = some (.tup xs)) (dn : DenL K pa F l xs) : ItOk K pa F (Itt K a) l := fun i H F' e1 e2 => by
  have hq : SqT K H a xs := SqT.of (e2 _ _ (e1 _ _ h))
  refine ⟨fun d hd => ?_, fun hl => ⟨xs, hq, by rw [dn.length]; exact Nat.le_of_eq hl⟩⟩
  obtain ⟨v, hv, dv⟩ := dn.get hd
  refine ⟨⟨xs, v, hq, hv⟩, fun x H' y => ?_⟩
  obtain ⟨y1, y2⟩ := y
  subst y1
  have z := y2 xs hq
  rw [hv] at z
  have z' := Option.some.inj z
  subst z'
  exact ⟨F', Pur.refl e2, Den.mono e1 _ _ dv⟩
def seqG : D → Option (List D)
  | .lst l => some l
  | .tup l => some l
  | .scr ns => some (ns.map .int)
  | .rng lo hi => if rbOk lo hi = true then some (rngL lo (hi - lo).toNat) else none
  | _ => none
def seqI (fa : Gam → M D) : Gam → M (List D) := fun Γ => bnd (fa Γ) fun d => lift (seqG d)
theorem di_seq (h : DE X e fa) : DI X tg e (seqI fa) := pi_imp (pi_any h) fun σ H R ⟨pa, F, Γ, p, ds, p', r, ev, k⟩ => by
  obtain ⟨d, p1, e1, ev2⟩ := bnd_some ev
  obtain ⟨e4, e5⟩ := lift_some ev2
  have e5' : p' = p1 := e5
  subst e5'
  refine ⟨pa, F, Γ, p, d, p', r, e1, fun v H' F' g q dn => ?_⟩
  cases d with
  | lst l =>
    have z := Option.some.inj e4
    subst z
    simp only [Den] at dn
    obtain ⟨a, xs, rfl, h1, h2⟩ := dn
    exact ⟨a, rfl, .inl ⟨⟨xs, SqL.of (g.fh _ _ h1)⟩, k _ H' F' g q (it_lst h1 h2)⟩⟩
  | tup l =>
    have z := Option.some.inj e4
    subst z
    simp only [Den] at dn
    obtain ⟨a, xs, rfl, h1, h2⟩ := dn
    exact ⟨a, rfl, .inr (.inl ⟨⟨xs, SqT.of (g.fh _ _ h1)⟩, k _ H' F' g q (it_tup h1 h2)⟩)⟩
  | scr ns =>
    have z := Option.some.inj e4
    subst z
    simp only [Den] at dn
    obtain ⟨a, rfl, h1⟩ := dn
    exact ⟨a, rfl, .inl ⟨⟨_, Evl.ex_l g.fh h1⟩, k _ H' F' g q (it_scr h1)⟩⟩
  | rng lo hi =>
    simp only [seqG] at e4
    by_cases hz : rbOk lo hi = true
    · rw [if_pos hz] at e4
      have z := Option.some.inj e4
      subst z
      simp only [Den] at dn
      obtain ⟨a, rfl, h1⟩ := dn
      exact ⟨a, rfl, .inr (.inr ⟨lo, hi, g.fh _ _ h1, of_decide_eq_true hz, k _ H' F' g q (it_rng lo _)⟩)⟩
    · rw [if_neg hz] at e4
      cases e4
  | _ => simp [seqG] at e4
def rng1G : List D → Option (List D)
  | [.int j] => if rbOk 0 j = true then some (rngL 0 j.toNat) else none
  | _ => none
def rng2G : List D → Option (List D)
  | [.int i, .int j] => if rbOk i j = true then some (rngL i (j - i).toNat) else none
  | _ => none
theorem di_range1 {p : Pos} (gd : Gd X N sc) (hg : sc.names.lookup ("range" : Str) = some .globalImplicit) (hm : X.mg "range" = none) (ha : DA X [a] fs) (hs : starEach [a] X.env = [(false, eval a X.env)] := by rfl) : DI X tg (.Call (.Name "range" p) [a] [] pos) (biM rng1G fs) :=
  pi_imp (pi_range1 (gl_of gd hg) hm ha hs) fun σ H R ⟨pa, F, Γ, pt, ds, p', r, ev, k⟩ => by
    obtain ⟨d, p1, e1, ev2⟩ := bnd_some ev
    obtain ⟨e4, e5⟩ := lift_some ev2
    have e5' : p' = p1 := e5
    subst e5'
    refine ⟨pa, F, Γ, pt, d, p', r, e1, fun vs H' F' g q dn => ?_⟩
    unfold rng1G at e4
    split at e4
    · rename_i j
      by_cases hz : rbOk 0 j = true
      · rw [if_pos hz] at e4
        have z := Option.some.inj e4
        subst z
        have ev := DenL.ints (ns := [j]) dn
        subst ev
        obtain ⟨_, _, b3, b4⟩ := of_decide_eq_true hz
        exact ⟨j, rfl, b3, b4, k _ H' F' g q (it_rng 0 _)⟩
      · rw [if_neg hz] at e4
        cases e4
    · cases e4
theorem di_range2 {p : Pos} (gd : Gd X N sc) (hg : sc.names.lookup ("range" : Str) = some .globalImplicit) (hm : X.mg "range" = none) (ha : DA X [a, b] fs) (hs : starEach [a, b] X.env = [(false, eval a X.env), (false, eval b X.env)] := by rfl) (hs2 : starEach [b] X.env = [(false, eval b X.env)] := by rfl) :
    DI X tg (.Call (.Name "range" p) [a, b] [] pos) (biM rng2G fs) :=
  pi_imp (pi_range2 (gl_of gd hg) hm ha hs hs2) fun σ H R ⟨pa, F, Γ, pt, ds, p', r, ev, k⟩ => by
    obtain ⟨d, p1, e1, ev2⟩ := bnd_some ev
    obtain ⟨e4, e5⟩ := lift_some ev2
    have e5' : p' = p1 := e5
    subst e5'
    refine ⟨pa, F, Γ, pt, d, p', r, e1, fun vs H' F' g q dn => ?_⟩
    unfold rng2G at e4
    split at e4
    · rename_i i j
      by_cases hz : rbOk i j = true
      · rw [if_pos hz] at e4
        have z := Option.some.inj e4
        subst z
        have ev := DenL.ints (ns := [i, j]) dn
        subst ev
        exact ⟨i, j, rfl, of_decide_eq_true hz, k _ H' F' g q (it_rng i _)⟩
      · rw [if_neg hz] at e4
        cases e4
    · cases e4

/-! ### for -/
def loopM (t : Tgt) (fb : Gam → M (Fl × Gam)) : List D → Gam → M (Fl × Gam)
  | [], Γ => ret (.next, Γ)
  | d :: ds, Γ => bnd (lift (asgT t d Γ)) fun Γ1 => bnd (fb Γ1) fun r => match r with
    | (.next, Γ2) => loopM t fb ds Γ2
    | (.cont, Γ2) => loopM t fb ds Γ2
    | (.brk, Γ2) => ret (.next, Γ2)
    | (.ret x, Γ2) => ret (.ret x, Γ2)
def forM' (t : Tgt) (fi : Gam → M (List D)) (fb : Gam → M (Fl × Gam)) : Gam → M (Fl × Gam) := fun Γ => bnd (fi Γ) fun ds => loopM t fb ds Γ
theorem ds_for {t : Tgt} {body : List Stmt} {fb : Gam → M (Fl × Gam)} (gd : Gd X N sc) (hi : DI X tg iter fi) (hg : DG X tg t) (hb : DSs X body fb) (hs : ∀ x, foldedSetIterable iter X.env x = pure x := by intro _; rfl) :
    DS X (.For tg iter body [] pos) (forM' t fi fb) :=
  ps_imp (ps_for (by rw [gd.xe]; exact PassesOwn.never) gd.calm hi hg hb hs) fun En σ H ⟨pa, H0, F0, F, Γ, p, r, p', rl, gr, nw, ev, k⟩ => by
    obtain ⟨ds, p1, e1, ev2⟩ := bnd_some ev
    refine ⟨pa, F, Γ, p, ds, p1, rl, e1, fun J H1 F1 g1 q1 io => ?_⟩
    refine ⟨fun i m σ2 H2 => m = ds.length - i ∧ i ≤ ds.length ∧ ∃ F2 Γ2 p2, Ex F1 F2 ∧ Rel X.K pa σ2 H2 F2 Γ2 p2 ∧ Grow pa H0 F0 H2 F2 ∧ NewO H0 σ2 Γ2 ∧ loopM t fb (ds.drop i) Γ2 p2 = some (r, p'),
      ⟨ds.length, by simp, Nat.zero_le _, F1, Γ, p1, Ex.refl _, rl.grow g1 q1, gr.trans g1, nw, by simpa using ev2⟩, ?_⟩
    rintro i m σ2 H2 ⟨rfl, hi2, F2, Γ2, p2, ex, r2, g2, n2, ev3⟩
    obtain ⟨it1, it2⟩ := io i H2 F2 ex r2.fh
    by_cases hlt : i < ds.length
    · have hd : ds[i]? = some ds[i] := List.getElem?_eq_getElem hlt
      obtain ⟨go, yl⟩ := it1 _ hd
      rw [List.drop_eq_getElem_cons hlt] at ev3
      simp only [loopM] at ev3
      obtain ⟨Γ3, p3, e3, ev4⟩ := bnd_some ev3
      obtain ⟨e4, e5⟩ := lift_some e3
      have e5' : p3 = p2 := e5
      subst e5'
      obtain ⟨rb, p4, e6, ev5⟩ := bnd_some ev4
      refine .inr ⟨go, fun σ' H' => ∃ F2 Γ2 p2, Ex F1 F2 ∧ Rel X.K pa σ' H' F2 Γ2 p2 ∧ Grow pa H0 F0 H' F2 ∧ NewO H0 σ' Γ2 ∧ loopM t fb (ds.drop (i + 1)) Γ2 p2 = some (r, p'),
        fun σ' H' hN => ⟨ds.length - (i + 1), by omega, rfl, hlt, hN⟩, fun x H' y => ?_⟩
      obtain ⟨F3, pu, dn⟩ := yl x H' y
      have r3 : Rel X.K pa σ2 H' F3 Γ2 p3 := r2.grow pu.grow (r2.pot.pur pu)
      refine ⟨pa, F3, Γ2, p3, _, Γ3, r3, dn, e4, fun σ4 r4 _ n4 => ?_⟩
      have ex3 : Ex F1 F3 := ex.trans pu.ff
      refine ⟨pa, H0, F0, F3, Γ3, p3, rb, p4, r4, g2.trans pu.grow, n4 H0 n2, e6, ?_⟩
      obtain ⟨fl, Γ5⟩ := rb
      cases fl with
      | next => exact fun σ5 H5 F5 x5 r5 g5 n5 => ⟨F5, Γ5, p4, ex3.trans x5, r5, g5, n5, ev5⟩
      | cont => exact fun σ5 H5 F5 x5 r5 g5 n5 => ⟨F5, Γ5, p4, ex3.trans x5, r5, g5, n5, ev5⟩
      | brk =>
        have z := ret_some ev5
        injection z with z1 z2
        subst z1; subst z2
        exact fun σ5 H5 F5 x5 r5 g5 n5 => k σ5 H5 F5 (g1.ff.trans (ex3.trans x5)) r5 g5 n5
      | ret d =>
        have z := ret_some ev5
        injection z with z1 z2
        subst z1; subst z2
        exact fun v H5 F5 x5 g5 q5 dn5 => k v H5 F5 (g1.ff.trans (ex3.trans x5)) g5 q5 dn5
    · have hi3 : i = ds.length := by omega
      subst hi3
      rw [List.drop_length] at ev3
      have z := ret_some ev3
      injection z with z1 z2
      subst z1; subst z2
      exact .inl ⟨it2 rfl, k σ2 H2 F2 (g1.ff.trans ex) r2 g2 n2⟩
end
end Dx

set_option Elab.async false
set_option linter.all false
set_option maxRecDepth 100000
set_option maxHeartbeats 4000000
/-! comprehensions; while; a def from its body -/
namespace Dx
open PySem PySem.Spec PyProof.Rows L2
open Evl (Ex)

def wipeG (Γ : Gam) : List Nat → Gam
  | [] => Γ
  | v :: vs => (wipeG Γ vs).set v .none
theorem wipeG_length (Γ : Gam) : ∀ vs : List Nat, (wipeG Γ vs).length = Γ.length
  | [] => rfl
  | v :: vs => by unfold wipeG; rw [List.length_set, wipeG_length Γ vs]
theorem wipeG_at (Γ : Gam) (j : Nat) : ∀ vs : List Nat, (wipeG Γ vs)[j]? = if j ∈ vs then (if j < Γ.length then some .none else none) else Γ[j]?
  | [] => by simp [wipeG]
  | v :: vs => by
    unfold wipeG
    by_cases h : v = j
    · subst h
      rw [if_pos (List.mem_cons_self ..)]
      by_cases q : v < Γ.length
      · rw [if_pos q, List.getElem?_set_self (by rw [wipeG_length]; exact q)]
      · rw [if_neg q, List.getElem?_eq_none (by rw [List.length_set, wipeG_length]; omega)]
    · rw [List.getElem?_set_ne h, wipeG_at Γ j vs]
      have e : (j ∈ v :: vs) = (j ∈ vs) := by
        rw [List.mem_cons]
        exact propext ⟨fun z => z.elim (fun y => absurd y.symm h) id, .inr⟩
      simp only [e]
theorem Rel.wipe {K : PySem.W.Frag} {pa : Option Addr} {σ : L2.St} {H F : Hp} {Γ : Gam} {p : Pt} (r : Rel K pa σ H F Γ p) (vs : List Nat) : Rel K pa (L2.wipe σ vs) H F (wipeG Γ vs) p := by
  refine ⟨r.fh, r.pot, by rw [wipeG_length, L2.wipe_length]; exact r.len, fun i s e => ?_, fun i j d1 d2 a e1 e2 e3 e4 => ?_⟩
  · rw [wipeG_at] at e
    by_cases q : i ∈ vs
    · rw [if_pos q] at e
      split at e
      · have z := Option.some.inj e
        subst z
        trivial
      · cases e
    · rw [if_neg q] at e
      rw [wipe_at, if_neg q]
      exact r.slot i s e
  · rw [wipeG_at] at e1 e2
    by_cases q : i ∈ vs
    · rw [if_pos q] at e1
      split at e1 <;> cases e1
    · by_cases q2 : j ∈ vs
      · rw [if_pos q2] at e2
        split at e2 <;> cases e2
      · rw [if_neg q] at e1
        rw [if_neg q2] at e2
        rw [wipe_at, if_neg q] at e3
        rw [wipe_at, if_neg q2] at e4
        exact r.apart i j d1 d2 a e1 e2 e3 e4
def compL (t : Tgt) (ft : Gam → M Bool) (fe : Gam → M D) : List D → Gam → M (List D)
  | [], _ => ret []
  | d :: ds, Γ => bnd (lift (asgT t d Γ)) fun Γ1 => bnd (ft Γ1) fun b =>
      if b = true then bnd (fe Γ1) fun y => bnd (compL t ft fe ds Γ) fun r => ret (y :: r) else compL t ft fe ds Γ
def compM (vs : List Nat) (t : Tgt) (fi : Gam → M (List D)) (ft : Gam → M Bool) (fe : Gam → M D) : Gam → M (List D) := fun Γ => bnd (fi Γ) fun ds => if szOk ds.length = true then compL t ft fe ds (wipeG Γ vs) else fail
def yesM : Gam → M Bool := fun _ => ret true
abbrev DTs (X : Cx) (ifs : List Expr) (f : Gam → M Bool) : Prop := PTs X ifs (tTs X.K f)
theorem pts_imp {X : Cx} {e : List Expr} {t t' : TT} (h : PTs X e t) (q : ∀ σ H Q, t' σ H Q → t σ H Q) : PTs X e t' := ⟨fun pins s σ H Q I w => h.run pins s σ H Q I (q σ H Q w)⟩
theorem dts_nil {X : Cx} : DTs X [] yesM := pts_imp pts_nil fun σ H Q ⟨pa, F, Γ, p, b, p', r, ev, k⟩ => by
  have z := ret_some ev
  injection z with z1 z2
  subst z1; subst z2
  exact k H F r.refl r.pot
theorem dts_one {X : Cx} {c : Expr} {f : Gam → M Bool} (h : DT X c f) : DTs X [c] f := pts_one h
/-- the heap goes on, but for one new object -/
theorem Grow.mut {pa : Option Addr} {H F H' F' : Hp} (g : Grow pa H F H' F') {a : Addr} {o : HO} (n : H a = none) (nF : F' a = none) (s : H' a ≠ none) : Grow pa H F (upd H' a o) F' := by
  refine ⟨g.ff, fun b w h => ?_, fun b w h np => ?_, fun b h => ?_, g.new⟩
  · have ne : b ≠ a := fun e => by rw [e, nF] at h; cases h
    rw [upd_ne ne]
    exact g.fh b w h
  · have ne : b ≠ a := fun e => by rw [e, n] at h; cases h
    rw [upd_ne ne]
    exact g.stay b w h np
  · by_cases e : b = a
    · rw [e, upd_same]
      exact fun z => nomatch z
    · rw [upd_ne e]
      exact g.there b h
/-- the same of what names hold -/
theorem Rel.mut {K : PySem.W.Frag} {pa : Option Addr} {σ : L2.St} {H F : Hp} {Γ : Gam} {p : Pt} {a : Addr} {o : HO} (r : Rel K pa σ H F Γ p) (nF : F a = none) (np : pa ≠ some a) (no : ∀ (j : Nat) (e : D), Γ[j]? = some (.own e) → σ[j]? ≠ some (some (.ref a))) : Rel K pa σ (upd H a o) F Γ p := by
  refine ⟨fun b w h => ?_, fun b e => ?_, r.len, fun i s e => ?_, r.apart⟩
  · have ne : b ≠ a := fun e => by rw [e, nF] at h; cases h
    rw [upd_ne ne]
    exact r.fh b w h
  · have ne : b ≠ a := fun q => np (by rw [e, q])
    rw [upd_ne ne]
    exact r.pot b e
  · have z := r.slot i s e
    cases s with
    | none => trivial
    | val d => exact z
    | own d =>
      obtain ⟨b, e1, q⟩ := z
      have ne : b ≠ a := fun y => no i d e (by rw [e1, y])
      exact ⟨b, e1, q.nf, q.np, Own1.mono q.at_ (Ex.refl _) fun u h => by rw [upd_ne ne]; exact h⟩
section
variable {X : Cx} {N : List Str} {sc : Scope} {a b c e tg iter elt : Expr} {es : List Expr} {pos : Pos} {fa fb fc fe : Gam → M D} {fs fi : Gam → M (List D)} {ft : Gam → M Bool}
theorem Gd.blk (g : Gd X N sc) (s : Shared) (H : Hp) (scope : Scope) (cl : List (Str × Addr)) (C : Addr) (fp : List Addr) : Gd (X.blk s H scope (compEnvC scope cl C X.env) fp) N (relS scope sc) :=
  ⟨g.calm, g.nd, g.hu, g.gu, rfl, g.names, by rw [← g.scope]; rfl⟩
/-- what a comprehension's walk asks -/
theorem lc_use {own : List (Str × Nat)} {t : Tgt} (hv : ∀ i ∈ t.slots, i ∈ own.map (·.2)) {σ : L2.St} {H : Hp} {Q : VK} (h : tNw X.K (compM (own.map (·.2)) t fi ft fe) σ H Q) :
    tLc (tIt X.K fi) (tAg X.K t) (tTs X.K ft) (tEv X.K fe) (own.map (·.2)) σ H Q := by
  generalize own.map (·.2) = vs at hv h
  obtain ⟨pa, F, Γ, p, l, p', r, ev, k⟩ := h
  obtain ⟨ds, p1, e1, ev2⟩ := bnd_some ev
  by_cases hz : szOk ds.length = true
  · rw [if_pos hz] at ev2
    refine ⟨pa, F, Γ, p, ds, p1, r, e1, fun J H1 F1 g1 q1 io D nD => ?_⟩
    have r1 := r.grow g1 q1
    have nH : H D = none := grow_none g1 nD
    have npD : pa ≠ some D := fun e => by
      obtain ⟨_, h2⟩ := q1 D e
      rw [nD] at h2
      cases h2
    have noD : ∀ (j : Nat) (d : Dx.D), (wipeG Γ vs)[j]? = some (.own d) → (L2.wipe σ vs)[j]? ≠ some (some (.ref D)) := fun j d e1 e2 => by
      obtain ⟨b, e3, o⟩ := (r1.wipe vs).slot j _ e1
      rw [e2] at e3
      injection e3 with e3
      injection e3 with e3
      injection e3 with e3
      subst e3
      obtain ⟨u, hu⟩ := o.at_.ex
      rw [nD] at hu
      cases hu
    have g1' : Grow pa H F (upd H1 D (.lst [])) F1 := g1.trans (Pur.lay g1.fh nD).grow
    refine ⟨fun i m H2 => m = ds.length - i ∧ i ≤ ds.length ∧ ∃ F2 p2 acc accD rest, Ex F1 F2 ∧ Rel X.K pa (L2.wipe σ vs) H2 F2 (wipeG Γ vs) p2 ∧ Grow pa H F H2 F2 ∧ F2 D = none ∧ H2 D = some (.lst acc) ∧ DenL X.K pa F2 accD acc ∧
        accD.length ≤ i ∧ compL t ft fe (ds.drop i) (wipeG Γ vs) p2 = some (rest, p') ∧ l = accD ++ rest,
      ⟨ds.length, by simp, Nat.zero_le _, F1, p1, [], [], l, Ex.refl _, (r1.wipe vs).mut (fresh_F g1.fh nD) npD noD, g1', fresh_F g1.fh nD, upd_same, DenL.nil, Nat.le_refl _, by simpa using ev2, rfl⟩, ?_⟩
    rintro i m H2 ⟨rfl, hi2, F2, p2, acc, accD, rest, ex, r2, g2, nF2, hD, dl, hacc, ev3, hl⟩
    obtain ⟨it1, it2⟩ := io i H2 F2 ex r2.fh
    by_cases hlt : i < ds.length
    · have hd : ds[i]? = some ds[i] := List.getElem?_eq_getElem hlt
      obtain ⟨go, yl⟩ := it1 _ hd
      rw [List.drop_eq_getElem_cons hlt] at ev3
      simp only [compL] at ev3
      obtain ⟨Γ3, p3, e3, ev4⟩ := bnd_some ev3
      obtain ⟨e4, e5⟩ := lift_some e3
      have e5' : p3 = p2 := e5
      subst e5'
      obtain ⟨bb, p4, e6, ev5⟩ := bnd_some ev4
      refine .inr ⟨go, fun H' => ∃ F2 p2 acc accD rest, Ex F1 F2 ∧ Rel X.K pa (L2.wipe σ vs) H' F2 (wipeG Γ vs) p2 ∧ Grow pa H F H' F2 ∧ F2 D = none ∧ H' D = some (.lst acc) ∧ DenL X.K pa F2 accD acc ∧
        accD.length ≤ i + 1 ∧ compL t ft fe (ds.drop (i + 1)) (wipeG Γ vs) p2 = some (rest, p') ∧ l = accD ++ rest, fun H' hN => ⟨ds.length - (i + 1), by omega, rfl, hlt, hN⟩, fun x H' y => ?_⟩
      obtain ⟨F3, pu, dn⟩ := yl x H' y
      have q3 := r2.pot.pur pu
      have r3 : Rel X.K pa (L2.wipe σ vs) H' F3 (wipeG Γ vs) p3 := r2.grow pu.grow q3
      have nF3 : F3 D = none := by
        cases z : F3 D with
        | none => rfl
        | some w =>
          rcases pu.new D w z with h | h
          · rw [nF2] at h; cases h
          · rw [hD] at h; cases h
      refine ⟨pa, F3, wipeG Γ vs, p3, _, Γ3, r3, dn, e4, fun σ4 r4 w4 n4 => ⟨?_, ?_⟩⟩
      · rw [w4 vs hv, wipe_wipe]
      · refine ⟨pa, F3, Γ3, p3, bb, p4, r4, e6, fun H5 F5 g5 q5 => ?_⟩
        have g35 := g2.trans (pu.grow.trans g5)
        have r5 : Rel X.K pa (L2.wipe σ vs) H5 F5 (wipeG Γ vs) p4 := r3.grow g5 q5
        have h5D : H5 D = some (.lst acc) := g5.stay D _ (pu.hh D _ hD) npD
        have nF5 : F5 D = none := by
          cases z : F5 D with
          | none => rfl
          | some w =>
            rcases g5.new D w z with h | h
            · rw [nF3] at h; cases h
            · rw [pu.hh D _ hD] at h; cases h
        cases bb with
        | false =>
          exact ⟨F5, p4, acc, accD, rest, ex.trans (pu.ff.trans g5.ff), r5, g35, nF5, h5D, DenL.mono (pu.ff.trans g5.ff) _ _ dl, Nat.le_succ_of_le hacc, ev5, hl⟩
        | true =>
          rw [if_pos rfl] at ev5
          obtain ⟨y, p6, e7, ev6⟩ := bnd_some ev5
          obtain ⟨rest', p7, e8, ev7⟩ := bnd_some ev6
          have z := ret_some ev7
          injection z with z1 z2
          subst z1; subst z2
          refine ⟨pa, F5, Γ3, p4, y, p6, r4.grow g5 q5, e7, fun yv H6 F6 g6 q6 dy => ?_⟩
          have h6D : H6 D = some (.lst acc) := g6.stay D _ h5D npD
          have nF6 : F6 D = none := by
            cases z : F6 D with
            | none => rfl
            | some w =>
              rcases g6.new D w z with h | h
              · rw [nF5] at h; cases h
              · rw [h5D] at h; cases h
          have r6 : Rel X.K pa (L2.wipe σ vs) H6 F6 (wipeG Γ vs) p6 := r5.grow g6 q6
          refine ⟨acc, h6D, ?_, F6, p6, acc ++ [yv], accD ++ [y], rest', ex.trans (pu.ff.trans (g5.ff.trans g6.ff)), r6.mut nF6 npD noD, (g35.trans g6).mut nH nF6 (by rw [h6D]; exact fun z => nomatch z), nF6, upd_same,
            DenL.append (DenL.mono (pu.ff.trans (g5.ff.trans g6.ff)) _ _ dl) (DenL.cons dy DenL.nil), by simpa using hacc, e8, by rw [hl, List.append_assoc]; rfl⟩
          have h1 := szOk_ok hz
          rw [dl.length]
          omega
    · have hi3 : i = ds.length := by omega
      subst hi3
      rw [List.drop_length] at ev3
      simp only [compL] at ev3
      have z := ret_some ev3
      injection z with z1 z2
      subst z1; subst z2
      rw [List.append_nil] at hl
      subst hl
      exact .inl ⟨it2 rfl, k D acc H2 F2 g2 r2.pot nH nF2 hD dl⟩
  · rw [if_neg hz] at ev2
    cases ev2
theorem dn_comp {scope : Scope} {own : List (Str × Nat)} {t : Tgt} (gd : Gd X N sc) (hi : DI X tg iter fi) (ok : BlkOk N sc scope own) (hv : ∀ i ∈ t.slots, i ∈ own.map (·.2))
    (hg : ∀ (s : Shared) (H : Hp) (C : Addr) (cl : List (Str × Addr)) (fp : List Addr), DG (X.blk s H scope (compEnvC scope cl C X.env) fp) tg t) {ifs : List Expr}
    (ht : ∀ (s : Shared) (H : Hp) (C : Addr) (cl : List (Str × Addr)) (fp : List Addr), DTs (X.blk s H scope (compEnvC scope cl C X.env) fp) ifs ft)
    (he : ∀ (s : Shared) (H : Hp) (C : Addr) (cl : List (Str × Addr)) (fp : List Addr), DE (X.blk s H scope (compEnvC scope cl C X.env) fp) elt fe) (hs : ∀ x, foldedSetIterable iter X.env x = pure x := by intro _; rfl) :
    DN X (.ListComp elt [⟨tg, iter, ifs, 0⟩] scope pos) (compM (own.map (·.2)) t fi ft fe) :=
  pe_imp (pe_lc gd.calm (by rw [gd.names]; exact gd.nd) hi (by rw [gd.names, gd.scope]; exact ok) hg ht he hs) fun σ H Q h => lc_use hv h
theorem ds_setcomp {i : Nat} {x : Str} {px spos : Pos} {scope : Scope} {own : List (Str × Nat)} {t : Tgt} (gd : Gd X N sc) (hk : sc.kind = .function) (hN : N[i]? = some x) (hx : sc.names.lookup x = some .local) (hl : (px.line == pos.line) = true)
    (hno : (scope.names.any fun (n, k) => n == x && (k == .local || k == .cell)) = false)
    (hi : DI X tg iter fi) (ok : BlkOk N sc scope own) (hv : ∀ i ∈ t.slots, i ∈ own.map (·.2))
    (hg : ∀ (s : Shared) (H : Hp) (C : Addr) (cl : List (Str × Addr)) (fp : List Addr), DG (X.blk s H scope (compEnvC scope cl C X.env) fp) tg t) {ifs : List Expr}
    (ht : ∀ (s : Shared) (H : Hp) (C : Addr) (cl : List (Str × Addr)) (fp : List Addr), DTs (X.blk s H scope (compEnvC scope cl C X.env) fp) ifs ft)
    (he : ∀ (s : Shared) (H : Hp) (C : Addr) (cl : List (Str × Addr)) (fp : List Addr), DE (X.blk s H scope (compEnvC scope cl C X.env) fp) elt fe) (hs : ∀ x, foldedSetIterable iter X.env x = pure x := by intro _; rfl) :
    DS X (.Assign [.Name x px] (.ListComp elt [⟨tg, iter, ifs, 0⟩] scope pos) spos) (setN i (compM (own.map (·.2)) t fi ft fe)) := by
  have hyl : X.env.scope.names.lookup x = some .local := by rw [gd.scope]; exact hx
  refine ps_imp (ps_setLc (i := i) (g := tAg X.K t) (tt := tTs X.K ft) (te := tEv X.K fe) gd.calm (by rw [gd.names]; exact gd.nd) (by rw [gd.names]; exact hN) hyl (sw_true (by rw [gd.scope]; exact hk) hyl hl hno) hi (by rw [gd.names, gd.scope]; exact ok) hg ht he hs) fun En σ H ⟨pa, H0, F0, F, Γ, p, r, p', rl, gr, nw, ev, k⟩ => ?_
  obtain ⟨d, p1, e1, e2⟩ := bnd_some ev
  have z := ret_some e2
  injection z with z1 z2
  subst z1; subst z2
  refine lc_use hv ⟨pa, F, Γ, p, d, p', rl, e1, fun a xs H' F' g q n n2 ea dn => ?_⟩
  obtain ⟨o1, o2⟩ := own_new rl g n n2 ea dn
  exact k _ H' F' g.ff ((rl.grow g q).setOwn i o1 fun j e => o2 i j e) (gr.trans g) (nw.setOwn i (grow_none gr n) _)

/-! ### while -/
def whileN (t : Gam → M Bool) (fb : Gam → M (Fl × Gam)) : Nat → Gam → M (Fl × Gam)
  | 0, _ => fail
  | n + 1, Γ => bnd (t Γ) fun b => if b = true then bnd (fb Γ) fun r => match r with
      | (.next, Γ2) => whileN t fb n Γ2
      | (.cont, Γ2) => whileN t fb n Γ2
      | (.brk, Γ2) => ret (.next, Γ2)
      | (.ret x, Γ2) => ret (.ret x, Γ2)
    else ret (.next, Γ)
theorem ds_while {n : Nat} {body : List Stmt} {fb : Gam → M (Fl × Gam)} (gd : Gd X N sc) (hc : DT X c ft) (hb : DSs X body fb) : DS X (.While c body [] pos) (whileN ft fb n) :=
  ps_imp (ps_while (by rw [gd.xe]; exact PassesOwn.never) hc hb) fun En σ H ⟨pa, H0, F0, F, Γ, p, r, p', rl, gr, nw, ev, k⟩ => by
    refine ⟨fun m σ2 H2 => ∃ F2 Γ2 p2, Ex F F2 ∧ Rel X.K pa σ2 H2 F2 Γ2 p2 ∧ Grow pa H0 F0 H2 F2 ∧ NewO H0 σ2 Γ2 ∧ whileN ft fb m Γ2 p2 = some (r, p'), ⟨n, F, Γ, p, Ex.refl _, rl, gr, nw, ev⟩, ?_⟩
    rintro m σ2 H2 ⟨F2, Γ2, p2, ex, r2, g2, n2, ev3⟩
    cases m with
    | zero => cases ev3
    | succ m =>
      simp only [whileN] at ev3
      obtain ⟨b, p3, e3, ev4⟩ := bnd_some ev3
      refine ⟨pa, F2, Γ2, p2, b, p3, r2, e3, fun H3 F3 g3 q3 => ?_⟩
      cases b with
      | false =>
        have z := ret_some ev4
        injection z with z1 z2
        subst z1; subst z2
        exact k σ2 H3 F3 (ex.trans g3.ff) (r2.grow g3 q3) (g2.trans g3) n2
      | true =>
        obtain ⟨rb, p4, e5, ev5⟩ := bnd_some ev4
        refine ⟨fun σ' H' => ∃ F2 Γ2 p2, Ex F F2 ∧ Rel X.K pa σ' H' F2 Γ2 p2 ∧ Grow pa H0 F0 H' F2 ∧ NewO H0 σ' Γ2 ∧ whileN ft fb m Γ2 p2 = some (r, p'), fun σ' H' hN => ⟨m, Nat.lt_succ_self _, hN⟩, ?_⟩
        refine ⟨pa, H0, F0, F3, Γ2, p3, rb, p4, r2.grow g3 q3, g2.trans g3, n2, e5, ?_⟩
        have ex3 : Ex F F3 := ex.trans g3.ff
        obtain ⟨fl, Γ5⟩ := rb
        cases fl with
        | next => exact fun σ5 H5 F5 x5 r5 g5 n5 => ⟨F5, Γ5, p4, ex3.trans x5, r5, g5, n5, ev5⟩
        | cont => exact fun σ5 H5 F5 x5 r5 g5 n5 => ⟨F5, Γ5, p4, ex3.trans x5, r5, g5, n5, ev5⟩
        | brk =>
          have z := ret_some ev5
          injection z with z1 z2
          subst z1; subst z2
          exact fun σ5 H5 F5 x5 r5 g5 n5 => k σ5 H5 F5 (ex3.trans x5) r5 g5 n5
        | ret d =>
          have z := ret_some ev5
          injection z with z1 z2
          subst z1; subst z2
          exact fun v H5 F5 x5 g5 q5 dn5 => k v H5 F5 (ex3.trans x5) g5 q5 dn5

/-! ### own lists are changed -/
theorem Rel.upd {K : PySem.W.Frag} {pa : Option Addr} {σ : L2.St} {H F : Hp} {Γ : Gam} {p : Pt} {i : Nat} {d d' : D} {b : Addr} {u : HO} (r : Rel K pa σ H F Γ p) (e : Γ[i]? = some (.own d)) (hσ : σ[i]? = some (some (.ref b))) (o : Own1 K pa F (L2.upd H b u) b d') :
    Rel K pa σ (L2.upd H b u) F (Γ.set i (.own d')) p := by
  obtain ⟨b', e1, q⟩ := r.slot i _ e
  rw [hσ] at e1
  injection e1 with e1
  injection e1 with e1
  injection e1 with e1
  subst e1
  refine ⟨fun a w h => ?_, fun a h => ?_, by simpa using r.len, fun j s h => ?_, fun j l d1 d2 a h1 h2 h3 h4 => ?_⟩
  · have ne : a ≠ b := fun z => by rw [z, q.nf] at h; cases h
    rw [upd_ne ne]
    exact r.fh a w h
  · have ne : a ≠ b := fun z => q.np (by rw [h, z])
    rw [upd_ne ne]
    exact r.pot a h
  · by_cases qq : i = j
    · subst qq
      have hi : i < Γ.length := by
        have := List.getElem?_eq_some_iff.mp h
        simpa using this.1
      rw [List.getElem?_set_self hi] at h
      have z := Option.some.inj h
      subst z
      exact ⟨b, hσ, ⟨q.nf, q.np, o⟩⟩
    · rw [List.getElem?_set_ne qq] at h
      have z := r.slot j s h
      cases s with
      | none => trivial
      | val d' => exact z
      | own d'' =>
        obtain ⟨b2, z1, z2⟩ := z
        have ne : b2 ≠ b := fun y => by
          subst y
          exact qq (r.apart i j d d'' b2 e h hσ z1)
        exact ⟨b2, z1, ⟨z2.nf, z2.np, Own1.mono z2.at_ (Ex.refl _) fun w y => by rw [upd_ne ne]; exact y⟩⟩
  · have old : ∀ (m : Nat) (x : D), (Γ.set i (.own d'))[m]? = some (.own x) → ∃ y, Γ[m]? = some (.own y) := fun m x h => by
      by_cases qq : i = m
      · subst qq
        exact ⟨d, e⟩
      · rw [List.getElem?_set_ne qq] at h
        exact ⟨x, h⟩
    obtain ⟨y1, h1'⟩ := old j d1 h1
    obtain ⟨y2, h2'⟩ := old l d2 h2
    exact r.apart j l y1 y2 a h1' h2' h3 h4
theorem NewO.upd {H0 : Hp} {σ : L2.St} {Γ : Gam} (h : NewO H0 σ Γ) {i : Nat} {d d' : D} (e : Γ[i]? = some (.own d)) : NewO H0 σ (Γ.set i (.own d')) := fun j x a e1 e2 => by
  by_cases q : i = j
  · subst q
    exact h i d a e e2
  · rw [List.getElem?_set_ne q] at e1
    exact h j x a e1 e2
/-- an expression that may change what a name holds -/
def tMx (K : PySem.W.Frag) (f : Gam → M (D × Gam)) : TE := fun σ H Q => ∃ (pa : Option Addr) (H0 F0 F : Hp) (Γ : Gam) (p : Pt) (d : D) (Γ' : Gam) (p' : Pt), Rel K pa σ H F Γ p ∧ Grow pa H0 F0 H F ∧ NewO H0 σ Γ ∧ f Γ p = some ((d, Γ'), p') ∧
  ∀ v H' F', Ex F F' → Rel K pa σ H' F' Γ' p' → Grow pa H0 F0 H' F' → NewO H0 σ Γ' → Den K pa F' d v → Q v H'
abbrev DX (X : Cx) (e : Expr) (f : Gam → M (D × Gam)) : Prop := PE X e (tMx X.K f)
def plnM (fa : Gam → M D) : Gam → M (D × Gam) := fun Γ => bnd (fa Γ) fun d => ret (d, Γ)
theorem dx_of (h : DE X e fa) : DX X e (plnM fa) := pe_imp h fun σ H Q ⟨pa, H0, F0, F, Γ, p, d, Γ', p', rl, gr, nw, ev, k⟩ => by
  obtain ⟨x, p1, e1, e2⟩ := bnd_some ev
  have z := ret_some e2
  injection z with z1 z2
  injection z1 with z3 z4
  subst z2; subst z3; subst z4
  exact ⟨pa, F, Γ', p, d, p', rl, e1, fun v H' F' g q dn => k v H' F' g.ff (rl.grow g q) (gr.trans g) nw dn⟩
theorem own_at {K : PySem.W.Frag} {pa : Option Addr} {σ : L2.St} {H F : Hp} {Γ : Gam} {p : Pt} {i : Nat} {l : List D} (r : Rel K pa σ H F Γ p) (e : Γ[i]? = some (.own (.lst l))) : ∃ b xs, σ[i]? = some (some (.ref b)) ∧ H b = some (.lst xs) ∧ DenL K pa F l xs ∧ F b = none := by
  obtain ⟨b, e1, o⟩ := r.slot i _ e
  obtain ⟨xs, h1, h2⟩ := o.at_
  exact ⟨b, xs, e1, h1, h2, o.nf⟩
def ownL (i : Nat) : Gam → M (List D) := fun Γ => match Γ[i]? with
  | some (.own (.lst l)) => ret l
  | _ => fail
theorem ownL_some {i : Nat} {Γ : Gam} {p p' : Pt} {l : List D} (h : ownL i Γ p = some (l, p')) : Γ[i]? = some (.own (.lst l)) ∧ p' = p := by
  unfold ownL at h
  cases e : Γ[i]? with
  | none => rw [e] at h; cases h
  | some s =>
    rw [e] at h
    cases s with
    | none => cases h
    | val d => cases h
    | own d =>
      cases d with
      | lst l' =>
        have z := ret_some h
        injection z with z1 z2
        subst z1
        exact ⟨rfl, z2⟩
      | _ => cases h
/-- x.append(e) -/
def appM (i : Nat) (f : Gam → M (D × Gam)) : Gam → M (Fl × Gam) := fun Γ => bnd (ownL i Γ) fun _ => bnd (f Γ) fun r => bnd (ownL i r.2) fun l => if szOk (l.length + 1) = true then ret (.next, r.2.set i (.own (.lst (l ++ [r.1])))) else fail
theorem ds_app {i : Nat} {x : Str} {p1 p2 p3 p4 : Pos} {f : Gam → M (D × Gam)} (gd : Gd X N sc) (va : VisAt N sc i x) (h : DX X e f)
    (hbase : attributeBase (.Name x p1) "append" X.env (eval (.Name x p1) X.env) = eval (.Name x p1) X.env := by rfl)
    (hfew : ((backTo p3 (starEach [e] X.env)).all (fun x => !x.1) && (backToKw p3 (keywordEach [] X.env)).all (fun x => x.1.isSome)
      && decide ([e].length + ([] : List Keyword).length + (if ([] : List Keyword).isEmpty then 0 else 1) < 30)) = true := by rfl)
    (hline : (p2.endLine == p3.line) = true := by rfl) (hs : starEach [e] X.env = (false, eval e X.env) :: starEach [] X.env := by rfl) (hplain : (backTo p3 (starEach [] X.env)).any (·.1) = false := by rfl)
    (hsw : swapsWith (.Call (.Attribute (.Name x p1) "append" p2) [e] [] p3) none p4.line X.env = pure false := by rfl) :
    DS X (.Expr (.Call (.Attribute (.Name x p1) "append" p2) [e] [] p3) p4) (appM i f) := by
  refine ps_imp (ps_expr (pe_bm PySem.F.plainAttrs_list PySem.F.slot_list_append PySem.F.type_list_append mt_append (pe_var (i := i) (by rw [gd.names]; exact va.hN) (by rw [gd.scope]; exact va.hv) va.hd va.hcd) (pa_cons h pa_nil hs) hbase hfew hline hs hplain) hsw) fun En σ H ⟨pa, H0, F0, F, Γ, p, r, p', rl, gr, nw, ev, k⟩ => ?_
  obtain ⟨l0, q1, e1, ev2⟩ := bnd_some ev
  obtain ⟨e2, e3⟩ := ownL_some e1
  subst e3
  obtain ⟨⟨d, Γ1⟩, q2, e4, ev3⟩ := bnd_some ev2
  obtain ⟨l, q3, e5, ev4⟩ := bnd_some ev3
  obtain ⟨e6, e7⟩ := ownL_some e5
  have e7' : q3 = q2 := e7
  subst e7'
  by_cases hz : szOk (l.length + 1) = true
  · rw [if_pos hz] at ev4
    have z := ret_some ev4
    injection z with z1 z2
    subst z1; subst z2
    obtain ⟨b, xs0, s0, h0, _, _⟩ := own_at rl e2
    refine ⟨.ref b, s0, .inl ⟨rfl, _, SqL.of h0⟩, ?_⟩
    refine ⟨pa, H0, F0, F, Γ, q1, d, Γ1, p', rl, gr, nw, e4, fun v H' F' ex r' g' n' dn => ?_⟩
    obtain ⟨b2, xs, s2, h2, dl, nf⟩ := own_at r' e6
    rw [s0] at s2
    injection s2 with s2
    injection s2 with s2
    injection s2 with s2
    subst s2
    refine ⟨b, xs, v, rfl, rfl, h2, ?_, ?_⟩
    · have h1 := szOk_ok hz
      rw [dl.length]
      omega
    · have nb : H0 b = none := n' i _ b e6 s0
      exact k σ _ F' ex (r'.upd e6 s0 ⟨xs ++ [v], upd_same, DenL.append dl (DenL.cons dn DenL.nil)⟩) (g'.mut nb nf (by rw [h2]; exact fun z => nomatch z)) (n'.upd e6)
  · rw [if_neg hz] at ev4
    cases ev4
/-- x.pop(e) -/
def popAtM (i : Nat) (fe : Gam → M D) : Gam → M (D × Gam) := fun Γ => bnd (ownL i Γ) fun l => bnd (fe Γ) fun d => bnd (lift (asI d)) fun k =>
  match ixN l.length k with
  | some j => (match l[j]? with
    | some y => if szOk l.length = true then ret (y, Γ.set i (.own (.lst (l.eraseIdx j)))) else fail
    | none => fail)
  | none => fail
theorem dx_popAt {i : Nat} {x : Str} {p1 p2 p3 : Pos} (gd : Gd X N sc) (va : VisAt N sc i x) (h : DE X e fe)
    (hbase : attributeBase (.Name x p1) "pop" X.env (eval (.Name x p1) X.env) = eval (.Name x p1) X.env := by rfl)
    (hfew : ((backTo p3 (starEach [e] X.env)).all (fun x => !x.1) && (backToKw p3 (keywordEach [] X.env)).all (fun x => x.1.isSome)
      && decide ([e].length + ([] : List Keyword).length + (if ([] : List Keyword).isEmpty then 0 else 1) < 30)) = true := by rfl)
    (hline : (p2.endLine == p3.line) = true := by rfl) (hs : starEach [e] X.env = (false, eval e X.env) :: starEach [] X.env := by rfl) (hplain : (backTo p3 (starEach [] X.env)).any (·.1) = false := by rfl) :
    DX X (.Call (.Attribute (.Name x p1) "pop" p2) [e] [] p3) (popAtM i fe) := by
  refine pe_imp (pe_bm PySem.F.plainAttrs_list PySem.F.slot_list_pop PySem.F.type_list_pop mt_popAt (pe_var (i := i) (by rw [gd.names]; exact va.hN) (by rw [gd.scope]; exact va.hv) va.hd va.hcd) (pa_cons h pa_nil hs) hbase hfew hline hs hplain) fun σ H Q ⟨pa, H0, F0, F, Γ, p, y, Γ', p', rl, gr, nw, ev, k⟩ => ?_
  obtain ⟨l, q1, e1, ev2⟩ := bnd_some ev
  obtain ⟨e2, e3⟩ := ownL_some e1
  subst e3
  obtain ⟨d, q2, e4, ev3⟩ := bnd_some ev2
  obtain ⟨c, q3, e5, ev4⟩ := bnd_some ev3
  obtain ⟨e6, e7⟩ := lift_some e5
  have e7' : q3 = q2 := e7
  subst e7'
  cases ej : ixN l.length c with
  | none => rw [ej] at ev4; cases ev4
  | some j =>
    rw [ej] at ev4
    cases ey : l[j]? with
    | none => simp only [ey] at ev4; cases ev4
    | some y' =>
      simp only [ey] at ev4
      by_cases hz : szOk l.length = true
      · rw [if_pos hz] at ev4
        have z := ret_some ev4
        injection z with z1 z2
        injection z1 with z3 z4
        subst z2; subst z3; subst z4
        obtain ⟨b, xs0, s0, h0, _, _⟩ := own_at rl e2
        refine ⟨.ref b, s0, .inl ⟨rfl, _, SqL.of h0⟩, ?_⟩
        refine ⟨pa, F, Γ, q1, d, p', rl, e4, fun v H' F' g q dn => ?_⟩
        have r' := rl.grow g q
        obtain ⟨b2, xs, s2, h2, dl, nf⟩ := own_at r' e2
        rw [s0] at s2
        injection s2 with s2
        injection s2 with s2
        injection s2 with s2
        subst s2
        obtain ⟨w, hw, dw⟩ := dl.get ey
        obtain ⟨i1, i2, i3, i4⟩ := ixN_seq ej
        have hlen := dl.length
        have h1 := szOk_ok hz
        rw [sizeLine_eq] at h1
        have nb : H0 b = none := nw i _ b e2 s0
        refine ⟨b, xs, c, j, w, rfl, by rw [asI_den e6 dn], h2, by omega, by omega, by rw [hlen]; exact i1, hw, ?_⟩
        exact k w _ F' g.ff (r'.upd e2 s0 ⟨xs.eraseIdx j, upd_same, DenL.eraseIdx j dl⟩) ((gr.trans g).mut nb nf (by rw [h2]; exact fun z => nomatch z)) (nw.upd e2) dw
      · rw [if_neg hz] at ev4
        cases ev4

/-! ### a def from its body -/
def fnM (n m : Nat) (f : Gam → M (Fl × Gam)) : List D → M D := fun ds p => if ds.length = n then
    (match f (ds.map Slot.val ++ List.replicate (m - n) Slot.none) p with
    | some ((.ret d, _), p') => some (d, p')
    | some ((.next, _), p') => some (.non, p')
    | _ => none)
  else none
theorem fnM_len {n m : Nat} {f : Gam → M (Fl × Gam)} {ds : List D} {p : Pt} {r : D × Pt} (h : fnM n m f ds p = some r) : ds.length = n := by
  unfold fnM at h
  by_cases q : ds.length = n
  · exact q
  · rw [if_neg q] at h
    cases h
end
section
variable {P : Program} {w : World} {K : PySem.W.Frag} {mg : Str → Option Value} {base : Heap}
theorem vals_map_fst : ∀ (vs : List V) (i : Nat) (v : V), vs[i]? = some v → (vs.map some)[i]? = some (some v) := fun vs i v h => by
  rw [List.getElem?_map, h]
  rfl
theorem own_mk {k : Nat} {x : Str} {params : Arguments} {body : List Stmt} {scope : Scope} {f : Addr} {fd : FuncData} {N ps : List Str} {fm : Gam → M (Fl × Gam)} (Fn : FunD K x x params body scope [] [] f fd) (hm : mg x = some (.ref f)) (S : FnScope N ps scope)
    (hb : ∀ (kV doc pm : Value) (an : Option Addr) (cdv ct : Value) (us : List Value), us.length = ps.length → bindArgs (PySem.W.fnOf x x params body scope .none kV doc pm an cdv ct) ⟨us, []⟩ = pure (ps.zip us))
    (hpn : ps.length ≤ N.length)
    (hbody : ∀ (X : Cx), Gd X N scope → X.prog = P → X.w = w → X.K = K → X.mg = mg → X.base = base → (∀ y, X.fn y = true) → Room k X.A → DSs X body fm) : OwnFn P w K mg base (k + 1) x (fnM ps.length N.length fm) := by
  refine ⟨f, fd, ps, hm, Fn.kp, Fn.bindsN hb, ⟨fun A outer s H args us vs Q hg hr e0 hbd rv sp => ?_⟩, fun ds p r h => fnM_len h⟩
  obtain ⟨pa, F, ds, p, d, p', fh, pot, dl, hn, ev, kk⟩ := sp
  obtain ⟨oc, od, dV, kV, doc, pm, an, cdv, ct, osl, rfl, lk, hcd, hDv, _⟩ := Fn.ex
  have hvl : vs.length = ps.length := by rw [dl.length, hn]
  have KX : K.In s.heap := e0.mod.kin.keeps fun b o e => (e0.bs b o e).1
  have lim : s.heap.NoLimit := e0.mod.nolimit.keeps fun b o e => (e0.bs b o e).1
  have hkind : ∀ y ∈ ps.zip us, scope.names.lookup y.1 = some .local ∨ (scope.names.lookup y.1 = some .cell ∧ ((cellsFrom (s.heap.objs.size + 1) scope.names []).lookup y.1).isSome = true) := fun y hy => by
    obtain ⟨n, v⟩ := y
    rcases S.par n (List.of_mem_zip hy).1 with q | q
    · exact .inl q
    · exact .inr ⟨q, PySem.W.cellsFrom_some _ _ _ (.inl q)⟩
  refine codeAny_call_function hr.depth (KX _ _ lk) rfl S.co S.gen rfl (PySem.W.codeRec_of KX hcd) (hbd _ _ _ _ ?_)
  refine wpAny_newFunctionEnv_cells S.kind hkind fun env he s1 xx => ?_
  subst he
  refine ⟨lim.keeps xx.toInCall.keep, codeAny_func ?_⟩
  have hr2 : Room k (A.deeper (envOfC x scope s.heap.objs.size f cdv)) := hr.deeper _
  have Iv : Inv (cxOf CX0 P w K mg base N x scope f cdv A outer s H E0) [] (L2.start N vs) H s1 := inv_start S hr.hd e0 hvl rv xx
  have gd : Gd (cxOf CX0 P w K mg base N x scope f cdv A outer s H E0).nox N scope := ⟨rfl, S.nd, by have := hr2.un; show (A.deeper _).units + 64 + 64 < cLine; omega, hg, rfl, rfl, rfl⟩
  have hB := (hbody _ gd rfl rfl rfl rfl rfl (fun _ => rfl) hr2).nox
  have rl : Rel K pa (L2.start N vs) H F (ds.map Slot.val ++ List.replicate (N.length - ps.length) Slot.none) p := by
    refine ⟨fh, pot, ?_, fun i sl e => ?_, fun i j d1 d2 a e1 _ _ _ => ?_⟩
    · unfold L2.start
      simp only [List.length_append, List.length_map, List.length_replicate, hn, hvl]
      omega
    · unfold L2.start
      by_cases hi : i < ds.length
      · rw [List.getElem?_append_left (by simpa using hi), List.getElem?_map] at e
        cases q : ds[i]? with
        | none => rw [q] at e; cases e
        | some dd =>
          rw [q] at e
          have z := Option.some.inj e
          subst z
          obtain ⟨v, hv, dv⟩ := dl.get q
          refine ⟨v, ?_, dv⟩
          rw [List.getElem?_append_left (by rw [List.length_map, hvl, ← hn]; exact hi)]
          exact vals_map_fst vs i v hv
      · rw [List.getElem?_append_right (by simpa using hi)] at e
        have z := List.getElem?_eq_some_iff.mp e
        obtain ⟨h1, h2⟩ := z
        rw [List.getElem_replicate] at h2
        rw [← h2]
        trivial
    · exfalso
      by_cases hi : i < ds.length
      · rw [List.getElem?_append_left (by simpa using hi), List.getElem?_map] at e1
        cases q : ds[i]? with
        | none => rw [q] at e1; cases e1
        | some dd => rw [q] at e1; exact nomatch (Option.some.inj e1)
      · rw [List.getElem?_append_right (by simpa using hi)] at e1
        have z := List.getElem?_eq_some_iff.mp e1
        obtain ⟨h1, h2⟩ := z
        rw [List.getElem_replicate] at h2
        cases h2
  have no : NewO H (L2.start N vs) (ds.map Slot.val ++ List.replicate (N.length - ps.length) Slot.none) := fun i dd a e1 _ => by
    exfalso
    by_cases hi : i < ds.length
    · rw [List.getElem?_append_left (by simpa using hi), List.getElem?_map] at e1
      cases q : ds[i]? with
      | none => rw [q] at e1; cases e1
      | some dd => rw [q] at e1; exact nomatch (Option.some.inj e1)
    · rw [List.getElem?_append_right (by simpa using hi)] at e1
      have z := List.getElem?_eq_some_iff.mp e1
      obtain ⟨h1, h2⟩ := z
      rw [List.getElem_replicate] at h2
      cases h2
  unfold fnM at ev
  rw [if_pos hn] at ev
  have goal : tSt K fm { nx := fun _ H' => Q .non H', rt := Q } (L2.start N vs) H := by
    cases q : fm (ds.map Slot.val ++ List.replicate (N.length - ps.length) Slot.none) p with
    | none => rw [q] at ev; cases ev
    | some z =>
      obtain ⟨⟨fl, Γ'⟩, p2⟩ := z
      refine ⟨pa, H, F, F, _, p, (fl, Γ'), p2, rl, Grow.refl fh, no, q, ?_⟩
      rw [q] at ev
      cases fl with
      | next =>
        have z := Option.some.inj ev
        injection z with z1 z2
        subst z1; subst z2
        exact fun σ' H' F' _ r' g' _ => kk .non H' F' g' r'.pot d_non
      | ret dd =>
        have z := Option.some.inj ev
        injection z with z1 z2
        subst z1; subst z2
        exact fun v H' F' _ g' q' dn => kk v H' F' g' q' dn
      | brk => cases ev
      | cont => cases ev
  refine wpAny_mono (hB.run [] s1 (L2.start N vs) H _ Iv goal) (fun fl s' hs => ?_) fun e s' hs => hs
  have fin : ∀ {σ' : L2.St} {H' : Hp} {v : V} {u : Value}, Inv (cxOf CX0 P w K mg base N x scope f cdv A outer s H E0) [] σ' H' s' → RelV v u → Q v H' → CE outer P w H s Q u s' :=
    fun {σ' H' v u} J r q => ⟨v, H', J.os, J.bare, J.base, J.hok, r, q⟩
  cases fl with
  | ret u =>
    obtain ⟨v, σ', H', J, r, q⟩ := hs
    exact fin J r q
  | next =>
    obtain ⟨σ', H', J, q⟩ := hs
    exact fin (v := V.non) (u := Value.none) J rfl q
  | brk =>
    obtain ⟨_, _, _, q⟩ := hs
    exact False.elim q
  | cont =>
    obtain ⟨_, _, _, q⟩ := hs
    exact False.elim q
end
end Dx

set_option Elab.async false
set_option linter.all false
set_option maxRecDepth 100000
set_option maxHeartbeats 4000000
/-! chained comparisons, isinstance, ranges as lists, stars, t[::-1], zip -/
namespace Dx
open PySem PySem.Spec PyProof.Rows L2
open Evl (Ex)
section
variable {X : Cx} {N : List Str} {sc : Scope} {a b c e tg iter elt : Expr} {es : List Expr} {pos : Pos} {fa fb fc fe : Gam → M D} {fs fi : Gam → M (List D)} {ft : Gam → M Bool}

/-! ### a op b op c -/
def chB (g g' : D → D → Option D) (fa fb fc : Gam → M D) : Gam → M Bool := fun Γ => bnd (fa Γ) fun x => bnd (fb Γ) fun y => bnd (lift ((g x y).bind asB)) fun k =>
  if k = true then bnd (fc Γ) fun z => lift ((g' y z).bind asB) else ret false
theorem ch_use {g g' : D → D → Option D} {σ : L2.St} {H : Hp} {R : Bool → Hp → Prop} {Q1 : V → Hp → Prop}
    (hQ : ∀ k H', R k H' → Q1 (.bl k) H') (h : tTs X.K (chB g g' fa fb fc) σ H R) :
    tPk X.K fa σ H fun x H1 => tPk X.K fb σ H1 fun y H2 => ∃ (pa : Option Addr) (F : Hp) (d e r : D), Ex F H2 ∧ Den1 X.K pa F (Hx pa H2) d x ∧ Den1 X.K pa F (Hx pa H2) e y ∧ g d e = some r ∧
      ∀ v H3 F3, Pur H2 F H3 F3 → Den X.K pa F3 r v → ∃ k, v = .bl k ∧ (if k = true then tPk X.K fc σ H3 fun z H4 => (∃ (pa : Option Addr) (F : Hp) (d e r : D), Ex F H4 ∧ Den1 X.K pa F (Hx pa H4) d y ∧ Den1 X.K pa F (Hx pa H4) e z ∧ g' d e = some r ∧
        ∀ v H5 F5, Pur H4 F H5 F5 → Den X.K pa F5 r v → Q1 v H5) else Q1 (.bl false) H3) := by
  obtain ⟨pa, F, Γ, p, d, p', r, ev, k⟩ := h
  obtain ⟨x, p1, e1, ev1⟩ := bnd_some ev
  obtain ⟨y, p2, e2, ev2⟩ := bnd_some ev1
  obtain ⟨b, p3, e3, ev3⟩ := bnd_some ev2
  obtain ⟨e4, e5⟩ := lift_some e3
  have e5' : p3 = p2 := e5
  subst e5'
  obtain ⟨rb, e6, e7⟩ := Option.bind_eq_some_iff.mp e4
  refine ⟨pa, F, Γ, p, x, p1, r, e1, fun v1 H1 F1 g1 q1 d1 => ?_⟩
  have r1 := r.grow g1 q1
  refine ⟨pa, F1, Γ, p1, y, p3, r1, e2, fun v2 H2 F2 g2 q2 d2 => ?_⟩
  have r2 := r1.grow g2 q2
  refine ⟨pa, F2, x, y, rb, g2.fh, Den1.mono g2.ff g2.hx d1, d2, e6, fun v H3 F3 pu dn => ⟨b, asB_den e7 dn, ?_⟩⟩
  have r3 := r2.grow pu.grow (q2.pur pu)
  cases b with
  | false =>
    have z := ret_some ev3
    injection z with z1 z2
    subst z1; subst z2
    exact hQ _ _ (k H3 F3 ((g1.trans g2).trans pu.grow) (q2.pur pu))
  | true =>
    rw [if_pos rfl] at ev3
    obtain ⟨z, p4, e8, ev4⟩ := bnd_some ev3
    obtain ⟨e9, e10⟩ := lift_some ev4
    have e10' : p' = p4 := e10
    subst e10'
    obtain ⟨rc, e11, e12⟩ := Option.bind_eq_some_iff.mp e9
    refine ⟨pa, F3, Γ, p3, z, p', r3, e8, fun v4 H4 F4 g4 q4 d4 => ?_⟩
    have gg := pu.grow.trans g4
    refine ⟨pa, F4, y, z, rc, g4.fh, Den1.mono gg.ff gg.hx d2, d4, e11, fun v5 H5 F5 pu5 dn5 => ?_⟩
    rw [asB_den e12 dn5]
    exact hQ _ _ (k H5 F5 (((g1.trans g2).trans gg).trans pu5.grow) (q4.pur pu5))
theorem dt_chain {op op' : CmpOp} {g g' : D → D → Option D} (ho : OpD X (compareOp op) g) (ho' : OpD X (compareOp op') g') (ha : DP X a fa) (hb : DP X b fb) (hc : DP X c fc)
    (hm : lastMarks [op, op'] [b, c] = false := by with_unfolding_all rfl) : DT X (.Compare a [op, op'] [b, c] pos) (chB g g' fa fb fc) :=
  pt_imp (pt_chain ho ho' ha hb hc hm) fun σ H R h => ch_use (fun k H' q => ⟨k, rfl, q⟩) h
/-- a test's answer as a value -/
def blM (f : Gam → M Bool) : Gam → M D := fun Γ => bnd (f Γ) fun b => ret (.bl b)
theorem de_chain {op op' : CmpOp} {g g' : D → D → Option D} (ho : OpD X (compareOp op) g) (ho' : OpD X (compareOp op') g') (ha : DP X a fa) (hb : DP X b fb) (hc : DP X c fc)
    (hm : lastMarks [op, op'] [b, c] = false := by with_unfolding_all rfl) : DE X (.Compare a [op, op'] [b, c] pos) (blM (chB g g' fa fb fc)) :=
  pe_imp (pe_chain ho ho' ha hb hc hm) fun σ H Q ⟨pa, F, Γ, p, d, p', r, ev, k⟩ => by
    obtain ⟨x, p1, e1, ev1⟩ := bnd_some ev
    have z := ret_some ev1
    injection z with z1 z2
    subst z1; subst z2
    exact ch_use (R := fun b H' => Q (.bl b) H') (fun k H' q => q) ⟨pa, F, Γ, p, x, p', r, e1, fun H' F' g q => k _ H' F' g q (d_bl _)⟩

/-! ### isinstance(x, T) -/
inductive Ty where
  | int | bool | str | tuple | list | non
def Ty.name : Ty → String
  | .int => "int"
  | .bool => "bool"
  | .str => "str"
  | .tuple => "tuple"
  | .list => "list"
  | .non => "NoneType"
def tyD : D → Option Ty
  | .int _ => some .int
  | .bl _ => some .bool
  | .str _ => some .str
  | .tup _ => some .tuple
  | .lst _ => some .list
  | .non => some .non
  | _ => none
def isaB : Ty → Ty → Bool
  | .int, .int => true
  | .bool, .bool => true
  | .bool, .int => true
  | .str, .str => true
  | .tuple, .tuple => true
  | .list, .list => true
  | .non, .non => true
  | _, _ => false
theorem isa_kit (t T : Ty) (h : T ≠ .non) : kitB t.name T.name = some (isaB t T) := by
  cases T with
  | non => exact absurd rfl h
  | _ => cases t <;> decide +kernel
def isiD (T : Ty) (d : D) : Option D := (tyD d).map fun t => .bl (isaB t T)
def isiM (T : Ty) (f : Gam → M D) : Gam → M D := fun Γ => bnd (f Γ) fun d => lift (isiD T d)
theorem ty_of {K : PySem.W.Frag} {pa : Option Addr} {F H : Hp} (fh : Ex F H) {d : D} {v : V} {t : Ty} (h : Den1 K pa F (Hx pa H) d v) (e : tyD d = some t) : TyX K H v (.type t.name) := by
  cases d with
  | int i => rw [d1_int h]; cases e; exact .base (.int i)
  | bl i => rw [d1_bl h]; cases e; exact .base (.bl i)
  | str i => rw [d1_str h]; cases e; exact .base (.str i)
  | non => rw [d1_non h]; cases e; exact .base .non
  | tup l =>
    obtain ⟨a, xs, rfl, h1, _⟩ := d1_tup h
    cases e
    exact .base (.tup (fh _ _ h1))
  | lst l =>
    obtain ⟨a, xs, rfl, h1, _⟩ := d1_lst h
    cases e
    exact .base (.lst (Hx.sub _ _ _ _ h1))
  | _ => cases e
theorem de_isi {x : Str} {p px : Pos} {T : Ty} (gd : Gd X N sc) (hT : T ≠ .non) (hg : sc.names.lookup ("isinstance" : Str) = some .globalImplicit) (hm : X.mg "isinstance" = none)
    (hgx : sc.names.lookup x = some .globalImplicit) (hmx : X.mg x = none) (hvx : bootBuiltins x = some (.type T.name)) (ha : DP X e fa) (hnx : x ≠ "__name__" := by decide) (hdx : (x == ("__debug__" : Str)) = false := by decide)
    (hs1 : starEach [e, .Name x px] X.env = (false, eval e X.env) :: starEach [.Name x px] X.env := by rfl) (hs2 : starEach [.Name x px] X.env = (false, eval (.Name x px) X.env) :: starEach [] X.env := by rfl)
    (hpl : (backTo pos (starEach [.Name x px] X.env)).any (·.1) = false := by rfl) :
    DE X (.Call (.Name "isinstance" p) [e, .Name x px] [] pos) (isiM T fa) :=
  pe_imp (pe_callB call_isi (gl_of gd hg) hm boot_isinstance (pa_cons ha (pa_cons (pe_bltn (v := .ty T.name) (gl_of gd hgx) hmx hvx rfl hnx hdx) pa_nil hs2) hs1) (by decide) (by decide) hs1 hpl) fun σ H Q ⟨pa, F, Γ, pt, d, p', r, ev, k⟩ => by
    obtain ⟨y, p1, e1, ev1⟩ := bnd_some ev
    obtain ⟨e2, e3⟩ := lift_some ev1
    have e3' : p' = p1 := e3
    subst e3'
    obtain ⟨t, e4, e5⟩ := Option.map_eq_some_iff.mp e2
    refine ⟨pa, F, Γ, pt, y, p', r, e1, fun v H1 F1 g1 q1 d1 => ?_⟩
    refine ⟨v, .ty T.name, _, _, isaB t T, rfl, .ty _, ty_of g1.fh d1 e4, kit_ty (isa_kit t T hT), ?_⟩
    refine k _ H1 F1 g1 q1 ?_
    have e5' : d = .bl (isaB t T) := e5.symm
    subst e5'
    exact d_bl _

/-! ### list(range(..)), tuple(range(..)) -/
theorem denL_rg {K : PySem.W.Frag} {pa : Option Addr} {F : Hp} (lo hi : Int) : DenL K pa F (rngL lo (hi - lo).toNat) (rgV lo hi) := by
  have e : rngL lo (hi - lo).toNat = ((List.range (hi - lo).toNat).map fun i => lo + (i : Nat)).map D.int := by
    apply List.ext_getElem?
    intro i
    by_cases h : i < (hi - lo).toNat
    · rw [rngL_get _ _ _ h]
      simp [h]
    · rw [List.getElem?_eq_none (by rw [rngL_length]; omega), List.getElem?_eq_none (by simp; omega)]
  have e2 : rgV lo hi = ((List.range (hi - lo).toNat).map fun i => lo + (i : Nat)).map V.int := by
    unfold rgV
    rw [List.map_map]
    rfl
  rw [e, e2]
  exact DenL.of_ints
def rgOk (lo hi : Int) : Bool := decide (-(2 ^ 62) ≤ lo ∧ lo < 2 ^ 62 ∧ -(2 ^ 62) ≤ hi ∧ hi < 2 ^ 62 ∧ (hi - lo).toNat ≤ 2 ^ 24)
theorem rgOk_ok {lo hi : Int} (h : rgOk lo hi = true) : RgOk lo hi := by
  have := of_decide_eq_true h
  exact this
def rgG : List D → Option (List D)
  | [.int j] => if rgOk 0 j = true then some (rngL 0 (j - 0).toNat) else none
  | [.int i, .int j] => if rgOk i j = true then some (rngL i (j - i).toNat) else none
  | _ => none
/-- what the bounds of a range read -/
abbrev DR (X : Cx) (e : Expr) (fs : Gam → M (List D)) : Prop := PRg X e fun σ H Q => ∃ (pa : Option Addr) (F : Hp) (Γ : Gam) (p : Pt) (l : List D) (p' : Pt), Rel X.K pa σ H F Γ p ∧ biM rgG fs Γ p = some (l, p') ∧
  ∀ lo hi H' F', Grow pa H F H' F' → PotAt pa H' F' p' → RgOk lo hi → l = rngL lo (hi - lo).toNat → Q lo hi H'
theorem prg_imp {t t' : L2.St → Hp → (Int → Int → Hp → Prop) → Prop} (h : PRg X e t) (q : ∀ σ H Q, t' σ H Q → t σ H Q) : PRg X e t' := fun pins s σ H Q I w => h pins s σ H Q I (q σ H Q w)
theorem dr_1 {p : Pos} (gd : Gd X N sc) (hg : sc.names.lookup ("range" : Str) = some .globalImplicit) (hm : X.mg "range" = none) (ha : DE X a fa) (na : starEach [a] X.env = (false, eval a X.env) :: starEach [] X.env := by rfl) : DR X (.Call (.Name "range" p) [a] [] pos) (consM fa nilM) :=
  prg_imp (prg_1 (gl_of gd hg) hm ha na) fun σ H Q ⟨pa, F, Γ, pt, l, p', r, ev, k⟩ => by
    obtain ⟨ds, p1, e1, ev1⟩ := bnd_some ev
    obtain ⟨e2, e3⟩ := lift_some ev1
    obtain ⟨x, p2, e4, ev2⟩ := bnd_some e1
    obtain ⟨y, p3, e5, ev3⟩ := bnd_some ev2
    have z := ret_some e5
    injection z with z1 z2
    subst z1; subst z2
    have z := ret_some ev3
    injection z with z1 z2
    subst z1; subst z2
    have e3' : p' = p1 := e3
    subst e3'
    refine ⟨pa, F, Γ, pt, x, p', r, e4, fun v H1 F1 g1 q1 d1 => ?_⟩
    cases x with
    | int j =>
      have ev : v = .int j := by simpa only [Den] using d1
      simp only [rgG] at e2
      by_cases hz : rgOk 0 j = true
      · rw [if_pos hz] at e2
        exact ⟨j, ev, k 0 j H1 F1 g1 q1 (rgOk_ok hz) (Option.some.inj e2).symm⟩
      · rw [if_neg hz] at e2
        cases e2
    | _ => simp [rgG] at e2
theorem dr_2 {p : Pos} (gd : Gd X N sc) (hg : sc.names.lookup ("range" : Str) = some .globalImplicit) (hm : X.mg "range" = none) (ha : DE X a fa) (hb : DE X b fb) (na : starEach [a, b] X.env = (false, eval a X.env) :: starEach [b] X.env := by rfl)
    (nb : starEach [b] X.env = (false, eval b X.env) :: starEach [] X.env := by rfl) (hp : (backTo pos (starEach [b] X.env)).any (·.1) = false := by rfl) : DR X (.Call (.Name "range" p) [a, b] [] pos) (consM fa (consM fb nilM)) :=
  prg_imp (prg_2 (gl_of gd hg) hm ha hb na nb hp) fun σ H Q ⟨pa, F, Γ, pt, l, p', r, ev, k⟩ => by
    obtain ⟨ds, p1, e1, ev1⟩ := bnd_some ev
    obtain ⟨e2, e3⟩ := lift_some ev1
    obtain ⟨x, p2, e4, ev2⟩ := bnd_some e1
    obtain ⟨y, p3, e5, ev3⟩ := bnd_some ev2
    obtain ⟨x2, p4, e6, ev4⟩ := bnd_some e5
    obtain ⟨y2, p5, e7, ev5⟩ := bnd_some ev4
    have z := ret_some e7
    injection z with z1 z2
    subst z1; subst z2
    have z := ret_some ev5
    injection z with z1 z2
    subst z1; subst z2
    have z := ret_some ev3
    injection z with z1 z2
    subst z1; subst z2
    have e3' : p' = p1 := e3
    subst e3'
    refine ⟨pa, F, Γ, pt, x, p2, r, e4, fun v H1 F1 g1 q1 d1 => ?_⟩
    refine ⟨pa, F1, Γ, p2, x2, p', r.grow g1 q1, e6, fun v2 H2 F2 g2 q2 d2 => ?_⟩
    cases x with
    | int i =>
      cases x2 with
      | int j =>
        have ev : v = .int i := by simpa only [Den] using d1
        have ev2 : v2 = .int j := by simpa only [Den] using d2
        simp only [rgG] at e2
        by_cases hz : rgOk i j = true
        · rw [if_pos hz] at e2
          exact ⟨i, j, ev, ev2, k i j H2 F2 (g1.trans g2) q2 (rgOk_ok hz) (Option.some.inj e2).symm⟩
        · rw [if_neg hz] at e2
          cases e2
      | _ => simp [rgG] at e2
    | _ => cases x2 <;> simp [rgG] at e2
theorem dn_listRg {p : Pos} (gd : Gd X N sc) (hg : sc.names.lookup ("list" : Str) = some .globalImplicit) (hm : X.mg "list" = none) (h : DR X e fs) (na : starEach [e] X.env = (false, eval e X.env) :: starEach [] X.env := by rfl) : DN X (.Call (.Name "list" p) [e] [] pos) (biM rgG fs) :=
  pe_imp (pe_listRg gd.calm (gl_of gd hg) hm h na) fun σ H Q ⟨pa, F, Γ, pt, l, p', r, ev, k⟩ => by
    refine ⟨pa, F, Γ, pt, l, p', r, ev, fun lo hi H1 F1 g1 q1 ok el => ⟨ok, fun q hq => ?_⟩⟩
    subst el
    have pu : Pur H1 F1 (upd H1 q (.lst (rgV lo hi))) F1 := Pur.lay g1.fh hq
    exact k q _ _ F1 (g1.trans pu.grow) (q1.pur pu) (grow_none g1 hq) (fresh_F g1.fh hq) upd_same (denL_rg lo hi)
theorem de_tupRg {p : Pos} (gd : Gd X N sc) (hg : sc.names.lookup ("tuple" : Str) = some .globalImplicit) (hm : X.mg "tuple" = none) (h : DR X e fs) (na : starEach [e] X.env = (false, eval e X.env) :: starEach [] X.env := by rfl) : DE X (.Call (.Name "tuple" p) [e] [] pos) (fun Γ => bnd (biM rgG fs Γ) fun l => ret (.tup l)) :=
  pe_imp (pe_tupRg gd.calm (gl_of gd hg) hm h na) fun σ H Q ⟨pa, F, Γ, pt, l, p', r, ev, k⟩ => by
    obtain ⟨l', p1, e1, ev1⟩ := bnd_some ev
    have z := ret_some ev1
    injection z with z1 z2
    subst z1; subst z2
    refine ⟨pa, F, Γ, pt, l', p', r, e1, fun lo hi H1 F1 g1 q1 ok el => ⟨ok, fun q hq => ?_⟩⟩
    subst el
    have pu : Pur H1 F1 (upd H1 q (.tup (rgV lo hi))) (upd F1 q (.tup (rgV lo hi))) := Pur.put g1.fh hq
    exact k _ _ _ (g1.trans pu.grow) (q1.pur pu) (d_tup upd_same (denL_rg lo hi))

/-! ### *x in a row -/
def seqZ : D → Option (List D)
  | .lst l => some l
  | .tup l => some l
  | _ => none
def starM (f : Gam → M D) (g : Gam → M (List D)) : Gam → M (List D) := fun Γ => bnd (f Γ) fun d => bnd (lift (seqZ d)) fun l => bnd (g Γ) fun r => ret (l ++ r)
theorem seqZ_den {K : PySem.W.Frag} {pa : Option Addr} {F H : Hp} (fh : Ex F H) {d : D} {l : List D} {v : V} (e : seqZ d = some l) (h : Den K pa F d v) : ∃ a xs, v = .ref a ∧ (SqT K H a xs ∨ SqL K H a xs) ∧ DenL K pa F l xs := by
  cases d with
  | lst l' =>
    cases e
    simp only [Den] at h
    obtain ⟨a, xs, rfl, h1, h2⟩ := h
    exact ⟨a, xs, rfl, .inr (SqL.of (fh _ _ h1)), h2⟩
  | tup l' =>
    cases e
    simp only [Den] at h
    obtain ⟨a, xs, rfl, h1, h2⟩ := h
    exact ⟨a, xs, rfl, .inl (SqT.of (fh _ _ h1)), h2⟩
  | _ => cases e
theorem da_star {p : Pos} (h : DE X e fa) (t : DA X es fs) (hs : starEach (.Starred e p :: es) X.env = (true, eval e X.env) :: starEach es X.env := by rfl) : DA X (.Starred e p :: es) (starM fa fs) :=
  pa_imp (StX.pa_star h t hs) fun σ H Q ⟨pa, F, Γ, pt, d, p', r, ev, k⟩ => by
    obtain ⟨x, p1, e1, ev1⟩ := bnd_some ev
    obtain ⟨l, p2, e2, ev2⟩ := bnd_some ev1
    obtain ⟨m, p3, e3, ev3⟩ := bnd_some ev2
    have z := ret_some ev3
    injection z with z1 z2
    subst z1; subst z2
    obtain ⟨e4, e5⟩ := lift_some e2
    have e5' : p2 = p1 := e5
    subst e5'
    refine ⟨pa, F, Γ, pt, x, p2, r, e1, fun v H1 F1 g1 q1 d1 => ?_⟩
    obtain ⟨a, xs, rfl, hx, dl⟩ := seqZ_den g1.fh e4 d1
    refine ⟨a, xs, rfl, hx, pa, F1, Γ, p2, m, p', r.grow g1 q1, e3, fun ys H2 F2 g2 q2 d2 => ?_⟩
    exact k _ H2 F2 (g1.trans g2) q2 (DenL.append (DenL.mono g2.ff _ _ dl) d2)
end

/-! ### t[::-1] -/
section
variable {prog : Program} {w : World} {A : Around} {E : Value → Shared → Prop} {s : Shared}
theorem applied_rev {sl : Addr} {vl vu vs : Value} {n : Nat} {Q : Int × Int × Nat → Shared → Prop} (hs : s.heap.IsSliceOf sl vl vu vs) (pl : IsPart vl none) (pu : IsPart vu none) (ps : IsPart vs (some (-1)))
    (h : Q ((n : Int) - 1, -1, n) s) : wpAny (model prog w) A (Builtin.Slice.sliceApplied (.ref sl) (pure (n : Int))) Q E s := by
  obtain ⟨os, hos, hcs, hds⟩ := id hs
  unfold Builtin.Slice.sliceApplied Builtin.Slice.sliceFields
  refine wpAny_bind (wpAny_bind (wpAny_field hos hds (x := vl) rfl (wpAny_bind (wpAny_field hos hds (x := vu) rfl (wpAny_bind (wpAny_field hos hds (x := vs) rfl (wpAny_pure ?_)))))))
  refine wpAny_bind (HT.slicePart_ ps ?_)
  show wpAny _ _ (if ((-1 : Int) == 0) = true then _ else _) _ _ s
  rw [if_neg (by decide)]
  refine wpAny_bind (HT.slicePart_ pl (wpAny_bind (HT.slicePart_ pu (wpAny_bind (wpAny_pure ?_)))))
  have e1 : Builtin.Slice.sliceAdjust none none (-1) (n : Int) = ((n : Int) - 1, -1) := rfl
  have e2 : Builtin.Slice.slicePlaces ((n : Int) - 1) (-1) (-1) = n := by
    unfold Builtin.Slice.slicePlaces
    have h1 : ¬ ((-1 : Int) > 0) := by decide
    simp only [h1, if_false]
    have e3 : (- -1 : Int) = 1 := by decide
    rw [e3, Int.ediv_one]
    by_cases hn : (n : Int) - 1 > -1
    · rw [if_pos hn]; omega
    · rw [if_neg hn]; omega
  show wpAny _ _ (match Builtin.Slice.sliceAdjust none none (-1) (n : Int) with | (lo, hi) => pure (lo, (-1 : Int), Builtin.Slice.slicePlaces lo hi (-1))) _ _ s
  rw [e1]
  show wpAny _ _ (pure ((n : Int) - 1, (-1 : Int), Builtin.Slice.slicePlaces ((n : Int) - 1) (-1) (-1))) _ _ s
  rw [e2]
  exact wpAny_pure h
theorem pick_rev (xs : Array Value) : ((List.range xs.size).filterMap fun (m : Nat) => xs[((xs.size : Int) - 1 + (m : Int) * (-1)).toNat]?).toArray = xs.toList.reverse.toArray := by
  congr 1
  have e : ((List.range xs.size).filterMap fun (m : Nat) => xs[((xs.size : Int) - 1 + (m : Int) * (-1)).toNat]?) = ((List.range xs.size).map fun k => xs.size - 1 - k).filterMap fun i => xs[i]? := by
    rw [List.filterMap_map]
    have q : (fun (m : Nat) => xs[((xs.size : Int) - 1 + (m : Int) * (-1)).toNat]?) = ((fun i => xs[i]?) ∘ fun k => xs.size - 1 - k) := by
      funext m
      have q : ((xs.size : Int) - 1 + (m : Int) * (-1)).toNat = xs.size - 1 - m := by omega
      show xs[((xs.size : Int) - 1 + (m : Int) * (-1)).toNat]? = xs[xs.size - 1 - m]?
      rw [q]
    rw [q]
  rw [e, PySem.W.krv_range, List.filterMap_reverse, PySem.W.krv_all]
theorem getItem_tuple_rev {t sl : Addr} {items : Array Value} {vl vu vs : Value} {Q : Value → Shared → Prop} (ht : IsTup s.heap t items) (hs : s.heap.IsSliceOf sl vl vu vs) (pl : IsPart vl none) (pu : IsPart vu none) (ps : IsPart vs (some (-1)))
    (h : Q (.ref s.heap.objs.size) { s with heap := s.heap.push { cls := .type "tuple", data := .seq items.toList.reverse.toArray } })
    (hsz : items.size ≤ sizeLine) : wpAny (model prog w) A (getItem (.ref t) (.ref sl)) Q E s := by
  have htake : sizeOk (.seq items.toList.reverse.toArray) := by
    show items.toList.reverse.toArray.size ≤ sizeLine
    rw [List.size_toArray, List.length_reverse, Array.length_toList]
    exact hsz
  obtain ⟨os, hos, hcs, hds⟩ := id hs
  have hTs : s.TypeIs (.ref sl) "slice" := ⟨os, hos, hcs⟩
  unfold getItem
  try with_reducible refine wpAny_holding ?_
  first | refine wpAny_bind (wpAny_pure ?_) | skip
  refine wpAny_bind (wpAny_sequenceKey ht.typeIs (by decide) ?_)
  refine wpAny_bind (wpAny_callSpecial?_slot (name := Str.ofString "__getitem__") ht.typeIs PyProof.Rows.slot_tuple_getitem
    (wpAny_call_entry PyProof.Rows.slot_tuple_getitem ht.typeIs entry_tuple_getitem ?_ (args_tuple_getitem _ _)))
  show wpAny _ _ (Builtin.Tuple.tupleItemsOf (.ref t) >>= _) _ _ s
  refine wpAny_bind (tupleItemsOf_ ht ?_)
  refine wpAny_bind (wpAny_typeOf hTs ?_)
  rw [if_pos (by decide)]
  refine wpAny_bind (applied_rev hs pl pu ps ?_)
  have hno : ¬ (((((items.size : Nat) : Int) - 1) == 0 && (-1 : Int) == 1 && items.size == items.size) = true) := by
    intro q
    rw [Bool.and_eq_true, Bool.and_eq_true] at q
    exact absurd q.1.2 (by decide)
  show wpAny _ _ (if ((((items.size : Nat) : Int) - 1) == 0 && (-1 : Int) == 1 && items.size == items.size) = true then _ else _) _ _ s
  rw [if_neg hno, pick_rev]
  first
    | exact wpAny_bind (m := Builtin.Tuple.tupleExact _) (wpAny_newObj_type (wpAny_pure ⟨_, rfl, wpAny_pure h⟩) htake)
    | exact wpAny_bind (m := Builtin.Tuple.tupleExact _) (wpAny_newObj_type (wpAny_bind (wpAny_pure (wpAny_pure ⟨_, rfl, wpAny_pure h⟩))) htake)
    | exact wpAny_bind (wpAny_bind (m := Builtin.Tuple.tupleExact _) (wpAny_newObj_type (wpAny_pure (wpAny_pure ⟨_, rfl, wpAny_pure h⟩)) htake))
    | exact wpAny_bind (wpAny_bind (m := Builtin.Tuple.tupleExact _) (wpAny_newObj_type (wpAny_pure ⟨_, rfl, wpAny_pure h⟩) htake))
end
section
variable {X : Cx} {e : Expr} {fa : Gam → M D}
def tRevT (K : PySem.W.Frag) (te : TE) : TE := fun σ H Q => te σ H fun x H1 => ∃ a xs, x = .ref a ∧ SqT K H1 a xs ∧ ∀ p, H1 p = none → Q (.ref p) (upd H1 p (.tup xs.reverse))
theorem pe_revT {e : Expr} {te : TE} {k : Nat} {p1 p2 p3 pos : Pos} (he : PE X e te) : PE X (.Subscript e (.Slice none none (some (.UnaryOp .USub (.Constant (.int 1) k p1) p2)) p3) pos) (tRevT X.K te) := by
  refine ⟨fun pins s σ H Q I h => ?_⟩
  refine Subscript_ (thn (he.run pins s σ H _ I h) fun v s1 ⟨x, H1, I1, r1, q1⟩ => ?_)
  obtain ⟨a, xs, ex, hx, q⟩ := q1
  subst ex
  cases r1
  have hst : PO X (some (.UnaryOp .USub (.Constant (.int 1) k p1) p2)) (tPart (tUn (rU fun i => .int (-i)) (tC (.int 1)))) := po_some (pe_un un_neg pe_int)
  refine wpAny_Slice (thn (po_none.run pins s1 σ H1 (fun o H2 => o = none ∧ H2 = H1) I1 ⟨rfl, rfl⟩) fun vl s2 ⟨l, H2, I2, pl, el, e2⟩ => ?_)
  subst el e2
  refine thn (po_none.run pins s2 σ H2 (fun o H3 => o = none ∧ H3 = H2) I2 ⟨rfl, rfl⟩) fun vu s3 ⟨u, H3, I3, pu, eu, e3⟩ => ?_
  subst eu e3
  refine thn (hst.run pins s3 σ H3 (fun o H4 => o = some (-1) ∧ H4 = H3) I3 ⟨1, rfl, -1, rfl, rfl, rfl⟩) fun vs s4 ⟨o, H4, I4, ps, eo, e4⟩ => ?_
  subst eo e4
  have I5 : Inv X pins σ H4 { s4 with heap := s4.heap.push { cls := .type "slice", data := .fields #[vl, vu, vs] } } := I4.kept (t' := s4.toks) fun b ob q => Heap.get?_push_of_some _ q
  obtain ⟨its, r, ht, hz⟩ := I5.tuple hx
  have hlen := r.length
  show wpAny (model X.prog X.w) X.A (subscriptTail e (.Slice none none (some (.UnaryOp .USub (.Constant (.int 1) k p1) p2)) p3) (.ref a) (.ref s4.heap.objs.size)) (EP X pins σ Q) X.xe { s4 with heap := s4.heap.push { cls := .type "slice", data := .fields #[vl, vu, vs] } }
  refine tail_any (ops := [.ref a, .ref s4.heap.objs.size]) ht.typeIs PyProof.Rows.slot_tuple_getitem.lookup ?_ (by with_unfolding_all rfl)
  refine getItem_tuple_rev ht (Heap.IsSliceOf.new _ vl vu vs) pl pu ps ?_ (by rw [List.size_toArray]; omega)
  refine ⟨.ref _, _, I5.laid (t' := s4.toks) (o := .tup xs.reverse) (fun b ob q => Heap.get?_push_of_some _ q) (Nat.le_refl _) ?_, rfl, q _ (I5.hok.fresh (Nat.le_refl _))⟩
  exact ⟨by rw [List.length_reverse]; exact hz, _, r.reverse, IsTup.new _ _⟩
def revT : D → Option D
  | .tup l => some (.tup l.reverse)
  | _ => none
def revM (f : Gam → M D) : Gam → M D := fun Γ => bnd (f Γ) fun d => lift (revT d)
theorem de_rev {k : Nat} {p1 p2 p3 pos : Pos} (h : DP X e fa) : DE X (.Subscript e (.Slice none none (some (.UnaryOp .USub (.Constant (.int 1) k p1) p2)) p3) pos) (revM fa) :=
  pe_imp (pe_revT h) fun σ H Q ⟨pa, F, Γ, pt, d, p', r, ev, kk⟩ => by
    obtain ⟨x, p1, e1, ev1⟩ := bnd_some ev
    obtain ⟨e2, e3⟩ := lift_some ev1
    have e3' : p' = p1 := e3
    subst e3'
    refine ⟨pa, F, Γ, pt, x, p', r, e1, fun v H1 F1 g1 q1 d1 => ?_⟩
    cases x with
    | tup l =>
      have z := Option.some.inj e2
      have z' : d = .tup l.reverse := z.symm
      subst z'
      obtain ⟨a, xs, rfl, ha, dl⟩ := d1_tup d1
      refine ⟨a, xs, rfl, SqT.of (g1.fh _ _ ha), fun p hp => ?_⟩
      have pu : Pur H1 F1 (upd H1 p (.tup xs.reverse)) (upd F1 p (.tup xs.reverse)) := Pur.put g1.fh hp
      exact kk _ _ _ (g1.trans pu.grow) (q1.pur pu) (d_tup upd_same (DenL.reverse (DenL.mono pu.ff _ _ dl)))
    | _ => cases e2
end
end Dx

set_option Elab.async false
set_option linter.all false
set_option maxRecDepth 100000
set_option maxHeartbeats 4000000
/-! zip of two and of three, lists and tuples -/
namespace Dx
open PySem PySem.Spec PyProof.Rows L2
open Evl (Ex)

/-- a list, or a tuple -/
def SqK (K : PySem.W.Frag) (k : Bool) (H : Hp) (a : Addr) (xs : List V) : Prop := if k = true then SqT K H a xs else SqL K H a xs
def IsSK (k : Bool) (h : Heap) (a : Addr) (its : Array Value) : Prop := if k = true then h.IsTuple a its else h.IsList a its
def ItAt (k : Bool) (h : Heap) (it a : Addr) (i : Nat) : Prop := if k = true then h.IsTupleIter it a i else h.IsListIter it a i
def newIt (k : Bool) (a : Addr) : Obj := if k = true then { cls := .type "tuple_iterator", data := .fields #[.ref a, .int 0 0] } else { cls := .type "list_iterator", data := .fields #[.ref a, .int 0 0] }
theorem sqk_use {X : Cx} {pins : List (Addr × Obj)} {σ : L2.St} {H : Hp} {s : Shared} {k : Bool} {a : Addr} {xs : List V} (I : Inv X pins σ H s) (h : SqK X.K k H a xs) : ∃ its, Vals xs its ∧ IsSK k s.heap a its.toArray := by
  cases k with
  | true => obtain ⟨its, r, p, _⟩ := I.tuple (show SqT X.K H a xs from h); exact ⟨its, r, p⟩
  | false => obtain ⟨its, r, p, _⟩ := I.list (show SqL X.K H a xs from h); exact ⟨its, r, p.isList⟩
theorem sqk_inj {X : Cx} {pins : List (Addr × Obj)} {σ : L2.St} {H : Hp} {s : Shared} {k : Bool} {a : Addr} {xs ys : List V} (I : Inv X pins σ H s) (h : SqK X.K k H a xs) (g : SqK X.K k H a ys) : xs = ys := by
  cases k with
  | true => exact I.tuple_inj h g
  | false => exact I.list_inj h g
theorem drawsK {prog : Program} {w : World} {A : Around} (hh : A.handled = none) (k : Bool) (it a : Addr) (hne : a ≠ it) (items : Array Value) :
    Draws prog w A it [it, a] items.size (fun i v => items[i]? = some v) (fun i h => ItAt k h it a i ∧ IsSK k h a items) := by
  cases k with
  | true => exact Draws.tuple hh it a hne items
  | false => exact Draws.list hh it a hne items
theorem beginsK (k : Bool) (a : Addr) (items : Array Value) : Begins (.ref a) (newIt k a) fun h => IsSK k h a items := by
  cases k with
  | true => exact begins_tuple a items
  | false => exact begins_list a items
theorem ItAt.keep {k : Bool} {h h' : Heap} {it a : Addr} {i : Nat} (st : ItAt k h it a i) (g : ∀ o, h.get? it = some o → h'.get? it = some o) : ItAt k h' it a i := by
  cases k with
  | true => exact Heap.IsTupleIter.at st g
  | false => exact Heap.IsListIter.at st g
theorem ItAt.obj {k : Bool} {h : Heap} {it a : Addr} {i : Nat} (st : ItAt k h it a i) : ∃ o, h.get? it = some o ∧ ∀ v, o.data ≠ .cell v := by
  cases k with
  | true =>
    obtain ⟨o, e, _, d⟩ := (show h.IsTupleIter it a i from st)
    exact ⟨o, e, fun v q => by rw [d] at q; cases q⟩
  | false =>
    obtain ⟨o, e, _, d⟩ := (show h.IsListIter it a i from st)
    exact ⟨o, e, fun v q => by rw [d] at q; cases q⟩
theorem ItAt.new {k : Bool} {h : Heap} {it a : Addr} (e : h.get? it = some (newIt k a)) : ItAt k h it a 0 := by
  cases k with
  | true => exact ⟨_, e, rfl, rfl⟩
  | false => exact ⟨_, e, rfl, rfl⟩

/-! ### three -/
def ItZ3 (K : PySem.W.Frag) (k1 k2 k3 : Bool) (a b c : Addr) : It :=
  ⟨fun i H => ∃ (xs ys zs : List V), SqK K k1 H a xs ∧ SqK K k2 H b ys ∧ SqK K k3 H c zs ∧ i < xs.length ∧ i < ys.length ∧ i < zs.length,
    fun i H v H' => ∃ T x y z, v = .ref T ∧ H T = none ∧ H' = upd H T (.tup [x, y, z]) ∧ (∀ xs, SqK K k1 H a xs → xs[i]? = some x) ∧ (∀ ys, SqK K k2 H b ys → ys[i]? = some y) ∧ ∀ zs, SqK K k3 H c zs → zs[i]? = some z,
    fun i H => ∃ xs ys zs : List V, SqK K k1 H a xs ∧ SqK K k2 H b ys ∧ SqK K k3 H c zs ∧ i ≤ xs.length ∧ i ≤ ys.length ∧ i ≤ zs.length ∧ (i = xs.length ∨ i = ys.length ∨ i = zs.length)⟩
theorem ne_a {x y : Nat} (h : x < y ∨ y < x) : x ≠ y := by omega
theorem nm_a {x i a : Nat} (h : x < i ∨ i < x) (h2 : x < a ∨ a < x) : x ∉ [i, a] := by
  intro q
  have q' : x = i ∨ x = a := by simpa using q
  omega
theorem sep3_of {z TI TO i1 i2 i3 a b c n : Nat} (h1 : i1 = n) (h2 : i2 = n + 1) (h3 : i3 = n + 2) (h4 : TI = n + 3) (h5 : TO = n + 4) (h6 : z = n + 5) (ha : a < n) (hb : b < n) (hc : c < n) : ZipSep3 z TI TO i1 i2 i3 [i1, a] [i2, b] [i3, c] := by
  constructor <;> first
    | exact List.mem_cons_self ..
    | (apply ne_a; omega)
    | (apply nm_a <;> omega)
theorem turn_z3 {P : Program} {w : World} {K : PySem.W.Frag} {elts : List Expr} {kk : Nat} {tpos : Pos} {a b c z TI TO i1 i2 i3 : Addr} {k1 k2 k3 : Bool} (D : ZipSep3 z TI TO i1 i2 i3 [i1, a] [i2, b] [i3, c]) (n1 : a ≠ i1) (n2 : b ≠ i2) (n3 : c ≠ i3) :
    Turn P w K (.Tuple elts kk tpos) (ItZ3 K k1 k2 k3 a b c) [z, TI, TO, i1, i2, i3] z (fun i h => IsZip h z TI TO .none ∧ IsTupOf3 h TI (.ref i1) (.ref i2) (.ref i3) ∧ (∃ x y u, IsTupOf3 h TO x y u) ∧ ItAt k1 h i1 a i ∧ ItAt k2 h i2 b i ∧ ItAt k3 h i3 c i) where
  mem := by simp
  obj := fun i h st d hd => by
    obtain ⟨hz, hTI, ⟨x, y, u, hTO⟩, h1, h2, h3⟩ := st
    have e' : d = z ∨ d = TI ∨ d = TO ∨ d = i1 ∨ d = i2 ∨ d = i3 := by simpa using hd
    rcases e' with q | q | q | q | q | q
    · rw [q]; exact ⟨_, hz, fun v q => nomatch q⟩
    · rw [q]; exact ⟨_, hTI, fun v q => nomatch q⟩
    · rw [q]; exact ⟨_, hTO, fun v q => nomatch q⟩
    · rw [q]; exact h1.obj
    · rw [q]; exact h2.obj
    · rw [q]; exact h3.obj
  keep := fun i h h' st k => by
    obtain ⟨hz, hTI, ⟨x, y, u, hTO⟩, h1, h2, h3⟩ := st
    exact ⟨k z (by simp) _ hz, k TI (by simp) _ hTI, ⟨x, y, u, k TO (by simp) _ hTO⟩, h1.keep fun o q => k i1 (by simp) o q, h2.keep fun o q => k i2 (by simp) o q, h3.keep fun o q => k i3 (by simp) o q⟩
  item := by
    intro X hP hw hK hc i pins s σ H E I hf st hg
    subst hP hw hK
    obtain ⟨hz, hTI, ⟨x0, y0, u0, hTO⟩, h1, h2, h3⟩ := st
    obtain ⟨xs, ys, zs, hqx, hqy, hqz, hx, hy, hzz⟩ := hg
    obtain ⟨its1, rv1, p1⟩ := sqk_use I hqx
    obtain ⟨its2, rv2, p2⟩ := sqk_use I hqy
    obtain ⟨its3, rv3, p3⟩ := sqk_use I hqz
    have l1 := rv1.length
    have l2 := rv2.length
    have l3 := rv3.length
    have hh : X.A.in1.handled = none := I.ok.hd hc
    have hzl : z < s.heap.objs.size := Heap.lt_size hz
    refine wpAny_pyNext_zipD3_item D (drawsK hh k1 i1 a n1 its1.toArray) (drawsK hh k2 i2 b n2 its2.toArray) (drawsK hh k3 i3 c n3 its3.toArray) hz hTI hTO (i := i) ⟨h1, p1⟩ ⟨h2, p2⟩ ⟨h3, p3⟩ (by simp; omega) (by simp; omega) (by simp; omega)
      fun x1 x2 x3 h' tk y1 y2 y3 z' TO' d1 d2 d3 hT hsz hk => ?_
    refine ⟨_, rfl, wpAny_letOwnedTupleGo_zip (s := { s with heap := h', toks := tk }) z' fun h'' z'' sb => ?_⟩
    obtain ⟨v1, e1⟩ : ∃ v, xs[i]? = some v := ⟨_, List.getElem?_eq_getElem hx⟩
    obtain ⟨v2, e2⟩ : ∃ v, ys[i]? = some v := ⟨_, List.getElem?_eq_getElem hy⟩
    obtain ⟨v3, e3⟩ : ∃ v, zs[i]? = some v := ⟨_, List.getElem?_eq_getElem hzz⟩
    obtain ⟨u1, g1, r1⟩ := rv1.get e1
    obtain ⟨u2, g2, r2⟩ := rv2.get e2
    obtain ⟨u3, g3, r3⟩ := rv3.get e3
    have q1 : x1 = u1 := by
      have : its1[i]? = some x1 := by simpa using y1
      rw [g1] at this
      exact (Option.some.inj this).symm
    have q2 : x2 = u2 := by
      have : its2[i]? = some x2 := by simpa using y2
      rw [g2] at this
      exact (Option.some.inj this).symm
    have q3 : x3 = u3 := by
      have : its3[i]? = some x3 := by simpa using y3
      rw [g3] at this
      exact (Option.some.inj this).symm
    subst q1 q2 q3
    have hT2 : h''.get? s.heap.objs.size = some { cls := .type "tuple", data := .seq #[x1, x2, x3] } := (sb.2 _ (Nat.ne_of_gt hzl)).trans hT
    have new : ObjOk X.prog X.w (upd H s.heap.objs.size (.tup [v1, v2, v3])) h'' s.heap.objs.size (.tup [v1, v2, v3]) :=
      ⟨by show 3 ≤ sizeLine; decide, [x1, x2, x3], .cons r1 (.cons r2 (.cons r3 .nil)), ⟨_, hT2, rfl, _, rfl⟩⟩
    have keep' : ∀ d o, d ∉ [z, TI, TO, i1, i2, i3] → s.heap.get? d = some o → h''.get? d = some o := fun d o hb q =>
      (sb.2 d (fun q' => hb (by simp [q']))).trans (hk d o (fun q' => hb (by simp [q'])) (fun q' => hb (by simp [q'])) (fun q' => hb (by simp [q'])) (fun q' => hb (by simp [q'])) (fun q' => hb (by simp [q'])) q)
    have I1 : Inv X pins σ (upd H s.heap.objs.size (.tup [v1, v2, v3])) { s with heap := h'', toks := tk } :=
      I.turnedNew (t' := tk) (ch := [z, TI, TO, i1, i2, i3]) keep' hf (Nat.le_refl _) new
    refine ⟨.ref s.heap.objs.size, _, I1, rfl, ⟨_, v1, v2, v3, rfl, I.hok.fresh (Nat.le_refl _), rfl, fun l hl => by rw [sqk_inj I hl hqx]; exact e1, fun l hl => by rw [sqk_inj I hl hqy]; exact e2, fun l hl => by rw [sqk_inj I hl hqz]; exact e3⟩,
      ⟨z'', ?_, ⟨x1, x2, x3, ?_⟩, ?_, ?_, ?_⟩, fun d hdm => ?_⟩
    · exact (sb.2 _ D.TIz).trans (hk _ _ D.TIz D.TITO D.TIi1 D.TIi2 D.TIi3 hTI)
    · exact (sb.2 _ D.TOz).trans TO'
    · exact d1.1.keep fun o q => (sb.2 _ (fun e => D.zi1 e.symm)).trans q
    · exact d2.1.keep fun o q => (sb.2 _ (fun e => D.zi2 e.symm)).trans q
    · exact d3.1.keep fun o q => (sb.2 _ (fun e => D.zi3 e.symm)).trans q
    · have hlt : d < s.heap.objs.size := by
        have e' : d = z ∨ d = TI ∨ d = TO ∨ d = i1 ∨ d = i2 ∨ d = i3 := by simpa using hdm
        rcases e' with q | q | q | q | q | q
        · rw [q]; exact hzl
        · rw [q]; exact Heap.lt_size hTI
        · rw [q]; exact Heap.lt_size hTO
        · rw [q]; obtain ⟨_, e1, _⟩ := h1.obj; exact Heap.lt_size e1
        · rw [q]; obtain ⟨_, e1, _⟩ := h2.obj; exact Heap.lt_size e1
        · rw [q]; obtain ⟨_, e1, _⟩ := h3.obj; exact Heap.lt_size e1
      rw [upd_ne (Nat.ne_of_lt hlt)]
      exact (hf d hdm).1
  done := by
    intro X hP hw hK hc i pins s σ H E I hf st hg
    subst hP hw hK
    obtain ⟨hz, hTI, ⟨x0, y0, u0, hTO⟩, h1, h2, h3⟩ := st
    obtain ⟨xs, ys, zs, hqx, hqy, hqz, hx, hy, hzz, hend⟩ := hg
    obtain ⟨its1, rv1, p1⟩ := sqk_use I hqx
    obtain ⟨its2, rv2, p2⟩ := sqk_use I hqy
    obtain ⟨its3, rv3, p3⟩ := sqk_use I hqz
    have l1 := rv1.length
    have l2 := rv2.length
    have l3 := rv3.length
    have hh : X.A.in1.handled = none := I.ok.hd hc
    refine wpAny_pyNext_zipD3_end D (drawsK hh k1 i1 a n1 its1.toArray) (drawsK hh k2 i2 b n2 its2.toArray) (drawsK hh k3 i3 c n3 its3.toArray) hz hTI hTO (i := i) ⟨h1, p1⟩ ⟨h2, p2⟩ ⟨h3, p3⟩ (by simp; omega) (by simp; omega) (by simp; omega) (by simp; omega)
      fun h' tk hk => ⟨rfl, I.turnedL (t' := tk) (ch := [z, TI, TO, i1, i2, i3]) (fun d o hb q =>
        hk d o (fun q' => hb (by simp [q'])) (fun q' => hb (by simp [q'])) (fun q' => hb (by simp [q'])) (fun q' => hb (by simp [q'])) (fun q' => hb (by simp [q'])) q) hf⟩
  self := fun A i s Q E st h => wpAny_pyIter_zip st.1 h

/-! ### two -/
def ItZ2 (K : PySem.W.Frag) (k1 k2 : Bool) (a b : Addr) : It :=
  ⟨fun i H => ∃ (xs ys : List V), SqK K k1 H a xs ∧ SqK K k2 H b ys ∧ i < xs.length ∧ i < ys.length,
    fun i H v H' => ∃ T x y, v = .ref T ∧ H T = none ∧ H' = upd H T (.tup [x, y]) ∧ (∀ xs, SqK K k1 H a xs → xs[i]? = some x) ∧ ∀ ys, SqK K k2 H b ys → ys[i]? = some y,
    fun i H => ∃ xs ys : List V, SqK K k1 H a xs ∧ SqK K k2 H b ys ∧ i ≤ xs.length ∧ i ≤ ys.length ∧ (i = xs.length ∨ i = ys.length)⟩
theorem sep2_of {z TI TO i1 i2 a b n : Nat} (h1 : i1 = n) (h2 : i2 = n + 1) (h4 : TI = n + 2) (h5 : TO = n + 3) (h6 : z = n + 4) (ha : a < n) (hb : b < n) : ZipSep2 z TI TO i1 i2 [i1, a] [i2, b] := by
  constructor <;> first
    | exact List.mem_cons_self ..
    | (apply ne_a; omega)
    | (apply nm_a <;> omega)
theorem turn_z2 {P : Program} {w : World} {K : PySem.W.Frag} {elts : List Expr} {kk : Nat} {tpos : Pos} {a b z TI TO i1 i2 : Addr} {k1 k2 : Bool} (D : ZipSep2 z TI TO i1 i2 [i1, a] [i2, b]) (n1 : a ≠ i1) (n2 : b ≠ i2) :
    Turn P w K (.Tuple elts kk tpos) (ItZ2 K k1 k2 a b) [z, TI, TO, i1, i2] z (fun i h => IsZip h z TI TO .none ∧ IsTupOf2 h TI (.ref i1) (.ref i2) ∧ (∃ x y, IsTupOf2 h TO x y) ∧ ItAt k1 h i1 a i ∧ ItAt k2 h i2 b i) where
  mem := by simp
  obj := fun i h st d hd => by
    obtain ⟨hz, hTI, ⟨x, y, hTO⟩, h1, h2⟩ := st
    have e' : d = z ∨ d = TI ∨ d = TO ∨ d = i1 ∨ d = i2 := by simpa using hd
    rcases e' with q | q | q | q | q
    · rw [q]; exact ⟨_, hz, fun v q => nomatch q⟩
    · rw [q]; exact ⟨_, hTI, fun v q => nomatch q⟩
    · rw [q]; exact ⟨_, hTO, fun v q => nomatch q⟩
    · rw [q]; exact h1.obj
    · rw [q]; exact h2.obj
  keep := fun i h h' st k => by
    obtain ⟨hz, hTI, ⟨x, y, hTO⟩, h1, h2⟩ := st
    exact ⟨k z (by simp) _ hz, k TI (by simp) _ hTI, ⟨x, y, k TO (by simp) _ hTO⟩, h1.keep fun o q => k i1 (by simp) o q, h2.keep fun o q => k i2 (by simp) o q⟩
  item := by
    intro X hP hw hK hc i pins s σ H E I hf st hg
    subst hP hw hK
    obtain ⟨hz, hTI, ⟨x0, y0, hTO⟩, h1, h2⟩ := st
    obtain ⟨xs, ys, hqx, hqy, hx, hy⟩ := hg
    obtain ⟨its1, rv1, p1⟩ := sqk_use I hqx
    obtain ⟨its2, rv2, p2⟩ := sqk_use I hqy
    have l1 := rv1.length
    have l2 := rv2.length
    have hh : X.A.in1.handled = none := I.ok.hd hc
    have hzl : z < s.heap.objs.size := Heap.lt_size hz
    refine wpAny_pyNext_zipD2_item D (drawsK hh k1 i1 a n1 its1.toArray) (drawsK hh k2 i2 b n2 its2.toArray) hz hTI hTO (i := i) ⟨h1, p1⟩ ⟨h2, p2⟩ (by simp; omega) (by simp; omega)
      fun x1 x2 h' tk y1 y2 z' TO' d1 d2 hT hsz hk => ?_
    refine ⟨_, rfl, wpAny_letOwnedTupleGo_zip (s := { s with heap := h', toks := tk }) z' fun h'' z'' sb => ?_⟩
    obtain ⟨v1, e1⟩ : ∃ v, xs[i]? = some v := ⟨_, List.getElem?_eq_getElem hx⟩
    obtain ⟨v2, e2⟩ : ∃ v, ys[i]? = some v := ⟨_, List.getElem?_eq_getElem hy⟩
    obtain ⟨u1, g1, r1⟩ := rv1.get e1
    obtain ⟨u2, g2, r2⟩ := rv2.get e2
    have q1 : x1 = u1 := by
      have : its1[i]? = some x1 := by simpa using y1
      rw [g1] at this
      exact (Option.some.inj this).symm
    have q2 : x2 = u2 := by
      have : its2[i]? = some x2 := by simpa using y2
      rw [g2] at this
      exact (Option.some.inj this).symm
    subst q1 q2
    have hT2 : h''.get? s.heap.objs.size = some { cls := .type "tuple", data := .seq #[x1, x2] } := (sb.2 _ (Nat.ne_of_gt hzl)).trans hT
    have new : ObjOk X.prog X.w (upd H s.heap.objs.size (.tup [v1, v2])) h'' s.heap.objs.size (.tup [v1, v2]) :=
      ⟨by show 2 ≤ sizeLine; decide, [x1, x2], .cons r1 (.cons r2 .nil), ⟨_, hT2, rfl, _, rfl⟩⟩
    have keep' : ∀ d o, d ∉ [z, TI, TO, i1, i2] → s.heap.get? d = some o → h''.get? d = some o := fun d o hb q =>
      (sb.2 d (fun q' => hb (by simp [q']))).trans (hk d o (fun q' => hb (by simp [q'])) (fun q' => hb (by simp [q'])) (fun q' => hb (by simp [q'])) (fun q' => hb (by simp [q'])) q)
    have I1 : Inv X pins σ (upd H s.heap.objs.size (.tup [v1, v2])) { s with heap := h'', toks := tk } :=
      I.turnedNew (t' := tk) (ch := [z, TI, TO, i1, i2]) keep' hf (Nat.le_refl _) new
    refine ⟨.ref s.heap.objs.size, _, I1, rfl, ⟨_, v1, v2, rfl, I.hok.fresh (Nat.le_refl _), rfl, fun l hl => by rw [sqk_inj I hl hqx]; exact e1, fun l hl => by rw [sqk_inj I hl hqy]; exact e2⟩,
      ⟨z'', ?_, ⟨x1, x2, ?_⟩, ?_, ?_⟩, fun d hdm => ?_⟩
    · exact (sb.2 _ D.TIz).trans (hk _ _ D.TIz D.TITO D.TIi1 D.TIi2 hTI)
    · exact (sb.2 _ D.TOz).trans TO'
    · exact d1.1.keep fun o q => (sb.2 _ (fun e => D.zi1 e.symm)).trans q
    · exact d2.1.keep fun o q => (sb.2 _ (fun e => D.zi2 e.symm)).trans q
    · have hlt : d < s.heap.objs.size := by
        have e' : d = z ∨ d = TI ∨ d = TO ∨ d = i1 ∨ d = i2 := by simpa using hdm
        rcases e' with q | q | q | q | q
        · rw [q]; exact hzl
        · rw [q]; exact Heap.lt_size hTI
        · rw [q]; exact Heap.lt_size hTO
        · rw [q]; obtain ⟨_, e1, _⟩ := h1.obj; exact Heap.lt_size e1
        · rw [q]; obtain ⟨_, e1, _⟩ := h2.obj; exact Heap.lt_size e1
      rw [upd_ne (Nat.ne_of_lt hlt)]
      exact (hf d hdm).1
  done := by
    intro X hP hw hK hc i pins s σ H E I hf st hg
    subst hP hw hK
    obtain ⟨hz, hTI, ⟨x0, y0, hTO⟩, h1, h2⟩ := st
    obtain ⟨xs, ys, hqx, hqy, hx, hy, hend⟩ := hg
    obtain ⟨its1, rv1, p1⟩ := sqk_use I hqx
    obtain ⟨its2, rv2, p2⟩ := sqk_use I hqy
    have l1 := rv1.length
    have l2 := rv2.length
    have hh : X.A.in1.handled = none := I.ok.hd hc
    refine wpAny_pyNext_zipD2_end D (drawsK hh k1 i1 a n1 its1.toArray) (drawsK hh k2 i2 b n2 its2.toArray) hz hTI hTO (i := i) ⟨h1, p1⟩ ⟨h2, p2⟩ (by simp; omega) (by simp; omega) (by simp; omega)
      fun h' tk hk => ⟨rfl, I.turnedL (t' := tk) (ch := [z, TI, TO, i1, i2]) (fun d o hb q =>
        hk d o (fun q' => hb (by simp [q'])) (fun q' => hb (by simp [q'])) (fun q' => hb (by simp [q'])) (fun q' => hb (by simp [q'])) q) hf⟩
  self := fun A i s Q E st h => wpAny_pyIter_zip st.1 h

/-! ### zip(..), as it is walked -/
def seqSK : D → Option (Bool × List D)
  | .lst l => some (false, l)
  | .tup l => some (true, l)
  | _ => none
theorem seqSK_den {K : PySem.W.Frag} {pa : Option Addr} {F : Hp} {d : D} {l : List D} {v : V} (e : seqZ d = some l) (h : Den K pa F d v) : ∃ (k : Bool) (a : Addr) (xs : List V), v = .ref a ∧ (∀ H, Ex F H → SqK K k H a xs) ∧ DenL K pa F l xs := by
  cases d with
  | lst l' =>
    cases e
    simp only [Den] at h
    obtain ⟨a, xs, rfl, h1, h2⟩ := h
    exact ⟨false, a, xs, rfl, fun H fh => SqL.of (fh _ _ h1), h2⟩
  | tup l' =>
    cases e
    simp only [Den] at h
    obtain ⟨a, xs, rfl, h1, h2⟩ := h
    exact ⟨true, a, xs, rfl, fun H fh => SqT.of (fh _ _ h1), h2⟩
  | _ => cases e
def zipL2 : List D → List D → List D
  | x :: l, y :: m => .tup [x, y] :: zipL2 l m
  | _, _ => []
def zipL3 : List D → List D → List D → List D
  | x :: l, y :: m, z :: n => .tup [x, y, z] :: zipL3 l m n
  | _, _, _ => []
theorem zipL2_length : ∀ (l m : List D), (zipL2 l m).length = min l.length m.length
  | [], m => by simp [zipL2]
  | x :: l, [] => by simp [zipL2]
  | x :: l, y :: m => by simp only [zipL2, List.length_cons, zipL2_length l m]; omega
theorem zipL2_get : ∀ (l m : List D) (i : Nat) (d : D), (zipL2 l m)[i]? = some d → ∃ x y, l[i]? = some x ∧ m[i]? = some y ∧ d = .tup [x, y]
  | [], m, i, d, h => by simp [zipL2] at h
  | x :: l, [], i, d, h => by simp [zipL2] at h
  | x :: l, y :: m, 0, d, h => ⟨x, y, rfl, rfl, by simpa [zipL2, eq_comm] using h⟩
  | x :: l, y :: m, i + 1, d, h => by
    obtain ⟨a, b, e1, e2, e3⟩ := zipL2_get l m i d (by simpa [zipL2] using h)
    exact ⟨a, b, by simpa using e1, by simpa using e2, e3⟩
theorem zipL3_length : ∀ (l m n : List D), (zipL3 l m n).length = min (min l.length m.length) n.length
  | [], m, n => by simp [zipL3]
  | x :: l, [], n => by simp [zipL3]
  | x :: l, y :: m, [] => by simp [zipL3]
  | x :: l, y :: m, z :: n => by simp only [zipL3, List.length_cons, zipL3_length l m n]; omega
theorem zipL3_get : ∀ (l m n : List D) (i : Nat) (d : D), (zipL3 l m n)[i]? = some d → ∃ x y z, l[i]? = some x ∧ m[i]? = some y ∧ n[i]? = some z ∧ d = .tup [x, y, z]
  | [], m, n, i, d, h => by simp [zipL3] at h
  | x :: l, [], n, i, d, h => by simp [zipL3] at h
  | x :: l, y :: m, [], i, d, h => by simp [zipL3] at h
  | x :: l, y :: m, z :: n, 0, d, h => ⟨x, y, z, rfl, rfl, rfl, by simpa [zipL3, eq_comm] using h⟩
  | x :: l, y :: m, z :: n, i + 1, d, h => by
    obtain ⟨a, b, c, e1, e2, e3, e4⟩ := zipL3_get l m n i d (by simpa [zipL3] using h)
    exact ⟨a, b, c, by simpa using e1, by simpa using e2, by simpa using e3, e4⟩
def zip2G : List D → Option (List D)
  | [a, b] => match seqZ a, seqZ b with
    | some l, some m => some (zipL2 l m)
    | _, _ => none
  | _ => none
def zip3G : List D → Option (List D)
  | [a, b, c] => match seqZ a, seqZ b, seqZ c with
    | some l, some m, some n => some (zipL3 l m n)
    | _, _, _ => none
  | _ => none
theorem it_z2 {K : PySem.W.Frag} {pa : Option Addr} {F : Hp} {a b : Addr} {xs ys : List V} {l m : List D} {k1 k2 : Bool} (h1 : ∀ H, Ex F H → SqK K k1 H a xs) (d1 : DenL K pa F l xs) (h2 : ∀ H, Ex F H → SqK K k2 H b ys) (d2 : DenL K pa F m ys) : ItOk K pa F (ItZ2 K k1 k2 a b) (zipL2 l m) := fun i H F' e1 e2 => by
  have q1 := h1 H (e1.trans e2)
  have q2 := h2 H (e1.trans e2)
  have n1 := d1.length
  have n2 := d2.length
  refine ⟨fun d hd => ?_, fun hl => ?_⟩
  · obtain ⟨x, y, g1, g2, rfl⟩ := zipL2_get l m i d hd
    obtain ⟨v, hv, dv⟩ := d1.get g1
    obtain ⟨u, hu, du⟩ := d2.get g2
    refine ⟨⟨xs, ys, q1, q2, (List.getElem?_eq_some_iff.mp hv).1, (List.getElem?_eq_some_iff.mp hu).1⟩, fun z H' y => ?_⟩
    obtain ⟨T, x1, y1, rfl, hT, rfl, f1, f2⟩ := y
    have s1 := f1 xs q1
    rw [hv] at s1
    cases s1
    have s2 := f2 ys q2
    rw [hu] at s2
    cases s2
    have pu : Pur H F' (upd H T (.tup [v, u])) (upd F' T (.tup [v, u])) := Pur.put e2 hT
    exact ⟨_, pu, d_tup upd_same (DenL.cons (Den.mono (e1.trans pu.ff) _ _ dv) (DenL.cons (Den.mono (e1.trans pu.ff) _ _ du) DenL.nil))⟩
  · rw [zipL2_length] at hl
    exact ⟨xs, ys, q1, q2, by omega, by omega, by omega⟩
theorem it_z3 {K : PySem.W.Frag} {pa : Option Addr} {F : Hp} {a b c : Addr} {xs ys zs : List V} {l m n : List D} {k1 k2 k3 : Bool} (h1 : ∀ H, Ex F H → SqK K k1 H a xs) (d1 : DenL K pa F l xs) (h2 : ∀ H, Ex F H → SqK K k2 H b ys) (d2 : DenL K pa F m ys)
    (h3 : ∀ H, Ex F H → SqK K k3 H c zs) (d3 : DenL K pa F n zs) : ItOk K pa F (ItZ3 K k1 k2 k3 a b c) (zipL3 l m n) := fun i H F' e1 e2 => by
  have q1 := h1 H (e1.trans e2)
  have q2 := h2 H (e1.trans e2)
  have q3 := h3 H (e1.trans e2)
  have n1 := d1.length
  have n2 := d2.length
  have n3 := d3.length
  refine ⟨fun d hd => ?_, fun hl => ?_⟩
  · obtain ⟨x, y, z, g1, g2, g3, rfl⟩ := zipL3_get l m n i d hd
    obtain ⟨v, hv, dv⟩ := d1.get g1
    obtain ⟨u, hu, du⟩ := d2.get g2
    obtain ⟨w, hw, dw⟩ := d3.get g3
    refine ⟨⟨xs, ys, zs, q1, q2, q3, (List.getElem?_eq_some_iff.mp hv).1, (List.getElem?_eq_some_iff.mp hu).1, (List.getElem?_eq_some_iff.mp hw).1⟩, fun z H' y => ?_⟩
    obtain ⟨T, x1, y1, z1, rfl, hT, rfl, f1, f2, f3⟩ := y
    have s1 := f1 xs q1
    rw [hv] at s1
    cases s1
    have s2 := f2 ys q2
    rw [hu] at s2
    cases s2
    have s3 := f3 zs q3
    rw [hw] at s3
    cases s3
    have pu : Pur H F' (upd H T (.tup [v, u, w])) (upd F' T (.tup [v, u, w])) := Pur.put e2 hT
    exact ⟨_, pu, d_tup upd_same (DenL.cons (Den.mono (e1.trans pu.ff) _ _ dv) (DenL.cons (Den.mono (e1.trans pu.ff) _ _ du) (DenL.cons (Den.mono (e1.trans pu.ff) _ _ dw) DenL.nil)))⟩
  · rw [zipL3_length] at hl
    exact ⟨xs, ys, zs, q1, q2, q3, by omega, by omega, by omega, by omega⟩
def iZip2 (K : PySem.W.Frag) (ta : TA) : TI := fun σ H R => ta σ H fun vs H1 => ∃ k1 k2 a b xs ys, vs = [.ref a, .ref b] ∧ SqK K k1 H1 a xs ∧ SqK K k2 H1 b ys ∧ R (ItZ2 K k1 k2 a b) H1
theorem sqk_lt {X : Cx} {pins : List (Addr × Obj)} {σ : L2.St} {H : Hp} {s : Shared} {k : Bool} {a : Addr} {xs : List V} (I : Inv X pins σ H s) (h : SqK X.K k H a xs) : a < s.heap.objs.size := by
  obtain ⟨its, _, p⟩ := sqk_use I h
  cases k with
  | true =>
    obtain ⟨o, ho, _⟩ := (show s.heap.IsTuple a its.toArray from p)
    exact Heap.lt_size ho
  | false =>
    obtain ⟨o, ho, _⟩ := (show s.heap.IsList a its.toArray from p)
    exact Heap.lt_size ho
theorem pi_zip2 {X : Cx} {e e2 : Expr} {ta : TA} {p pos tpos : Pos} {elts : List Expr} {kk : Nat} (hg : Gl X "zip") (hm : X.mg "zip" = none) (ha : PA X [e, e2] ta)
    (hs : starEach [e, e2] X.env = (false, eval e X.env) :: starEach [e2] X.env := by rfl) (hpl : (backTo pos (starEach [e2] X.env)).any (·.1) = false := by rfl) :
    PI X (.Tuple elts kk tpos) (.Call (.Name "zip" p) [e, e2] [] pos) (iZip2 X.K ta) := by
  refine ⟨fun pins s σ H R I h => ?_⟩
  refine Call_ (ld_blt I hg hm PyProof.Rows.boot_zip (PyProof.Rows.callWith_type1 (thn (ha.run pos pins s σ H _ I h) fun us s1 ⟨vs, H1, I1, r1, q1⟩ => ?_) hs hpl))
  obtain ⟨k1, k2, a, b, xs, ys, ex, hqx, hqy, q⟩ := q1
  subst ex
  cases r1 with
  | cons r rr =>
    cases rr with
    | cons r' rr =>
      cases rr
      cases r
      cases r'
      obtain ⟨its1, rv1, p1⟩ := sqk_use I1 hqx
      obtain ⟨its2, rv2, p2⟩ := sqk_use I1 hqy
      have fresh5 : ∀ d, d ∈ [s1.heap.objs.size + 4, s1.heap.objs.size + 2, s1.heap.objs.size + 3, s1.heap.objs.size, s1.heap.objs.size + 1] → FpOk X pins H1 d := fun d hdm => by
        have hle : s1.heap.objs.size ≤ d := by
          simp only [List.mem_cons, List.not_mem_nil, or_false] at hdm
          omega
        exact I1.fpOk hle (I1.hok.fresh hle)
      have la := sqk_lt I1 hqx
      have lb := sqk_lt I1 hqy
      refine zip_begins2 (beginsK k1 a its1.toArray) (beginsK k2 b its2.toArray) p1 p2 fun h' hz hTI hTO h1 h2 hsz hk => wpAny_pyIter_zip hz ?_
      have I2 : Inv X pins σ H1 { s1 with heap := h' } := I1.kept (t' := s1.toks) hk
      exact ⟨s1.heap.objs.size + 4, [s1.heap.objs.size + 4, s1.heap.objs.size + 2, s1.heap.objs.size + 3, s1.heap.objs.size, s1.heap.objs.size + 1], _, _, H1, rfl, I2,
        turn_z2 (sep2_of rfl rfl rfl rfl rfl la lb) (Nat.ne_of_lt la) (Nat.ne_of_lt (Nat.lt_succ_of_lt lb)), ⟨hz, hTI, ⟨_, _, hTO⟩, ItAt.new h1, ItAt.new h2⟩, fresh5, q⟩
def iZip3 (K : PySem.W.Frag) (ta : TA) : TI := fun σ H R => ta σ H fun vs H1 => ∃ k1 k2 k3 a b c xs ys zs, vs = [.ref a, .ref b, .ref c] ∧ SqK K k1 H1 a xs ∧ SqK K k2 H1 b ys ∧ SqK K k3 H1 c zs ∧ R (ItZ3 K k1 k2 k3 a b c) H1
theorem pi_zip3 {X : Cx} {e e2 e3 : Expr} {ta : TA} {p pos tpos : Pos} {elts : List Expr} {kk : Nat} (hg : Gl X "zip") (hm : X.mg "zip" = none) (ha : PA X [e, e2, e3] ta)
    (hs : starEach [e, e2, e3] X.env = (false, eval e X.env) :: starEach [e2, e3] X.env := by rfl) (hpl : (backTo pos (starEach [e2, e3] X.env)).any (·.1) = false := by rfl) :
    PI X (.Tuple elts kk tpos) (.Call (.Name "zip" p) [e, e2, e3] [] pos) (iZip3 X.K ta) := by
  refine ⟨fun pins s σ H R I h => ?_⟩
  refine Call_ (ld_blt I hg hm PyProof.Rows.boot_zip (PyProof.Rows.callWith_type1 (thn (ha.run pos pins s σ H _ I h) fun us s1 ⟨vs, H1, I1, r1, q1⟩ => ?_) hs hpl))
  obtain ⟨k1, k2, k3, a, b, c, xs, ys, zs, ex, hqx, hqy, hqz, q⟩ := q1
  subst ex
  cases r1 with
  | cons r rr =>
    cases rr with
    | cons r' rr =>
      cases rr with
      | cons r'' rr =>
        cases rr
        cases r
        cases r'
        cases r''
        obtain ⟨its1, rv1, p1⟩ := sqk_use I1 hqx
        obtain ⟨its2, rv2, p2⟩ := sqk_use I1 hqy
        obtain ⟨its3, rv3, p3⟩ := sqk_use I1 hqz
        have fresh6 : ∀ d, d ∈ [s1.heap.objs.size + 5, s1.heap.objs.size + 3, s1.heap.objs.size + 4, s1.heap.objs.size, s1.heap.objs.size + 1, s1.heap.objs.size + 2] → FpOk X pins H1 d := fun d hdm => by
          have hle : s1.heap.objs.size ≤ d := by
            simp only [List.mem_cons, List.not_mem_nil, or_false] at hdm
            omega
          exact I1.fpOk hle (I1.hok.fresh hle)
        have la := sqk_lt I1 hqx
        have lb := sqk_lt I1 hqy
        have lc := sqk_lt I1 hqz
        refine zip_begins3 (beginsK k1 a its1.toArray) (beginsK k2 b its2.toArray) (beginsK k3 c its3.toArray) p1 p2 p3 fun h' hz hTI hTO h1 h2 h3 hsz hk => wpAny_pyIter_zip hz ?_
        have I2 : Inv X pins σ H1 { s1 with heap := h' } := I1.kept (t' := s1.toks) hk
        exact ⟨s1.heap.objs.size + 5, [s1.heap.objs.size + 5, s1.heap.objs.size + 3, s1.heap.objs.size + 4, s1.heap.objs.size, s1.heap.objs.size + 1, s1.heap.objs.size + 2], _, _, H1, rfl, I2,
          turn_z3 (sep3_of rfl rfl rfl rfl rfl rfl la lb lc) (Nat.ne_of_lt la) (Nat.ne_of_lt (Nat.lt_succ_of_lt lb)) (Nat.ne_of_lt (Nat.lt_succ_of_lt (Nat.lt_succ_of_lt lc))), ⟨hz, hTI, ⟨_, _, _, hTO⟩, ItAt.new h1, ItAt.new h2, ItAt.new h3⟩, fresh6, q⟩
section
variable {X : Cx} {N : List Str} {sc : Scope} {a b c : Expr} {elts : List Expr} {kk : Nat} {pos tpos : Pos} {fs : Gam → M (List D)}
theorem di_zip2 {p : Pos} (gd : Gd X N sc) (hg : sc.names.lookup ("zip" : Str) = some .globalImplicit) (hm : X.mg "zip" = none) (ha : DA X [a, b] fs)
    (hs : starEach [a, b] X.env = (false, eval a X.env) :: starEach [b] X.env := by rfl) (hpl : (backTo pos (starEach [b] X.env)).any (·.1) = false := by rfl) : DI X (.Tuple elts kk tpos) (.Call (.Name "zip" p) [a, b] [] pos) (biM zip2G fs) :=
  pi_imp (pi_zip2 (gl_of gd hg) hm ha hs hpl) fun σ H R ⟨pa, F, Γ, pt, ds, p', r, ev, k⟩ => by
    obtain ⟨d, p1, e1, ev2⟩ := bnd_some ev
    obtain ⟨e4, e5⟩ := lift_some ev2
    have e5' : p' = p1 := e5
    subst e5'
    refine ⟨pa, F, Γ, pt, d, p', r, e1, fun vs H' F' g q dn => ?_⟩
    unfold zip2G at e4
    split at e4
    · rename_i x y
      split at e4
      · rename_i l m hl hm
        have z := Option.some.inj e4
        subst z
        obtain ⟨v1, r1, rfl, n1, t1⟩ := dn.cons_iff
        obtain ⟨v2, r2, rfl, n2, t2⟩ := t1.cons_iff
        have e := t2.nil_iff
        subst e
        obtain ⟨k1, a1, xs1, rfl, s1, l1⟩ := seqSK_den hl n1
        obtain ⟨k2, a2, xs2, rfl, s2, l2⟩ := seqSK_den hm n2
        exact ⟨k1, k2, a1, a2, xs1, xs2, rfl, s1 _ g.fh, s2 _ g.fh, k _ H' F' g q (it_z2 s1 l1 s2 l2)⟩
      · cases e4
    · cases e4
theorem di_zip3 {p : Pos} (gd : Gd X N sc) (hg : sc.names.lookup ("zip" : Str) = some .globalImplicit) (hm : X.mg "zip" = none) (ha : DA X [a, b, c] fs)
    (hs : starEach [a, b, c] X.env = (false, eval a X.env) :: starEach [b, c] X.env := by rfl) (hpl : (backTo pos (starEach [b, c] X.env)).any (·.1) = false := by rfl) : DI X (.Tuple elts kk tpos) (.Call (.Name "zip" p) [a, b, c] [] pos) (biM zip3G fs) :=
  pi_imp (pi_zip3 (gl_of gd hg) hm ha hs hpl) fun σ H R ⟨pa, F, Γ, pt, ds, p', r, ev, k⟩ => by
    obtain ⟨d, p1, e1, ev2⟩ := bnd_some ev
    obtain ⟨e4, e5⟩ := lift_some ev2
    have e5' : p' = p1 := e5
    subst e5'
    refine ⟨pa, F, Γ, pt, d, p', r, e1, fun vs H' F' g q dn => ?_⟩
    unfold zip3G at e4
    split at e4
    · rename_i x y w
      split at e4
      · rename_i l m n hl hm hn
        have z := Option.some.inj e4
        subst z
        obtain ⟨v1, r1, rfl, n1, t1⟩ := dn.cons_iff
        obtain ⟨v2, r2, rfl, n2, t2⟩ := t1.cons_iff
        obtain ⟨v3, r3, rfl, n3, t3⟩ := t2.cons_iff
        have e := t3.nil_iff
        subst e
        obtain ⟨k1, a1, xs1, rfl, s1, l1⟩ := seqSK_den hl n1
        obtain ⟨k2, a2, xs2, rfl, s2, l2⟩ := seqSK_den hm n2
        obtain ⟨k3, a3, xs3, rfl, s3, l3⟩ := seqSK_den hn n3
        exact ⟨k1, k2, k3, a1, a2, a3, xs1, xs2, xs3, rfl, s1 _ g.fh, s2 _ g.fh, s3 _ g.fh, k _ H' F' g q (it_z3 s1 l1 s2 l2 s3 l3)⟩
      · cases e4
    · cases e4
end
end Dx

set_option Elab.async false
set_option linter.all false
set_option maxRecDepth 100000
set_option maxHeartbeats 4000000
/-! the list that goes on changing; defs by any promise; the law's own walk and its end -/
namespace Dx
open PySem PySem.Spec PyProof.Rows L2
open Evl (Ex)
section
variable {X : Cx} {N : List Str} {sc : Scope} {a b c e o iE : Expr} {es : List Expr} {pos : Pos} {fa fb fc fo fi fe : Gam → M D} {fs : Gam → M (List D)}

/-! ### pot[i], pot[i] = n -/
def potIx (fa fb : Gam → M D) : Gam → M D := fun Γ => bnd (fa Γ) fun d => bnd (fb Γ) fun e => match d, e with
  | .pot, .int i => fun p => match L2.atI p i with
    | some n => some (.int n, p)
    | none => none
  | _, _ => fail
theorem de_pot (ha : DE X a fa) (hb : DE X b fb) (hs : PlainIx b) : DE X (.Subscript a b pos) (potIx fa fb) :=
  pe_imp (pe_ix ix_list ha hb hs) fun σ H Q ⟨pa, F, Γ, p, d, p', r, ev, k⟩ => by
    obtain ⟨x, p1, e1, ev1⟩ := bnd_some ev
    obtain ⟨y, p2, e2, ev2⟩ := bnd_some ev1
    refine ⟨pa, F, Γ, p, x, p1, r, e1, fun v H1 F1 g1 q1 d1 => ?_⟩
    refine ⟨pa, F1, Γ, p1, y, p2, r.grow g1 q1, e2, fun u H2 F2 g2 q2 d2 => ?_⟩
    split at ev2
    · rename_i i
      split at ev2
      · rename_i n hn
        have z := Option.some.inj ev2
        injection z with z1 z2
        subst z1; subst z2
        have d1' := Den.mono g2.ff _ _ d1
        simp only [Den] at d1' d2
        obtain ⟨A, rfl, hA⟩ := d1'
        obtain ⟨_, hl⟩ := q2 A hA
        refine ⟨A, _, i, .int n, rfl, d2, SqL.of hl, ?_, k _ H2 F2 (g1.trans g2) q2 (d_int _)⟩
        rw [atI_map, hn]
        rfl
      · cases ev2
    · cases ev2
def potPut (fo fi fe : Gam → M D) : Gam → M (Fl × Gam) := fun Γ => bnd (fe Γ) fun v => bnd (fo Γ) fun d => bnd (fi Γ) fun e => match v, d, e with
  | .int n, .pot, .int i => fun p => match ixN p.length i with
    | some j => some ((.next, Γ), p.set j n)
    | none => none
  | _, _, _ => fail
theorem Grow.pot {pa : Option Addr} {H F H' F' : Hp} (g : Grow pa H F H' F') {A : Addr} {u : HO} (h : pa = some A) (n : F' A = none) (s : H' A ≠ none) : Grow pa H F (upd H' A u) F' := by
  refine ⟨g.ff, fun b w e => ?_, fun b w e np => ?_, fun b e => ?_, g.new⟩
  · have ne : b ≠ A := fun z => by rw [z, n] at e; cases e
    rw [upd_ne ne]
    exact g.fh b w e
  · have ne : b ≠ A := fun z => np (by rw [h, z])
    rw [upd_ne ne]
    exact g.stay b w e np
  · by_cases z : b = A
    · rw [z, upd_same]
      exact fun y => nomatch y
    · rw [upd_ne z]
      exact g.there b e
theorem ds_potPut {p2 : Pos} (ho : DE X o fo) (hi : DE X iE fi) (he : DE X e fe)
    (ha : ∀ v, assign (.Subscript o iE p2) X.env v = (do
      let ov ← holding [v] (eval o X.env)
      let iv ← holding [v, ov] (eval iE X.env)
      standAt p2
      holding [v, ov, iv] (setItem ov iv v)
      release [v, ov, iv] []) := by intro _; rfl)
    (hs : swapsWithSole [.Subscript o iE p2] e pos.line X.env = pure false := by rfl) (hw : swappedStores [.Subscript o iE p2] e X.env = pure none := by rfl)
    (h1 : (assignEach [.Subscript o iE p2] X.env).map (·.2) = [assign (.Subscript o iE p2) X.env] := by rfl) : DS X (.Assign [.Subscript o iE p2] e pos) (potPut fo fi fe) :=
  ps_imp (ps_asg he (pg_sub ho hi set_list ha) hs hw h1) fun En σ H ⟨pa, H0, F0, F, Γ, p, r, p', rl, gr, nw, ev, k⟩ => by
    obtain ⟨v, p1, e1, ev1⟩ := bnd_some ev
    obtain ⟨d, q2, e2, ev2⟩ := bnd_some ev1
    obtain ⟨i, q3, e3, ev3⟩ := bnd_some ev2
    refine ⟨pa, F, Γ, p, v, p1, rl, e1, fun xv H1 F1 g1 q1 d1 => ?_⟩
    have r1 := rl.grow g1 q1
    refine ⟨pa, F1, Γ, p1, d, q2, r1, e2, fun xo H2 F2 g2 qq2 d2 => ?_⟩
    have r2 := r1.grow g2 qq2
    refine ⟨pa, F2, Γ, q2, i, q3, r2, e3, fun xi H3 F3 g3 qq3 d3 => ?_⟩
    have r3 := r2.grow g3 qq3
    split at ev3
    · rename_i n k2
      split at ev3
      · rename_i j hj
        have z := Option.some.inj ev3
        injection z with z1 z2
        subst z1; subst z2
        have d1' := Den.mono (g2.trans g3).ff _ _ d1
        have d2' := Den.mono g3.ff _ _ d2
        simp only [Den] at d1' d2' d3
        obtain ⟨A, rfl, hA⟩ := d2'
        obtain ⟨nA, hl⟩ := qq3 A hA
        subst d1'; subst d3
        refine ⟨A, _, k2, j, rfl, rfl, hl, by rw [List.length_map]; exact hj, ?_⟩
        have gg := (g1.trans g2).trans g3
        have gp : Grow pa H F (upd H3 A (.lst ((q3.map V.int).set j (.int n)))) F3 := gg.pot hA nA (by rw [hl]; exact fun y => nomatch y)
        have pp : PotAt pa (upd H3 A (.lst ((q3.map V.int).set j (.int n)))) F3 (q3.set j n) := fun B hB => by
          rw [hA] at hB
          have e := Option.some.inj hB
          subst e
          refine ⟨nA, ?_⟩
          rw [upd_same, List.map_set]
        exact k σ _ F3 gg.ff (rl.grow gp pp) (gr.trans gp) nw
      · cases ev3
    · cases ev3

/-! ### a def's body that ends by handing out a new list -/
def tSn (K : PySem.W.Frag) (f : Gam → M (List D)) : TS := fun En σ H => ∃ (pa : Option Addr) (H0 F0 F : Hp) (Γ : Gam) (p : Pt) (l : List D) (p' : Pt), Rel K pa σ H F Γ p ∧ Grow pa H0 F0 H F ∧ NewO H0 σ Γ ∧ f Γ p = some (l, p') ∧
  ∀ A xs H' F', Grow pa H0 F0 H' F' → PotAt pa H' F' p' → H0 A = none → F' A = none → H' A = some (.lst xs) → DenL K pa F' l xs → En.rt (.ref A) H'
abbrev DSn (X : Cx) (st : List Stmt) (f : Gam → M (List D)) : Prop := PSs X st (tSn X.K f)
theorem dsn_ret (h : DN X e fs) : DSn X [.Return (some e) pos] fs := pss_imp (pss_one (ps_ret h)) fun En σ H ⟨pa, H0, F0, F, Γ, p, l, p', rl, gr, nw, ev, k⟩ =>
  ⟨pa, F, Γ, p, l, p', rl, ev, fun A xs H' F' g q n n2 eA dn => k A xs H' F' (gr.trans g) q (grow_none gr n) n2 eA dn⟩
def seqN (f : Gam → M (Fl × Gam)) (g : Gam → M (List D)) : Gam → M (List D) := fun Γ => bnd (f Γ) fun r => match r with
  | (.next, Γ') => g Γ'
  | _ => fail
theorem dsn_cons {st : Stmt} {sts : List Stmt} {f : Gam → M (Fl × Gam)} {g : Gam → M (List D)} (h1 : DS X st f) (h2 : DSn X sts g) : DSn X (st :: sts) (seqN f g) := pss_imp (pss_cons h1 h2) fun En σ H ⟨pa, H0, F0, F, Γ, p, l, p', rl, gr, nw, ev, k⟩ => by
  obtain ⟨q, p1, e1, e2⟩ := bnd_some ev
  refine ⟨pa, H0, F0, F, Γ, p, q, p1, rl, gr, nw, e1, ?_⟩
  obtain ⟨fl, Γ1⟩ := q
  cases fl with
  | next => exact fun σ' H' F' ex rl' gr' nw' => ⟨pa, H0, F0, F', Γ1, p1, l, p', rl', gr', nw', e2, k⟩
  | brk => cases e2
  | cont => cases e2
  | ret d => cases e2
end

/-! ### defs by any promise -/
abbrev SpQ := List V → Hp → VK → Prop
structure FnS (P : Program) (w : World) (K : PySem.W.Frag) (mg : Str → Option Value) (base : Heap) (k : Nat) (f : Addr) (fd : FuncData) (ps : List Str) (sp : SpQ) : Prop where
  run : ∀ (A : Around) (outer : List Env) (s : Shared) (H : Hp) (args : Args) (us : List Value) (vs : List V) (Q : VK), A.guards = some [] → Room k A → Env0 P w K mg base A outer s H → BindsTo s fd args (ps.zip us) → Vals vs us → vs.length = ps.length →
    sp vs H Q → codeAny (model P w) A (.call (.ref f) args) (CR CX0 outer P w H s Q E0) s
section
variable {P : Program} {w : World} {K : PySem.W.Frag} {mg : Str → Option Value} {base : Heap}
theorem fns_mk {k : Nat} {x : Str} {params : Arguments} {body : List Stmt} {scope : Scope} {f : Addr} {fd : FuncData} {N ps : List Str} {ts : TS} {sp : SpQ} (Fn : FunD K x x params body scope [] [] f fd) (S : FnScope N ps scope)
    (hbody : ∀ (X : Cx), Gd X N scope → X.prog = P → X.w = w → X.K = K → X.mg = mg → X.base = base → (∀ y, X.fn y = true) → Room k X.A → PSs X body ts)
    (hsp : ∀ vs H Q, vs.length = ps.length → sp vs H Q → ts { nx := fun _ H' => Q .non H', rt := Q } (L2.start N vs) H) : FnS P w K mg base (k + 1) f fd ps sp := by
  refine ⟨fun A outer s H args us vs Q hg hr e0 hbd rv hvl h => ?_⟩
  obtain ⟨oc, od, dV, kV, doc, pm, an, cdv, ct, osl, rfl, lk, hcd, hDv, _⟩ := Fn.ex
  have KX : K.In s.heap := e0.mod.kin.keeps fun b o e => (e0.bs b o e).1
  have lim : s.heap.NoLimit := e0.mod.nolimit.keeps fun b o e => (e0.bs b o e).1
  have hkind : ∀ y ∈ ps.zip us, scope.names.lookup y.1 = some .local ∨ (scope.names.lookup y.1 = some .cell ∧ ((cellsFrom (s.heap.objs.size + 1) scope.names []).lookup y.1).isSome = true) := fun y hy => by
    obtain ⟨n, v⟩ := y
    rcases S.par n (List.of_mem_zip hy).1 with q | q
    · exact .inl q
    · exact .inr ⟨q, PySem.W.cellsFrom_some _ _ _ (.inl q)⟩
  refine codeAny_call_function hr.depth (KX _ _ lk) rfl S.co S.gen rfl (PySem.W.codeRec_of KX hcd) (hbd _ _ _ _ ?_)
  refine wpAny_newFunctionEnv_cells S.kind hkind fun env he s1 xx => ?_
  subst he
  refine ⟨lim.keeps xx.toInCall.keep, codeAny_func ?_⟩
  have hr2 : Room k (A.deeper (envOfC x scope s.heap.objs.size f cdv)) := hr.deeper _
  have Iv : Inv (cxOf CX0 P w K mg base N x scope f cdv A outer s H E0) [] (L2.start N vs) H s1 := inv_start S hr.hd e0 hvl rv xx
  have gd : Gd (cxOf CX0 P w K mg base N x scope f cdv A outer s H E0).nox N scope := ⟨rfl, S.nd, by have := hr2.un; show (A.deeper _).units + 64 + 64 < cLine; omega, hg, rfl, rfl, rfl⟩
  have hB := (hbody _ gd rfl rfl rfl rfl rfl (fun _ => rfl) hr2).nox
  refine wpAny_mono (hB.run [] s1 (L2.start N vs) H _ Iv (hsp vs H Q hvl h)) (fun fl s' hs => ?_) fun e s' hs => hs
  have fin : ∀ {σ' : L2.St} {H' : Hp} {v : V} {u : Value}, Inv (cxOf CX0 P w K mg base N x scope f cdv A outer s H E0) [] σ' H' s' → RelV v u → Q v H' → CE outer P w H s Q u s' :=
    fun {σ' H' v u} J r q => ⟨v, H', J.os, J.bare, J.base, J.hok, r, q⟩
  cases fl with
  | ret u =>
    obtain ⟨v, σ', H', J, r, q⟩ := hs
    exact fin J r q
  | next =>
    obtain ⟨σ', H', J, q⟩ := hs
    exact fin (v := V.non) (u := Value.none) J rfl q
  | brk =>
    obtain ⟨_, _, _, q⟩ := hs
    exact False.elim q
  | cont =>
    obtain ⟨_, _, _, q⟩ := hs
    exact False.elim q
/-- what names hold as a def begins -/
def gam0 (ds : List D) (m : Nat) : Gam := ds.map Slot.val ++ List.replicate m Slot.none
theorem gam0_own {ds : List D} {m i : Nat} {d : D} (e : (gam0 ds m)[i]? = some (.own d)) : False := by
  unfold gam0 at e
  by_cases hi : i < ds.length
  · rw [List.getElem?_append_left (by simpa using hi), List.getElem?_map] at e
    cases q : ds[i]? with
    | none => rw [q] at e; cases e
    | some dd => rw [q] at e; exact nomatch (Option.some.inj e)
  · rw [List.getElem?_append_right (by simpa using hi)] at e
    have z := List.getElem?_eq_some_iff.mp e
    obtain ⟨h1, h2⟩ := z
    rw [List.getElem_replicate] at h2
    cases h2
theorem rel0 {pa : Option Addr} {H F : Hp} {N : List Str} {ds : List D} {vs : List V} {p : Pt} (fh : Ex F H) (pot : PotAt pa H F p) (dl : DenL K pa F ds vs) : Rel K pa (L2.start N vs) H F (gam0 ds (N.length - ds.length)) p := by
  have hvl := dl.length
  refine ⟨fh, pot, ?_, fun i sl e => ?_, fun i j d1 d2 a e1 _ _ _ => (gam0_own e1).elim⟩
  · unfold L2.start gam0
    simp only [List.length_append, List.length_map, List.length_replicate]
    omega
  · unfold L2.start
    unfold gam0 at e
    by_cases hi : i < ds.length
    · rw [List.getElem?_append_left (by simpa using hi), List.getElem?_map] at e
      cases q : ds[i]? with
      | none => rw [q] at e; cases e
      | some dd =>
        rw [q] at e
        have z := Option.some.inj e
        subst z
        obtain ⟨v, hv, dv⟩ := dl.get q
        refine ⟨v, ?_, dv⟩
        rw [List.getElem?_append_left (by rw [List.length_map, hvl]; exact hi)]
        exact vals_map_fst vs i v hv
    · rw [List.getElem?_append_right (by simpa using hi)] at e
      have z := List.getElem?_eq_some_iff.mp e
      obtain ⟨h1, h2⟩ := z
      rw [List.getElem_replicate] at h2
      rw [← h2]
      trivial

/-- a def that hands back a new list -/
def spN (K : PySem.W.Frag) (n : Nat) (m : List D → M (List D)) : SpQ := fun vs H Q =>
  ∃ (pa : Option Addr) (F : Hp) (ds : List D) (p : Pt) (l : List D) (p' : Pt), Ex F H ∧ PotAt pa H F p ∧ DenL K pa F ds vs ∧ ds.length = n ∧ m ds p = some (l, p') ∧
    ∀ A xs H' F', Grow pa H F H' F' → PotAt pa H' F' p' → H A = none → F' A = none → H' A = some (.lst xs) → DenL K pa F' l xs → Q (.ref A) H'
structure OwnFnN (P : Program) (w : World) (K : PySem.W.Frag) (mg : Str → Option Value) (base : Heap) (k : Nat) (x : Str) (m : List D → M (List D)) : Prop where
  ex : ∃ (f : Addr) (fd : FuncData) (ps : List Str), mg x = some (.ref f) ∧ PySem.W.keepIn K (.ref f) = true ∧ Binds K fd ps [] ∧ FnS P w K mg base k f fd ps (spN K ps.length m) ∧ ∀ ds p r, m ds p = some r → ds.length = ps.length
def fnN (n m : Nat) (f : Gam → M (List D)) : List D → M (List D) := fun ds p => if ds.length = n then f (gam0 ds (m - n)) p else none
theorem own_mkN {k : Nat} {x : Str} {params : Arguments} {body : List Stmt} {scope : Scope} {f : Addr} {fd : FuncData} {N ps : List Str} {fm : Gam → M (List D)} (Fn : FunD K x x params body scope [] [] f fd) (hm : mg x = some (.ref f)) (S : FnScope N ps scope)
    (hb : ∀ (kV doc pm : Value) (an : Option Addr) (cdv ct : Value) (us : List Value), us.length = ps.length → bindArgs (PySem.W.fnOf x x params body scope .none kV doc pm an cdv ct) ⟨us, []⟩ = pure (ps.zip us))
    (hbody : ∀ (X : Cx), Gd X N scope → X.prog = P → X.w = w → X.K = K → X.mg = mg → X.base = base → (∀ y, X.fn y = true) → Room k X.A → DSn X body fm) : OwnFnN P w K mg base (k + 1) x (fnN ps.length N.length fm) := by
  refine ⟨f, fd, ps, hm, Fn.kp, Fn.bindsN hb, fns_mk Fn S (ts := tSn K fm) (fun X gd h1 h2 h3 h4 h5 h6 h7 => by have z := hbody X gd h1 h2 h3 h4 h5 h6 h7; rw [← h3]; exact z) fun vs H Q hvl h => ?_, fun ds p r h => ?_⟩
  · obtain ⟨pa, F, ds, p, l, p', fh, pot, dl, hn, ev, kk⟩ := h
    unfold fnN at ev
    rw [if_pos hn] at ev
    rw [← hn] at ev
    exact ⟨pa, H, F, F, _, p, l, p', rel0 fh pot dl, Grow.refl fh, fun i dd a e1 _ => (gam0_own e1).elim, ev, kk⟩
  · unfold fnN at h
    by_cases q : ds.length = ps.length
    · exact q
    · rw [if_neg q] at h
      cases h
end
section
variable {X : Cx} {N : List Str} {sc : Scope} {e : Expr} {es : List Expr} {pos : Pos} {fs : Gam → M (List D)}
def callN (m : List D → M (List D)) (fs : Gam → M (List D)) : Gam → M (List D) := fun Γ => bnd (fs Γ) m
theorem dn_call {k : Nat} {x : Str} {p : Pos} {m : List D → M (List D)} (g : Gd X N sc) (o : OwnFnN X.prog X.w X.K X.mg X.base k x m) (hr : Room k X.A) (hg : sc.names.lookup x = some .globalImplicit) (ha : DA X (e :: es) fs)
    (hdb : (x == ("__debug__" : Str)) = false := by decide) (he : starEach (e :: es) X.env = (false, eval e X.env) :: starEach es X.env := by rfl) (hpl : (backTo pos (starEach es X.env)).any (·.1) = false := by rfl) :
    DN X (.Call (.Name x p) (e :: es) [] pos) (callN m fs) := by
  obtain ⟨f, fd, ps, hm, hk, hb, F, ha2⟩ := o.ex
  refine ⟨fun pins s σ H Q I ⟨pa, G, Γ, pt, l, pt', r, ev, kk⟩ => ?_⟩
  obtain ⟨ds, p1, e1, e2⟩ := bnd_some ev
  refine wpAny_Call_Name_kw (ld_glob I (gl_of g hg) hm ?_ hdb)
  refine PySem.W.callWith_K (h₀ := X.base) I.ok.mod.kin hk (thn (ha.run pos pins s σ H (fun vs H1 => ∃ G1, Grow pa H G H1 G1 ∧ PotAt pa H1 G1 p1 ∧ DenL X.K pa G1 ds vs) I ⟨pa, G, Γ, pt, ds, p1, r, e1, fun vs H1 G1 g1 q1 d1 => ⟨G1, g1, q1, d1⟩⟩) fun us s1 hx => ?_) he hpl
  obtain ⟨vs, H1, I1, rv, G1, g1, q1, d1⟩ := hx
  refine ⟨I1.kIn, ?_⟩
  have hn := ha2 ds p1 _ e2
  have hl : us.length = ps.length := by rw [← rv.length, d1.length, hn]
  have hb' := hb s1 us I1.kIn (by rw [List.append_nil]; exact hl)
  rw [List.append_nil] at hb'
  refine wpAny_call (codeAny_mono (F.run X.A X.stack s1 H1 ⟨us, []⟩ us vs Q g.gu hr I1.env0 hb' rv (by rw [d1.length, hn]) ⟨pa, G1, ds, p1, l, pt', g1.fh, q1, d1, hn, e2, fun A xs H2 G2 g2 q2 n n2 eA d2 => kk A xs H2 G2 (g1.trans g2) q2 (grow_none g1 n) n2 eA d2⟩) fun rs s' hq => ?_)
  cases rs with
  | error z => exact False.elim hq
  | ok fl =>
    cases fl with
    | ret u => exact I1.after hq
    | next => exact False.elim hq
    | brk => exact False.elim hq
    | cont => exact False.elim hq
end
end Dx

set_option Elab.async false
set_option linter.all false
set_option maxRecDepth 100000
set_option maxHeartbeats 4000000
/-! the law's own walk, and its end -/
namespace Dx
open PySem PySem.Spec PyProof.Rows L2
open Evl (Ex)

/-- an own list of ints becomes the list that goes on changing -/
theorem Rel.toPot {K : PySem.W.Frag} {σ : L2.St} {H F : Hp} {Γ : Gam} {s : Nat} {ns : List Int} (r : Rel K none σ H F (Γ.set s (.own (.lst (ns.map D.int)))) []) (hs : s < Γ.length) (no : ∀ (j : Nat) (d : D), Γ[j]? = some (.own d) → False)
    (np : ∀ (j : Nat) (d : D), Γ[j]? = some (.val d) → ∀ (pa : Option Addr) (v : V), Den K none F d v → Den K pa F d v) :
    ∃ A, Rel K (some A) σ H F (Γ.set s (.val .pot)) ns := by
  obtain ⟨A, e1, o⟩ := r.slot s (.own (.lst (ns.map D.int))) (by rw [List.getElem?_set_self hs])
  obtain ⟨xs, h1, h2⟩ := o.at_
  have ex := DenL.ints h2
  subst ex
  refine ⟨A, r.fh, fun B hB => ?_, by simpa using r.len, fun j sl e => ?_, fun j l d1 d2 B h1 h2 _ _ => ?_⟩
  · have e := Option.some.inj hB
    subst e
    exact ⟨o.nf, h1⟩
  · by_cases q : s = j
    · subst q
      rw [List.getElem?_set_self hs] at e
      have z := Option.some.inj e
      subst z
      refine ⟨.ref A, e1, ?_⟩
      simp only [Den]
      exact ⟨A, rfl, rfl⟩
    · rw [List.getElem?_set_ne q] at e
      have z := r.slot j sl (by rw [List.getElem?_set_ne q]; exact e)
      cases sl with
      | none => trivial
      | own d => exact (no j d e).elim
      | val d =>
        obtain ⟨v, z1, z2⟩ := z
        exact ⟨v, z1, np j d e _ v z2⟩
  · have : ∀ (m : Nat) (x : D), (Γ.set s (.val .pot))[m]? = some (.own x) → False := fun m x h => by
      by_cases qq : s = m
      · subst qq
        rw [List.getElem?_set_self hs] at h
        cases h
      · rw [List.getElem?_set_ne qq] at h
        exact no m x h
    exact (this j d1 h1).elim
section
variable {X : Cx} {N : List Str} {sc : Scope} {a b c e tg iter : Expr} {es : List Expr} {pos p1 p2 p3 : Pos} {fi : Gam → M (List D)} {fp : Gam → M (List D)} {fr : Gam → M (Fl × Gam)}
/-- the law's walk over the places: a pot for each, then the rest -/
def tLaw (K : PySem.W.Frag) (fi : Gam → M (List D)) (i s m : Nat) (fp : Gam → M (List D)) (fr : Gam → M (Fl × Gam)) : TS := fun En σ H => ∃ (F : Hp) (sl : List Int) (ds : List D), Rel K none σ H F (gam0 [.scr sl] m) [] ∧ 0 < i ∧ 0 < s ∧ s < m + 1 ∧ i ≠ s ∧
  fi (gam0 [.scr sl] m) [] = some (ds, []) ∧
  (∀ d ∈ ds, ∃ n, d = .int n ∧ ∃ (ns : List Int) (Γ' : Gam) (p' : Pt), fp ((gam0 [.scr sl] m).set i (.val d)) [] = some (ns.map D.int, []) ∧ fr (((gam0 [.scr sl] m).set i (.val d)).set s (.val .pot)) ns = some ((.next, Γ'), p') ∧
    Γ'[0]? = some (.val (.scr sl)) ∧ m + 1 ≤ Γ'.length) ∧ ∀ H', En.rt (.bl true) H'
theorem gam0_len (ds : List D) (m : Nat) : (gam0 ds m).length = ds.length + m := by simp [gam0]
theorem gam0_one {sl : List Int} {m j : Nat} {x : Slot} (e : (gam0 [.scr sl] m)[j]? = some x) : (j = 0 ∧ x = .val (.scr sl)) ∨ (0 < j ∧ x = .none) := by
  cases j with
  | zero =>
    left
    simp [gam0] at e
    exact ⟨rfl, e.symm⟩
  | succ j =>
    right
    simp only [gam0, List.map_cons, List.map_nil, List.singleton_append, List.getElem?_cons_succ] at e
    have z := List.getElem?_eq_some_iff.mp e
    obtain ⟨h1, h2⟩ := z
    rw [List.getElem_replicate] at h2
    exact ⟨Nat.succ_pos _, h2.symm⟩
theorem law_walk {i s m : Nat} {stPot : Stmt} {rest : List Stmt} (gd : Gd X N sc) (hi : DI X tg iter fi) (hg : DG X tg (.nm i)) (hp : DS X stPot (setN s fp)) (hr : DSs X rest fr) (hs : ∀ x, foldedSetIterable iter X.env x = pure x := by intro _; rfl) :
    PSs X [.For tg iter (stPot :: rest) [] p1, .Return (some (.Constant (.bool true) 0 p2)) p3] (tLaw X.K fi i s m fp fr) := by
  refine pss_imp (pss_cons (ps_for (by rw [gd.xe]; exact PassesOwn.never) gd.calm hi hg (pss_cons hp hr) hs) (pss_one (ps_ret pe_bl))) fun En σ H ⟨F, sl, ds, r, i0, s0, sm, his, e1, hds, kret⟩ => ?_
  refine ⟨none, F, _, [], ds, [], r, e1, fun J H1 F1 g1 q1 io => ?_⟩
  refine ⟨fun j n σ2 H2 => n = ds.length - j ∧ j ≤ ds.length ∧ ∃ F2, Ex F1 F2 ∧ Rel X.K none σ2 H2 F2 (gam0 [.scr sl] m) [],
    ⟨ds.length, by simp, Nat.zero_le _, F1, Ex.refl _, r.grow g1 q1⟩, ?_⟩
  rintro j n σ2 H2 ⟨rfl, hj, F2, ex, r2⟩
  obtain ⟨it1, it2⟩ := io j H2 F2 ex r2.fh
  by_cases hlt : j < ds.length
  · have hd : ds[j]? = some ds[j] := List.getElem?_eq_getElem hlt
    obtain ⟨go, yl⟩ := it1 _ hd
    refine .inr ⟨go, fun σ' H' => ∃ F2, Ex F1 F2 ∧ Rel X.K none σ' H' F2 (gam0 [.scr sl] m) [], fun σ' H' hN => ⟨ds.length - (j + 1), by omega, rfl, hlt, hN⟩, fun x H' y => ?_⟩
    obtain ⟨F3, pu, dn⟩ := yl x H' y
    obtain ⟨nd, en, ns, Γ', p', ep, er, ek, el⟩ := hds ds[j] (List.getElem_mem hlt)
    have r3 : Rel X.K none σ2 H' F3 (gam0 [.scr sl] m) [] := r2.grow pu.grow (r2.pot.pur pu)
    refine ⟨none, F3, _, [], _, _, r3, dn, rfl, fun σ4 r4 _ n4 => ?_⟩
    have no4 : NewO H' σ4 ((gam0 [.scr sl] m).set i (.val ds[j])) := n4 H' fun l dd B h1 _ => (gam0_own h1).elim
    refine ⟨none, H', F3, F3, _, [], (.next, ((gam0 [.scr sl] m).set i (.val ds[j])).set s (.own (.lst (ns.map D.int)))), [], r4, Grow.refl r4.fh, no4, ?_, ?_⟩
    · show setN s fp _ [] = _
      unfold setN bnd
      rw [ep]
      rfl
    refine fun σ5 H5 F5 x5 r5 g5 n5 => ?_
    have hlen : s < ((gam0 [.scr sl] m).set i (.val ds[j])).length := by rw [List.length_set, gam0_len]; simp; omega
    have set_at : ∀ (l : Nat) (x : Slot), ((gam0 [.scr sl] m).set i (.val ds[j]))[l]? = some x → x = .val (.scr sl) ∨ x = .none ∨ x = .val (.int nd) := fun l x h => by
      by_cases q : i = l
      · subst q
        have hi' : i < (gam0 [.scr sl] m).length := by
          have := List.getElem?_eq_some_iff.mp h
          simpa using this.1
        rw [List.getElem?_set_self hi'] at h
        right; right
        rw [en] at h
        exact (Option.some.inj h).symm
      · rw [List.getElem?_set_ne q] at h
        rcases gam0_one h with ⟨_, e⟩ | ⟨_, e⟩
        · exact .inl e
        · exact .inr (.inl e)
    obtain ⟨A, r6⟩ := Rel.toPot r5 hlen (fun l d h => by rcases set_at l _ h with z | z | z <;> cases z) (fun l d h pa v dv => by
      rcases set_at l _ h with z | z | z
      · cases z; simpa only [Den] using dv
      · cases z
      · cases z; simpa only [Den] using dv)
    refine ⟨some A, H5, F5, F5, _, ns, (.next, Γ'), p', r6, Grow.refl r6.fh, fun l d B h1 _ => ?_, er, ?_⟩
    · exfalso
      by_cases q : s = l
      · subst q
        rw [List.getElem?_set_self hlen] at h1
        cases h1
      · rw [List.getElem?_set_ne q] at h1
        rcases set_at l _ h1 with z | z | z <;> cases z
    · refine fun σ7 H7 F7 x7 r7 g7 n7 => ⟨F7, ex.trans (pu.ff.trans (x5.trans x7)), r7.fh, (fun B hB => nomatch hB), ?_, (fun l t h => ?_), (fun l t d1 d2 B h1 _ _ _ => (gam0_own h1).elim)⟩
      · have := r7.len
        rw [gam0_len]
        simp only [List.length_cons, List.length_nil]
        omega
      · rcases gam0_one h with ⟨e, e2⟩ | ⟨e, e2⟩
        · subst e; subst e2
          obtain ⟨v, z1, z2⟩ := r7.slot 0 _ ek
          exact ⟨v, z1, by simpa only [Den] using z2⟩
        · subst e2
          trivial
  · have hj3 : j = ds.length := by omega
    subst hj3
    refine .inl ⟨it2 rfl, kret H2⟩
end

/-! ### the law's end -/
/-- the law is called at the heap behind the top -/
theorem law_end {P : Program} {w : World} {K : PySem.W.Frag} {mg mb : Str → Option Value} {k : Nat} {fa a : Addr} {fd : FuncData} {x : Str} {sp : SpQ} {s₁ : Shared} {vs : List Value} {ns : List Int}
    (KX : K.In s₁.heap) (hns : s₁.heap.Ns mainGlobals mg) (hb : s₁.heap.Ns builtinsNs mb) (hbb : ∀ x : Str, x ≠ "__name__" → mb x = bootBuiltins x) (hlim : s₁.heap.NoLimit) (hg : s₁.gens = #[])
    (ha : s₁.heap.get? a = some { cls := .type "list", data := .seq vs.toArray }) (hi : IntsAre vs ns) (hl : ns.length ≤ sizeLine) (hr : Room k callerA)
    (F : ∀ base : Heap, K.In base → base.Ns mainGlobals mg → FnS P w K mg base k fa fd [x] sp) (hbind : ∀ (s : Shared) (u : Value), BindsTo s fd ⟨[u], []⟩ [(x, u)])
    (hsp : ∀ H : Hp, SqL K H a (ns.map V.int) → sp [.ref a] H (fun v _ => v = .bl true)) :
    codeAny (model P w) callerA (.call (.ref fa) ⟨[.ref a], []⟩) (fun r s' => r = .ok (.ret (.bool true)) ∧ OldK s₁.heap s'.heap ∧ s'.os = s₁.os ∧ AllBare s'.gens) s₁ := by
  have rv := L2.vals_ints hi
  have lenV := hi.length
  have main : ∀ H : Hp, Only H → SqL K H a (ns.map V.int) → HOk P w H s₁.heap → (∀ b, H b ≠ none → b = a) → (H a ≠ none → K.lookup a = none) →
      codeAny (model P w) callerA (.call (.ref fa) ⟨[.ref a], []⟩) (fun r s' => r = .ok (.ret (.bool true)) ∧ OldK s₁.heap s'.heap ∧ s'.os = s₁.os ∧ AllBare s'.gens) s₁ := by
    intro H hO hS hok hA hK
    have dictN : ∀ {b : Addr} {o : Obj} {es : Array DictEntry} {ep : Nat}, s₁.heap.get? b = some o → o.data = .dict es ep → H b = none := fun {b o es ep} e d => by
      cases q : H b with
      | none => rfl
      | some u =>
        exfalso
        rw [hA b (by rw [q]; exact fun z => nomatch z), ha] at e
        cases e
        cases (show Data.seq vs.toArray _ = Data.dict es ep from d)
    have nsOf : ∀ {b : Addr} {m : Str → Option Value}, s₁.heap.Ns b m → (hidT s₁.heap H).Ns b m := fun {b m} ⟨o, es, ep, e, d, r⟩ => ⟨o, es, ep, hidT_get e (dictN e d), d, r⟩
    have kIn : K.In (hidT s₁.heap H) := fun b o e => hidT_get (KX b o e) (by
      cases q : H b with
      | none => rfl
      | some u =>
        exfalso
        have e' := hA b (by rw [q]; exact fun z => nomatch z)
        rw [e'] at q e
        rw [hK (by rw [q]; exact fun z => nomatch z)] at e
        cases e)
    obtain ⟨mc, m1, m2⟩ := hlim
    have hM : Mod K mg (hidT s₁.heap H) := ⟨kIn, nsOf hns, ⟨mb, nsOf hb, hbb⟩, ⟨mc, nsOf m1, m2⟩⟩
    have nobody : ∀ b, b ∈ ([] : List Addr) → False := fun b h => nomatch h
    have e0 : Env0 P w K mg (hidT s₁.heap H) callerA [] s₁ H := ⟨rfl, hM, fun b o e => of_hidT e, Nat.le_of_eq (hidT_size _ _), trivial, fun b h => (nobody b h).elim, hok, .of_eq hg⟩
    refine codeAny_mono ((F _ kIn (nsOf hns)).run callerA [] s₁ H ⟨[.ref a], []⟩ [.ref a] [.ref a] _ rfl hr e0 (hbind s₁ (.ref a)) (.cons rfl .nil) rfl (hsp H hS)) fun r s' h => ?_
    match r, h with
    | .error e, h => exact False.elim h
    | .ok .next, h => exact False.elim h
    | .ok .brk, h => exact False.elim h
    | .ok .cont, h => exact False.elim h
    | .ok (.ret u), h =>
      obtain ⟨v, H', os, bare, un, hok', r', q⟩ := h
      have q' : v = .bl true := q
      subst q'
      obtain rfl : u = Value.bool true := r'
      refine ⟨rfl, OldK.of_keep fun b o e => ?_, os, bare⟩
      rcases hO b with z | ⟨ob, xs, z⟩
      · exact un.keep b o e z (fun y => (nobody b y).elim) (by simp)
      · obtain ⟨e1, _⟩ := hok b _ z
        obtain ⟨e2, _⟩ := hok' b _ (un.frzs b ob _ z)
        rw [e] at e1
        cases e1
        exact e2
  cases hk : K.lookup a with
  | some o =>
    have e := KX a o hk
    rw [ha] at e
    cases e
    exact main (fun _ => none) (fun _ => .inl rfl) (.inr ⟨_, vs.toArray, _, hk, rfl, rfl, rfl, by rw [List.size_toArray, lenV]; exact hl, by simpa using rv⟩) (fun b u z => nomatch (show (none : Option HO) = some u from z)) (fun b z => absurd rfl z) fun z => absurd rfl z
  | none =>
    have at_a : ∀ {b : Addr} {u : HO}, (fun b => if b = a then some (HO.frz { cls := .type "list", data := .seq vs.toArray } (.lst (ns.map V.int))) else none) b = some u → b = a ∧ u = .frz { cls := .type "list", data := .seq vs.toArray } (.lst (ns.map V.int)) := fun {b u} z => by
      by_cases hb : b = a
      · exact ⟨hb, (Option.some.inj ((if_pos hb).symm.trans z)).symm⟩
      · exact nomatch (if_neg hb).symm.trans z
    refine main (fun b => if b = a then some (.frz { cls := .type "list", data := .seq vs.toArray } (.lst (ns.map V.int))) else none) (fun b => ?_) (.inl (.inr ⟨{ cls := .type "list", data := .seq vs.toArray }, if_pos rfl⟩)) (fun b u z => ?_) (fun b z => ?_) fun _ => hk
    · by_cases hb : b = a
      · exact .inr ⟨_, _, if_pos hb⟩
      · exact .inl (if_neg hb)
    · obtain ⟨rfl, rfl⟩ := at_a z
      exact ⟨ha, by rw [List.length_map]; exact hl, vs, _, rv, ha⟩
    · by_cases hb : b = a
      · exact hb
      · exact absurd (if_neg hb) z
theorem walk_end {l : PySem.W.OpenLaw} {n k : Nat} {q : Program} {loose : List Str} {XP : (Str → Option Value) → Heap → Prop} {YP : World → Heap → Prop} {d : DefRec} {x : Str}
    (hn : l.most = some n) (hn2 : n ≤ sizeLine) (hdf : d.params.defaults = []) (hr : Room k callerA)
    (F : ∀ (w : World) (mg : Str → Option Value) (fa : Addr) (h : Heap), YP w h → h.Ns mainGlobals mg → mg d.name = some (.ref fa) →
      ∃ (K : PySem.W.Frag) (fd : FuncData) (sp : SpQ), K.In h ∧ (∀ (s : Shared) (u : Value), BindsTo s fd ⟨[u], []⟩ [(x, u)]) ∧
        (∀ (H : Hp) (a : Addr) (ns : List Int), ns.length ≤ n → SqL K H a (ns.map V.int) → sp [.ref a] H (fun v _ => v = .bl true)) ∧
        ∀ base : Heap, K.In base → base.Ns mainGlobals mg → FnS l.prog w K mg base k fa fd [x] sp) :
    PySem.W.WalkO q loose XP YP l.row.toRowW d [] (fun f vs => PySem.call f vs) := by
  refine Att.attach_call hn hdf fun w s₀ s₁ mg mb fa o pm cd doc a vs ns G Y ho hd hcd hmg hobj hints hlen hg => ?_
  obtain ⟨K, fd, sp, KX, hb, hsp, hF⟩ := F w mg fa _ Y G.T.g hmg
  exact law_end KX G.T.g G.T.b G.T.builtins G.T.nolimit hg hobj hints (Nat.le_trans hlen hn2) hr hF hb fun H hS => hsp H a ns hlen hS
end Dx

set_option Elab.async false
set_option linter.all false
set_option maxRecDepth 100000
set_option maxHeartbeats 4000000
/-! what the printed walks lean on -/
namespace Dx
open PySem PySem.Spec PyProof.Rows L2
open Evl (Ex)
def visB (o : Option NameKind) : Bool := match o with
  | some .local => true
  | some .cell => true
  | some .free => true
  | _ => false
theorem vis_of {sc : Scope} {x : Str} (h : visB (sc.names.lookup x) = true) : Vis sc x := by
  unfold visB at h
  split at h
  · rename_i e; exact .inl e
  · rename_i e; exact .inr (.inl e)
  · rename_i e; exact .inr (.inr e)
  · cases h
def locB (o : Option NameKind) : Bool := match o with
  | some .local => true
  | some .cell => true
  | _ => false
theorem loc_of {sc : Scope} {x : Str} (h : locB (sc.names.lookup x) = true) : Loc sc x := by
  unfold locB at h
  split at h
  · rename_i e; exact .inl e
  · rename_i e; exact .inr e
  · cases h
section
variable {X : Cx} {N : List Str} {sc : Scope} {a b c e tg iter elt : Expr} {es : List Expr} {pos : Pos} {fa fb fc fe : Gam → M D} {fs fi : Gam → M (List D)} {ft : Gam → M Bool}
theorem va {i : Nat} {x : Str} (hN : N[i]? = some x) (h : visB (sc.names.lookup x) = true) (hd : (x == ("__debug__" : Str)) = false := by decide +kernel) (hcd : (x == ("__classdict__" : Str)) = false := by decide +kernel) : VisAt N sc i x := ⟨hN, vis_of h, hd, hcd⟩
theorem la {i : Nat} {x : Str} (hN : N[i]? = some x) (h : locB (sc.names.lookup x) = true) (hf : X.fn x = true ∨ sc.names.lookup x = some .local) : LocAt X N sc i x := ⟨hN, loc_of h, hf⟩
/-- -a -/
def negG : D → Option D
  | .int i => some (.int (-i))
  | _ => none
def negM (f : Gam → M D) : Gam → M D := fun Γ => bnd (f Γ) fun d => lift (negG d)
theorem de_neg (h : DE X a fa) : DE X (.UnaryOp .USub a pos) (negM fa) := pe_imp (pe_un un_neg h) fun σ H Q ⟨pa, F, Γ, p, d, p', r, ev, k⟩ => by
  obtain ⟨x, p1, e1, ev1⟩ := bnd_some ev
  obtain ⟨e2, e3⟩ := lift_some ev1
  have e3' : p' = p1 := e3
  subst e3'
  refine ⟨pa, F, Γ, p, x, p', r, e1, fun v H1 F1 g1 q1 d1 => ?_⟩
  cases x with
  | int i =>
    have z := Option.some.inj e2
    have z' : d = .int (-i) := z.symm
    subst z'
    have d1' : v = .int i := by simpa only [Den] using d1
    exact ⟨i, d1', k _ H1 F1 g1 q1 (d_int _)⟩
  | _ => cases e2
/-- the block's own rules, told what stands fast there -/
abbrev AtBlk (X : Cx) (N : List Str) (sc scope : Scope) (p : Cx → Prop) : Prop := ∀ (s : Shared) (H : Hp) (C : Addr) (cl : List (Str × Addr)) (fp : List Addr), Gd (X.blk s H scope (compEnvC scope cl C X.env) fp) N (relS scope sc) → p (X.blk s H scope (compEnvC scope cl C X.env) fp)
theorem dn_compG {scope : Scope} {own : List (Str × Nat)} {t : Tgt} (gd : Gd X N sc) (hi : DI X tg iter fi) (ok : BlkOk N sc scope own) (hv : ∀ i ∈ t.slots, i ∈ own.map (·.2)) {ifs : List Expr}
    (hg : AtBlk X N sc scope fun Y => DG Y tg t) (ht : AtBlk X N sc scope fun Y => DTs Y ifs ft) (he : AtBlk X N sc scope fun Y => DE Y elt fe) (hs : ∀ x, foldedSetIterable iter X.env x = pure x := by intro _; rfl) :
    DN X (.ListComp elt [⟨tg, iter, ifs, 0⟩] scope pos) (compM (own.map (·.2)) t fi ft fe) :=
  dn_comp gd hi ok hv (fun s H C cl fp => hg s H C cl fp (gd.blk s H scope cl C fp)) (fun s H C cl fp => ht s H C cl fp (gd.blk s H scope cl C fp)) (fun s H C cl fp => he s H C cl fp (gd.blk s H scope cl C fp)) hs
theorem ds_setcompG {i : Nat} {x : Str} {px spos : Pos} {scope : Scope} {own : List (Str × Nat)} {t : Tgt} (gd : Gd X N sc) (hk : sc.kind = .function) (hN : N[i]? = some x) (hx : sc.names.lookup x = some .local) (hl : (px.line == pos.line) = true)
    (hno : (scope.names.any fun (n, k) => n == x && (k == .local || k == .cell)) = false)
    (hi : DI X tg iter fi) (ok : BlkOk N sc scope own) (hv : ∀ i ∈ t.slots, i ∈ own.map (·.2)) {ifs : List Expr}
    (hg : AtBlk X N sc scope fun Y => DG Y tg t) (ht : AtBlk X N sc scope fun Y => DTs Y ifs ft) (he : AtBlk X N sc scope fun Y => DE Y elt fe) (hs : ∀ x, foldedSetIterable iter X.env x = pure x := by intro _; rfl) :
    DS X (.Assign [.Name x px] (.ListComp elt [⟨tg, iter, ifs, 0⟩] scope pos) spos) (setN i (compM (own.map (·.2)) t fi ft fe)) :=
  ds_setcomp gd hk hN hx hl hno hi ok hv (fun s H C cl fp => hg s H C cl fp (gd.blk s H scope cl C fp)) (fun s H C cl fp => ht s H C cl fp (gd.blk s H scope cl C fp)) (fun s H C cl fp => he s H C cl fp (gd.blk s H scope cl C fp)) hs
/-- a comprehension stored at once, never changed -/
theorem ds_setcompV {i : Nat} {x : Str} {px spos : Pos} {scope : Scope} {own : List (Str × Nat)} {t : Tgt} (gd : Gd X N sc) (hk : sc.kind = .function) (hN : N[i]? = some x) (hx : sc.names.lookup x = some .local) (hl : (px.line == pos.line) = true)
    (hno : (scope.names.any fun (n, k) => n == x && (k == .local || k == .cell)) = false)
    (hi : DI X tg iter fi) (ok : BlkOk N sc scope own) (hv : ∀ i ∈ t.slots, i ∈ own.map (·.2)) {ifs : List Expr}
    (hg : AtBlk X N sc scope fun Y => DG Y tg t) (ht : AtBlk X N sc scope fun Y => DTs Y ifs ft) (he : AtBlk X N sc scope fun Y => DE Y elt fe) (hs : ∀ x, foldedSetIterable iter X.env x = pure x := by intro _; rfl) :
    DS X (.Assign [.Name x px] (.ListComp elt [⟨tg, iter, ifs, 0⟩] scope pos) spos) (setM i (frzM (compM (own.map (·.2)) t fi ft fe))) := by
  refine ps_imp (ds_setcompG gd hk hN hx hl hno hi ok hv hg ht he hs) fun En σ H ⟨pa, H0, F0, F, Γ, p, r, p', rl, gr, nw, ev, k⟩ => ?_
  obtain ⟨d, p1, e1, e2⟩ := bnd_some ev
  obtain ⟨l, p2, e3, e4⟩ := bnd_some e1
  have z := ret_some e4
  injection z with z1 z2
  subst z1; subst z2
  have z := ret_some e2
  injection z with z1 z2
  subst z1; subst z2
  refine ⟨pa, H0, F0, F, Γ, p, (.next, Γ.set i (.own (.lst l))), p', rl, gr, nw, ?_, ?_⟩
  · unfold setN bnd
    rw [e3]
    rfl
  · refine fun σ' H' F' ex rl' gr' nw' => ?_
    by_cases hi : i < Γ.length
    · obtain ⟨F2, x2, r2, g2, n2⟩ := rl'.frz1 (i := i) (d := .lst l) (by rw [List.getElem?_set_self hi]) gr' nw'
      rw [List.set_set] at r2 n2
      exact k σ' H' F2 (ex.trans x2) r2 g2 n2
    · have e1 : Γ.set i (.own (.lst l)) = Γ := List.set_eq_of_length_le (by omega)
      have e2 : Γ.set i (.val (.lst l)) = Γ := List.set_eq_of_length_le (by omega)
      rw [e1] at rl' nw'
      rw [← e2] at rl' nw'
      exact k σ' H' F' ex rl' gr' nw'
end
theorem OwnFn.up {P : Program} {w : World} {K : PySem.W.Frag} {mg : Str → Option Value} {base : Heap} {k k' : Nat} {x : Str} {m : List D → M D} (o : OwnFn P w K mg base k x m) (h : k ≤ k') : OwnFn P w K mg base k' x m := by
  obtain ⟨f, fd, ps, h1, h2, h3, F, h5⟩ := o.ex
  exact ⟨f, fd, ps, h1, h2, h3, ⟨fun A outer s H args us vs Q hg hr => F.run A outer s H args us vs Q hg (hr.mono h)⟩, h5⟩
theorem blk_of {N : List Str} {sc scope : Scope} {own : List (Str × Nat)} (h1 : scope.kind = .function) (h2 : (scope.names.all fun y => scope.names.lookup y.1 == some y.2) = true) (h3 : (own.all fun p => N[p.2]? == some p.1) = true)
    (h4 : (scope.names.all fun y => !(y.2 == .free) || (sc.names.lookup y.1 == some .cell || sc.names.lookup y.1 == some .free)) = true)
    (h5 : (scope.names.all fun y => !(y.2 == .local || y.2 == .cell) || ((own.map (·.1)).contains y.1 || !(N.contains y.1))) = true) : BlkOk N sc scope own := by
  refine ⟨h1, fun y hy => ?_, fun p hp => ?_, fun y hy hf => ?_, fun y hy hf => ?_⟩
  · exact eq_of_beq (List.all_eq_true.mp h2 y hy)
  · exact eq_of_beq (List.all_eq_true.mp h3 p hp)
  · have z := List.all_eq_true.mp h4 y hy
    rw [hf] at z
    rcases Bool.or_eq_true_iff.mp z with q | q
    · exact absurd q (by decide)
    · rcases Bool.or_eq_true_iff.mp q with q | q
      · exact .inl (eq_of_beq q)
      · exact .inr (eq_of_beq q)
  · have z := List.all_eq_true.mp h5 y hy
    rcases Bool.or_eq_true_iff.mp z with q | q
    · rcases hf with hf | hf <;> rw [hf] at q <;> exact absurd q (by decide)
    · rcases Bool.or_eq_true_iff.mp q with q | q
      · exact .inl (List.contains_iff_mem.mp q)
      · refine .inr fun h => ?_
        rw [List.contains_iff_mem.mpr h] at q
        exact absurd q (by decide)
end Dx

set_option Elab.async false
set_option linter.all false
set_option maxRecDepth 100000
set_option maxHeartbeats 4000000
/-! two names stored at once -/
namespace Dx
open PySem PySem.Spec PyProof.Rows L2
section
variable {X : Cx} {N : List Str} {sc : Scope} {a b : Expr} {x y : Str} {px py pt pt2 : Pos} {kt k2 : Nat}
theorem sw_pair (gd : Gd X N sc) (hk : sc.kind = .function) (hx : sc.names.lookup x = some .local) (hy : sc.names.lookup y = some .local) (hl : (py.line == px.line) = true) (hne : (y == x) = false)
    (h1 : ([a, b].any fun | .Starred .. => true | _ => false) = false) (h2 : [a, b].all (foldedForSure 8) = false) (h3 : [a, b].all (constantsAlone 8) = false) :
    swappedStores [.Tuple [.Name x px, .Name y py] kt pt] (.Tuple [a, b] k2 pt2) X.env = pure (some [x, y]) := by
  have e1 : X.env.kindOf x = some .local := by unfold Env.kindOf; rw [gd.scope]; exact hx
  have e2 : X.env.kindOf y = some .local := by unfold Env.kindOf; rw [gd.scope]; exact hy
  have e3 : X.env.blockKind = .function := by unfold Env.blockKind; rw [gd.scope, hk]; rfl
  have ln : ([Expr.Name x px, Expr.Name y py].head?.map (·.pos.line)).getD 0 = px.line := rfl
  have nm : ([Expr.Name x px, Expr.Name y py].filterMap fun
    | .Name id pos => if X.env.kindOf id == some .local && pos.line == px.line then some id else none
    | _ => none) = [x, y] := by
    simp only [List.filterMap_cons, List.filterMap_nil, e1, e2, hl, beq_self_eq_true, Bool.and_true, if_true]
  have ed : [x, y].eraseDups = [x, y] := by
    simp only [List.eraseDups_cons, List.filter_cons, List.filter_nil, List.eraseDups_nil, hne, Bool.not_false, if_true]
  have c1 : ((!([Expr.Name x px, Expr.Name y py].length == 2 || [Expr.Name x px, Expr.Name y py].length == 3) || [a, b].length != [Expr.Name x px, Expr.Name y py].length || X.env.blockKind != .function)) = false := by
    rw [e3]; rfl
  have c2 : ([x, y].length != [Expr.Name x px, Expr.Name y py].length || [x, y].eraseDups.length != [x, y].length) = false := by
    rw [ed]; rfl
  unfold swappedStores
  show (if (!([Expr.Name x px, Expr.Name y py].length == 2 || [Expr.Name x px, Expr.Name y py].length == 3) || [a, b].length != [Expr.Name x px, Expr.Name y py].length || X.env.blockKind != .function) = true then _ else _) = _
  rw [c1, if_neg Bool.false_ne_true]
  refine (if_neg (fun q => Bool.false_ne_true (h1.symm.trans q))).trans ?_
  simp only [ln]
  generalize hL : List.filterMap _ [Expr.Name x px, Expr.Name y py] = L
  have hL' : L = [x, y] := by
    rw [← hL]
    exact nm
  subst hL'
  rw [c2, if_neg Bool.false_ne_true, h2, if_neg Bool.false_ne_true, h3, if_neg Bool.false_ne_true]
/-- a cell among the names: they are stored in order -/
theorem sw_cell (gd : Gd X N sc) (hc : sc.names.lookup x = some .cell ∨ sc.names.lookup y = some .cell) : swappedStores [.Tuple [.Name x px, .Name y py] kt pt] (.Tuple [a, b] k2 pt2) X.env = pure none := by
  have ln : ([Expr.Name x px, Expr.Name y py].head?.map (·.pos.line)).getD 0 = px.line := rfl
  have k1 : X.env.kindOf x = sc.names.lookup x := by unfold Env.kindOf; rw [gd.scope]
  have k2' : X.env.kindOf y = sc.names.lookup y := by unfold Env.kindOf; rw [gd.scope]
  have nm : (([Expr.Name x px, Expr.Name y py].filterMap fun
    | .Name id pos => if X.env.kindOf id == some .local && pos.line == px.line then some id else none
    | _ => none).length != 2) = true := by
    simp only [List.filterMap_cons, List.filterMap_nil, k1, k2']
    rcases hc with h | h
    · rw [h]
      have z : ((some NameKind.cell : Option NameKind) == some .local) = false := by decide
      rw [z]
      simp only [Bool.false_and, Bool.false_eq_true, if_false]
      split <;> rfl
    · rw [h]
      have z : ((some NameKind.cell : Option NameKind) == some .local) = false := by decide
      rw [z]
      simp only [Bool.false_and, Bool.false_eq_true, if_false]
      split <;> rfl
  unfold swappedStores
  show (if _ then _ else _) = _
  split
  · rfl
  · show (if _ then _ else _) = _
    split
    · rfl
    · simp only [ln]
      exact if_pos (Bool.or_eq_true_iff.mpr (.inl nm))
end
end Dx

set_option Elab.async false
set_option linter.all false
set_option maxRecDepth 100000
set_option maxHeartbeats 4000000
/-! the law's promise; how readings are reckoned -/
namespace Dx
open PySem PySem.Spec PyProof.Rows L2
open Evl (Ex)

/-- what the law's walk asks of its readings at a script -/
def lawOk (fi : Gam → M (List D)) (i s m : Nat) (fp : Gam → M (List D)) (fr : Gam → M (Fl × Gam)) (sl : List Int) : Prop := ∃ ds : List D, fi (gam0 [.scr sl] m) [] = some (ds, []) ∧
  ∀ d ∈ ds, ∃ n, d = .int n ∧ ∃ (ns : List Int) (Γ' : Gam) (p' : Pt), fp ((gam0 [.scr sl] m).set i (.val d)) [] = some (ns.map D.int, []) ∧ fr (((gam0 [.scr sl] m).set i (.val d)).set s (.val .pot)) ns = some ((.next, Γ'), p') ∧
    Γ'[0]? = some (.val (.scr sl)) ∧ m + 1 ≤ Γ'.length
def spLaw (K : PySem.W.Frag) (ok : List Int → Prop) : SpQ := fun vs H Q => ∃ (a : Addr) (sl : List Int), vs = [.ref a] ∧ SqL K H a (sl.map V.int) ∧ ok sl ∧ ∀ H', Q (.bl true) H'
theorem law_sp {K : PySem.W.Frag} {N : List Str} {fi : Gam → M (List D)} {i s m : Nat} {fp : Gam → M (List D)} {fr : Gam → M (Fl × Gam)} {vs : List V} {H : Hp} {Q : VK} (hm : N.length = m + 1) (hi : 0 < i) (hs : 0 < s) (hsm : s < m + 1) (his : i ≠ s)
    (h : spLaw K (lawOk fi i s m fp fr) vs H Q) : tLaw K fi i s m fp fr { nx := fun _ H' => Q .non H', rt := Q } (L2.start N vs) H := by
  obtain ⟨a, sl, rfl, hS, ⟨ds, e1, e2⟩, hQ⟩ := h
  refine ⟨H, sl, ds, ?_, hi, hs, hsm, his, e1, e2, hQ⟩
  have dl : DenL K none H [.scr sl] [.ref a] := DenL.cons (by simp only [Den]; exact ⟨a, rfl, hS⟩) DenL.nil
  have r := rel0 (N := N) (p := []) (Ex.refl H) (fun b e => by cases e) dl
  have e : N.length - [D.scr sl].length = m := by
    rw [hm]
    rfl
  rw [e] at r
  exact r

theorem OwnFnN.up {P : Program} {w : World} {K : PySem.W.Frag} {mg : Str → Option Value} {base : Heap} {k k' : Nat} {x : Str} {m : List D → M (List D)} (o : OwnFnN P w K mg base k x m) (h : k ≤ k') : OwnFnN P w K mg base k' x m := by
  obtain ⟨f, fd, ps, h1, h2, h3, F, h5⟩ := o.ex
  exact ⟨f, fd, ps, h1, h2, h3, ⟨fun A outer s H args us vs Q hg hr => F.run A outer s H args us vs Q hg (hr.mono h)⟩, h5⟩

/-! ### reckoning -/
theorem bnd_ret {α β : Type} (a : α) (f : α → M β) : bnd (ret a) f = f a := funext fun _ => rfl
theorem bnd_fail {α β : Type} (f : α → M β) : bnd fail f = fail := funext fun _ => rfl
theorem bnd_bnd {α β γ : Type} (m : M α) (f : α → M β) (g : β → M γ) : bnd (bnd m f) g = bnd m fun a => bnd (f a) g := by
  funext p
  unfold bnd
  cases m p with
  | none => rfl
  | some x => rfl
theorem bnd_ite {α β : Type} (c : Prop) [Decidable c] (m m' : M α) (f : α → M β) : bnd (if c then m else m') f = if c then bnd m f else bnd m' f := by
  by_cases h : c
  · rw [if_pos h, if_pos h]
  · rw [if_neg h, if_neg h]
theorem lift_val {α : Type} (a : α) : lift (some a) = ret a := funext fun _ => rfl
theorem lift_no {α : Type} : lift (none : Option α) = fail := funext fun _ => rfl
theorem lift_ite {α : Type} (c : Prop) [Decidable c] (o o' : Option α) : lift (if c then o else o') = if c then lift o else lift o' := by
  by_cases h : c
  · rw [if_pos h, if_pos h]
  · rw [if_neg h, if_neg h]
def finM : Fl × Gam → M D
  | (.ret d, _) => ret d
  | (.next, _) => ret .non
  | _ => fail
theorem finM_ret (d : D) (Γ : Gam) : finM (.ret d, Γ) = ret d := funext fun _ => rfl
theorem finM_next (Γ : Gam) : finM (.next, Γ) = ret .non := funext fun _ => rfl
theorem fnM_ev {n m : Nat} {f : Gam → M (Fl × Gam)} {ds : List D} (h : ds.length = n) : fnM n m f ds = bnd (f (gam0 ds (m - n))) finM := by
  funext p
  unfold fnM gam0
  rw [if_pos h]
  unfold bnd
  cases f (ds.map Slot.val ++ List.replicate (m - n) Slot.none) p with
  | none => rfl
  | some x =>
    obtain ⟨⟨fl, Γ⟩, q⟩ := x
    cases fl <;> rfl
theorem fnN_ev {n m : Nat} {f : Gam → M (List D)} {ds : List D} (h : ds.length = n) : fnN n m f ds = f (gam0 ds (m - n)) := by
  funext p
  unfold fnN
  rw [if_pos h]
def seqK (g : Gam → M (Fl × Gam)) : Fl × Gam → M (Fl × Gam)
  | (.next, Γ) => g Γ
  | r => ret r
theorem seqK_next (g : Gam → M (Fl × Gam)) (Γ : Gam) : seqK g (.next, Γ) = g Γ := funext fun _ => rfl
theorem seqK_ret (g : Gam → M (Fl × Gam)) (d : D) (Γ : Gam) : seqK g (.ret d, Γ) = ret (.ret d, Γ) := funext fun _ => rfl
theorem seqK_brk (g : Gam → M (Fl × Gam)) (Γ : Gam) : seqK g (.brk, Γ) = ret (.brk, Γ) := funext fun _ => rfl
theorem seqK_cont (g : Gam → M (Fl × Gam)) (Γ : Gam) : seqK g (.cont, Γ) = ret (.cont, Γ) := funext fun _ => rfl
theorem seqM_ev (f g : Gam → M (Fl × Gam)) (Γ : Gam) : seqM f g Γ = bnd (f Γ) (seqK g) := funext fun _ => rfl
def seqNK (g : Gam → M (List D)) : Fl × Gam → M (List D)
  | (.next, Γ) => g Γ
  | _ => fail
theorem seqNK_next (g : Gam → M (List D)) (Γ : Gam) : seqNK g (.next, Γ) = g Γ := funext fun _ => rfl
theorem seqN_ev (f : Gam → M (Fl × Gam)) (g : Gam → M (List D)) (Γ : Gam) : seqN f g Γ = bnd (f Γ) (seqNK g) := funext fun _ => rfl
theorem evv_ev {i : Nat} {Γ : Gam} {d : D} (h : Γ[i]? = some (.val d)) : evv i Γ = ret d := by
  unfold evv
  rw [h]
theorem pkv_ev {i : Nat} {Γ : Gam} {d : D} (h : Γ[i]? = some (.val d)) : pkv i Γ = ret d := by
  unfold pkv
  rw [h]
theorem pkv_own {i : Nat} {Γ : Gam} {d : D} (h : Γ[i]? = some (.own d)) : pkv i Γ = ret d := by
  unfold pkv
  rw [h]

/-! ### what comes of a reading -/
def Wp {α : Type} (m : M α) (p : Pt) (Q : α → Pt → Prop) : Prop := ∃ a q, m p = some (a, q) ∧ Q a q
theorem wp_ret {α : Type} {a : α} {p : Pt} {Q : α → Pt → Prop} (h : Q a p) : Wp (ret a) p Q := ⟨a, p, rfl, h⟩
theorem wp_bnd {α β : Type} {m : M α} {f : α → M β} {p : Pt} {Q : β → Pt → Prop} (h : Wp m p fun a q => Wp (f a) q Q) : Wp (bnd m f) p Q := by
  obtain ⟨a, q, e, b, q2, e2, hQ⟩ := h
  refine ⟨b, q2, ?_, hQ⟩
  unfold bnd
  rw [e]
  exact e2
theorem wp_mono {α : Type} {m : M α} {p : Pt} {Q R : α → Pt → Prop} (h : Wp m p Q) (k : ∀ a q, Q a q → R a q) : Wp m p R := by
  obtain ⟨a, q, e, hQ⟩ := h
  exact ⟨a, q, e, k a q hQ⟩
theorem wp_eq {α : Type} {m m' : M α} {p : Pt} {Q : α → Pt → Prop} (e : m = m') (h : Wp m' p Q) : Wp m p Q := by
  rw [e]
  exact h
theorem wp_ite {α : Type} {c : Prop} [Decidable c] {m m' : M α} {p : Pt} {Q : α → Pt → Prop} (h1 : c → Wp m p Q) (h2 : ¬ c → Wp m' p Q) : Wp (if c then m else m') p Q := by
  by_cases h : c
  · rw [if_pos h]; exact h1 h
  · rw [if_neg h]; exact h2 h
/-- a reading that asks nothing of the list that goes on changing -/
theorem ret_of {α : Type} {m : M α} {a : α} (h : ∀ p, Wp m p fun b q => b = a ∧ q = p) : m = ret a := by
  funext p
  obtain ⟨b, q, e, rfl, rfl⟩ := h p
  exact e
theorem wp_loop {t : Tgt} {fb : Gam → M (Fl × Gam)} {Q : Fl × Gam → Pt → Prop} {I : List D → Gam → Pt → Prop} (hn : ∀ Γ p, I [] Γ p → Q (.next, Γ) p)
    (hs : ∀ d ds Γ p, I (d :: ds) Γ p → ∃ Γ1, asgT t d Γ = some Γ1 ∧ Wp (fb Γ1) p fun r q => match r with
      | (.next, Γ2) => I ds Γ2 q
      | (.cont, Γ2) => I ds Γ2 q
      | (.brk, Γ2) => Q (.next, Γ2) q
      | (.ret x, Γ2) => Q (.ret x, Γ2) q) : ∀ (ds : List D) (Γ : Gam) (p : Pt), I ds Γ p → Wp (loopM t fb ds Γ) p Q
  | [], Γ, p, h => wp_ret (hn Γ p h)
  | d :: ds, Γ, p, h => by
    obtain ⟨Γ1, e1, a, q, e2, h2⟩ := hs d ds Γ p h
    unfold loopM
    refine wp_bnd ?_
    rw [e1, lift_val]
    refine wp_ret (wp_bnd ⟨a, q, e2, ?_⟩)
    obtain ⟨fl, Γ2⟩ := a
    cases fl with
    | next => exact wp_loop hn hs ds Γ2 q h2
    | cont => exact wp_loop hn hs ds Γ2 q h2
    | brk => exact wp_ret h2
    | ret x => exact wp_ret h2
/-- a comprehension that asks nothing of the list that goes on changing -/
theorem comp_pure {t : Tgt} {ft : Gam → M Bool} {fe : Gam → M D} {Γ : Gam} (T : D → Bool) (E : D → D) : ∀ (ds : List D), (∀ d ∈ ds, ∃ Γ1, asgT t d Γ = some Γ1 ∧ ft Γ1 = ret (T d) ∧ (T d = true → fe Γ1 = ret (E d))) →
    compL t ft fe ds Γ = ret ((ds.filter T).map E)
  | [], _ => rfl
  | d :: ds, h => by
    obtain ⟨Γ1, e1, e2, e3⟩ := h d (List.mem_cons_self ..)
    have ih := comp_pure (t := t) T E ds fun x hx => h x (List.mem_cons_of_mem _ hx)
    unfold compL
    rw [e1, lift_val, bnd_ret, e2, bnd_ret]
    by_cases q : T d = true
    · rw [if_pos q, e3 q, bnd_ret, ih, bnd_ret, List.filter_cons_of_pos q, List.map_cons]
    · rw [if_neg q, ih, List.filter_cons_of_neg q]
/-- a comprehension without a test, that may draw -/
theorem comp_wp {t : Tgt} {fe : Gam → M D} {Γ : Gam} {I : Nat → List D → Pt → Prop} : ∀ (ds : List D) (n : Nat) (acc : List D) (p : Pt), I n acc p →
    (∀ d ∈ ds, ∀ n acc p, I n acc p → ∃ Γ1, asgT t d Γ = some Γ1 ∧ Wp (fe Γ1) p fun y q => I (n + 1) (acc ++ [y]) q) → Wp (compL t yesM fe ds Γ) p fun l q => I (n + ds.length) (acc ++ l) q
  | [], n, acc, p, h, _ => wp_ret (by simpa using h)
  | d :: ds, n, acc, p, h, hs => by
    obtain ⟨Γ1, e1, y, q, e2, h2⟩ := hs d (List.mem_cons_self ..) n acc p h
    unfold compL
    refine wp_bnd ?_
    rw [e1, lift_val]
    refine wp_ret (wp_bnd (wp_ret ?_))
    rw [if_pos rfl]
    refine wp_bnd ⟨y, q, e2, wp_bnd (wp_mono (comp_wp ds (n + 1) (acc ++ [y]) q h2 fun x hx => hs x (List.mem_cons_of_mem _ hx)) fun l q2 h3 => wp_ret ?_)⟩
    rw [List.length_cons]
    have e : n + (ds.length + 1) = n + 1 + ds.length := by omega
    rw [e]
    simpa using h3
theorem rngL_mem {d : D} {lo : Int} {n : Nat} : d ∈ rngL lo n ↔ ∃ i : Int, d = .int i ∧ lo ≤ i ∧ i < lo + n := by
  induction n generalizing lo with
  | zero => simp [rngL] <;> (intro i _ h1; omega)
  | succ n ih =>
    simp only [rngL, List.mem_cons, ih]
    constructor
    · rintro (rfl | ⟨i, rfl, h1, h2⟩)
      · exact ⟨lo, rfl, by omega, by omega⟩
      · exact ⟨i, rfl, by omega, by omega⟩
    · rintro ⟨i, rfl, h1, h2⟩
      by_cases e : i = lo
      · left; rw [e]
      · right; exact ⟨i, rfl, by omega, by omega⟩
/-- the ints lo .. lo + n - 1 -/
def rngI (lo : Int) : Nat → List Int
  | 0 => []
  | n + 1 => lo :: rngI (lo + 1) n
theorem rngL_eq (lo : Int) (n : Nat) : rngL lo n = (rngI lo n).map D.int := by
  induction n generalizing lo with
  | zero => rfl
  | succ n ih => simp only [rngL, rngI, List.map_cons, ih]
theorem rngI_mem {i lo : Int} {n : Nat} : i ∈ rngI lo n ↔ lo ≤ i ∧ i < lo + n := by
  induction n generalizing lo with
  | zero => simp [rngI]
  | succ n ih =>
    simp only [rngI, List.mem_cons, ih]
    constructor
    · rintro (rfl | h) <;> omega
    · intro h
      by_cases e : i = lo
      · left; exact e
      · right; omega
theorem rngI_length (lo : Int) (n : Nat) : (rngI lo n).length = n := by
  induction n generalizing lo with
  | zero => rfl
  | succ n ih => simp [rngI, ih]
end Dx

set_option Elab.async false
set_option linter.all false
set_option maxRecDepth 100000
set_option maxHeartbeats 4000000
/-! data that can be compared and shown; the simplest readings -/
namespace Dx
open PySem PySem.Spec PyProof.Rows L2
open Evl (Ex)

/-- data of depth k at most, of weight w at most, no dicts, its ints below 10 ^ 12 -/
structure Nice (k w : Nat) (d : D) : Prop where
  pl : plain d = true
  cl : (toP d).canLay0 = true
  dp : (toP d).depth ≤ k
  wt : (toP d).weight ≤ w
  sh : (toP d).intsShort 13 = true
  sw : (toP d).showable = true
theorem nice_int {i : Int} (h : i.natAbs < 10 ^ 12) : Nice 0 40 (.int i) := by
  have lg : i.natAbs.log2 < 40 := PySem.Flt.log2_lt_of (by decide) (Nat.lt_of_lt_of_le h (by decide))
  refine ⟨rfl, rfl, by simp [toP, PyData.depth], ?_, ?_, ?_⟩
  · simp only [toP, PyData.weight]
    split <;> omega
  · simp only [toP, PyData.intsShort, decide_eq_true_eq]
    exact PyData.shown_int_le h
  · simp only [toP, PyData.showable, decide_eq_true_eq]
    omega
theorem nice_bl (b : Bool) : Nice 0 0 (.bl b) := by
  refine ⟨rfl, rfl, ?_, ?_, ?_, ?_⟩ <;> simp [toP, PyData.depth, PyData.weight, PyData.intsShort, PyData.showable]
theorem nice_non : Nice 0 0 .non := by
  refine ⟨rfl, rfl, ?_, ?_, ?_, ?_⟩ <;> simp [toP, PyData.depth, PyData.weight, PyData.intsShort, PyData.showable]
theorem nice_str {x : Str} {w : Nat} (h : PyData.strOk x = true) (hw : x.cps.size ≤ w) : Nice 0 w (.str x) := by
  refine ⟨rfl, ?_, ?_, ?_, ?_, ?_⟩
  · simpa [toP, PyData.canLay0] using h
  · simp [toP, PyData.depth]
  · simpa [toP, PyData.weight] using hw
  · simp [toP, PyData.intsShort]
  · simp [toP, PyData.showable]
theorem Nice.mono {k k' w w' : Nat} {d : D} (h : Nice k w d) (hk : k ≤ k') (hw : w ≤ w') : Nice k' w' d := ⟨h.pl, h.cl, Nat.le_trans h.dp hk, Nat.le_trans h.wt hw, h.sh, h.sw⟩
theorem nice_all {k w : Nat} : ∀ {l : List D}, (∀ d ∈ l, Nice k w d) → plainL l = true ∧ PyData.canLayAll0 (toPL l) = true ∧ PyData.depthAll (toPL l) ≤ k ∧ PyData.weightAll (toPL l) ≤ l.length * (w + 1) ∧ PyData.intsShortAll 13 (toPL l) = true ∧ PyData.showableAll (toPL l) = true
  | [], _ => by simp [plainL, toPL, PyData.canLayAll0, PyData.depthAll, PyData.weightAll, PyData.intsShortAll, PyData.showableAll]
  | d :: l, h => by
    have h1 := h d (List.mem_cons_self ..)
    obtain ⟨a1, a2, a3, a4, a5, a6⟩ := nice_all (l := l) fun x hx => h x (List.mem_cons_of_mem _ hx)
    simp only [plainL, toPL, PyData.canLayAll0, PyData.depthAll, PyData.weightAll, PyData.intsShortAll, PyData.showableAll, h1.pl, h1.cl, h1.sh, h1.sw, a1, a2, a5, a6, Bool.and_self, true_and, and_true, List.length_cons]
    have b1 := h1.dp
    have b2 := h1.wt
    refine ⟨by omega, ?_⟩
    rw [Nat.add_mul]
    omega
theorem nice_tup {k w : Nat} {l : List D} (h : ∀ d ∈ l, Nice k w d) : Nice (k + 1) (l.length * (w + 1)) (.tup l) := by
  obtain ⟨a1, a2, a3, a4, a5, a6⟩ := nice_all h
  refine ⟨?_, ?_, ?_, ?_, ?_, ?_⟩
  · simpa [plain] using a1
  · simpa [toP, PyData.canLay0] using a2
  · simp only [toP, PyData.depth]; omega
  · simpa [toP, PyData.weight] using a4
  · simpa [toP, PyData.intsShort] using a5
  · simpa [toP, PyData.showable] using a6
theorem nice_lst {k w : Nat} {l : List D} (h : ∀ d ∈ l, Nice k w d) : Nice (k + 1) (l.length * (w + 1)) (.lst l) := by
  obtain ⟨a1, a2, a3, a4, a5, a6⟩ := nice_all h
  refine ⟨?_, ?_, ?_, ?_, ?_, ?_⟩
  · simpa [plain] using a1
  · simpa [toP, PyData.canLay0] using a2
  · simp only [toP, PyData.depth]; omega
  · simpa [toP, PyData.weight] using a4
  · simpa [toP, PyData.intsShort] using a5
  · simpa [toP, PyData.showable] using a6
theorem Nice.shp {k w : Nat} {d : D} (h : Nice k w d) (hk : k ≤ 64) : shp d = true := by
  have := h.dp
  simp only [Dx.shp, SeqAt.shaped, h.pl, h.cl, Bool.true_and, decide_eq_true_eq]
  omega
theorem eqv_self {k w : Nat} {d : D} (h : Nice k w d) : eqvD d d = true := PySem.SeqAt.eqv_refl _ h.cl
theorem repr_ok {k w : Nat} {d : D} (h : Nice k w d) (hk : k ≤ 64) (hw : w ≤ 2 ^ 20) : reprG [d] = some (.str (toP d).shown) := by
  have h1 := h.shp hk
  have h2 : (toP d).hasDict = false := PyData.hasDict_of_canLay _ h.cl
  have h3 : PyData.layable0 (toP d) = true := by
    have a := h.dp
    have b := h.wt
    simp only [PyData.layable0, h.cl, Bool.true_and, Bool.and_eq_true, decide_eq_true_eq]
    omega
  have h4 : (toP d).shown.length ≤ 15728653 := PyData.shown_le_of_layable0 h3 h.sh
  have h5 : (shp d && (toP d).showable && !(toP d).hasDict && decide ((toP d).shown.length ≤ 16777216)) = true := by
    rw [h1, h.sw, h2]
    simp only [Bool.not_false, Bool.and_self, Bool.true_and, decide_eq_true_eq]
    omega
  exact if_pos h5
theorem eqv_str (x y : Str) : eqvD (.str x) (.str y) = (x == y) := by simp [eqvD, toP, PyData.eqv]
theorem eqD_gen {d e : D} (h : shp d = true) (g : shp e = true) : eqD d e = some (.bl (eqvD d e)) := by
  unfold eqD
  split
  · rw [eqv_str]
  · rw [h, g]
    rfl
theorem neD_gen {d e : D} (h : shp d = true) (g : shp e = true) : neD d e = some (.bl (!eqvD d e)) := by
  unfold neD
  split
  · rw [eqv_str]
  · rw [h, g]
    rfl
theorem eq_ok {k w k' w' : Nat} {d e : D} (h : Nice k w d) (g : Nice k' w' e) (hk : k ≤ 64) (hk' : k' ≤ 64) : eqD d e = some (.bl (eqvD d e)) := eqD_gen (h.shp hk) (g.shp hk')
theorem ne_ok {k w k' w' : Nat} {d e : D} (h : Nice k w d) (g : Nice k' w' e) (hk : k ≤ 64) (hk' : k' ≤ 64) : neD d e = some (.bl (!eqvD d e)) := neD_gen (h.shp hk) (g.shp hk')
theorem eqD_str (x y : Str) : eqD (.str x) (.str y) = some (.bl (x == y)) := rfl
theorem neD_str (x y : Str) : neD (.str x) (.str y) = some (.bl (!(x == y))) := rfl
theorem eqv_int (x y : Int) : eqvD (.int x) (.int y) = (x == y) := by simp [eqvD, toP, PyData.eqv]
theorem eqv_bl (x y : Bool) : eqvD (.bl x) (.bl y) = (x == y) := by simp [eqvD, toP, PyData.eqv]
def eqvL : List D → List D → Bool
  | [], [] => true
  | x :: l, y :: m => eqvD x y && eqvL l m
  | _, _ => false
theorem eqvL_ok : ∀ l m : List D, PyData.eqvAll (toPL l) (toPL m) = eqvL l m
  | [], [] => by simp [toPL, PyData.eqvAll, eqvL]
  | [], y :: m => by simp [toPL, PyData.eqvAll, eqvL]
  | x :: l, [] => by simp [toPL, PyData.eqvAll, eqvL]
  | x :: l, y :: m => by
    simp only [toPL, PyData.eqvAll, eqvL, eqvL_ok l m]
    rfl
theorem eqv_tup (l m : List D) : eqvD (.tup l) (.tup m) = eqvL l m := by
  show PyData.eqv (toP (.tup l)) (toP (.tup m)) = _
  simp only [toP, PyData.eqv]
  exact eqvL_ok l m
theorem eqv_lst (l m : List D) : eqvD (.lst l) (.lst m) = eqvL l m := by
  show PyData.eqv (toP (.lst l)) (toP (.lst m)) = _
  simp only [toP, PyData.eqv]
  exact eqvL_ok l m
/-- equal data are shown alike: the comparison of two reprs -/
theorem eqv_str_self (x : Str) : eqvD (.str x) (.str x) = true := by rw [eqv_str]; exact beq_self_eq_true x
theorem str_shp (x : Str) (h : PyData.strOk x = true) : shp (.str x) = true := by
  simp [shp, plain, SeqAt.shaped, toP, PyData.canLay0, h, PyData.depth]

/-! ### readings at known names -/
theorem atI_0 {α : Type} (a : α) (l : List α) : L2.atI (a :: l) 0 = some a := by
  unfold L2.atI L2.ixN
  rw [if_pos (by decide), if_pos (by simp only [List.length_cons]; omega)]
  rfl
theorem atI_succ {α : Type} (a : α) (l : List α) (n : Nat) : L2.atI (a :: l) ((n : Int) + 1) = L2.atI l n := by
  unfold L2.atI L2.ixN
  simp only [List.length_cons]
  have c1 : 0 ≤ (n : Int) + 1 := by omega
  have c2 : 0 ≤ (n : Int) := by omega
  rw [if_pos c1, if_pos c2]
  by_cases h : (n : Int) < (l.length : Int)
  · have c3 : (n : Int) + 1 < ((l.length + 1 : Nat) : Int) := by omega
    rw [if_pos c3, if_pos h]
    simp only [Option.bind_some]
    have e : ((n : Int) + 1).toNat = n + 1 := by omega
    have e2 : ((n : Int)).toNat = n := by omega
    rw [e, e2, List.getElem?_cons_succ]
  · have c3 : ¬ (n : Int) + 1 < ((l.length + 1 : Nat) : Int) := by omega
    rw [if_neg c3, if_neg h]
    rfl
theorem atI_1 {α : Type} (a b : α) (l : List α) : L2.atI (a :: b :: l) 1 = some b := (atI_succ a (b :: l) 0).trans (atI_0 b l)
theorem atI_2 {α : Type} (a b c : α) (l : List α) : L2.atI (a :: b :: c :: l) 2 = some c := (atI_succ a (b :: c :: l) 1).trans (atI_1 b c l)
theorem atI_3 {α : Type} (a b c d : α) (l : List α) : L2.atI (a :: b :: c :: d :: l) 3 = some d := (atI_succ a (b :: c :: d :: l) 2).trans (atI_2 b c d l)
theorem atI_4 {α : Type} (a b c d e : α) (l : List α) : L2.atI (a :: b :: c :: d :: e :: l) 4 = some e := (atI_succ a (b :: c :: d :: e :: l) 3).trans (atI_3 b c d e l)
theorem atI_nat {α : Type} (l : List α) (i : Int) (h0 : 0 ≤ i) (h1 : i < l.length) : L2.atI l i = l[i.toNat]? := by
  unfold L2.atI L2.ixN
  rw [if_pos h0, if_pos h1]
  rfl
theorem atI_last {α : Type} (l : List α) (a : α) : L2.atI (l ++ [a]) (-1) = some a := by
  unfold L2.atI L2.ixN
  rw [if_neg (by decide), if_pos (by simp; omega)]
  simp only [List.length_append, List.length_cons, List.length_nil, Option.bind_some]
  have e : (-1 + ((l.length + (0 + 1) : Nat) : Int)).toNat = l.length := by omega
  rw [e]
  simp
theorem fnM_ev' {n m : Nat} {f : Gam → M (Fl × Gam)} {ds : List D} : fnM n m f ds = if ds.length = n then bnd (f (gam0 ds (m - n))) finM else fail := by
  by_cases h : ds.length = n
  · rw [if_pos h, fnM_ev h]
  · rw [if_neg h]
    funext p
    unfold fnM
    rw [if_neg h]
    rfl
theorem mulOk_small {i j : Int} (h : -(2 ^ 64) < j ∧ j < 2 ^ 64) : mulOk i j = true := by
  unfold mulOk
  rw [decide_eq_true (Or.inr h), Bool.true_or]
theorem mulOk_left {i j : Int} (h : -(2 ^ 64) < i ∧ i < 2 ^ 64) : mulOk i j = true := by
  unfold mulOk
  rw [decide_eq_true (Or.inl h), Bool.true_or]
theorem divOk_small {j : Int} (h : 0 < j ∧ j < 1073741824) : divOk j = true := by
  unfold divOk
  rw [decide_eq_true h, Bool.true_or]
end Dx

set_option Elab.async false
set_option linter.all false
set_option maxRecDepth 100000
set_option maxHeartbeats 4000000
/-! comprehensions and loops over known lists -/
namespace Dx
open PySem PySem.Spec PyProof.Rows L2
open Evl (Ex)
def compI {α : Type} (t : α → M Bool) (e : α → M D) : List α → M (List D)
  | [] => ret []
  | a :: l => bnd (t a) fun b => if b = true then bnd (e a) fun y => bnd (compI t e l) fun r => ret (y :: r) else compI t e l
theorem compI_ret {α : Type} (T : α → Bool) (E : α → D) (l : List α) : compI (fun a => ret (T a)) (fun a => ret (E a)) l = ret ((l.filter T).map E) := by
  induction l with
  | nil => rfl
  | cons a l ih =>
    unfold compI
    rw [bnd_ret, ih]
    by_cases h : T a = true
    · rw [if_pos h, bnd_ret, bnd_ret, List.filter_cons_of_pos h, List.map_cons]
    · rw [if_neg h, List.filter_cons_of_neg h]
theorem compI_congr {α : Type} {t t' : α → M Bool} {e e' : α → M D} {l : List α} (h : ∀ a ∈ l, t a = t' a ∧ e a = e' a) : compI t e l = compI t' e' l := by
  induction l with
  | nil => rfl
  | cons a l ih =>
    obtain ⟨h1, h2⟩ := h a (List.mem_cons_self ..)
    unfold compI
    rw [h1, h2, ih fun b hb => h b (List.mem_cons_of_mem _ hb)]
theorem compL_map {α : Type} (t : Tgt) (ft : Gam → M Bool) (fe : Gam → M D) (f : α → D) (l : List α) (Γ : Gam) :
    compL t ft fe (l.map f) Γ = compI (fun a => bnd (lift (asgT t (f a) Γ)) ft) (fun a => bnd (lift (asgT t (f a) Γ)) fe) l := by
  induction l with
  | nil => rfl
  | cons a l ih =>
    simp only [List.map_cons, compL, compI, ih]
    cases asgT t (f a) Γ with
    | none => rfl
    | some Γ1 => rfl
theorem compL_nil (t : Tgt) (ft : Gam → M Bool) (fe : Gam → M D) (Γ : Gam) : compL t ft fe [] Γ = ret [] := funext fun _ => rfl
theorem compL_cons (t : Tgt) (ft : Gam → M Bool) (fe : Gam → M D) (d : D) (ds : List D) (Γ : Gam) : compL t ft fe (d :: ds) Γ = bnd (lift (asgT t d Γ)) fun Γ1 => bnd (ft Γ1) fun b =>
      if b = true then bnd (fe Γ1) fun y => bnd (compL t ft fe ds Γ) fun r => ret (y :: r) else compL t ft fe ds Γ := funext fun _ => rfl
theorem compM_ok {vs : List Nat} {t : Tgt} {fi : Gam → M (List D)} {ft : Gam → M Bool} {fe : Gam → M D} {Γ : Gam} {ds : List D} (h : fi Γ = ret ds) (hz : ds.length ≤ 16777216) : compM vs t fi ft fe Γ = compL t ft fe ds (wipeG Γ vs) := by
  unfold compM
  rw [h, bnd_ret, if_pos (by unfold szOk; exact decide_eq_true hz)]
theorem rng2_ok {lo hi : Int} (h1 : -1000000000000 ≤ lo) (h2 : lo < 1000000000000) (h3 : -1000000000000 ≤ hi) (h4 : hi < 1000000000000) : rng2G [.int lo, .int hi] = some ((rngI lo (hi - lo).toNat).map D.int) := by
  have e : rbOk lo hi = true := decide_eq_true ⟨by omega, by omega, by omega, by omega⟩
  show (if rbOk lo hi = true then some (rngL lo (hi - lo).toNat) else none) = _
  rw [if_pos e, rngL_eq]
theorem rng1_ok {hi : Int} (h3 : -1000000000000 ≤ hi) (h4 : hi < 1000000000000) : rng1G [.int hi] = some ((rngI 0 hi.toNat).map D.int) := by
  have e : rbOk 0 hi = true := decide_eq_true ⟨by decide, by decide, by omega, by omega⟩
  show (if rbOk 0 hi = true then some (rngL 0 hi.toNat) else none) = _
  rw [if_pos e, rngL_eq]
theorem seqRng_ok {lo hi : Int} (h1 : -1000000000000 ≤ lo) (h2 : lo < 1000000000000) (h3 : -1000000000000 ≤ hi) (h4 : hi < 1000000000000) : seqG (.rng lo hi) = some ((rngI lo (hi - lo).toNat).map D.int) := by
  have e : rbOk lo hi = true := decide_eq_true ⟨by omega, by omega, by omega, by omega⟩
  show (if rbOk lo hi = true then some (rngL lo (hi - lo).toNat) else none) = _
  rw [if_pos e, rngL_eq]
theorem rg1_ok {hi : Int} (h3 : 0 ≤ hi) (h4 : hi ≤ 16777216) : rgG [.int hi] = some ((rngI 0 hi.toNat).map D.int) := by
  have e : rgOk 0 hi = true := decide_eq_true ⟨by decide, by decide, by omega, by omega, by omega⟩
  show (if rgOk 0 hi = true then some (rngL 0 (hi - 0).toNat) else none) = _
  rw [if_pos e, rngL_eq, Int.sub_zero]
theorem bls_map' {α : Type} (f : α → Bool) (l : List α) : bls (l.map fun a => D.bl (f a)) = some (l.map f) := by
  have e : (l.map fun a => D.bl (f a)) = (l.map f).map D.bl := by rw [List.map_map]; rfl
  rw [e, bls_bls]
theorem any_ok {α : Type} (f : α → Bool) (l : List α) : allG (fun bs => bs.any id) [.lst (l.map fun a => D.bl (f a))] = some (.bl (l.any f)) := by
  show (bls (l.map fun a => D.bl (f a))).map _ = _
  rw [bls_map', Option.map_some]
  have e : (l.map f).any id = l.any f := by rw [List.any_map]; rfl
  exact congrArg (fun b => some (D.bl b)) e
theorem all_ok {α : Type} (f : α → Bool) (l : List α) : allG (fun bs => bs.all id) [.lst (l.map fun a => D.bl (f a))] = some (.bl (l.all f)) := by
  show (bls (l.map fun a => D.bl (f a))).map _ = _
  rw [bls_map', Option.map_some]
  have e : (l.map f).all id = l.all f := by rw [List.all_map]; rfl
  exact congrArg (fun b => some (D.bl b)) e
theorem filter_yes {α : Type} (l : List α) : l.filter (fun _ => true) = l := List.filter_eq_self.mpr fun _ _ => rfl
theorem intsOf_map' {α : Type} (f : α → Int) (l : List α) : intsOf (l.map fun a => D.int (f a)) = some (l.map f) := by
  have e : (l.map fun a => D.int (f a)) = (l.map f).map D.int := by rw [List.map_map]; rfl
  rw [e, intsOf_ints]
theorem max_tup {l : List Int} (h : l ≠ []) : maxG [.tup (l.map D.int)] = some (.int (maxI l)) := by
  cases l with
  | nil => exact absurd rfl h
  | cons a l =>
    show (match intsOf ((a :: l).map D.int) with | some (n :: ns) => some (D.int (maxI (n :: ns))) | _ => none) = _
    rw [intsOf_ints]
theorem min_tup {l : List Int} (h : l ≠ []) : minG [.tup (l.map D.int)] = some (.int (minI l)) := by
  cases l with
  | nil => exact absurd rfl h
  | cons a l =>
    show (match intsOf ((a :: l).map D.int) with | some (n :: ns) => some (D.int (minI (n :: ns))) | _ => none) = _
    rw [intsOf_ints]
theorem max_lst {l : List Int} (h : l ≠ []) : maxG [.lst (l.map D.int)] = some (.int (maxI l)) := by
  cases l with
  | nil => exact absurd rfl h
  | cons a l =>
    show (match intsOf ((a :: l).map D.int) with | some (n :: ns) => some (D.int (maxI (n :: ns))) | _ => none) = _
    rw [intsOf_ints]
theorem min_lst {l : List Int} (h : l ≠ []) : minG [.lst (l.map D.int)] = some (.int (minI l)) := by
  cases l with
  | nil => exact absurd rfl h
  | cons a l =>
    show (match intsOf ((a :: l).map D.int) with | some (n :: ns) => some (D.int (minI (n :: ns))) | _ => none) = _
    rw [intsOf_ints]
/-- a loop over a known list -/
def loopI {α : Type} (g : α → Gam → M (Fl × Gam)) : List α → Gam → M (Fl × Gam)
  | [], Γ => ret (.next, Γ)
  | a :: l, Γ => bnd (g a Γ) fun r => match r with
    | (.next, Γ2) => loopI g l Γ2
    | (.cont, Γ2) => loopI g l Γ2
    | (.brk, Γ2) => ret (.next, Γ2)
    | (.ret x, Γ2) => ret (.ret x, Γ2)
theorem loopM_map {α : Type} (t : Tgt) (fb : Gam → M (Fl × Gam)) (f : α → D) (l : List α) (Γ : Gam) : loopM t fb (l.map f) Γ = loopI (fun a Γ => bnd (lift (asgT t (f a) Γ)) fb) l Γ := by
  induction l generalizing Γ with
  | nil => rfl
  | cons a l ih =>
    simp only [List.map_cons, loopM, loopI]
    rw [bnd_bnd]
    congr 1
    funext Γ1
    congr 1
    funext r
    obtain ⟨fl, Γ2⟩ := r
    cases fl with
    | next => exact ih Γ2
    | cont => exact ih Γ2
    | _ => rfl
def flO : Option D → Fl
  | some d => .ret d
  | none => .next
/-- a loop that looks for the first that asks for an end -/
theorem loopI_find {α : Type} {g : α → Gam → M (Fl × Gam)} (I : Gam → Prop) (v : α → Option D) (h : ∀ a Γ, I Γ → ∃ Γ', I Γ' ∧ g a Γ = ret (flO (v a), Γ')) :
    ∀ (l : List α) (Γ : Gam), I Γ → ∃ Γ', I Γ' ∧ loopI g l Γ = ret (flO (l.findSome? v), Γ')
  | [], Γ, i => ⟨Γ, i, rfl⟩
  | a :: l, Γ, i => by
    obtain ⟨Γ1, i1, e1⟩ := h a Γ i
    unfold loopI
    rw [e1, bnd_ret]
    cases hv : v a with
    | some d => exact ⟨Γ1, i1, by rw [List.findSome?_cons, hv]; rfl⟩
    | none =>
      obtain ⟨Γ2, i2, e2⟩ := loopI_find I v h l Γ1 i1
      exact ⟨Γ2, i2, by rw [List.findSome?_cons, hv]; exact e2⟩
end Dx
namespace Dx
open PySem PySem.Spec PyProof.Rows L2
theorem szOk_le {n : Nat} (h : n ≤ 16777216) : szOk n = true := decide_eq_true h
theorem mulD_l {i j : Int} (h : -1000000000000000000 < i ∧ i < 1000000000000000000) : mulD (.int i) (.int j) = some (.int (i * j)) := by
  show (if mulOk i j = true then _ else _) = _
  rw [if_pos (mulOk_left ⟨by omega, by omega⟩)]
theorem mulD_r {i j : Int} (h : -1000000000000000000 < j ∧ j < 1000000000000000000) : mulD (.int i) (.int j) = some (.int (i * j)) := by
  show (if mulOk i j = true then _ else _) = _
  rw [if_pos (mulOk_small ⟨by omega, by omega⟩)]
theorem mulD_t {l : List D} {k : Int} (h : 0 < l.length ∧ l.length ≤ 1000 ∧ 2 ≤ k ∧ k ≤ 1000) : mulD (.tup l) (.int k) = some (.tup (List.replicate k.toNat l).flatten) := by
  show (if repOk l.length k = true then _ else _) = _
  have e : repOk l.length k = true := decide_eq_true h
  rw [if_pos e]
theorem fdivD_s {i j : Int} (h : 0 < j ∧ j < 1073741824) : fdivD (.int i) (.int j) = some (.int (i / j)) := by
  show (if divOk j = true then _ else _) = _
  rw [if_pos (divOk_small h)]
theorem modD_p {i j : Int} (h : 0 < j) : modD (.int i) (.int j) = some (.int (i % j)) := by
  show (if 0 < j then _ else _) = _
  rw [if_pos h]
theorem addD_t {l m : List D} (h : l.length + m.length ≤ 16777216) : addD (.tup l) (.tup m) = some (.tup (l ++ m)) := by
  show (if szOk (l.length + m.length) = true then _ else _) = _
  rw [if_pos (szOk_le h)]
theorem addD_l {l m : List D} (h : l.length + m.length ≤ 16777216) : addD (.lst l) (.lst m) = some (.lst (l ++ m)) := by
  show (if szOk (l.length + m.length) = true then _ else _) = _
  rw [if_pos (szOk_le h)]
theorem addD_i (i j : Int) : addD (.int i) (.int j) = some (.int (i + j)) := rfl
theorem subD_i (i j : Int) : subD (.int i) (.int j) = some (.int (i - j)) := rfl
theorem ite_or {p : Prop} [Decidable p] (c : Bool) : (if p then ret (D.bl true) else ret (D.bl c)) = (ret (D.bl (decide p || c)) : M D) := by
  by_cases h : p <;> simp [h]
theorem ite_and {p : Prop} [Decidable p] (c : Bool) : (if p then ret (D.bl c) else ret (D.bl false)) = (ret (D.bl (decide p && c)) : M D) := by
  by_cases h : p <;> simp [h]
theorem ite_orB {p : Prop} [Decidable p] (c : Bool) : (if p then ret true else ret c) = (ret (decide p || c) : M Bool) := by
  by_cases h : p <;> simp [h]
theorem ite_andB {p : Prop} [Decidable p] (c : Bool) : (if p then ret c else ret false) = (ret (decide p && c) : M Bool) := by
  by_cases h : p <;> simp [h]
theorem asgT_nm (i : Nat) (d : D) (Γ : Gam) : asgT (.nm i) d Γ = some (Γ.set i (.val d)) := rfl
/-- |i| -/
def ab (i : Int) : Int := if i < 0 then -i else i
theorem absG_i (i : Int) : absG [.int i] = some (.int (ab i)) := rfl
theorem cmpI_i (p : Int → Int → Bool) (i j : Int) : cmpI p (.int i) (.int j) = some (.bl (p i j)) := rfl
end Dx
namespace Dx
open PySem PySem.Spec PyProof.Rows L2
theorem ev_0 (d : D) (Γ : Gam) : evv 0 (.val d :: Γ) = ret d := funext fun _ => rfl
theorem pk_0 (d : D) (Γ : Gam) : pkv 0 (.val d :: Γ) = ret d := funext fun _ => rfl
theorem pk_o (d : D) (Γ : Gam) : pkv 0 (.own d :: Γ) = ret d := funext fun _ => rfl
theorem st_0 (s x : Slot) (Γ : Gam) : List.set (s :: Γ) 0 x = x :: Γ := rfl
theorem ow_0 (l : List D) (Γ : Gam) : ownL 0 (.own (.lst l) :: Γ) = ret l := funext fun _ => rfl
theorem ev_1 (s : Slot) (Γ : Gam) : evv 1 (s :: Γ) = evv 0 Γ := funext fun _ => rfl
theorem pk_1 (s : Slot) (Γ : Gam) : pkv 1 (s :: Γ) = pkv 0 Γ := funext fun _ => rfl
theorem st_1 (s x : Slot) (Γ : Gam) : List.set (s :: Γ) 1 x = s :: List.set Γ 0 x := rfl
theorem ow_1 (s : Slot) (Γ : Gam) : ownL 1 (s :: Γ) = ownL 0 Γ := funext fun _ => rfl
theorem ev_2 (s : Slot) (Γ : Gam) : evv 2 (s :: Γ) = evv 1 Γ := funext fun _ => rfl
theorem pk_2 (s : Slot) (Γ : Gam) : pkv 2 (s :: Γ) = pkv 1 Γ := funext fun _ => rfl
theorem st_2 (s x : Slot) (Γ : Gam) : List.set (s :: Γ) 2 x = s :: List.set Γ 1 x := rfl
theorem ow_2 (s : Slot) (Γ : Gam) : ownL 2 (s :: Γ) = ownL 1 Γ := funext fun _ => rfl
theorem ev_3 (s : Slot) (Γ : Gam) : evv 3 (s :: Γ) = evv 2 Γ := funext fun _ => rfl
theorem pk_3 (s : Slot) (Γ : Gam) : pkv 3 (s :: Γ) = pkv 2 Γ := funext fun _ => rfl
theorem st_3 (s x : Slot) (Γ : Gam) : List.set (s :: Γ) 3 x = s :: List.set Γ 2 x := rfl
theorem ow_3 (s : Slot) (Γ : Gam) : ownL 3 (s :: Γ) = ownL 2 Γ := funext fun _ => rfl
theorem ev_4 (s : Slot) (Γ : Gam) : evv 4 (s :: Γ) = evv 3 Γ := funext fun _ => rfl
theorem pk_4 (s : Slot) (Γ : Gam) : pkv 4 (s :: Γ) = pkv 3 Γ := funext fun _ => rfl
theorem st_4 (s x : Slot) (Γ : Gam) : List.set (s :: Γ) 4 x = s :: List.set Γ 3 x := rfl
theorem ow_4 (s : Slot) (Γ : Gam) : ownL 4 (s :: Γ) = ownL 3 Γ := funext fun _ => rfl
theorem ev_5 (s : Slot) (Γ : Gam) : evv 5 (s :: Γ) = evv 4 Γ := funext fun _ => rfl
theorem pk_5 (s : Slot) (Γ : Gam) : pkv 5 (s :: Γ) = pkv 4 Γ := funext fun _ => rfl
theorem st_5 (s x : Slot) (Γ : Gam) : List.set (s :: Γ) 5 x = s :: List.set Γ 4 x := rfl
theorem ow_5 (s : Slot) (Γ : Gam) : ownL 5 (s :: Γ) = ownL 4 Γ := funext fun _ => rfl
theorem ev_6 (s : Slot) (Γ : Gam) : evv 6 (s :: Γ) = evv 5 Γ := funext fun _ => rfl
theorem pk_6 (s : Slot) (Γ : Gam) : pkv 6 (s :: Γ) = pkv 5 Γ := funext fun _ => rfl
theorem st_6 (s x : Slot) (Γ : Gam) : List.set (s :: Γ) 6 x = s :: List.set Γ 5 x := rfl
theorem ow_6 (s : Slot) (Γ : Gam) : ownL 6 (s :: Γ) = ownL 5 Γ := funext fun _ => rfl
theorem ev_7 (s : Slot) (Γ : Gam) : evv 7 (s :: Γ) = evv 6 Γ := funext fun _ => rfl
theorem pk_7 (s : Slot) (Γ : Gam) : pkv 7 (s :: Γ) = pkv 6 Γ := funext fun _ => rfl
theorem st_7 (s x : Slot) (Γ : Gam) : List.set (s :: Γ) 7 x = s :: List.set Γ 6 x := rfl
theorem ow_7 (s : Slot) (Γ : Gam) : ownL 7 (s :: Γ) = ownL 6 Γ := funext fun _ => rfl
theorem ev_8 (s : Slot) (Γ : Gam) : evv 8 (s :: Γ) = evv 7 Γ := funext fun _ => rfl
theorem pk_8 (s : Slot) (Γ : Gam) : pkv 8 (s :: Γ) = pkv 7 Γ := funext fun _ => rfl
theorem st_8 (s x : Slot) (Γ : Gam) : List.set (s :: Γ) 8 x = s :: List.set Γ 7 x := rfl
theorem ow_8 (s : Slot) (Γ : Gam) : ownL 8 (s :: Γ) = ownL 7 Γ := funext fun _ => rfl
theorem ev_9 (s : Slot) (Γ : Gam) : evv 9 (s :: Γ) = evv 8 Γ := funext fun _ => rfl
theorem pk_9 (s : Slot) (Γ : Gam) : pkv 9 (s :: Γ) = pkv 8 Γ := funext fun _ => rfl
theorem st_9 (s x : Slot) (Γ : Gam) : List.set (s :: Γ) 9 x = s :: List.set Γ 8 x := rfl
theorem ow_9 (s : Slot) (Γ : Gam) : ownL 9 (s :: Γ) = ownL 8 Γ := funext fun _ => rfl
theorem ev_10 (s : Slot) (Γ : Gam) : evv 10 (s :: Γ) = evv 9 Γ := funext fun _ => rfl
theorem pk_10 (s : Slot) (Γ : Gam) : pkv 10 (s :: Γ) = pkv 9 Γ := funext fun _ => rfl
theorem st_10 (s x : Slot) (Γ : Gam) : List.set (s :: Γ) 10 x = s :: List.set Γ 9 x := rfl
theorem ow_10 (s : Slot) (Γ : Gam) : ownL 10 (s :: Γ) = ownL 9 Γ := funext fun _ => rfl
theorem ev_11 (s : Slot) (Γ : Gam) : evv 11 (s :: Γ) = evv 10 Γ := funext fun _ => rfl
theorem pk_11 (s : Slot) (Γ : Gam) : pkv 11 (s :: Γ) = pkv 10 Γ := funext fun _ => rfl
theorem st_11 (s x : Slot) (Γ : Gam) : List.set (s :: Γ) 11 x = s :: List.set Γ 10 x := rfl
theorem ow_11 (s : Slot) (Γ : Gam) : ownL 11 (s :: Γ) = ownL 10 Γ := funext fun _ => rfl
theorem ev_12 (s : Slot) (Γ : Gam) : evv 12 (s :: Γ) = evv 11 Γ := funext fun _ => rfl
theorem pk_12 (s : Slot) (Γ : Gam) : pkv 12 (s :: Γ) = pkv 11 Γ := funext fun _ => rfl
theorem st_12 (s x : Slot) (Γ : Gam) : List.set (s :: Γ) 12 x = s :: List.set Γ 11 x := rfl
theorem ow_12 (s : Slot) (Γ : Gam) : ownL 12 (s :: Γ) = ownL 11 Γ := funext fun _ => rfl
theorem ev_13 (s : Slot) (Γ : Gam) : evv 13 (s :: Γ) = evv 12 Γ := funext fun _ => rfl
theorem pk_13 (s : Slot) (Γ : Gam) : pkv 13 (s :: Γ) = pkv 12 Γ := funext fun _ => rfl
theorem st_13 (s x : Slot) (Γ : Gam) : List.set (s :: Γ) 13 x = s :: List.set Γ 12 x := rfl
theorem ow_13 (s : Slot) (Γ : Gam) : ownL 13 (s :: Γ) = ownL 12 Γ := funext fun _ => rfl
theorem ev_14 (s : Slot) (Γ : Gam) : evv 14 (s :: Γ) = evv 13 Γ := funext fun _ => rfl
theorem pk_14 (s : Slot) (Γ : Gam) : pkv 14 (s :: Γ) = pkv 13 Γ := funext fun _ => rfl
theorem st_14 (s x : Slot) (Γ : Gam) : List.set (s :: Γ) 14 x = s :: List.set Γ 13 x := rfl
theorem ow_14 (s : Slot) (Γ : Gam) : ownL 14 (s :: Γ) = ownL 13 Γ := funext fun _ => rfl
theorem ev_15 (s : Slot) (Γ : Gam) : evv 15 (s :: Γ) = evv 14 Γ := funext fun _ => rfl
theorem pk_15 (s : Slot) (Γ : Gam) : pkv 15 (s :: Γ) = pkv 14 Γ := funext fun _ => rfl
theorem st_15 (s x : Slot) (Γ : Gam) : List.set (s :: Γ) 15 x = s :: List.set Γ 14 x := rfl
theorem ow_15 (s : Slot) (Γ : Gam) : ownL 15 (s :: Γ) = ownL 14 Γ := funext fun _ => rfl
theorem ev_16 (s : Slot) (Γ : Gam) : evv 16 (s :: Γ) = evv 15 Γ := funext fun _ => rfl
theorem pk_16 (s : Slot) (Γ : Gam) : pkv 16 (s :: Γ) = pkv 15 Γ := funext fun _ => rfl
theorem st_16 (s x : Slot) (Γ : Gam) : List.set (s :: Γ) 16 x = s :: List.set Γ 15 x := rfl
theorem ow_16 (s : Slot) (Γ : Gam) : ownL 16 (s :: Γ) = ownL 15 Γ := funext fun _ => rfl
theorem ev_17 (s : Slot) (Γ : Gam) : evv 17 (s :: Γ) = evv 16 Γ := funext fun _ => rfl
theorem pk_17 (s : Slot) (Γ : Gam) : pkv 17 (s :: Γ) = pkv 16 Γ := funext fun _ => rfl
theorem st_17 (s x : Slot) (Γ : Gam) : List.set (s :: Γ) 17 x = s :: List.set Γ 16 x := rfl
theorem ow_17 (s : Slot) (Γ : Gam) : ownL 17 (s :: Γ) = ownL 16 Γ := funext fun _ => rfl
theorem ev_18 (s : Slot) (Γ : Gam) : evv 18 (s :: Γ) = evv 17 Γ := funext fun _ => rfl
theorem pk_18 (s : Slot) (Γ : Gam) : pkv 18 (s :: Γ) = pkv 17 Γ := funext fun _ => rfl
theorem st_18 (s x : Slot) (Γ : Gam) : List.set (s :: Γ) 18 x = s :: List.set Γ 17 x := rfl
theorem ow_18 (s : Slot) (Γ : Gam) : ownL 18 (s :: Γ) = ownL 17 Γ := funext fun _ => rfl
theorem ev_19 (s : Slot) (Γ : Gam) : evv 19 (s :: Γ) = evv 18 Γ := funext fun _ => rfl
theorem pk_19 (s : Slot) (Γ : Gam) : pkv 19 (s :: Γ) = pkv 18 Γ := funext fun _ => rfl
theorem st_19 (s x : Slot) (Γ : Gam) : List.set (s :: Γ) 19 x = s :: List.set Γ 18 x := rfl
theorem ow_19 (s : Slot) (Γ : Gam) : ownL 19 (s :: Γ) = ownL 18 Γ := funext fun _ => rfl
theorem ev_20 (s : Slot) (Γ : Gam) : evv 20 (s :: Γ) = evv 19 Γ := funext fun _ => rfl
theorem pk_20 (s : Slot) (Γ : Gam) : pkv 20 (s :: Γ) = pkv 19 Γ := funext fun _ => rfl
theorem st_20 (s x : Slot) (Γ : Gam) : List.set (s :: Γ) 20 x = s :: List.set Γ 19 x := rfl
theorem ow_20 (s : Slot) (Γ : Gam) : ownL 20 (s :: Γ) = ownL 19 Γ := funext fun _ => rfl
theorem ev_21 (s : Slot) (Γ : Gam) : evv 21 (s :: Γ) = evv 20 Γ := funext fun _ => rfl
theorem pk_21 (s : Slot) (Γ : Gam) : pkv 21 (s :: Γ) = pkv 20 Γ := funext fun _ => rfl
theorem st_21 (s x : Slot) (Γ : Gam) : List.set (s :: Γ) 21 x = s :: List.set Γ 20 x := rfl
theorem ow_21 (s : Slot) (Γ : Gam) : ownL 21 (s :: Γ) = ownL 20 Γ := funext fun _ => rfl
theorem ev_22 (s : Slot) (Γ : Gam) : evv 22 (s :: Γ) = evv 21 Γ := funext fun _ => rfl
theorem pk_22 (s : Slot) (Γ : Gam) : pkv 22 (s :: Γ) = pkv 21 Γ := funext fun _ => rfl
theorem st_22 (s x : Slot) (Γ : Gam) : List.set (s :: Γ) 22 x = s :: List.set Γ 21 x := rfl
theorem ow_22 (s : Slot) (Γ : Gam) : ownL 22 (s :: Γ) = ownL 21 Γ := funext fun _ => rfl
theorem ev_23 (s : Slot) (Γ : Gam) : evv 23 (s :: Γ) = evv 22 Γ := funext fun _ => rfl
theorem pk_23 (s : Slot) (Γ : Gam) : pkv 23 (s :: Γ) = pkv 22 Γ := funext fun _ => rfl
theorem st_23 (s x : Slot) (Γ : Gam) : List.set (s :: Γ) 23 x = s :: List.set Γ 22 x := rfl
theorem ow_23 (s : Slot) (Γ : Gam) : ownL 23 (s :: Γ) = ownL 22 Γ := funext fun _ => rfl
theorem ev_24 (s : Slot) (Γ : Gam) : evv 24 (s :: Γ) = evv 23 Γ := funext fun _ => rfl
theorem pk_24 (s : Slot) (Γ : Gam) : pkv 24 (s :: Γ) = pkv 23 Γ := funext fun _ => rfl
theorem st_24 (s x : Slot) (Γ : Gam) : List.set (s :: Γ) 24 x = s :: List.set Γ 23 x := rfl
theorem ow_24 (s : Slot) (Γ : Gam) : ownL 24 (s :: Γ) = ownL 23 Γ := funext fun _ => rfl
theorem ev_25 (s : Slot) (Γ : Gam) : evv 25 (s :: Γ) = evv 24 Γ := funext fun _ => rfl
theorem pk_25 (s : Slot) (Γ : Gam) : pkv 25 (s :: Γ) = pkv 24 Γ := funext fun _ => rfl
theorem st_25 (s x : Slot) (Γ : Gam) : List.set (s :: Γ) 25 x = s :: List.set Γ 24 x := rfl
theorem ow_25 (s : Slot) (Γ : Gam) : ownL 25 (s :: Γ) = ownL 24 Γ := funext fun _ => rfl
end Dx
namespace Dx
theorem ixD_t (l : List D) (i : Int) : ixD (.tup l) (.int i) = L2.atI l i := rfl
theorem ixD_l (l : List D) (i : Int) : ixD (.lst l) (.int i) = L2.atI l i := rfl
end Dx
namespace Dx
open PySem PySem.Spec PyProof.Rows L2
theorem seqG_t (l : List D) : seqG (.tup l) = some l := rfl
theorem seqG_l (l : List D) : seqG (.lst l) = some l := rfl
theorem seqZ_t (l : List D) : seqZ (.tup l) = some l := rfl
theorem seqZ_l (l : List D) : seqZ (.lst l) = some l := rfl
theorem all_2 (x y : Bool) : allG (fun bs => bs.all id) [.lst [.bl x, .bl y]] = some (.bl (x && y)) := by
  show some (D.bl ([x, y].all id)) = _
  simp
theorem any_2 (x y : Bool) : allG (fun bs => bs.any id) [.lst [.bl x, .bl y]] = some (.bl (x || y)) := by
  show some (D.bl ([x, y].any id)) = _
  simp
theorem shp_int (i : Int) : shp (.int i) = true := by simp [shp, plain, SeqAt.shaped, toP, PyData.canLay0, PyData.depth]
theorem shp_bl (i : Bool) : shp (.bl i) = true := by simp [shp, plain, SeqAt.shaped, toP, PyData.canLay0, PyData.depth]
theorem neD_i (i j : Int) : neD (.int i) (.int j) = some (.bl (!(i == j))) := by
  rw [neD_gen (shp_int i) (shp_int j), eqv_int]
theorem eqD_i (i j : Int) : eqD (.int i) (.int j) = some (.bl (i == j)) := by
  rw [eqD_gen (shp_int i) (shp_int j), eqv_int]
theorem neD_b (i j : Bool) : neD (.bl i) (.bl j) = some (.bl (!(i == j))) := by
  rw [neD_gen (shp_bl i) (shp_bl j), eqv_bl]
theorem cut_from1 {α : Type} (l : List α) : cutD l (some 1) none = l.drop 1 := by
  unfold cutD
  have e : HT.sIx l.length 0 (some 1) = min 1 l.length := HT.sIx_nat l.length 0 1
  rw [e, HT.sIx_none]
  cases l with
  | nil => rfl
  | cons a l =>
    have e2 : min 1 (a :: l).length = 1 := by simp
    rw [e2]
    exact List.take_of_length_le (by simp)
theorem cut_to {α : Type} (l : List α) (k : Nat) : cutD l none (some (k : Int)) = l.take k := by
  unfold cutD
  rw [HT.sIx_nat, HT.sIx_none, List.drop_zero, Nat.sub_zero]
  by_cases h : k ≤ l.length
  · rw [Nat.min_eq_left h]
  · rw [Nat.min_eq_right (by omega), List.take_length, List.take_of_length_le (by omega)]
theorem sliceD_t (l : List D) (lo hi : Option Int) : sliceD (.tup l) lo hi = some (.tup (cutD l lo hi)) := rfl
theorem sliceD_l (l : List D) (lo hi : Option Int) : sliceD (.lst l) lo hi = some (.lst (cutD l lo hi)) := rfl
def z3 (r l m : List Int) : List (Int × Int × Int) := r.zip (l.zip m)
theorem zipL3_ints : ∀ r l m : List Int, zipL3 (r.map .int) (l.map .int) (m.map .int) = (z3 r l m).map fun t => .tup [.int t.1, .int t.2.1, .int t.2.2]
  | [], l, m => by simp [zipL3, z3]
  | a :: r, [], m => by simp [zipL3, z3]
  | a :: r, b :: l, [] => by simp [zipL3, z3]
  | a :: r, b :: l, c :: m => by
    have ih := zipL3_ints r l m
    unfold z3 at ih ⊢
    simp only [List.map_cons, zipL3, List.zip_cons_cons, ih]
theorem zipL2_ints : ∀ r l : List Int, zipL2 (r.map .int) (l.map .int) = (r.zip l).map fun t => .tup [.int t.1, .int t.2]
  | [], l => by simp [zipL2]
  | a :: r, [] => by simp [zipL2]
  | a :: r, b :: l => by
    have ih := zipL2_ints r l
    simp only [List.map_cons, zipL2, List.zip_cons_cons, ih]
theorem zip3G_t (a b c : List D) : zip3G [.tup a, .tup b, .tup c] = some (zipL3 a b c) := rfl
theorem zip2G_t (a b : List D) : zip2G [.tup a, .tup b] = some (zipL2 a b) := rfl
theorem zip2G_tl (a b : List D) : zip2G [.tup a, .lst b] = some (zipL2 a b) := rfl
/-- a loop that appends to a list of its own -/
theorem loopI_grow {α : Type} {g : α → Gam → M (Fl × Gam)} {n : Nat} {β : Type} (G : List D → β → Gam) (T : α → Bool) (E : α → D) (h : ∀ a acc x, acc.length < n → ∃ y, g a (G acc x) = ret (.next, G (if T a = true then acc ++ [E a] else acc) y)) :
    ∀ (l : List α) (acc : List D) (x : β), acc.length + l.length ≤ n → ∃ y, loopI g l (G acc x) = ret (.next, G (acc ++ (l.filter T).map E) y)
  | [], acc, x, _ => ⟨x, by simp [loopI]⟩
  | a :: l, acc, x, hl => by
    obtain ⟨y, e⟩ := h a acc x (by simp at hl; omega)
    unfold loopI
    rw [e, bnd_ret]
    by_cases q : T a = true
    · rw [if_pos q, List.filter_cons_of_pos q, List.map_cons]
      obtain ⟨z, e2⟩ := loopI_grow G T E h l (acc ++ [E a]) y (by simp at hl ⊢; omega)
      refine ⟨z, ?_⟩
      show loopI g l (G (acc ++ [E a]) y) = _
      rw [e2]
      simp
    · rw [if_neg q, List.filter_cons_of_neg q]
      exact loopI_grow G T E h l acc y (by simp at hl; omega)
end Dx
namespace Dx
theorem asB_b (b : Bool) : asB (.bl b) = some b := rfl
end Dx

set_option Elab.async false
set_option linter.all false
set_option maxRecDepth 100000
set_option maxHeartbeats 4000000
/-! readings that draw from the list that goes on changing -/
namespace Dx
open PySem PySem.Spec PyProof.Rows L2
open Evl (Ex)
theorem wp_bnd_iff {α β : Type} {m : M α} {f : α → M β} {p : Pt} {Q : β → Pt → Prop} : Wp (bnd m f) p Q ↔ Wp m p fun a q => Wp (f a) q Q := by
  constructor
  · rintro ⟨b, q, e, h⟩
    obtain ⟨a, q1, e1, e2⟩ := bnd_some e
    exact ⟨a, q1, e1, b, q, e2, h⟩
  · exact wp_bnd
theorem wp_ret_iff {α : Type} {a : α} {p : Pt} {Q : α → Pt → Prop} : Wp (ret a) p Q ↔ Q a p := by
  constructor
  · rintro ⟨b, q, e, h⟩
    have z := ret_some e
    injection z with z1 z2
    rw [← z1, ← z2]
    exact h
  · exact wp_ret
theorem wp_ite_iff {α : Type} {c : Prop} [Decidable c] {m m' : M α} {p : Pt} {Q : α → Pt → Prop} : Wp (if c then m else m') p Q ↔ if c then Wp m p Q else Wp m' p Q := by
  by_cases h : c
  · rw [if_pos h, if_pos h]
  · rw [if_neg h, if_neg h]
def potG (i : Int) : M D := fun p => match L2.atI p i with
  | some n => some (.int n, p)
  | none => none
def potS (Γ : Gam) (i n : Int) : M (Fl × Gam) := fun p => match ixN p.length i with
  | some j => some ((.next, Γ), p.set j n)
  | none => none
theorem potIx_ev {fa fb : Gam → M D} {Γ : Gam} {i : Int} (h : fa Γ = ret .pot) (g : fb Γ = ret (.int i)) : potIx fa fb Γ = potG i := by
  unfold potIx
  rw [h, bnd_ret, g, bnd_ret]
  rfl
theorem potPut_ev {fo fi fe : Gam → M D} {Γ : Gam} {i : Int} (h : fo Γ = ret .pot) (g : fi Γ = ret (.int i)) : potPut fo fi fe Γ = bnd (fe Γ) fun v => match v with
    | .int n => potS Γ i n
    | _ => fail := by
  unfold potPut
  congr 1
  funext v
  rw [h, bnd_ret, g, bnd_ret]
  cases v <;> rfl
theorem wp_of {α : Type} {m : M α} {p q : Pt} {v : α} {Q : α → Pt → Prop} (e : m p = some (v, q)) : Wp m p Q ↔ Q v q := by
  constructor
  · rintro ⟨b, q2, e2, h⟩
    rw [e] at e2
    injection e2 with z
    injection z with z1 z2
    rw [z1, z2]
    exact h
  · exact fun h => ⟨v, q, e, h⟩
theorem wp_g0 {a b c : Int} {Q : D → Pt → Prop} : Wp (potG 0) [a, b, c] Q ↔ Q (.int a) [a, b, c] := by
  have e : potG 0 [a, b, c] = some (.int a, [a, b, c]) := by unfold potG; rw [atI_0]
  exact wp_of e
theorem wp_g1 {a b c : Int} {Q : D → Pt → Prop} : Wp (potG 1) [a, b, c] Q ↔ Q (.int b) [a, b, c] := by
  have e : potG 1 [a, b, c] = some (.int b, [a, b, c]) := by unfold potG; rw [atI_1]
  exact wp_of e
theorem wp_g2 {a b c : Int} {Q : D → Pt → Prop} : Wp (potG 2) [a, b, c] Q ↔ Q (.int c) [a, b, c] := by
  have e : potG 2 [a, b, c] = some (.int c, [a, b, c]) := by unfold potG; rw [atI_2]
  exact wp_of e
theorem wp_s0 {Γ : Gam} {a b c n : Int} {Q : Fl × Gam → Pt → Prop} : Wp (potS Γ 0 n) [a, b, c] Q ↔ Q (.next, Γ) [n, b, c] := by
  have e : potS Γ 0 n [a, b, c] = some ((.next, Γ), [n, b, c]) := rfl
  exact wp_of e
theorem wp_s2 {Γ : Gam} {a b c n : Int} {Q : Fl × Gam → Pt → Prop} : Wp (potS Γ 2 n) [a, b, c] Q ↔ Q (.next, Γ) [a, b, n] := by
  have e : potS Γ 2 n [a, b, c] = some ((.next, Γ), [a, b, n]) := rfl
  exact wp_of e
/-- the list that goes on changing, drawn from n times at most -/
def Okp (n : Int) (p : Pt) : Prop := ∃ a b c : Int, p = [a, b, c] ∧ 0 ≤ b ∧ b < 2 ^ 62 ∧ 0 ≤ c ∧ c ≤ n
theorem Okp.mono {n m : Int} {p : Pt} (h : Okp n p) (k : n ≤ m) : Okp m p := by
  obtain ⟨a, b, c, e, h1, h2, h3, h4⟩ := h
  exact ⟨a, b, c, e, h1, h2, h3, by omega⟩
theorem powD_3 {x : Int} (h1 : -(2 ^ 500) < x) (h2 : x < 2 ^ 500) : powD (.int x) (.int 3) = some (.int (x ^ 3)) := by
  have e : powOk x 3 = true := by
    unfold powOk
    have h : x.natAbs < 2 ^ 2000 := Nat.lt_of_lt_of_le (m := 2 ^ 500) (by omega) (Nat.pow_le_pow_right (by decide) (by decide))
    rw [decide_eq_true h]
    decide
  show (if powOk x 3 = true then some (D.int (x ^ (3 : Int).toNat)) else none) = _
  rw [if_pos e]
  rfl
theorem intG_i (i : Int) : intG [.int i] = some (.int i) := rfl
theorem intG_b (b : Bool) : intG [.bl b] = some (.int (if b then 1 else 0)) := rfl
theorem five {q0 q1 q2 q3 q4 i : Int} (h0 : 0 ≤ i) (h1 : i < 5) (h : ∀ q ∈ [q0, q1, q2, q3, q4], 0 < q ∧ q < 2 ^ 32) : ∃ q, L2.atI [D.int q0, .int q1, .int q2, .int q3, .int q4] i = some (.int q) ∧ 0 < q ∧ q < 2 ^ 32 := by
  have c : i = 0 ∨ i = 1 ∨ i = 2 ∨ i = 3 ∨ i = 4 := by omega
  rcases c with rfl | rfl | rfl | rfl | rfl
  · exact ⟨q0, atI_0 _ _, h q0 (by simp)⟩
  · exact ⟨q1, atI_1 _ _ _, h q1 (by simp)⟩
  · exact ⟨q2, atI_2 _ _ _ _, h q2 (by simp)⟩
  · exact ⟨q3, atI_3 _ _ _ _ _, h q3 (by simp)⟩
  · exact ⟨q4, atI_4 _ _ _ _ _ _, h q4 (by simp)⟩
/-- a draw -/
def Draws1 (m : List D → M D) : Prop := ∀ (n : Int) (p : Pt) (u : Int), Okp n p → n < 2 ^ 40 → 0 < u → u < 2 ^ 30 → Wp (m [.pot, .int u]) p fun d q => ∃ i, d = .int i ∧ 0 ≤ i ∧ i < u ∧ Okp (n + 1) q
end Dx
namespace Dx
open PySem PySem.Spec PyProof.Rows L2
theorem asI_i (i : Int) : asI (.int i) = some i := rfl
/-- one of a list, drawn -/
def DrawsOf (m : List D → M D) : Prop := ∀ (n : Int) (p : Pt) (l : List D), Okp n p → n < 2 ^ 40 → l ≠ [] → l.length < 2 ^ 30 → Wp (m [.pot, .lst l]) p fun d q => d ∈ l ∧ Okp (n + 1) q
theorem atI_mem {α : Type} {l : List α} {i : Int} (h0 : 0 ≤ i) (h1 : i < l.length) : ∃ a, L2.atI l i = some a ∧ a ∈ l := by
  rw [atI_nat l i h0 h1]
  have hl : i.toNat < l.length := by omega
  exact ⟨l[i.toNat], List.getElem?_eq_getElem hl, List.getElem_mem hl⟩
theorem erase_map {α β : Type} (f : α → β) : ∀ (l : List α) (k : Nat), (l.map f).eraseIdx k = (l.eraseIdx k).map f
  | [], k => by simp
  | a :: l, 0 => by simp
  | a :: l, k + 1 => by simp [erase_map f l k]
/-- x.pop(k) at ints -/
theorem popAt_wp {i : Nat} {fe : Gam → M D} {Γ : Gam} {l : List Int} {p : Pt} {Q : D × Gam → Pt → Prop} (hΓ : ownL i Γ = ret (l.map D.int)) (hz : l.length ≤ 16777216)
    (he : Wp (fe Γ) p fun d q => ∃ k : Int, d = .int k ∧ 0 ≤ k ∧ k < l.length ∧ ∀ y, l[k.toNat]? = some y → Q (.int y, Γ.set i (.own (.lst ((l.eraseIdx k.toNat).map D.int)))) q) : Wp (popAtM i fe Γ) p Q := by
  unfold popAtM
  rw [hΓ, bnd_ret]
  refine wp_bnd (wp_mono he fun d q ⟨k, e, k0, k1, h⟩ => ?_)
  subst e
  refine wp_bnd (wp_ret_iff.mpr ?_ : Wp (lift (asI (.int k))) q _)
  have hk : k.toNat < l.length := by omega
  have e1 : ixN (l.map D.int).length k = some k.toNat := by
    unfold ixN
    rw [if_pos k0, if_pos (by rw [List.length_map]; exact k1)]
  have e2 : (l.map D.int)[k.toNat]? = some (.int l[k.toNat]) := by
    rw [List.getElem?_map, List.getElem?_eq_getElem hk]
    rfl
  rw [e1]
  simp only [e2]
  rw [List.length_map, if_pos (szOk_le hz)]
  refine wp_ret ?_
  have e3 : (l.map D.int).eraseIdx k.toNat = (l.eraseIdx k.toNat).map D.int := erase_map D.int l k.toNat
  rw [e3]
  exact h _ (List.getElem?_eq_getElem hk)
end Dx
namespace Dx
open PySem PySem.Spec PyProof.Rows L2
theorem wp_compI {α : Type} {e : α → M D} {I : Nat → List D → Pt → Prop} : ∀ (l : List α) (n : Nat) (acc : List D) (p : Pt), I n acc p →
    (∀ a ∈ l, ∀ n acc p, I n acc p → Wp (e a) p fun y q => I (n + 1) (acc ++ [y]) q) → Wp (compI (fun _ => ret true) e l) p fun r q => I (n + l.length) (acc ++ r) q
  | [], n, acc, p, h, _ => wp_ret (by simpa using h)
  | a :: l, n, acc, p, h, hs => by
    obtain ⟨y, q, e2, h2⟩ := hs a (List.mem_cons_self ..) n acc p h
    unfold compI
    refine wp_bnd (wp_ret ?_)
    rw [if_pos rfl]
    refine wp_bnd ⟨y, q, e2, wp_bnd (wp_mono (wp_compI l (n + 1) (acc ++ [y]) q h2 fun x hx => hs x (List.mem_cons_of_mem _ hx)) fun r q2 h3 => wp_ret ?_)⟩
    rw [List.length_cons]
    have e : n + (l.length + 1) = n + 1 + l.length := by omega
    rw [e]
    simpa using h3
/-- ints that are drawn -/
theorem wp_ints {α : Type} {e : α → M D} (P : Int → Prop) (he : ∀ a n q, Okp n q → n < 2 ^ 40 → Wp (e a) q fun y q' => ∃ v, y = .int v ∧ P v ∧ Okp (n + 1) q') :
    ∀ (l : List α) (n : Int) (p : Pt), Okp n p → n + l.length < 2 ^ 40 → Wp (compI (fun _ => ret true) e l) p fun r q => ∃ m : List Int, r = m.map .int ∧ m.length = l.length ∧ (∀ v ∈ m, P v) ∧ Okp (n + l.length) q
  | [], n, p, hp, _ => wp_ret ⟨[], rfl, rfl, (by simp), hp.mono (by simp)⟩
  | a :: l, n, p, hp, hn => by
    rw [List.length_cons] at hn
    obtain ⟨y, q, e2, v, rfl, hv, hq⟩ := he a n p hp (by omega)
    unfold compI
    refine wp_bnd (wp_ret ?_)
    rw [if_pos rfl]
    refine wp_bnd ⟨_, q, e2, wp_bnd (wp_mono (wp_ints P he l (n + 1) q hq (by omega)) fun r q2 ⟨m, e3, e4, e5, e6⟩ => wp_ret ⟨v :: m, by rw [e3]; rfl, by simp [e4], fun x hx => ?_, ?_⟩)⟩
    · rcases List.mem_cons.mp hx with h | h
      · rw [h]; exact hv
      · exact e5 x h
    · rw [List.length_cons]
      exact e6.mono (by omega)
theorem each_ok {t : Tgt} {fb : Gam → M (Fl × Gam)} (J : Gam → Prop) : ∀ (ds : List D), (∀ d ∈ ds, ∀ Γ, J Γ → ∃ Γ1 Γ2, asgT t d Γ = some Γ1 ∧ J Γ2 ∧ fb Γ1 = ret (.next, Γ2)) → ∀ Γ, J Γ → ∃ Γ', J Γ' ∧ loopM t fb ds Γ = ret (.next, Γ')
  | [], _, Γ, j => ⟨Γ, j, rfl⟩
  | d :: ds, h, Γ, j => by
    obtain ⟨Γ1, Γ2, e1, j2, e2⟩ := h d (List.mem_cons_self ..) Γ j
    obtain ⟨Γ', j', e⟩ := each_ok J ds (fun x hx => h x (List.mem_cons_of_mem _ hx)) Γ2 j2
    refine ⟨Γ', j', ?_⟩
    unfold loopM
    rw [e1, lift_val, bnd_ret, e2, bnd_ret]
    exact e
theorem repr_bl (b : Bool) : reprG [.bl b] = some (.str (toP (.bl b)).shown) := repr_ok (nice_bl b) (by decide) (by decide)
end Dx
namespace Dx
open PySem PySem.Spec PyProof.Rows L2
theorem wp_loopI {α : Type} {g : α → Gam → M (Fl × Gam)} {Q : Fl × Gam → Pt → Prop} {I : List α → Gam → Pt → Prop} (hn : ∀ Γ p, I [] Γ p → Q (.next, Γ) p)
    (hs : ∀ a l Γ p, I (a :: l) Γ p → Wp (g a Γ) p fun r q => match r with
      | (.next, Γ2) => I l Γ2 q
      | (.cont, Γ2) => I l Γ2 q
      | (.brk, Γ2) => Q (.next, Γ2) q
      | (.ret x, Γ2) => Q (.ret x, Γ2) q) : ∀ (l : List α) (Γ : Gam) (p : Pt), I l Γ p → Wp (loopI g l Γ) p Q
  | [], Γ, p, h => wp_ret (hn Γ p h)
  | a :: l, Γ, p, h => by
    obtain ⟨r, q, e2, h2⟩ := hs a l Γ p h
    unfold loopI
    refine wp_bnd ⟨r, q, e2, ?_⟩
    obtain ⟨fl, Γ2⟩ := r
    cases fl with
    | next => exact wp_loopI hn hs l Γ2 q h2
    | cont => exact wp_loopI hn hs l Γ2 q h2
    | brk => exact wp_ret h2
    | ret x => exact wp_ret h2
end Dx
namespace Dx
theorem loopI_each {α : Type} {g : α → Gam → M (Fl × Gam)} (J : Gam → Prop) : ∀ (l : List α), (∀ a ∈ l, ∀ Γ, J Γ → ∃ Γ2, J Γ2 ∧ g a Γ = ret (.next, Γ2)) → ∀ Γ, J Γ → ∃ Γ', J Γ' ∧ loopI g l Γ = ret (.next, Γ')
  | [], _, Γ, j => ⟨Γ, j, rfl⟩
  | a :: l, h, Γ, j => by
    obtain ⟨Γ2, j2, e2⟩ := h a (List.mem_cons_self ..) Γ j
    obtain ⟨Γ', j', e⟩ := loopI_each J l (fun x hx => h x (List.mem_cons_of_mem _ hx)) Γ2 j2
    refine ⟨Γ', j', ?_⟩
    unfold loopI
    rw [e2, bnd_ret]
    exact e
end Dx
namespace Dx
open PySem PySem.Spec PyProof.Rows L2
theorem ixD_s (l : List Int) (i : Int) : ixD (.scr l) (.int i) = (L2.atI l i).map .int := rfl
theorem sliceD_s (l : List Int) (lo hi : Option Int) : sliceD (.scr l) lo hi = some (.lst ((cutD l lo hi).map .int)) := rfl
theorem sum_ints (l : List Int) : sumG [.lst (l.map .int)] = some (.int l.sum) := by
  show (intsOf (l.map D.int)).map _ = _
  rw [intsOf_ints]
  rfl
theorem mulD_p {p : Prop} [Decidable p] (i : Int) : mulD (.int i) (.int (if p then 1 else 0)) = some (.int (i * if p then 1 else 0)) := by
  by_cases h : p
  · rw [if_pos h]; exact mulD_r ⟨by decide, by decide⟩
  · rw [if_neg h]; exact mulD_r ⟨by decide, by decide⟩
theorem pow_of {i j : Int} (h : powOk i j = true) : powD (.int i) (.int j) = some (.int (i ^ j.toNat)) := if_pos h
theorem pow_60 : ∃ T : Int, 0 < T ∧ powD (.int 10) (.int 60) = some (.int T) ∧ ∃ U : Int, 0 < U ∧ powD (.int T) (.int 5) = some (.int U) :=
  ⟨_, by decide +kernel, pow_of (by decide +kernel), _, by decide +kernel, pow_of (by decide +kernel)⟩
theorem pow_18 : powD (.int 10) (.int 18) = some (.int 1000000000000000000) := by
  have e : (10 : Int) ^ (18 : Int).toNat = 1000000000000000000 := by decide +kernel
  rw [pow_of (by decide +kernel), e]
/-- bools that are all true, drawn -/
theorem wp_trues {α : Type} {e : α → M D} {c : Int} (he : ∀ a n q, Okp n q → n < 2 ^ 37 → Wp (e a) q fun y q' => y = .bl true ∧ Okp (n + c) q') (hc : 0 ≤ c) :
    ∀ (l : List α) (n : Int) (p : Pt), Okp n p → n + l.length * c < 2 ^ 37 → Wp (compI (fun _ => ret true) e l) p fun r q => r = l.map fun _ => D.bl true
  | [], n, p, hp, _ => wp_ret rfl
  | a :: l, n, p, hp, hn => by
    rw [List.length_cons] at hn
    have e1 : ((l.length + 1 : Nat) : Int) * c = l.length * c + c := by
      rw [Int.natCast_add, Int.add_mul, Int.natCast_one, Int.one_mul]
    rw [e1] at hn
    have h0 : 0 ≤ (l.length : Int) * c := Int.mul_nonneg (by omega) hc
    obtain ⟨y, q, e2, rfl, hq⟩ := he a n p hp (by omega)
    unfold compI
    refine wp_bnd (wp_ret ?_)
    rw [if_pos rfl]
    refine wp_bnd ⟨_, q, e2, wp_bnd (wp_mono (wp_trues he hc l (n + c) q hq (by omega)) fun r q2 h3 => wp_ret ?_)⟩
    rw [h3]
    rfl
theorem all_true {α : Type} (l : List α) : allG (fun bs => bs.all id) [.lst (l.map fun _ => D.bl true)] = some (.bl true) := by
  rw [all_ok (fun _ => true) l]
  congr 2
  exact List.all_eq_true.mpr fun _ _ => rfl
end Dx

set_option Elab.async false
set_option linter.all false
set_option maxRecDepth 100000
set_option maxHeartbeats 0
/-! the head of k68: where each def stands, constants, names that are still built in; written by genhead.py -/
namespace K68
open PySem PySem.Spec PyProof.Rows L2
def top (i : Nat) : Stmt := PySem.Challenge.pw_steeredback_k68_whole_rows_of_settings_t.main.body.getD i (.Pass ⟨0, 0, 0, 0⟩)
abbrev s_is_tuple : Stmt := top 1
abbrev s_is_whole : Stmt := top 2
abbrev s_is_integer : Stmt := top 3
abbrev s_is_between : Stmt := top 20
abbrev s_is_vat : Stmt := top 21
abbrev s_check_vat : Stmt := top 22
abbrev s_check_level : Stmt := top 23
abbrev s_level_by : Stmt := top 24
abbrev s_check_bounds : Stmt := top 33
abbrev s_all_faults : Stmt := top 34
abbrev s_is_seen : Stmt := top 35
abbrev s_fits : Stmt := top 36
abbrev s_may_be : Stmt := top 37
abbrev s_width_of : Stmt := top 38
abbrev s_parts : Stmt := top 39
abbrev s_telling : Stmt := top 40
abbrev s_least_row : Stmt := top 41
abbrev s_shows_row : Stmt := top 42
abbrev s_is_told : Stmt := top 43
abbrev s__law_pot : Stmt := top 45
abbrev s__law_take : Stmt := top 46
abbrev s__law_of : Stmt := top 47
abbrev s__law_places : Stmt := top 48
abbrev s__law_drawn : Stmt := top 49
abbrev s__law_parts : Stmt := top 50
abbrev s__law_is_told : Stmt := top 51
abbrev s__law_shuffled : Stmt := top 52
abbrev s__law_is_row_right : Stmt := top 53
abbrev s__law_levels : Stmt := top 54
abbrev s__law_lets : Stmt := top 55
abbrev s__law_is_course_right : Stmt := top 56
abbrev s__law_between : Stmt := top 57
abbrev s__law_is_right : Stmt := top 58
abbrev s_law : Stmt := top 59
def d_is_tuple : He.DefD := ⟨("is_tuple", none), "is_tuple", "is_tuple", defArgs s_is_tuple, defBody s_is_tuple, defScope s_is_tuple, [], []⟩
def d_is_whole : He.DefD := ⟨("is_whole", none), "is_whole", "is_whole", defArgs s_is_whole, defBody s_is_whole, defScope s_is_whole, [], []⟩
def d_is_integer : He.DefD := ⟨("is_integer", none), "is_integer", "is_integer", defArgs s_is_integer, defBody s_is_integer, defScope s_is_integer, [], []⟩
def d_is_between : He.DefD := ⟨("is_between", none), "is_between", "is_between", defArgs s_is_between, defBody s_is_between, defScope s_is_between, [], []⟩
def d_is_vat : He.DefD := ⟨("is_vat", none), "is_vat", "is_vat", defArgs s_is_vat, defBody s_is_vat, defScope s_is_vat, [], []⟩
def d_check_vat : He.DefD := ⟨("check_vat", none), "check_vat", "check_vat", defArgs s_check_vat, defBody s_check_vat, defScope s_check_vat, [], []⟩
def d_check_level : He.DefD := ⟨("check_level", none), "check_level", "check_level", defArgs s_check_level, defBody s_check_level, defScope s_check_level, [], []⟩
def d_level_by : He.DefD := ⟨("level_by", none), "level_by", "level_by", defArgs s_level_by, defBody s_level_by, defScope s_level_by, [], []⟩
def d_check_bounds : He.DefD := ⟨("check_bounds", none), "check_bounds", "check_bounds", defArgs s_check_bounds, defBody s_check_bounds, defScope s_check_bounds, [], []⟩
def d_all_faults : He.DefD := ⟨("all_faults", none), "all_faults", "all_faults", defArgs s_all_faults, defBody s_all_faults, defScope s_all_faults, [], []⟩
def d_is_seen : He.DefD := ⟨("is_seen", none), "is_seen", "is_seen", defArgs s_is_seen, defBody s_is_seen, defScope s_is_seen, [], []⟩
def d_fits : He.DefD := ⟨("fits", none), "fits", "fits", defArgs s_fits, defBody s_fits, defScope s_fits, [], []⟩
def d_may_be : He.DefD := ⟨("may_be", none), "may_be", "may_be", defArgs s_may_be, defBody s_may_be, defScope s_may_be, [], []⟩
def d_width_of : He.DefD := ⟨("width_of", none), "width_of", "width_of", defArgs s_width_of, defBody s_width_of, defScope s_width_of, [], []⟩
def d_parts : He.DefD := ⟨("parts", none), "parts", "parts", defArgs s_parts, defBody s_parts, defScope s_parts, [], []⟩
def d_telling : He.DefD := ⟨("telling", none), "telling", "telling", defArgs s_telling, defBody s_telling, defScope s_telling, [], []⟩
def d_least_row : He.DefD := ⟨("least_row", none), "least_row", "least_row", defArgs s_least_row, defBody s_least_row, defScope s_least_row, [], []⟩
def d_shows_row : He.DefD := ⟨("shows_row", none), "shows_row", "shows_row", defArgs s_shows_row, defBody s_shows_row, defScope s_shows_row, [], []⟩
def d_is_told : He.DefD := ⟨("is_told", none), "is_told", "is_told", defArgs s_is_told, defBody s_is_told, defScope s_is_told, [], []⟩
def d__law_pot : He.DefD := ⟨("_law_pot", none), "_law_pot", "_law_pot", defArgs s__law_pot, defBody s__law_pot, defScope s__law_pot, [], []⟩
def d__law_take : He.DefD := ⟨("_law_take", none), "_law_take", "_law_take", defArgs s__law_take, defBody s__law_take, defScope s__law_take, [], []⟩
def d__law_of : He.DefD := ⟨("_law_of", none), "_law_of", "_law_of", defArgs s__law_of, defBody s__law_of, defScope s__law_of, [], []⟩
def d__law_places : He.DefD := ⟨("_law_places", none), "_law_places", "_law_places", defArgs s__law_places, defBody s__law_places, defScope s__law_places, [], []⟩
def d__law_drawn : He.DefD := ⟨("_law_drawn", none), "_law_drawn", "_law_drawn", defArgs s__law_drawn, defBody s__law_drawn, defScope s__law_drawn, [], []⟩
def d__law_parts : He.DefD := ⟨("_law_parts", none), "_law_parts", "_law_parts", defArgs s__law_parts, defBody s__law_parts, defScope s__law_parts, [], []⟩
def d__law_is_told : He.DefD := ⟨("_law_is_told", none), "_law_is_told", "_law_is_told", defArgs s__law_is_told, defBody s__law_is_told, defScope s__law_is_told, [], []⟩
def d__law_shuffled : He.DefD := ⟨("_law_shuffled", none), "_law_shuffled", "_law_shuffled", defArgs s__law_shuffled, defBody s__law_shuffled, defScope s__law_shuffled, [], []⟩
def d__law_is_row_right : He.DefD := ⟨("_law_is_row_right", none), "_law_is_row_right", "_law_is_row_right", defArgs s__law_is_row_right, defBody s__law_is_row_right, defScope s__law_is_row_right, [], []⟩
def d__law_levels : He.DefD := ⟨("_law_levels", none), "_law_levels", "_law_levels", defArgs s__law_levels, defBody s__law_levels, defScope s__law_levels, [], []⟩
def d__law_lets : He.DefD := ⟨("_law_lets", none), "_law_lets", "_law_lets", defArgs s__law_lets, defBody s__law_lets, defScope s__law_lets, [], []⟩
def d__law_is_course_right : He.DefD := ⟨("_law_is_course_right", none), "_law_is_course_right", "_law_is_course_right", defArgs s__law_is_course_right, defBody s__law_is_course_right, defScope s__law_is_course_right, [], []⟩
def d__law_between : He.DefD := ⟨("_law_between", none), "_law_between", "_law_between", defArgs s__law_between, defBody s__law_between, defScope s__law_between, [], []⟩
def d__law_is_right : He.DefD := ⟨("_law_is_right", none), "_law_is_right", "_law_is_right", defArgs s__law_is_right, defBody s__law_is_right, defScope s__law_is_right, [], []⟩
def d_law : He.DefD := ⟨("law", none), "law", "law", defArgs s_law, defBody s_law, defScope s_law, [], []⟩
def fn : List He.DefD := [d_is_tuple, d_is_whole, d_is_integer, d_is_between, d_is_vat, d_check_vat, d_check_level, d_level_by, d_check_bounds, d_all_faults, d_is_seen, d_fits, d_may_be, d_width_of, d_parts, d_telling, d_least_row, d_shows_row, d_is_told, d__law_pot, d__law_take, d__law_of, d__law_places, d__law_drawn, d__law_parts, d__law_is_told, d__law_shuffled, d__law_is_row_right, d__law_levels, d__law_lets, d__law_is_course_right, d__law_between, d__law_is_right, d_law]
def fa : List He.Fa := [.glo "is_tuple", .glo "is_whole", .glo "is_integer", .glo "is_between", .glo "is_vat", .glo "check_vat", .glo "check_level", .glo "level_by", .glo "check_bounds", .glo "all_faults", .glo "is_seen", .glo "fits", .glo "may_be", .glo "width_of", .glo "parts", .glo "telling", .glo "least_row", .glo "shows_row", .glo "is_told", .glo "_law_pot", .glo "_law_take", .glo "_law_of", .glo "_law_places", .glo "_law_drawn", .glo "_law_parts", .glo "_law_is_told", .glo "_law_shuffled", .glo "_law_is_row_right", .glo "_law_levels", .glo "_law_lets", .glo "_law_is_course_right", .glo "_law_between", .glo "_law_is_right", .glo "law", .free "abs", .free "all", .free "any", .free "bool", .free "int", .free "isinstance", .free "len", .free "list", .free "max", .free "min", .free "range", .free "repr", .free "str", .free "sum", .free "tuple", .free "zip", .int "MOST_KEEPS" 20, .int "MOST_UNDER" 20, .int "MOST_STRENGTH" 20, .int "MOST_LEVEL" 200, .int "MOST_WEATHER" 50, .int "MOST_LEVER" 50, .int "PAIR_vats" 2, .int "TRIPLE_vats" 3, .int "FIVE" 5, .int "MOST_SEEN" 60, .int "PAIR_stuck" 2, .int "TRIPLE_stuck" 3, .str "FINE" "fine", .str "STUCK" "stuck", .str "ROW" "row", .str "NEVER" "never"]
def names0 : List PySem.Str := ["is_tuple", "is_whole", "is_integer", "is_between", "is_vat", "check_vat", "check_level", "level_by", "check_bounds", "all_faults", "is_seen", "fits", "may_be", "width_of", "parts", "telling", "least_row", "shows_row", "is_told", "_law_pot", "_law_take", "_law_of", "_law_places", "_law_drawn", "_law_parts", "_law_is_told", "_law_shuffled", "_law_is_row_right", "_law_levels", "_law_lets"]
def names1 : List PySem.Str := ["_law_is_course_right", "_law_between", "_law_is_right", "LeverError", "BadVat", "BadLevel", "BadLever", "BadReadings", "MOST_KEEPS", "MOST_UNDER", "MOST_STRENGTH", "MOST_LEVEL", "MOST_WEATHER", "MOST_LEVER", "PAIR_vats", "TRIPLE_vats", "FIVE", "MOST_SEEN", "PAIR_stuck", "TRIPLE_stuck", "FINE", "STUCK", "ROW", "NEVER"]
def names : List PySem.Str := names0 ++ names1
abbrev R : PySem.W.OpenRow := PySem.W.OpenLaw.row PySem.Challenge.rw_steeredback_k68_whole_rows_of_settings_t
abbrev hk : PySem.W.Hook := He.hookD 4 fa fn
def ob (s : PySem.W.SharedT) : He.AlD := He.obsDG 4 fa fn (HandSHeadRun.getT s)
theorem ob_eq (s : PySem.W.SharedT) : ob s = hk.obs s.abs := He.obsDG_eq (HandSHeadRun.getT_eq s)
theorem run (w : World) : HandSHeadRun.RunEq R (PySem.W.view R.prog [59]) hk ob 20000 names w := by
  intro os
  kernel_rfl
end K68

set_option Elab.async false
set_option linter.all false
set_option maxRecDepth 100000
set_option maxHeartbeats 4000000
namespace K68
open PySem PySem.Spec PyProof.Rows L2 Dx
open Evl (Ex)
def m_is_tuple : List D → M D := fnM 3 3
  (retM (andM (isiM .tuple (evv 0)) (blM (chB leD leD (evv 1) (biM lenG (consM (evv 0) nilM)) (evv 2)))))
def m_is_whole : List D → M D := fnM 1 1
  (retM (andM (isiM .int (evv 0)) (notM (isiM .bool (evv 0)))))
def m_is_integer : List D → M D := fnM 3 3
  (retM (andM (callM m_is_whole (consM (evv 0) nilM)) (blM (chB leD leD (evv 1) (evv 0) (evv 2)))))
def m_is_between : List D → M D := fnM 2 2
  (seqM (ifM (tOrM (tNotM (tsB (callM m_is_tuple (consM (evv 0) (consM (con (.int 2)) (consM (con (.int 2)) nilM)))))) (tNotM (tsB (callM m_is_integer (consM (op2 ixD (evv 0) (con (.int 0))) (consM (negM (evv 1)) (consM (evv 1) nilM))))))) (retM (con (.bl false))) skipM)
  (retM (callM m_is_integer (consM (op2 ixD (evv 0) (con (.int 1))) (consM (op2 ixD (evv 0) (con (.int 0))) (consM (evv 1) nilM))))))
def m_is_vat : List D → M D := fnM 1 1
  (seqM (ifM (tOrM (tNotM (tsB (callM m_is_tuple (consM (evv 0) (consM (con (.int 5)) (consM (con (.int 5)) nilM)))))) (tNotM (tsB (callM m_is_integer (consM (op2 ixD (evv 0) (con (.int 0))) (consM (con (.int 0)) (consM (con (.int 20)) nilM))))))) (retM (con (.bl false))) skipM)
  (seqM (ifM (tOrM (tNotM (tsB (callM m_is_integer (consM (op2 ixD (evv 0) (con (.int 1))) (consM (con (.int 1)) (consM (con (.int 20)) nilM)))))) (tNotM (tsB (callM m_is_integer (consM (op2 ixD (evv 0) (con (.int 2))) (consM (negM (con (.int 20))) (consM (con (.int 20)) nilM))))))) (retM (con (.bl false))) skipM)
  (retM (andM (callM m_is_between (consM (op2 ixD (evv 0) (con (.int 3))) (consM (con (.int 200)) nilM))) (callM m_is_between (consM (op2 ixD (evv 0) (op2 addD (con (.int 3)) (con (.int 1)))) (consM (con (.int 50)) nilM)))))))
def m_check_vat : List D → M D := fnM 1 1
  (ifM (tNotM (tsB (callM m_is_vat (consM (evv 0) nilM)))) failM skipM)
def m_check_level : List D → M D := fnM 2 2
  (seqM (exprM (callM m_check_vat (consM (evv 0) nilM)))
  (ifM (tNotM (tsB (callM m_is_integer (consM (evv 1) (consM (op2 ixD (op2 ixD (evv 0) (con (.int 3))) (con (.int 0))) (consM (op2 ixD (op2 ixD (evv 0) (con (.int 3))) (con (.int 1))) nilM)))))) failM skipM))
def m_level_by : List D → M D := fnM 4 4
  (retM (op2 addD (op2 addD (op2 fdivD (op2 mulD (op2 ixD (evv 0) (con (.int 0))) (evv 1)) (op2 ixD (evv 0) (con (.int 1)))) (op2 mulD (op2 ixD (evv 0) (con (.int 2))) (evv 2))) (evv 3)))
def m_check_bounds : List D → M D := fnM 2 2
  (seqM (exprM (callM m_check_vat (consM (evv 0) nilM)))
  (ifM (tNotM (tsB (callM m_is_between (consM (evv 1) (consM (con (.int 50)) nilM))))) failM skipM))
def m_all_faults : List D → M D := fnM 1 2
  (retM (frzM (lstM (consM (tupM (consM (con (.str "fine")) nilM)) (starM (frzM (compM [1] (.nm 1) (biM rng2G (consM (op2 ixD (evv 0) (con (.int 0))) (consM (op2 addD (op2 ixD (evv 0) (con (.int 1))) (con (.int 1))) nilM))) yesM (tupM (consM (con (.str "stuck")) (consM (evv 1) nilM))))) nilM)))))
def m_is_seen : List D → M D := fnM 3 6
  (seqM (ifM (tOrM (tNotM (tsB (callM m_is_tuple (consM (evv 2) (consM (con (.int 2)) (consM (con (.int 2)) nilM)))))) (tNotM (tsB (biM (allG fun bs => bs.all id) (consM (frzM (compM [3] (.nm 3) (seqI (evv 2)) yesM (callM m_is_tuple (consM (evv 3) (consM (con (.int 0)) (consM (op2 addD (con (.int 60)) (con (.int 1))) nilM)))))) nilM))))) (retM (con (.bl false))) skipM)
  (seqM (ifM (tOrM (ts2 neD (biM lenG (consM (op2 ixD (evv 2) (con (.int 1))) nilM)) (op2 addD (biM lenG (consM (op2 ixD (evv 2) (con (.int 0))) nilM)) (con (.int 1)))) (tNotM (tsB (biM (allG fun bs => bs.all id) (consM (frzM (compM [4] (.nm 4) (seqI (op2 ixD (evv 2) (con (.int 0)))) yesM (callM m_is_integer (consM (evv 4) (consM (op2 ixD (evv 1) (con (.int 0))) (consM (op2 ixD (evv 1) (con (.int 1))) nilM)))))) nilM))))) (retM (con (.bl false))) skipM)
  (retM (biM (allG fun bs => bs.all id) (consM (frzM (compM [5] (.nm 5) (seqI (op2 ixD (evv 2) (con (.int 1)))) yesM (callM m_is_integer (consM (evv 5) (consM (op2 ixD (op2 ixD (evv 0) (con (.int 3))) (con (.int 0))) (consM (op2 ixD (op2 ixD (evv 0) (con (.int 3))) (con (.int 1))) nilM)))))) nilM)))))
def m_fits : List D → M D := fnM 5 8
  (seqM (setM 5 (iteM (ts2 eqD (op2 ixD (evv 1) (con (.int 0))) (con (.str "fine"))) (evv 2) (op2 ixD (evv 1) (con (.int 1)))))
  (seqM (asgM (.tp [6, 7]) (op2 ixD (evv 0) (op2 addD (con (.int 3)) (con (.int 1)))))
  (retM (blM (chB leD leD (callM m_level_by (consM (evv 0) (consM (evv 3) (consM (evv 5) (consM (evv 6) nilM))))) (evv 4) (callM m_level_by (consM (evv 0) (consM (evv 3) (consM (evv 5) (consM (evv 7) nilM))))))))))
def lb_may_be_1 : Gam → M (Fl × Gam) := (ifM (tsB (biM (allG fun bs => bs.all id) (consM (frzM (compM [5, 6, 7] (.tp [5, 6, 7]) (biM zip3G (consM (op2 ixD (evv 2) (con (.int 0))) (consM (op2 ixD (evv 2) (con (.int 1))) (consM (sliceM (op2 ixD (evv 2) (con (.int 1))) (someBd (con (.int 1))) noBd) nilM)))) yesM (callM m_fits (consM (evv 0) (consM (evv 4) (consM (evv 5) (consM (evv 6) (consM (evv 7) nilM)))))))) nilM))) (appM 3 (plnM (evv 4))) skipM)
def m_may_be : List D → M D := fnM 3 8
  (seqM (exprM (callM m_check_bounds (consM (evv 0) (consM (evv 1) nilM))))
  (seqM (ifM (tNotM (tsB (callM m_is_seen (consM (evv 0) (consM (evv 1) (consM (evv 2) nilM)))))) failM skipM)
  (seqM (setN 3 (lstM nilM))
  (seqM (forM' (.nm 4) (seqI (callM m_all_faults (consM (evv 1) nilM))) lb_may_be_1)
  (retM (biM tupG (consM (pkv 3) nilM)))))))
def m_width_of : List D → M D := fnM 1 1
  (retM (op2 subD (op2 ixD (op2 ixD (evv 0) (op2 addD (con (.int 3)) (con (.int 1)))) (con (.int 1))) (op2 ixD (op2 ixD (evv 0) (op2 addD (con (.int 3)) (con (.int 1)))) (con (.int 0)))))
def m_parts : List D → M D := fnM 3 3
  (retM (op2 gtD (biM absG (consM (op2 mulD (op2 ixD (evv 0) (con (.int 2))) (op2 subD (evv 1) (evv 2))) nilM)) (callM m_width_of (consM (evv 0) nilM))))
def m_telling : List D → M D := fnM 3 4
  (seqM (exprM (callM m_check_bounds (consM (evv 0) (consM (evv 1) nilM))))
  (seqM (ifM (tNotM (tsB (callM m_is_integer (consM (evv 2) (consM (op2 ixD (evv 1) (con (.int 0))) (consM (op2 ixD (evv 1) (con (.int 1))) nilM)))))) failM skipM)
  (retM (biM tupG (consM (frzM (compM [3] (.nm 3) (biM rng2G (consM (op2 ixD (evv 1) (con (.int 0))) (consM (op2 addD (op2 ixD (evv 1) (con (.int 1))) (con (.int 1))) nilM))) (tsB (callM m_parts (consM (evv 0) (consM (evv 3) (consM (evv 2) nilM))))) (evv 3))) nilM)))))
def lb_least_row_1 : Gam → M (Fl × Gam) := (ifM (tsB (biM (allG fun bs => bs.all id) (consM (frzM (compM [4] (.nm 4) (seqI (evv 2)) yesM (orM (callM m_parts (consM (evv 0) (consM (evv 5) (consM (evv 4) nilM)))) (callM m_parts (consM (evv 0) (consM (evv 6) (consM (evv 4) nilM))))))) nilM))) (retM (tupM (consM (con (.str "row")) (consM (tupM (consM (evv 5) (consM (evv 6) nilM))) nilM)))) skipM)
def lb_least_row_2 : Gam → M (Fl × Gam) := (forM' (.nm 6) (seqI (evv 2)) lb_least_row_1)
def m_least_row : List D → M D := fnM 2 7
  (seqM (exprM (callM m_check_bounds (consM (evv 0) (consM (evv 1) nilM))))
  (seqM (setM 2 (biM rngG (consM (op2 ixD (evv 1) (con (.int 0))) (consM (op2 addD (op2 ixD (evv 1) (con (.int 1))) (con (.int 1))) nilM))))
  (seqM (setM 3 (frzM (compM [4] (.nm 4) (seqI (evv 2)) (tAndM (tNotM (tsB (callM m_parts (consM (evv 0) (consM (op2 ixD (evv 1) (con (.int 0))) (consM (evv 4) nilM)))))) (tNotM (tsB (callM m_parts (consM (evv 0) (consM (op2 ixD (evv 1) (con (.int 1))) (consM (evv 4) nilM))))))) (evv 4))))
  (seqM (ifM (ts2 neD (evv 3) (frzM (lstM nilM))) (retM (tupM (consM (con (.str "never")) (consM (op2 ixD (evv 3) (con (.int 0))) nilM)))) skipM)
  (seqM (forM' (.nm 5) (seqI (evv 2)) lb_least_row_2)
  (retM (tupM (consM (con (.str "row")) (consM (tupM (consM (op2 ixD (evv 1) (con (.int 0))) (consM (op2 ixD (evv 1) (con (.int 1))) nilM))) nilM)))))))))
def m_shows_row : List D → M D := fnM 3 6
  (seqM (exprM (callM m_check_bounds (consM (evv 0) (consM (evv 1) nilM))))
  (seqM (ifM (tOrM (tNotM (tsB (callM m_is_tuple (consM (evv 2) (consM (con (.int 2)) (consM (con (.int 2)) nilM)))))) (tNotM (tsB (isiM .str (op2 ixD (evv 2) (con (.int 0))))))) (retM (con (.bl false))) skipM)
  (seqM (setM 3 (biM rngG (consM (op2 ixD (evv 1) (con (.int 0))) (consM (op2 addD (op2 ixD (evv 1) (con (.int 1))) (con (.int 1))) nilM))))
  (seqM (ifM (ts2 eqD (op2 ixD (evv 2) (con (.int 0))) (con (.str "never"))) (retM (andM (callM m_is_integer (consM (op2 ixD (evv 2) (con (.int 1))) (consM (op2 ixD (evv 1) (con (.int 0))) (consM (op2 ixD (evv 1) (con (.int 1))) nilM)))) (notM (biM (allG fun bs => bs.any id) (consM (frzM (compM [4] (.nm 4) (seqI (evv 3)) yesM (callM m_parts (consM (evv 0) (consM (evv 4) (consM (op2 ixD (evv 2) (con (.int 1))) nilM)))))) nilM))))) skipM)
  (seqM (ifM (tOrM (ts2 neD (op2 ixD (evv 2) (con (.int 0))) (con (.str "row"))) (tNotM (tsB (callM m_is_tuple (consM (op2 ixD (evv 2) (con (.int 1))) (consM (con (.int 2)) (consM (con (.int 2)) nilM))))))) (retM (con (.bl false))) skipM)
  (seqM (ifM (tNotM (tsB (biM (allG fun bs => bs.all id) (consM (frzM (compM [4] (.nm 4) (seqI (op2 ixD (evv 2) (con (.int 1)))) yesM (callM m_is_integer (consM (evv 4) (consM (op2 ixD (evv 1) (con (.int 0))) (consM (op2 ixD (evv 1) (con (.int 1))) nilM)))))) nilM)))) (retM (con (.bl false))) skipM)
  (retM (biM (allG fun bs => bs.all id) (consM (frzM (compM [5] (.nm 5) (seqI (evv 3)) yesM (biM (allG fun bs => bs.any id) (consM (frzM (compM [4] (.nm 4) (seqI (op2 ixD (evv 2) (con (.int 1)))) yesM (callM m_parts (consM (evv 0) (consM (evv 4) (consM (evv 5) nilM)))))) nilM)))) nilM)))))))))
def m_is_told : List D → M D := fnM 4 6
  (seqM (exprM (callM m_check_bounds (consM (evv 0) (consM (evv 1) nilM))))
  (seqM (exprM (callM m_check_level (consM (evv 0) (consM (evv 2) nilM))))
  (seqM (ifM (tOrM (tNotM (tsB (callM m_is_tuple (consM (evv 3) (consM (con (.int 0)) (consM (con (.int 60)) nilM)))))) (tNotM (tsB (biM (allG fun bs => bs.all id) (consM (frzM (compM [4] (.nm 4) (seqI (evv 3)) yesM (callM m_is_integer (consM (evv 4) (consM (op2 ixD (evv 1) (con (.int 0))) (consM (op2 ixD (evv 1) (con (.int 1))) nilM)))))) nilM))))) failM skipM)
  (retM (biM (allG fun bs => bs.all id) (consM (frzM (compM [4] (.nm 4) (biM rng2G (consM (op2 ixD (evv 1) (con (.int 0))) (consM (op2 addD (op2 ixD (evv 1) (con (.int 1))) (con (.int 1))) nilM))) yesM (biM (allG fun bs => bs.any id) (consM (frzM (compM [5] (.nm 5) (seqI (evv 3)) yesM (callM m_parts (consM (evv 0) (consM (evv 5) (consM (evv 4) nilM)))))) nilM)))) nilM))))))
def m__law_pot : List D → M (List D) := fnN 2 5
  (seqN (setM 2 (iteM (ts2 ltD (evv 1) (biM lenG (consM (evv 0) nilM))) (op2 ixD (evv 0) (evv 1)) (op2 addD (op2 addD (op2 modD (biM sumG (consM (sliceM (evv 0) noBd (someBd (con (.int 1)))) nilM)) (con (.int 1000003))) (op2 mulD (con (.int 8131)) (evv 1))) (con (.int 841)))))
  (seqN (setM 3 (op2 mulD (op2 modD (biM intG (consM (biM absG (consM (evv 2) nilM)) nilM)) (op2 powD (op2 powD (con (.int 10)) (con (.int 60))) (con (.int 5)))) (biM intG (consM (op2 geD (biM absG (consM (evv 2) nilM)) (op2 powD (con (.int 10)) (con (.int 18)))) nilM))))
  (seqN (setM 4 (op2 modD (biM intG (consM (evv 2) nilM)) (con (.int 2305843009213693951))))
  (lstM (consM (evv 3) (consM (op2 modD (biM intG (consM (op2 addD (op2 addD (op2 mulD (evv 4) (con (.int 330643))) (op2 mulD (op2 mulD (con (.int 11687)) (evv 1)) (evv 1))) (con (.int 165))) nilM)) (con (.int 2305843009213693921))) (consM (con (.int 0)) nilM)))))))
def m__law_take : List D → M D := fnM 2 5
  (seqM (ifM (ts2 gtD (potIx (evv 0) (con (.int 0))) (con (.int 0))) (seqM (setM 2 (op2 modD (biM intG (consM (potIx (evv 0) (con (.int 0))) nilM)) (evv 1)))
  (seqM (potPut (evv 0) (con (.int 0)) (op2 fdivD (potIx (evv 0) (con (.int 0))) (evv 1)))
  (retM (evv 2)))) skipM)
  (seqM (potPut (evv 0) (con (.int 2)) (op2 addD (potIx (evv 0) (con (.int 2))) (con (.int 1))))
  (seqM (setM 3 (op2 ixD (frzM (lstM (consM (con (.int 2147483647)) (consM (con (.int 2147483629)) (consM (con (.int 2147483587)) (consM (con (.int 2147483579)) (consM (con (.int 2147483563)) nilM))))))) (op2 modD (biM intG (consM (potIx (evv 0) (con (.int 2))) nilM)) (con (.int 5)))))
  (seqM (setM 4 (op2 modD (biM intG (consM (op2 powD (biM intG (consM (op2 addD (op2 addD (potIx (evv 0) (con (.int 1))) (op2 mulD (op2 mulD (con (.int 101853)) (potIx (evv 0) (con (.int 2)))) (potIx (evv 0) (con (.int 2))))) (con (.int 167))) nilM)) (con (.int 3))) nilM)) (evv 3)))
  (seqM (setM 4 (op2 modD (biM intG (consM (op2 mulD (evv 4) (op2 addD (op2 modD (biM intG (consM (evv 4) nilM)) (con (.int 10437))) (op2 mulD (con (.int 199)) (potIx (evv 0) (con (.int 2)))))) nilM)) (con (.int 2305843009213693907))))
  (retM (op2 modD (biM intG (consM (op2 fdivD (evv 4) (con (.int 317))) nilM)) (evv 1))))))))
def m__law_of : List D → M D := fnM 2 2
  (retM (op2 ixD (evv 1) (callM m__law_take (consM (evv 0) (consM (biM lenG (consM (evv 1) nilM)) nilM)))))
def m__law_places : List D → M D := fnM 2 2
  (retM (frzM (biM rgG (consM (biM maxG (consM (con (.int 1)) (consM (biM minG (consM (evv 1) (consM (biM lenG (consM (evv 0) nilM)) nilM))) nilM))) nilM))))
def m__law_drawn : List D → M D := fnM 1 5
  (seqM (parM 1 2 (oldM (callM m__law_of (consM (evv 0) (consM (frzM (lstM (consM (con (.int 1)) (consM (con (.int 2)) (consM (negM (con (.int 1))) (consM (con (.int 3)) (consM (con (.int 5)) (consM (con (.int 1)) nilM)))))))) nilM)))) (oldM (op2 subD (con (.int 1)) (callM m__law_take (consM (evv 0) (consM (con (.int 5)) nilM))))))
  (seqM (setM 3 (tupM (consM (con (.int 1)) (consM (con (.int 1)) (consM (evv 1) (consM (tupM (consM (negM (con (.int 200))) (consM (con (.int 200)) nilM))) (consM (tupM (consM (evv 2) (consM (op2 addD (evv 2) (callM m__law_take (consM (evv 0) (consM (con (.int 12)) nilM)))) nilM))) nilM)))))))
  (seqM (setM 4 (negM (callM m__law_take (consM (evv 0) (consM (con (.int 16)) nilM)))))
  (retM (tupM (consM (evv 3) (consM (tupM (consM (evv 4) (consM (op2 addD (evv 4) (callM m__law_take (consM (evv 0) (consM (con (.int 15)) nilM)))) nilM))) nilM)))))))
def m__law_parts : List D → M D := fnM 3 3
  (retM (op2 gtD (biM absG (consM (op2 mulD (op2 ixD (evv 0) (con (.int 2))) (op2 subD (evv 1) (evv 2))) nilM)) (op2 subD (op2 ixD (op2 ixD (evv 0) (con (.int 4))) (con (.int 1))) (op2 ixD (op2 ixD (evv 0) (con (.int 4))) (con (.int 0))))))
def m__law_is_told : List D → M D := fnM 3 5
  (retM (biM (allG fun bs => bs.all id) (consM (frzM (compM [4] (.nm 4) (biM rng2G (consM (op2 ixD (evv 1) (con (.int 0))) (consM (op2 addD (op2 ixD (evv 1) (con (.int 1))) (con (.int 1))) nilM))) yesM (biM (allG fun bs => bs.any id) (consM (frzM (compM [3] (.nm 3) (seqI (evv 2)) yesM (callM m__law_parts (consM (evv 0) (consM (evv 3) (consM (evv 4) nilM)))))) nilM)))) nilM)))
def lb__law_shuffled_1 : Gam → M (Fl × Gam) := (appM 3 (popAtM 2 (callM m__law_take (consM (evv 0) (consM (biM lenG (consM (pkv 2) nilM)) nilM)))))
def m__law_shuffled : List D → M D := fnM 2 5
  (seqM (parM 2 3 (newM (biM listG (consM (evv 1) nilM))) (newM (lstM nilM)))
  (seqM (forM' (.nm 4) (biM rng1G (consM (biM lenG (consM (evv 1) nilM)) nilM)) lb__law_shuffled_1)
  (retM (biM tupG (consM (pkv 3) nilM)))))
def lb__law_is_row_right_1 : Gam → M (Fl × Gam) := (ifM (ts2 neD (biM reprG (consM (callM m_is_told (consM (evv 1) (consM (evv 2) (consM (evv 4) (consM (evv 7) nilM))))) nilM)) (biM reprG (consM (evv 6) nilM))) (retM (con (.bl false))) skipM)
def lb__law_is_row_right_2 : Gam → M (Fl × Gam) := (ifM (ts2 neD (biM reprG (consM (callM m_shows_row (consM (evv 1) (consM (evv 2) (consM (tupM (consM (con (.str "row")) (consM (evv 8) nilM))) nilM)))) nilM)) (biM reprG (consM (evv 6) nilM))) (retM (con (.bl false))) skipM)
def lb__law_is_row_right_3 : Gam → M (Fl × Gam) := (seqM (setM 7 (frzM (compM [14] (.nm 14) (biM rng2G (consM (op2 ixD (evv 2) (con (.int 0))) (consM (op2 addD (op2 ixD (evv 2) (con (.int 1))) (con (.int 1))) nilM))) (tsB (callM m__law_parts (consM (evv 1) (consM (evv 14) (consM (evv 13) nilM))))) (evv 14))))
  (ifM (ts2 neD (biM reprG (consM (callM m_telling (consM (evv 1) (consM (evv 2) (consM (evv 13) nilM)))) nilM)) (biM reprG (consM (biM tupG (consM (evv 7) nilM)) nilM))) (retM (con (.bl false))) skipM))
def m__law_is_row_right : List D → M D := fnM 4 15
  (seqM (setM 4 (op2 subD (callM m__law_take (consM (evv 0) (consM (con (.int 401)) nilM))) (con (.int 200))))
  (seqM (setM 5 (tupM (consM (biM minG (consM (evv 3) nilM)) (consM (biM maxG (consM (evv 3) nilM)) nilM))))
  (seqM (setM 6 (callM m__law_is_told (consM (evv 1) (consM (evv 2) (consM (evv 3) nilM)))))
  (seqM (forM' (.nm 7) (seqI (tupM (consM (evv 3) (consM (evv 5) (consM (revM (evv 5)) (consM (callM m__law_shuffled (consM (evv 0) (consM (evv 3) nilM))) (consM (sliceM (op2 mulD (evv 3) (con (.int 3))) noBd (someBd (con (.int 60)))) (consM (op2 addD (sliceM (evv 3) noBd (someBd (con (.int 30)))) (evv 5)) nilM)))))))) lb__law_is_row_right_1)
  (seqM (forM' (.nm 8) (seqI (tupM (consM (evv 5) (consM (revM (evv 5)) nilM)))) lb__law_is_row_right_2)
  (seqM (setM 9 (biM tupG (consM (frzM (compM [10] (.nm 10) (biM rng1G (consM (op2 addD (con (.int 1)) (callM m__law_take (consM (evv 0) (consM (con (.int 5)) nilM)))) nilM)) yesM (op2 addD (op2 ixD (evv 2) (con (.int 0))) (callM m__law_take (consM (evv 0) (consM (op2 addD (op2 subD (op2 ixD (evv 2) (con (.int 1))) (op2 ixD (evv 2) (con (.int 0)))) (con (.int 1))) nilM)))))) nilM)))
  (seqM (setM 11 (op2 addD (sliceM (evv 3) noBd (someBd (con (.int 50)))) (evv 9)))
  (seqM (ifM (tAndM (tsB (evv 6)) (ts2 isNotD (callM m_is_told (consM (evv 1) (consM (evv 2) (consM (evv 4) (consM (evv 11) nilM))))) (con (.bl true)))) (retM (con (.bl false))) skipM)
  (seqM (ifM (ts2 neD (biM reprG (consM (callM m_is_told (consM (evv 1) (consM (evv 2) (consM (evv 4) (consM (evv 11) nilM))))) nilM)) (biM reprG (consM (callM m__law_is_told (consM (evv 1) (consM (evv 2) (consM (tupM (consM (biM minG (consM (evv 11) nilM)) (consM (biM maxG (consM (evv 11) nilM)) nilM))) nilM)))) nilM))) (retM (con (.bl false))) skipM)
  (seqM (setM 12 (op2 ixD (callM m_least_row (consM (evv 1) (consM (evv 2) nilM))) (con (.int 0))))
  (seqM (ifM (ts2 neD (op2 eqD (evv 12) (con (.str "row"))) (callM m__law_is_told (consM (evv 1) (consM (evv 2) (consM (evv 2) nilM))))) (retM (con (.bl false))) skipM)
  (seqM (forM' (.nm 13) (seqI (evv 5)) lb__law_is_row_right_3)
  (retM (con (.bl true)))))))))))))))
def lb__law_levels_1 : Gam → M (Fl × Gam) := (seqM (setM 8 (iteM (ts2 eqD (evv 1) (tupM (consM (con (.str "fine")) nilM))) (evv 6) (op2 ixD (evv 1) (con (.int 1)))))
  (appM 5 (plnM (op2 addD (op2 addD (op2 ixD (pkv 5) (negM (con (.int 1)))) (op2 mulD (op2 ixD (evv 0) (con (.int 2))) (evv 8))) (evv 7)))))
def m__law_levels : List D → M D := fnM 5 9
  (seqM (setN 5 (lstM (consM (evv 4) nilM)))
  (seqM (forM' (.tp [6, 7]) (biM zip2G (consM (evv 2) (consM (evv 3) nilM))) lb__law_levels_1)
  (retM (biM tupG (consM (pkv 5) nilM)))))
def lb__law_lets_1 : Gam → M (Fl × Gam) := (seqM (setM 7 (iteM (ts2 eqD (evv 1) (tupM (consM (con (.str "fine")) nilM))) (evv 4) (op2 ixD (evv 1) (con (.int 1)))))
  (ifM (tNotM (chB leD leD (op2 ixD (op2 ixD (evv 0) (con (.int 4))) (con (.int 0))) (op2 subD (op2 subD (evv 6) (evv 5)) (op2 mulD (op2 ixD (evv 0) (con (.int 2))) (evv 7))) (op2 ixD (op2 ixD (evv 0) (con (.int 4))) (con (.int 1))))) (retM (con (.bl false))) skipM))
def m__law_lets : List D → M D := fnM 4 8
  (seqM (forM' (.tp [4, 5, 6]) (biM zip3G (consM (evv 2) (consM (evv 3) (consM (sliceM (evv 3) (someBd (con (.int 1))) noBd) nilM)))) lb__law_lets_1)
  (retM (con (.bl true))))
def m__law_between : List D → M D := fnM 3 4
  (seqM (setM 3 (op2 mulD (op2 ixD (evv 0) (con (.int 2))) (op2 subD (evv 2) (evv 1))))
  (retM (biM maxG (consM (op2 ixD (op2 ixD (evv 0) (con (.int 4))) (con (.int 0))) (consM (op2 addD (op2 ixD (op2 ixD (evv 0) (con (.int 4))) (con (.int 0))) (evv 3)) nilM)))))
def lb__law_is_course_right_1 : Gam → M (Fl × Gam) := (seqM (setM 15 (callM m_may_be (consM (evv 1) (consM (evv 2) (consM (tupM (consM (tupM (consM (evv 5) nilM)) (consM (tupM (consM (evv 9) (consM (evv 14) nilM))) nilM))) nilM)))))
  (setM 13 (frzM (compM [11] (.nm 11) (seqI (evv 13)) (ts2 inD (evv 11) (evv 15)) (evv 11)))))
def lb__law_is_course_right_2 : Gam → M (Fl × Gam) := (seqM (setM 17 (frzM (compM [9] (.nm 9) (seqI (evv 3)) yesM (callM m__law_between (consM (evv 1) (consM (evv 9) (consM (evv 5) nilM)))))))
  (seqM (setM 8 (callM m__law_levels (consM (evv 1) (consM (tupM (consM (con (.str "fine")) nilM)) (consM (evv 3) (consM (evv 17) (consM (con (.int 0)) nilM)))))))
  (ifM (ts2 leD (biM maxG (consM (frzM (compM [9] (.nm 9) (seqI (evv 8)) yesM (biM absG (consM (evv 9) nilM)))) nilM)) (con (.int 200))) (seqM (setM 15 (callM m_may_be (consM (evv 1) (consM (evv 2) (consM (tupM (consM (evv 3) (consM (evv 8) nilM))) nilM)))))
  (ifM (tOrM (ts2 notInD (tupM (consM (con (.str "fine")) nilM)) (evv 15)) (ts2 notInD (tupM (consM (con (.str "stuck")) (consM (evv 5) nilM))) (evv 15))) (retM (con (.bl false))) skipM)) skipM)))
def m__law_is_course_right : List D → M D := fnM 4 18
  (seqM (setM 4 (op2 addD (frzM (lstM (consM (tupM (consM (con (.str "fine")) nilM)) nilM))) (frzM (compM [5] (.nm 5) (biM rng2G (consM (op2 ixD (evv 2) (con (.int 0))) (consM (op2 addD (op2 ixD (evv 2) (con (.int 1))) (con (.int 1))) nilM))) yesM (tupM (consM (con (.str "stuck")) (consM (evv 5) nilM)))))))
  (seqM (asgM (.tp [6, 3]) (tupM (consM (callM m__law_of (consM (evv 0) (consM (frzM (lstM (consM (tupM (consM (con (.str "fine")) nilM)) (consM (callM m__law_of (consM (evv 0) (consM (evv 4) nilM))) nilM)))) nilM))) (consM (sliceM (evv 3) noBd (someBd (con (.int 7)))) nilM))))
  (seqM (setM 7 (frzM (compM [5] (.nm 5) (seqI (evv 3)) yesM (callM m__law_of (consM (evv 0) (consM (frzM (lstM (consM (op2 ixD (op2 ixD (evv 1) (con (.int 4))) (con (.int 0))) (consM (op2 ixD (op2 ixD (evv 1) (con (.int 4))) (con (.int 1))) (consM (op2 fdivD (op2 addD (op2 ixD (op2 ixD (evv 1) (con (.int 4))) (con (.int 0))) (op2 ixD (op2 ixD (evv 1) (con (.int 4))) (con (.int 1)))) (con (.int 2))) nilM))))) nilM))))))
  (seqM (setM 8 (callM m__law_levels (consM (evv 1) (consM (evv 6) (consM (evv 3) (consM (evv 7) (consM (con (.int 0)) nilM)))))))
  (seqM (ifM (ts2 gtD (biM maxG (consM (frzM (compM [9] (.nm 9) (seqI (evv 8)) yesM (biM absG (consM (evv 9) nilM)))) nilM)) (con (.int 200))) (retM (con (.bl true))) skipM)
  (seqM (setM 10 (frzM (compM [11] (.nm 11) (seqI (evv 4)) (tsB (callM m__law_lets (consM (evv 1) (consM (evv 11) (consM (evv 3) (consM (evv 8) nilM)))))) (evv 11))))
  (seqM (setM 12 (callM m_may_be (consM (evv 1) (consM (evv 2) (consM (tupM (consM (evv 3) (consM (evv 8) nilM))) nilM)))))
  (seqM (ifM (tOrM (ts2 neD (biM reprG (consM (evv 12) nilM)) (biM reprG (consM (biM tupG (consM (evv 10) nilM)) nilM))) (ts2 notInD (evv 6) (evv 12))) (retM (con (.bl false))) skipM)
  (seqM (ifM (tAndM (tsB (callM m__law_is_told (consM (evv 1) (consM (evv 2) (consM (evv 3) nilM))))) (tAndM (ts2 inD (tupM (consM (con (.str "fine")) nilM)) (evv 12)) (ts2 neD (evv 12) (tupM (consM (tupM (consM (con (.str "fine")) nilM)) nilM))))) (retM (con (.bl false))) skipM)
  (seqM (setM 13 (evv 4))
  (seqM (forM' (.tp [5, 9, 14]) (biM zip3G (consM (evv 3) (consM (evv 8) (consM (sliceM (evv 8) (someBd (con (.int 1))) noBd) nilM)))) lb__law_is_course_right_1)
  (seqM (ifM (ts2 neD (evv 13) (evv 10)) (retM (con (.bl false))) skipM)
  (seqM (setM 16 (frzM (compM [5] (.nm 5) (biM rng2G (consM (op2 ixD (evv 2) (con (.int 0))) (consM (op2 addD (op2 ixD (evv 2) (con (.int 1))) (con (.int 1))) nilM))) (tNotM (tsB (biM (allG fun bs => bs.any id) (consM (frzM (compM [9] (.nm 9) (seqI (evv 3)) yesM (callM m__law_parts (consM (evv 1) (consM (evv 9) (consM (evv 5) nilM)))))) nilM)))) (evv 5))))
  (seqM (forM' (.nm 5) (seqI (sliceM (evv 16) noBd (someBd (con (.int 2))))) lb__law_is_course_right_2)
  (retM (con (.bl true)))))))))))))))))
def m__law_is_right : List D → M D := fnM 1 8
  (seqM (asgM (.tp [1, 2]) (callM m__law_drawn (consM (evv 0) nilM)))
  (seqM (setM 3 (biM tupG (consM (frzM (compM [4] (.nm 4) (biM rng1G (consM (op2 addD (con (.int 1)) (callM m__law_take (consM (evv 0) (consM (con (.int 12)) nilM)))) nilM)) yesM (op2 addD (op2 ixD (evv 2) (con (.int 0))) (callM m__law_take (consM (evv 0) (consM (op2 addD (op2 subD (op2 ixD (evv 2) (con (.int 1))) (op2 ixD (evv 2) (con (.int 0)))) (con (.int 1))) nilM)))))) nilM)))
  (seqM (ifM (tOrM (tNotM (tsB (callM m__law_is_row_right (consM (evv 0) (consM (evv 1) (consM (evv 2) (consM (evv 3) nilM))))))) (tNotM (tsB (callM m__law_is_course_right (consM (evv 0) (consM (evv 1) (consM (evv 2) (consM (evv 3) nilM)))))))) (retM (con (.bl false))) skipM)
  (seqM (setM 5 (op2 addD (con (.int 2)) (callM m__law_take (consM (evv 0) (consM (con (.int 2)) nilM)))))
  (seqM (setM 6 (tupM (consM (con (.int 1)) (consM (con (.int 1)) (consM (op2 mulD (evv 5) (op2 ixD (evv 1) (con (.int 2)))) (consM (op2 ixD (evv 1) (con (.int 3))) (consM (tupM (consM (op2 mulD (evv 5) (op2 ixD (op2 ixD (evv 1) (con (.int 4))) (con (.int 0)))) (consM (op2 mulD (evv 5) (op2 ixD (op2 ixD (evv 1) (con (.int 4))) (con (.int 1)))) nilM))) nilM)))))))
  (seqM (ifM (ts2 gtD (biM absG (consM (op2 ixD (evv 6) (con (.int 2))) nilM)) (con (.int 20))) (retM (con (.bl true))) skipM)
  (seqM (setM 7 (callM m__law_is_told (consM (evv 1) (consM (evv 2) (consM (evv 3) nilM)))))
  (retM (andM (op2 eqD (biM reprG (consM (callM m_is_told (consM (evv 6) (consM (evv 2) (consM (con (.int 0)) (consM (evv 3) nilM))))) nilM)) (biM reprG (consM (evv 7) nilM))) (op2 eqD (biM reprG (consM (callM m_least_row (consM (evv 6) (consM (evv 2) nilM))) nilM)) (biM reprG (consM (callM m_least_row (consM (evv 1) (consM (evv 2) nilM))) nilM))))))))))))
def fi_law : Gam → M (List D) := (seqI (callM m__law_places (consM (evv 0) (consM (con (.int 2)) nilM))))
def fp_law : Gam → M (List D) := (callN m__law_pot (consM (evv 0) (consM (evv 1) nilM)))
def fr_law : Gam → M (Fl × Gam) := (ifM (tNotM (tsB (biM (allG fun bs => bs.all id) (consM (frzM (compM [3] (.nm 3) (biM rng1G (consM (con (.int 2)) nilM)) yesM (callM m__law_is_right (consM (evv 2) nilM)))) nilM)))) (retM (con (.bl false))) skipM)
def okLaw (sl : List Int) : Prop := lawOk fi_law 1 2 3 fp_law fr_law sl
end K68

set_option Elab.async false
set_option linter.all false
set_option maxRecDepth 100000
set_option maxHeartbeats 4000000
namespace K68
open PySem PySem.Spec PyProof.Rows L2 Dx
open Evl (Ex)
abbrev FnP (K : PySem.W.Frag) (x : Str) (st : Stmt) (f : Addr) (fd : FuncData) : Prop := FunD K x x (defArgs st) (defBody st) (defScope st) [] [] f fd
section
variable {P : Program} {w : World} {K : PySem.W.Frag} {mg : Str → Option Value} {base : Heap}
theorem o_is_tuple {f : Addr} {fd : FuncData} (Fn : FnP K "is_tuple" s_is_tuple f fd) (hm : mg "is_tuple" = some (.ref f)) (b_isinstance : mg "isinstance" = none) (b_len : mg "len" = none) (b_tuple : mg "tuple" = none) :
    OwnFn P w K mg base 1 "is_tuple" m_is_tuple := own_mk (N := ["value", "least", "most"]) (ps := ["value", "least", "most"]) Fn hm
  ⟨rfl, rfl, rfl, (by decide +kernel), rfl, (by decide +kernel), (by decide +kernel)⟩ (fun _ _ _ _ _ _ us hl => match us, hl with | [_, _, _], _ => rfl) (by decide +kernel)
  fun X gd e1 e2 e3 e4 e5 hfn hr => by
  subst e1 e2 e3 e4 e5
  exact (dss_one (ds_ret (de_and (de_isi (T := .tuple) gd (fun h => nomatch h) (by decide +kernel) b_isinstance (by decide +kernel) b_tuple boot_tuple (de_peek (de_var gd (va (i := 0) (x := "value") rfl (by decide +kernel))))) (de_one (de_chain opd_le opd_le (de_peek (de_var gd (va (i := 1) (x := "least") rfl (by decide +kernel)))) (de_peek (de_bi gd cd_len (by decide +kernel) b_len boot_len (dak_cons (de_peek (de_var gd (va (i := 0) (x := "value") rfl (by decide +kernel)))) dak_nil))) (de_peek (de_var gd (va (i := 2) (x := "most") rfl (by decide +kernel)))))))))
theorem o_is_whole {f : Addr} {fd : FuncData} (Fn : FnP K "is_whole" s_is_whole f fd) (hm : mg "is_whole" = some (.ref f)) (b_bool : mg "bool" = none) (b_int : mg "int" = none) (b_isinstance : mg "isinstance" = none) :
    OwnFn P w K mg base 1 "is_whole" m_is_whole := own_mk (N := ["value"]) (ps := ["value"]) Fn hm
  ⟨rfl, rfl, rfl, (by decide +kernel), rfl, (by decide +kernel), (by decide +kernel)⟩ (fun _ _ _ _ _ _ us hl => match us, hl with | [_], _ => rfl) (by decide +kernel)
  fun X gd e1 e2 e3 e4 e5 hfn hr => by
  subst e1 e2 e3 e4 e5
  exact (dss_one (ds_ret (de_and (de_isi (T := .int) gd (fun h => nomatch h) (by decide +kernel) b_isinstance (by decide +kernel) b_int boot_int (de_peek (de_var gd (va (i := 0) (x := "value") rfl (by decide +kernel))))) (de_one (de_not (de_isi (T := .bool) gd (fun h => nomatch h) (by decide +kernel) b_isinstance (by decide +kernel) b_bool boot_bool (de_peek (de_var gd (va (i := 0) (x := "value") rfl (by decide +kernel))))))))))
theorem o_is_integer {f : Addr} {fd : FuncData} (Fn : FnP K "is_integer" s_is_integer f fd) (hm : mg "is_integer" = some (.ref f)) (c_is_whole : OwnFn P w K mg base 1 "is_whole" m_is_whole) :
    OwnFn P w K mg base 2 "is_integer" m_is_integer := own_mk (N := ["value", "low", "high"]) (ps := ["value", "low", "high"]) Fn hm
  ⟨rfl, rfl, rfl, (by decide +kernel), rfl, (by decide +kernel), (by decide +kernel)⟩ (fun _ _ _ _ _ _ us hl => match us, hl with | [_, _, _], _ => rfl) (by decide +kernel)
  fun X gd e1 e2 e3 e4 e5 hfn hr => by
  subst e1 e2 e3 e4 e5
  exact (dss_one (ds_ret (de_and (de_call gd c_is_whole hr (by decide +kernel) (da_cons (de_var gd (va (i := 0) (x := "value") rfl (by decide +kernel))) da_nil) (by decide +kernel)) (de_one (de_chain opd_le opd_le (de_peek (de_var gd (va (i := 1) (x := "low") rfl (by decide +kernel)))) (de_peek (de_var gd (va (i := 0) (x := "value") rfl (by decide +kernel)))) (de_peek (de_var gd (va (i := 2) (x := "high") rfl (by decide +kernel)))))))))
theorem o_is_between {f : Addr} {fd : FuncData} (Fn : FnP K "is_between" s_is_between f fd) (hm : mg "is_between" = some (.ref f)) (g_PAIR_vats : ∃ t, mg "PAIR_vats" = some (.int 2 t)) (c_is_tuple : OwnFn P w K mg base 2 "is_tuple" m_is_tuple) (c_is_integer : OwnFn P w K mg base 2 "is_integer" m_is_integer) :
    OwnFn P w K mg base 3 "is_between" m_is_between := own_mk (N := ["value", "most"]) (ps := ["value", "most"]) Fn hm
  ⟨rfl, rfl, rfl, (by decide +kernel), rfl, (by decide +kernel), (by decide +kernel)⟩ (fun _ _ _ _ _ _ us hl => match us, hl with | [_, _], _ => rfl) (by decide +kernel)
  fun X gd e1 e2 e3 e4 e5 hfn hr => by
  subst e1 e2 e3 e4 e5
  exact (dss_cons (ds_if (dt_w (dw_or (dt_not (dt_val (de_call gd c_is_tuple hr (by decide +kernel) (da_cons (de_var gd (va (i := 0) (x := "value") rfl (by decide +kernel))) (da_cons (de_gint (i := 2) gd (by decide +kernel) g_PAIR_vats (by decide +kernel)) (da_cons (de_gint (i := 2) gd (by decide +kernel) g_PAIR_vats (by decide +kernel)) da_nil))) (by decide +kernel)))) (dw_or1 (dt_not (dt_val (de_call gd c_is_integer hr (by decide +kernel) (da_cons (de_ix (de_peek (de_var gd (va (i := 0) (x := "value") rfl (by decide +kernel)))) (de_peek de_int) (fun _ _ => by first | rfl | with_unfolding_all rfl)) (da_cons (de_neg (de_var gd (va (i := 1) (x := "most") rfl (by decide +kernel)))) (da_cons (de_var gd (va (i := 1) (x := "most") rfl (by decide +kernel))) da_nil))) (by decide +kernel))))))) (dss_one (ds_ret de_bl)) dss_nil)
  (dss_one (ds_ret (de_call gd c_is_integer hr (by decide +kernel) (da_cons (de_ix (de_peek (de_var gd (va (i := 0) (x := "value") rfl (by decide +kernel)))) (de_peek de_int) (fun _ _ => by first | rfl | with_unfolding_all rfl)) (da_cons (de_ix (de_peek (de_var gd (va (i := 0) (x := "value") rfl (by decide +kernel)))) (de_peek de_int) (fun _ _ => by first | rfl | with_unfolding_all rfl)) (da_cons (de_var gd (va (i := 1) (x := "most") rfl (by decide +kernel))) da_nil))) (by decide +kernel)))))
theorem o_is_vat {f : Addr} {fd : FuncData} (Fn : FnP K "is_vat" s_is_vat f fd) (hm : mg "is_vat" = some (.ref f)) (g_FIVE : ∃ t, mg "FIVE" = some (.int 5 t)) (g_MOST_KEEPS : ∃ t, mg "MOST_KEEPS" = some (.int 20 t)) (g_MOST_LEVEL : ∃ t, mg "MOST_LEVEL" = some (.int 200 t)) (g_MOST_STRENGTH : ∃ t, mg "MOST_STRENGTH" = some (.int 20 t)) (g_MOST_UNDER : ∃ t, mg "MOST_UNDER" = some (.int 20 t)) (g_MOST_WEATHER : ∃ t, mg "MOST_WEATHER" = some (.int 50 t)) (g_PAIR_vats : ∃ t, mg "PAIR_vats" = some (.int 2 t)) (g_TRIPLE_vats : ∃ t, mg "TRIPLE_vats" = some (.int 3 t)) (c_is_tuple : OwnFn P w K mg base 3 "is_tuple" m_is_tuple) (c_is_integer : OwnFn P w K mg base 3 "is_integer" m_is_integer) (c_is_between : OwnFn P w K mg base 3 "is_between" m_is_between) :
    OwnFn P w K mg base 4 "is_vat" m_is_vat := own_mk (N := ["value"]) (ps := ["value"]) Fn hm
  ⟨rfl, rfl, rfl, (by decide +kernel), rfl, (by decide +kernel), (by decide +kernel)⟩ (fun _ _ _ _ _ _ us hl => match us, hl with | [_], _ => rfl) (by decide +kernel)
  fun X gd e1 e2 e3 e4 e5 hfn hr => by
  subst e1 e2 e3 e4 e5
  exact (dss_cons (ds_if (dt_w (dw_or (dt_not (dt_val (de_call gd c_is_tuple hr (by decide +kernel) (da_cons (de_var gd (va (i := 0) (x := "value") rfl (by decide +kernel))) (da_cons (de_gint (i := 5) gd (by decide +kernel) g_FIVE (by decide +kernel)) (da_cons (de_gint (i := 5) gd (by decide +kernel) g_FIVE (by decide +kernel)) da_nil))) (by decide +kernel)))) (dw_or1 (dt_not (dt_val (de_call gd c_is_integer hr (by decide +kernel) (da_cons (de_ix (de_peek (de_var gd (va (i := 0) (x := "value") rfl (by decide +kernel)))) (de_peek de_int) (fun _ _ => by first | rfl | with_unfolding_all rfl)) (da_cons de_int (da_cons (de_gint (i := 20) gd (by decide +kernel) g_MOST_KEEPS (by decide +kernel)) da_nil))) (by decide +kernel))))))) (dss_one (ds_ret de_bl)) dss_nil)
  (dss_cons (ds_if (dt_w (dw_or (dt_not (dt_val (de_call gd c_is_integer hr (by decide +kernel) (da_cons (de_ix (de_peek (de_var gd (va (i := 0) (x := "value") rfl (by decide +kernel)))) (de_peek de_int) (fun _ _ => by first | rfl | with_unfolding_all rfl)) (da_cons de_int (da_cons (de_gint (i := 20) gd (by decide +kernel) g_MOST_UNDER (by decide +kernel)) da_nil))) (by decide +kernel)))) (dw_or1 (dt_not (dt_val (de_call gd c_is_integer hr (by decide +kernel) (da_cons (de_ix (de_peek (de_var gd (va (i := 0) (x := "value") rfl (by decide +kernel)))) (de_peek (de_gint (i := 2) gd (by decide +kernel) g_PAIR_vats (by decide +kernel))) (fun _ _ => by first | rfl | with_unfolding_all rfl)) (da_cons (de_neg (de_gint (i := 20) gd (by decide +kernel) g_MOST_STRENGTH (by decide +kernel))) (da_cons (de_gint (i := 20) gd (by decide +kernel) g_MOST_STRENGTH (by decide +kernel)) da_nil))) (by decide +kernel))))))) (dss_one (ds_ret de_bl)) dss_nil)
  (dss_one (ds_ret (de_and (de_call gd c_is_between hr (by decide +kernel) (da_cons (de_ix (de_peek (de_var gd (va (i := 0) (x := "value") rfl (by decide +kernel)))) (de_peek (de_gint (i := 3) gd (by decide +kernel) g_TRIPLE_vats (by decide +kernel))) (fun _ _ => by first | rfl | with_unfolding_all rfl)) (da_cons (de_gint (i := 200) gd (by decide +kernel) g_MOST_LEVEL (by decide +kernel)) da_nil)) (by decide +kernel)) (de_one (de_call gd c_is_between hr (by decide +kernel) (da_cons (de_ix (de_peek (de_var gd (va (i := 0) (x := "value") rfl (by decide +kernel)))) (de_peek (de_op opd_add (de_peek (de_gint (i := 3) gd (by decide +kernel) g_TRIPLE_vats (by decide +kernel))) (de_peek de_int))) (fun _ _ => by first | rfl | with_unfolding_all rfl)) (da_cons (de_gint (i := 50) gd (by decide +kernel) g_MOST_WEATHER (by decide +kernel)) da_nil)) (by decide +kernel))))))))
theorem o_check_vat {f : Addr} {fd : FuncData} (Fn : FnP K "check_vat" s_check_vat f fd) (hm : mg "check_vat" = some (.ref f)) (c_is_vat : OwnFn P w K mg base 4 "is_vat" m_is_vat) :
    OwnFn P w K mg base 5 "check_vat" m_check_vat := own_mk (N := ["value"]) (ps := ["value"]) Fn hm
  ⟨rfl, rfl, rfl, (by decide +kernel), rfl, (by decide +kernel), (by decide +kernel)⟩ (fun _ _ _ _ _ _ us hl => match us, hl with | [_], _ => rfl) (by decide +kernel)
  fun X gd e1 e2 e3 e4 e5 hfn hr => by
  subst e1 e2 e3 e4 e5
  exact (dss_one (ds_if (dt_not (dt_val (de_call gd c_is_vat hr (by decide +kernel) (da_cons (de_var gd (va (i := 0) (x := "value") rfl (by decide +kernel))) da_nil) (by decide +kernel)))) (dss_one ds_never) dss_nil))
theorem o_check_level {f : Addr} {fd : FuncData} (Fn : FnP K "check_level" s_check_level f fd) (hm : mg "check_level" = some (.ref f)) (g_TRIPLE_vats : ∃ t, mg "TRIPLE_vats" = some (.int 3 t)) (c_check_vat : OwnFn P w K mg base 5 "check_vat" m_check_vat) (c_is_integer : OwnFn P w K mg base 5 "is_integer" m_is_integer) :
    OwnFn P w K mg base 6 "check_level" m_check_level := own_mk (N := ["vat", "value"]) (ps := ["vat", "value"]) Fn hm
  ⟨rfl, rfl, rfl, (by decide +kernel), rfl, (by decide +kernel), (by decide +kernel)⟩ (fun _ _ _ _ _ _ us hl => match us, hl with | [_, _], _ => rfl) (by decide +kernel)
  fun X gd e1 e2 e3 e4 e5 hfn hr => by
  subst e1 e2 e3 e4 e5
  exact (dss_cons (ds_expr (de_call gd c_check_vat hr (by decide +kernel) (da_cons (de_var gd (va (i := 0) (x := "vat") rfl (by decide +kernel))) da_nil) (by decide +kernel)))
  (dss_one (ds_if (dt_not (dt_val (de_call gd c_is_integer hr (by decide +kernel) (da_cons (de_var gd (va (i := 1) (x := "value") rfl (by decide +kernel))) (da_cons (de_ix (de_peek (de_ix (de_peek (de_var gd (va (i := 0) (x := "vat") rfl (by decide +kernel)))) (de_peek (de_gint (i := 3) gd (by decide +kernel) g_TRIPLE_vats (by decide +kernel))) (fun _ _ => by first | rfl | with_unfolding_all rfl))) (de_peek de_int) (fun _ _ => by first | rfl | with_unfolding_all rfl)) (da_cons (de_ix (de_peek (de_ix (de_peek (de_var gd (va (i := 0) (x := "vat") rfl (by decide +kernel)))) (de_peek (de_gint (i := 3) gd (by decide +kernel) g_TRIPLE_vats (by decide +kernel))) (fun _ _ => by first | rfl | with_unfolding_all rfl))) (de_peek de_int) (fun _ _ => by first | rfl | with_unfolding_all rfl)) da_nil))) (by decide +kernel)))) (dss_one ds_never) dss_nil)))
theorem o_level_by {f : Addr} {fd : FuncData} (Fn : FnP K "level_by" s_level_by f fd) (hm : mg "level_by" = some (.ref f)) (g_PAIR_vats : ∃ t, mg "PAIR_vats" = some (.int 2 t)) :
    OwnFn P w K mg base 1 "level_by" m_level_by := own_mk (N := ["vat", "level", "lever", "weather"]) (ps := ["vat", "level", "lever", "weather"]) Fn hm
  ⟨rfl, rfl, rfl, (by decide +kernel), rfl, (by decide +kernel), (by decide +kernel)⟩ (fun _ _ _ _ _ _ us hl => match us, hl with | [_, _, _, _], _ => rfl) (by decide +kernel)
  fun X gd e1 e2 e3 e4 e5 hfn hr => by
  subst e1 e2 e3 e4 e5
  exact (dss_one (ds_ret (de_op opd_add (de_peek (de_op opd_add (de_peek (de_op opd_fdiv (de_peek (de_op opd_mul (de_peek (de_ix (de_peek (de_var gd (va (i := 0) (x := "vat") rfl (by decide +kernel)))) (de_peek de_int) (fun _ _ => by first | rfl | with_unfolding_all rfl))) (de_peek (de_var gd (va (i := 1) (x := "level") rfl (by decide +kernel)))))) (de_peek (de_ix (de_peek (de_var gd (va (i := 0) (x := "vat") rfl (by decide +kernel)))) (de_peek de_int) (fun _ _ => by first | rfl | with_unfolding_all rfl))))) (de_peek (de_op opd_mul (de_peek (de_ix (de_peek (de_var gd (va (i := 0) (x := "vat") rfl (by decide +kernel)))) (de_peek (de_gint (i := 2) gd (by decide +kernel) g_PAIR_vats (by decide +kernel))) (fun _ _ => by first | rfl | with_unfolding_all rfl))) (de_peek (de_var gd (va (i := 2) (x := "lever") rfl (by decide +kernel)))))))) (de_peek (de_var gd (va (i := 3) (x := "weather") rfl (by decide +kernel)))))))
theorem o_check_bounds {f : Addr} {fd : FuncData} (Fn : FnP K "check_bounds" s_check_bounds f fd) (hm : mg "check_bounds" = some (.ref f)) (g_MOST_LEVER : ∃ t, mg "MOST_LEVER" = some (.int 50 t)) (c_check_vat : OwnFn P w K mg base 5 "check_vat" m_check_vat) (c_is_between : OwnFn P w K mg base 5 "is_between" m_is_between) :
    OwnFn P w K mg base 6 "check_bounds" m_check_bounds := own_mk (N := ["vat", "bounds"]) (ps := ["vat", "bounds"]) Fn hm
  ⟨rfl, rfl, rfl, (by decide +kernel), rfl, (by decide +kernel), (by decide +kernel)⟩ (fun _ _ _ _ _ _ us hl => match us, hl with | [_, _], _ => rfl) (by decide +kernel)
  fun X gd e1 e2 e3 e4 e5 hfn hr => by
  subst e1 e2 e3 e4 e5
  exact (dss_cons (ds_expr (de_call gd c_check_vat hr (by decide +kernel) (da_cons (de_var gd (va (i := 0) (x := "vat") rfl (by decide +kernel))) da_nil) (by decide +kernel)))
  (dss_one (ds_if (dt_not (dt_val (de_call gd c_is_between hr (by decide +kernel) (da_cons (de_var gd (va (i := 1) (x := "bounds") rfl (by decide +kernel))) (da_cons (de_gint (i := 50) gd (by decide +kernel) g_MOST_LEVER (by decide +kernel)) da_nil)) (by decide +kernel)))) (dss_one ds_never) dss_nil)))
theorem o_all_faults {f : Addr} {fd : FuncData} (Fn : FnP K "all_faults" s_all_faults f fd) (hm : mg "all_faults" = some (.ref f)) (b_range : mg "range" = none) (g_FINE : ∃ t, mg "FINE" = some (.str "fine" t)) (g_STUCK : ∃ t, mg "STUCK" = some (.str "stuck" t)) :
    OwnFn P w K mg base 1 "all_faults" m_all_faults := own_mk (N := ["bounds", "at"]) (ps := ["bounds"]) Fn hm
  ⟨rfl, rfl, rfl, (by decide +kernel), rfl, (by decide +kernel), (by decide +kernel)⟩ (fun _ _ _ _ _ _ us hl => match us, hl with | [_], _ => rfl) (by decide +kernel)
  fun X gd e1 e2 e3 e4 e5 hfn hr => by
  subst e1 e2 e3 e4 e5
  exact (dss_one (ds_ret (de_new (dn_lst (da_cons (de_tup (da_cons (de_gstr (z := "fine") gd (by decide +kernel) g_FINE (by decide +kernel)) da_nil)) (da_star (de_new (dn_compG (own := [("at", 1)]) gd (di_range2 gd (by decide +kernel) b_range (da_cons (de_ix (de_peek (de_var gd (va (i := 0) (x := "bounds") rfl (by decide +kernel)))) (de_peek de_int) (fun _ _ => by first | rfl | with_unfolding_all rfl)) (da_cons (de_op opd_add (de_peek (de_ix (de_peek (de_var gd (va (i := 0) (x := "bounds") rfl (by decide +kernel)))) (de_peek de_int) (fun _ _ => by first | rfl | with_unfolding_all rfl))) (de_peek de_int)) da_nil))) (blk_of rfl (by decide +kernel) (by decide +kernel) (by decide +kernel) (by decide +kernel)) (by decide +kernel) (fun s H C cl fp gd => (dg_nm gd (la (i := 1) (x := "at") rfl (by decide +kernel) (.inr (by decide +kernel))))) (fun s H C cl fp gd => dts_nil) (fun s H C cl fp gd => (de_tup (da_cons (de_gstr (z := "stuck") gd (by decide +kernel) g_STUCK (by decide +kernel)) (da_cons (de_var gd (va (i := 1) (x := "at") rfl (by decide +kernel))) da_nil)))))) da_nil))))))
theorem o_is_seen {f : Addr} {fd : FuncData} (Fn : FnP K "is_seen" s_is_seen f fd) (hm : mg "is_seen" = some (.ref f)) (b_all : mg "all" = none) (b_len : mg "len" = none) (g_MOST_SEEN : ∃ t, mg "MOST_SEEN" = some (.int 60 t)) (g_PAIR_stuck : ∃ t, mg "PAIR_stuck" = some (.int 2 t)) (g_TRIPLE_stuck : ∃ t, mg "TRIPLE_stuck" = some (.int 3 t)) (c_is_tuple : OwnFn P w K mg base 2 "is_tuple" m_is_tuple) (c_is_integer : OwnFn P w K mg base 2 "is_integer" m_is_integer) :
    OwnFn P w K mg base 3 "is_seen" m_is_seen := own_mk (N := ["vat", "bounds", "value", "one", "at", "level"]) (ps := ["vat", "bounds", "value"]) Fn hm
  ⟨rfl, rfl, rfl, (by decide +kernel), rfl, (by decide +kernel), (by decide +kernel)⟩ (fun _ _ _ _ _ _ us hl => match us, hl with | [_, _, _], _ => rfl) (by decide +kernel)
  fun X gd e1 e2 e3 e4 e5 hfn hr => by
  subst e1 e2 e3 e4 e5
  exact (dss_cons (ds_if (dt_w (dw_or (dt_not (dt_val (de_call gd c_is_tuple hr (by decide +kernel) (da_cons (de_var gd (va (i := 2) (x := "value") rfl (by decide +kernel))) (da_cons (de_gint (i := 2) gd (by decide +kernel) g_PAIR_stuck (by decide +kernel)) (da_cons (de_gint (i := 2) gd (by decide +kernel) g_PAIR_stuck (by decide +kernel)) da_nil))) (by decide +kernel)))) (dw_or1 (dt_not (dt_val (de_bi gd (cd_all gd.calm) (by decide +kernel) b_all boot_all (dak_cons (de_peek (de_new (dn_compG (own := [("one", 3)]) gd (di_seq (de_var gd (va (i := 2) (x := "value") rfl (by decide +kernel)))) (blk_of rfl (by decide +kernel) (by decide +kernel) (by decide +kernel) (by decide +kernel)) (by decide +kernel) (fun s H C cl fp gd => (dg_nm gd (la (i := 3) (x := "one") rfl (by decide +kernel) (.inr (by decide +kernel))))) (fun s H C cl fp gd => dts_nil) (fun s H C cl fp gd => (de_call gd c_is_tuple hr (by decide +kernel) (da_cons (de_var gd (va (i := 3) (x := "one") rfl (by decide +kernel))) (da_cons de_int (da_cons (de_op opd_add (de_peek (de_gint (i := 60) gd (by decide +kernel) g_MOST_SEEN (by decide +kernel))) (de_peek de_int)) da_nil))) (by decide +kernel)))))) dak_nil))))))) (dss_one (ds_ret de_bl)) dss_nil)
  (dss_cons (ds_if (dt_w (dw_or (dt_cmp (opd_ne gd.hu) (de_peek (de_bi gd cd_len (by decide +kernel) b_len boot_len (dak_cons (de_peek (de_ix (de_peek (de_var gd (va (i := 2) (x := "value") rfl (by decide +kernel)))) (de_peek de_int) (fun _ _ => by first | rfl | with_unfolding_all rfl))) dak_nil))) (de_peek (de_op opd_add (de_peek (de_bi gd cd_len (by decide +kernel) b_len boot_len (dak_cons (de_peek (de_ix (de_peek (de_var gd (va (i := 2) (x := "value") rfl (by decide +kernel)))) (de_peek de_int) (fun _ _ => by first | rfl | with_unfolding_all rfl))) dak_nil))) (de_peek de_int))) (nomark _)) (dw_or1 (dt_not (dt_val (de_bi gd (cd_all gd.calm) (by decide +kernel) b_all boot_all (dak_cons (de_peek (de_new (dn_compG (own := [("at", 4)]) gd (di_seq (de_ix (de_peek (de_var gd (va (i := 2) (x := "value") rfl (by decide +kernel)))) (de_peek de_int) (fun _ _ => by first | rfl | with_unfolding_all rfl))) (blk_of rfl (by decide +kernel) (by decide +kernel) (by decide +kernel) (by decide +kernel)) (by decide +kernel) (fun s H C cl fp gd => (dg_nm gd (la (i := 4) (x := "at") rfl (by decide +kernel) (.inr (by decide +kernel))))) (fun s H C cl fp gd => dts_nil) (fun s H C cl fp gd => (de_call gd c_is_integer hr (by decide +kernel) (da_cons (de_var gd (va (i := 4) (x := "at") rfl (by decide +kernel))) (da_cons (de_ix (de_peek (de_var gd (va (i := 1) (x := "bounds") rfl (by decide +kernel)))) (de_peek de_int) (fun _ _ => by first | rfl | with_unfolding_all rfl)) (da_cons (de_ix (de_peek (de_var gd (va (i := 1) (x := "bounds") rfl (by decide +kernel)))) (de_peek de_int) (fun _ _ => by first | rfl | with_unfolding_all rfl)) da_nil))) (by decide +kernel)))))) dak_nil))))))) (dss_one (ds_ret de_bl)) dss_nil)
  (dss_one (ds_ret (de_bi gd (cd_all gd.calm) (by decide +kernel) b_all boot_all (dak_cons (de_peek (de_new (dn_compG (own := [("level", 5)]) gd (di_seq (de_ix (de_peek (de_var gd (va (i := 2) (x := "value") rfl (by decide +kernel)))) (de_peek de_int) (fun _ _ => by first | rfl | with_unfolding_all rfl))) (blk_of rfl (by decide +kernel) (by decide +kernel) (by decide +kernel) (by decide +kernel)) (by decide +kernel) (fun s H C cl fp gd => (dg_nm gd (la (i := 5) (x := "level") rfl (by decide +kernel) (.inr (by decide +kernel))))) (fun s H C cl fp gd => dts_nil) (fun s H C cl fp gd => (de_call gd c_is_integer hr (by decide +kernel) (da_cons (de_var gd (va (i := 5) (x := "level") rfl (by decide +kernel))) (da_cons (de_ix (de_peek (de_ix (de_peek (de_var gd (va (i := 0) (x := "vat") rfl (by decide +kernel)))) (de_peek (de_gint (i := 3) gd (by decide +kernel) g_TRIPLE_stuck (by decide +kernel))) (fun _ _ => by first | rfl | with_unfolding_all rfl))) (de_peek de_int) (fun _ _ => by first | rfl | with_unfolding_all rfl)) (da_cons (de_ix (de_peek (de_ix (de_peek (de_var gd (va (i := 0) (x := "vat") rfl (by decide +kernel)))) (de_peek (de_gint (i := 3) gd (by decide +kernel) g_TRIPLE_stuck (by decide +kernel))) (fun _ _ => by first | rfl | with_unfolding_all rfl))) (de_peek de_int) (fun _ _ => by first | rfl | with_unfolding_all rfl)) da_nil))) (by decide +kernel)))))) dak_nil))))))
theorem o_fits {f : Addr} {fd : FuncData} (Fn : FnP K "fits" s_fits f fd) (hm : mg "fits" = some (.ref f)) (g_FINE : ∃ t, mg "FINE" = some (.str "fine" t)) (g_TRIPLE_stuck : ∃ t, mg "TRIPLE_stuck" = some (.int 3 t)) (c_level_by : OwnFn P w K mg base 1 "level_by" m_level_by) :
    OwnFn P w K mg base 2 "fits" m_fits := own_mk (N := ["vat", "fault", "at", "one", "other", "real", "low", "high"]) (ps := ["vat", "fault", "at", "one", "other"]) Fn hm
  ⟨rfl, rfl, rfl, (by decide +kernel), rfl, (by decide +kernel), (by decide +kernel)⟩ (fun _ _ _ _ _ _ us hl => match us, hl with | [_, _, _, _, _], _ => rfl) (by decide +kernel)
  fun X gd e1 e2 e3 e4 e5 hfn hr => by
  subst e1 e2 e3 e4 e5
  exact (dss_cons (ds_set gd (la (i := 5) (x := "real") rfl (by decide +kernel) (.inl (hfn _))) (de_if (dt_cmp (opd_eq gd.hu) (de_peek (de_ix (de_peek (de_var gd (va (i := 1) (x := "fault") rfl (by decide +kernel)))) (de_peek de_int) (fun _ _ => by first | rfl | with_unfolding_all rfl))) (de_peek (de_gstr (z := "fine") gd (by decide +kernel) g_FINE (by decide +kernel))) (nomark _)) (de_var gd (va (i := 2) (x := "at") rfl (by decide +kernel))) (de_ix (de_peek (de_var gd (va (i := 1) (x := "fault") rfl (by decide +kernel)))) (de_peek de_int) (fun _ _ => by first | rfl | with_unfolding_all rfl))))
  (dss_cons (ds_asg (de_ix (de_peek (de_var gd (va (i := 0) (x := "vat") rfl (by decide +kernel)))) (de_peek (de_op opd_add (de_peek (de_gint (i := 3) gd (by decide +kernel) g_TRIPLE_stuck (by decide +kernel))) (de_peek de_int))) (fun _ _ => by first | rfl | with_unfolding_all rfl)) (dg_tp gd (dgs_cons (dg_nm gd (la (i := 6) (x := "low") rfl (by decide +kernel) (.inl (hfn _)))) (dgs_cons (dg_nm gd (la (i := 7) (x := "high") rfl (by decide +kernel) (.inl (hfn _)))) dgs_nil))))
  (dss_one (ds_ret (de_chain opd_le opd_le (de_peek (de_call gd c_level_by hr (by decide +kernel) (da_cons (de_var gd (va (i := 0) (x := "vat") rfl (by decide +kernel))) (da_cons (de_var gd (va (i := 3) (x := "one") rfl (by decide +kernel))) (da_cons (de_var gd (va (i := 5) (x := "real") rfl (by decide +kernel))) (da_cons (de_var gd (va (i := 6) (x := "low") rfl (by decide +kernel))) da_nil)))) (by decide +kernel))) (de_peek (de_var gd (va (i := 4) (x := "other") rfl (by decide +kernel)))) (de_peek (de_call gd c_level_by hr (by decide +kernel) (da_cons (de_var gd (va (i := 0) (x := "vat") rfl (by decide +kernel))) (da_cons (de_var gd (va (i := 3) (x := "one") rfl (by decide +kernel))) (da_cons (de_var gd (va (i := 5) (x := "real") rfl (by decide +kernel))) (da_cons (de_var gd (va (i := 7) (x := "high") rfl (by decide +kernel))) da_nil)))) (by decide +kernel))))))))
theorem o_may_be {f : Addr} {fd : FuncData} (Fn : FnP K "may_be" s_may_be f fd) (hm : mg "may_be" = some (.ref f)) (b_all : mg "all" = none) (b_tuple : mg "tuple" = none) (b_zip : mg "zip" = none) (c_check_bounds : OwnFn P w K mg base 6 "check_bounds" m_check_bounds) (c_is_seen : OwnFn P w K mg base 6 "is_seen" m_is_seen) (c_all_faults : OwnFn P w K mg base 6 "all_faults" m_all_faults) (c_fits : OwnFn P w K mg base 6 "fits" m_fits) :
    OwnFn P w K mg base 7 "may_be" m_may_be := own_mk (N := ["vat", "bounds", "seen", "found", "fault", "at", "one", "other"]) (ps := ["vat", "bounds", "seen"]) Fn hm
  ⟨rfl, rfl, rfl, (by decide +kernel), rfl, (by decide +kernel), (by decide +kernel)⟩ (fun _ _ _ _ _ _ us hl => match us, hl with | [_, _, _], _ => rfl) (by decide +kernel)
  fun X gd e1 e2 e3 e4 e5 hfn hr => by
  subst e1 e2 e3 e4 e5
  exact (dss_cons (ds_expr (de_call gd c_check_bounds hr (by decide +kernel) (da_cons (de_var gd (va (i := 0) (x := "vat") rfl (by decide +kernel))) (da_cons (de_var gd (va (i := 1) (x := "bounds") rfl (by decide +kernel))) da_nil)) (by decide +kernel)))
  (dss_cons (ds_if (dt_not (dt_val (de_call gd c_is_seen hr (by decide +kernel) (da_cons (de_var gd (va (i := 0) (x := "vat") rfl (by decide +kernel))) (da_cons (de_var gd (va (i := 1) (x := "bounds") rfl (by decide +kernel))) (da_cons (de_var gd (va (i := 2) (x := "seen") rfl (by decide +kernel))) da_nil))) (by decide +kernel)))) (dss_one ds_never) dss_nil)
  (dss_cons (ds_setN gd (la (i := 3) (x := "found") rfl (by decide +kernel) (.inl (hfn _))) (dn_lst da_nil))
  (dss_cons (ds_for gd (di_seq (de_call gd c_all_faults hr (by decide +kernel) (da_cons (de_var gd (va (i := 1) (x := "bounds") rfl (by decide +kernel))) da_nil) (by decide +kernel))) (dg_nm gd (la (i := 4) (x := "fault") rfl (by decide +kernel) (.inl (hfn _)))) (dss_one (ds_if (dt_val (de_bi gd (cd_all gd.calm) (by decide +kernel) b_all boot_all (dak_cons (de_peek (de_new (dn_compG (own := [("at", 5), ("one", 6), ("other", 7)]) gd (di_zip3 gd (by decide +kernel) b_zip (da_cons (de_ix (de_peek (de_var gd (va (i := 2) (x := "seen") rfl (by decide +kernel)))) (de_peek de_int) (fun _ _ => by first | rfl | with_unfolding_all rfl)) (da_cons (de_ix (de_peek (de_var gd (va (i := 2) (x := "seen") rfl (by decide +kernel)))) (de_peek de_int) (fun _ _ => by first | rfl | with_unfolding_all rfl)) (da_cons (de_slice (de_peek (de_ix (de_peek (de_var gd (va (i := 2) (x := "seen") rfl (by decide +kernel)))) (de_peek de_int) (fun _ _ => by first | rfl | with_unfolding_all rfl))) (do_some de_int) do_none) da_nil)))) (blk_of rfl (by decide +kernel) (by decide +kernel) (by decide +kernel) (by decide +kernel)) (by decide +kernel) (fun s H C cl fp gd => (dg_tp gd (dgs_cons (dg_nm gd (la (i := 5) (x := "at") rfl (by decide +kernel) (.inr (by decide +kernel)))) (dgs_cons (dg_nm gd (la (i := 6) (x := "one") rfl (by decide +kernel) (.inr (by decide +kernel)))) (dgs_cons (dg_nm gd (la (i := 7) (x := "other") rfl (by decide +kernel) (.inr (by decide +kernel)))) dgs_nil))))) (fun s H C cl fp gd => dts_nil) (fun s H C cl fp gd => (de_call gd c_fits hr (by decide +kernel) (da_cons (de_var gd (va (i := 0) (x := "vat") rfl (by decide +kernel))) (da_cons (de_var gd (va (i := 4) (x := "fault") rfl (by decide +kernel))) (da_cons (de_var gd (va (i := 5) (x := "at") rfl (by decide +kernel))) (da_cons (de_var gd (va (i := 6) (x := "one") rfl (by decide +kernel))) (da_cons (de_var gd (va (i := 7) (x := "other") rfl (by decide +kernel))) da_nil))))) (by decide +kernel)))))) dak_nil))) (dss_one (ds_app gd (va (i := 3) (x := "found") rfl (by decide +kernel)) (dx_of (de_var gd (va (i := 4) (x := "fault") rfl (by decide +kernel)))))) dss_nil)))
  (dss_one (ds_ret (de_ty gd cd_tuple (by decide +kernel) b_tuple boot_tuple (dak_cons (dp_var gd (va (i := 3) (x := "found") rfl (by decide +kernel))) dak_nil))))))))
theorem o_width_of {f : Addr} {fd : FuncData} (Fn : FnP K "width_of" s_width_of f fd) (hm : mg "width_of" = some (.ref f)) (g_TRIPLE_stuck : ∃ t, mg "TRIPLE_stuck" = some (.int 3 t)) :
    OwnFn P w K mg base 1 "width_of" m_width_of := own_mk (N := ["vat"]) (ps := ["vat"]) Fn hm
  ⟨rfl, rfl, rfl, (by decide +kernel), rfl, (by decide +kernel), (by decide +kernel)⟩ (fun _ _ _ _ _ _ us hl => match us, hl with | [_], _ => rfl) (by decide +kernel)
  fun X gd e1 e2 e3 e4 e5 hfn hr => by
  subst e1 e2 e3 e4 e5
  exact (dss_one (ds_ret (de_op opd_sub (de_peek (de_ix (de_peek (de_ix (de_peek (de_var gd (va (i := 0) (x := "vat") rfl (by decide +kernel)))) (de_peek (de_op opd_add (de_peek (de_gint (i := 3) gd (by decide +kernel) g_TRIPLE_stuck (by decide +kernel))) (de_peek de_int))) (fun _ _ => by first | rfl | with_unfolding_all rfl))) (de_peek de_int) (fun _ _ => by first | rfl | with_unfolding_all rfl))) (de_peek (de_ix (de_peek (de_ix (de_peek (de_var gd (va (i := 0) (x := "vat") rfl (by decide +kernel)))) (de_peek (de_op opd_add (de_peek (de_gint (i := 3) gd (by decide +kernel) g_TRIPLE_stuck (by decide +kernel))) (de_peek de_int))) (fun _ _ => by first | rfl | with_unfolding_all rfl))) (de_peek de_int) (fun _ _ => by first | rfl | with_unfolding_all rfl))))))
theorem o_parts {f : Addr} {fd : FuncData} (Fn : FnP K "parts" s_parts f fd) (hm : mg "parts" = some (.ref f)) (b_abs : mg "abs" = none) (g_PAIR_stuck : ∃ t, mg "PAIR_stuck" = some (.int 2 t)) (c_width_of : OwnFn P w K mg base 1 "width_of" m_width_of) :
    OwnFn P w K mg base 2 "parts" m_parts := own_mk (N := ["vat", "at", "other"]) (ps := ["vat", "at", "other"]) Fn hm
  ⟨rfl, rfl, rfl, (by decide +kernel), rfl, (by decide +kernel), (by decide +kernel)⟩ (fun _ _ _ _ _ _ us hl => match us, hl with | [_, _, _], _ => rfl) (by decide +kernel)
  fun X gd e1 e2 e3 e4 e5 hfn hr => by
  subst e1 e2 e3 e4 e5
  exact (dss_one (ds_ret (de_cmp opd_gt (de_peek (de_bi gd cd_abs (by decide +kernel) b_abs boot_abs (dak_cons (de_peek (de_op opd_mul (de_peek (de_ix (de_peek (de_var gd (va (i := 0) (x := "vat") rfl (by decide +kernel)))) (de_peek (de_gint (i := 2) gd (by decide +kernel) g_PAIR_stuck (by decide +kernel))) (fun _ _ => by first | rfl | with_unfolding_all rfl))) (de_peek (de_op opd_sub (de_peek (de_var gd (va (i := 1) (x := "at") rfl (by decide +kernel)))) (de_peek (de_var gd (va (i := 2) (x := "other") rfl (by decide +kernel)))))))) dak_nil))) (de_peek (de_call gd c_width_of hr (by decide +kernel) (da_cons (de_var gd (va (i := 0) (x := "vat") rfl (by decide +kernel))) da_nil) (by decide +kernel))) (nomark _))))
theorem o_telling {f : Addr} {fd : FuncData} (Fn : FnP K "telling" s_telling f fd) (hm : mg "telling" = some (.ref f)) (b_range : mg "range" = none) (b_tuple : mg "tuple" = none) (c_check_bounds : OwnFn P w K mg base 6 "check_bounds" m_check_bounds) (c_is_integer : OwnFn P w K mg base 6 "is_integer" m_is_integer) (c_parts : OwnFn P w K mg base 6 "parts" m_parts) :
    OwnFn P w K mg base 7 "telling" m_telling := own_mk (N := ["vat", "bounds", "at", "one"]) (ps := ["vat", "bounds", "at"]) Fn hm
  ⟨rfl, rfl, rfl, (by decide +kernel), rfl, (by decide +kernel), (by decide +kernel)⟩ (fun _ _ _ _ _ _ us hl => match us, hl with | [_, _, _], _ => rfl) (by decide +kernel)
  fun X gd e1 e2 e3 e4 e5 hfn hr => by
  subst e1 e2 e3 e4 e5
  exact (dss_cons (ds_expr (de_call gd c_check_bounds hr (by decide +kernel) (da_cons (de_var gd (va (i := 0) (x := "vat") rfl (by decide +kernel))) (da_cons (de_var gd (va (i := 1) (x := "bounds") rfl (by decide +kernel))) da_nil)) (by decide +kernel)))
  (dss_cons (ds_if (dt_not (dt_val (de_call gd c_is_integer hr (by decide +kernel) (da_cons (de_var gd (va (i := 2) (x := "at") rfl (by decide +kernel))) (da_cons (de_ix (de_peek (de_var gd (va (i := 1) (x := "bounds") rfl (by decide +kernel)))) (de_peek de_int) (fun _ _ => by first | rfl | with_unfolding_all rfl)) (da_cons (de_ix (de_peek (de_var gd (va (i := 1) (x := "bounds") rfl (by decide +kernel)))) (de_peek de_int) (fun _ _ => by first | rfl | with_unfolding_all rfl)) da_nil))) (by decide +kernel)))) (dss_one ds_never) dss_nil)
  (dss_one (ds_ret (de_ty gd cd_tuple (by decide +kernel) b_tuple boot_tuple (dak_cons (de_peek (de_new (dn_compG (own := [("one", 3)]) gd (di_range2 gd (by decide +kernel) b_range (da_cons (de_ix (de_peek (de_var gd (va (i := 1) (x := "bounds") rfl (by decide +kernel)))) (de_peek de_int) (fun _ _ => by first | rfl | with_unfolding_all rfl)) (da_cons (de_op opd_add (de_peek (de_ix (de_peek (de_var gd (va (i := 1) (x := "bounds") rfl (by decide +kernel)))) (de_peek de_int) (fun _ _ => by first | rfl | with_unfolding_all rfl))) (de_peek de_int)) da_nil))) (blk_of rfl (by decide +kernel) (by decide +kernel) (by decide +kernel) (by decide +kernel)) (by decide +kernel) (fun s H C cl fp gd => (dg_nm gd (la (i := 3) (x := "one") rfl (by decide +kernel) (.inr (by decide +kernel))))) (fun s H C cl fp gd => (dts_one (dt_val (de_call gd c_parts hr (by decide +kernel) (da_cons (de_var gd (va (i := 0) (x := "vat") rfl (by decide +kernel))) (da_cons (de_var gd (va (i := 3) (x := "one") rfl (by decide +kernel))) (da_cons (de_var gd (va (i := 2) (x := "at") rfl (by decide +kernel))) da_nil))) (by decide +kernel))))) (fun s H C cl fp gd => (de_var gd (va (i := 3) (x := "one") rfl (by decide +kernel))))))) dak_nil))))))
theorem o_least_row {f : Addr} {fd : FuncData} (Fn : FnP K "least_row" s_least_row f fd) (hm : mg "least_row" = some (.ref f)) (b_all : mg "all" = none) (b_range : mg "range" = none) (g_NEVER : ∃ t, mg "NEVER" = some (.str "never" t)) (g_ROW : ∃ t, mg "ROW" = some (.str "row" t)) (c_check_bounds : OwnFn P w K mg base 6 "check_bounds" m_check_bounds) (c_parts : OwnFn P w K mg base 6 "parts" m_parts) :
    OwnFn P w K mg base 7 "least_row" m_least_row := own_mk (N := ["vat", "bounds", "every", "lone", "at", "one", "other"]) (ps := ["vat", "bounds"]) Fn hm
  ⟨rfl, rfl, rfl, (by decide +kernel), rfl, (by decide +kernel), (by decide +kernel)⟩ (fun _ _ _ _ _ _ us hl => match us, hl with | [_, _], _ => rfl) (by decide +kernel)
  fun X gd e1 e2 e3 e4 e5 hfn hr => by
  subst e1 e2 e3 e4 e5
  exact (dss_cons (ds_expr (de_call gd c_check_bounds hr (by decide +kernel) (da_cons (de_var gd (va (i := 0) (x := "vat") rfl (by decide +kernel))) (da_cons (de_var gd (va (i := 1) (x := "bounds") rfl (by decide +kernel))) da_nil)) (by decide +kernel)))
  (dss_cons (ds_set gd (la (i := 2) (x := "every") rfl (by decide +kernel) (.inl (hfn _))) (de_ty gd cd_range (by decide +kernel) b_range boot_range (dak_cons (de_peek (de_ix (de_peek (de_var gd (va (i := 1) (x := "bounds") rfl (by decide +kernel)))) (de_peek de_int) (fun _ _ => by first | rfl | with_unfolding_all rfl))) (dak_cons (de_peek (de_op opd_add (de_peek (de_ix (de_peek (de_var gd (va (i := 1) (x := "bounds") rfl (by decide +kernel)))) (de_peek de_int) (fun _ _ => by first | rfl | with_unfolding_all rfl))) (de_peek de_int))) dak_nil))))
  (dss_cons (ds_setcompV (i := 3) (own := [("at", 4)]) gd rfl rfl (by decide +kernel) (by decide +kernel) (by decide +kernel) (di_seq (de_var gd (va (i := 2) (x := "every") rfl (by decide +kernel)))) (blk_of rfl (by decide +kernel) (by decide +kernel) (by decide +kernel) (by decide +kernel)) (by decide +kernel) (fun s H C cl fp gd => (dg_nm gd (la (i := 4) (x := "at") rfl (by decide +kernel) (.inr (by decide +kernel))))) (fun s H C cl fp gd => (dts_one (dt_w (dw_and (dt_not (dt_val (de_call gd c_parts hr (by decide +kernel) (da_cons (de_var gd (va (i := 0) (x := "vat") rfl (by decide +kernel))) (da_cons (de_ix (de_peek (de_var gd (va (i := 1) (x := "bounds") rfl (by decide +kernel)))) (de_peek de_int) (fun _ _ => by first | rfl | with_unfolding_all rfl)) (da_cons (de_var gd (va (i := 4) (x := "at") rfl (by decide +kernel))) da_nil))) (by decide +kernel)))) (dw_and1 (dt_not (dt_val (de_call gd c_parts hr (by decide +kernel) (da_cons (de_var gd (va (i := 0) (x := "vat") rfl (by decide +kernel))) (da_cons (de_ix (de_peek (de_var gd (va (i := 1) (x := "bounds") rfl (by decide +kernel)))) (de_peek de_int) (fun _ _ => by first | rfl | with_unfolding_all rfl)) (da_cons (de_var gd (va (i := 4) (x := "at") rfl (by decide +kernel))) da_nil))) (by decide +kernel))))))))) (fun s H C cl fp gd => (de_var gd (va (i := 4) (x := "at") rfl (by decide +kernel)))))
  (dss_cons (ds_if (dt_cmp (opd_ne gd.hu) (de_peek (de_var gd (va (i := 3) (x := "lone") rfl (by decide +kernel)))) (de_peek (de_new (dn_lst da_nil))) (nomark _)) (dss_one (ds_ret (de_tup (da_cons (de_gstr (z := "never") gd (by decide +kernel) g_NEVER (by decide +kernel)) (da_cons (de_ix (de_peek (de_var gd (va (i := 3) (x := "lone") rfl (by decide +kernel)))) (de_peek de_int) (fun _ _ => by first | rfl | with_unfolding_all rfl)) da_nil))))) dss_nil)
  (dss_cons (ds_for gd (di_seq (de_var gd (va (i := 2) (x := "every") rfl (by decide +kernel)))) (dg_nm gd (la (i := 5) (x := "one") rfl (by decide +kernel) (.inl (hfn _)))) (dss_one (ds_for gd (di_seq (de_var gd (va (i := 2) (x := "every") rfl (by decide +kernel)))) (dg_nm gd (la (i := 6) (x := "other") rfl (by decide +kernel) (.inl (hfn _)))) (dss_one (ds_if (dt_val (de_bi gd (cd_all gd.calm) (by decide +kernel) b_all boot_all (dak_cons (de_peek (de_new (dn_compG (own := [("at", 4)]) gd (di_seq (de_var gd (va (i := 2) (x := "every") rfl (by decide +kernel)))) (blk_of rfl (by decide +kernel) (by decide +kernel) (by decide +kernel) (by decide +kernel)) (by decide +kernel) (fun s H C cl fp gd => (dg_nm gd (la (i := 4) (x := "at") rfl (by decide +kernel) (.inr (by decide +kernel))))) (fun s H C cl fp gd => dts_nil) (fun s H C cl fp gd => (de_or (de_call gd c_parts hr (by decide +kernel) (da_cons (de_var gd (va (i := 0) (x := "vat") rfl (by decide +kernel))) (da_cons (de_var gd (va (i := 5) (x := "one") rfl (by decide +kernel))) (da_cons (de_var gd (va (i := 4) (x := "at") rfl (by decide +kernel))) da_nil))) (by decide +kernel)) (de_one (de_call gd c_parts hr (by decide +kernel) (da_cons (de_var gd (va (i := 0) (x := "vat") rfl (by decide +kernel))) (da_cons (de_var gd (va (i := 6) (x := "other") rfl (by decide +kernel))) (da_cons (de_var gd (va (i := 4) (x := "at") rfl (by decide +kernel))) da_nil))) (by decide +kernel)))))))) dak_nil))) (dss_one (ds_ret (de_tup (da_cons (de_gstr (z := "row") gd (by decide +kernel) g_ROW (by decide +kernel)) (da_cons (de_tup (da_cons (de_var gd (va (i := 5) (x := "one") rfl (by decide +kernel))) (da_cons (de_var gd (va (i := 6) (x := "other") rfl (by decide +kernel))) da_nil))) da_nil))))) dss_nil)))))
  (dss_one (ds_ret (de_tup (da_cons (de_gstr (z := "row") gd (by decide +kernel) g_ROW (by decide +kernel)) (da_cons (de_tup (da_cons (de_ix (de_peek (de_var gd (va (i := 1) (x := "bounds") rfl (by decide +kernel)))) (de_peek de_int) (fun _ _ => by first | rfl | with_unfolding_all rfl)) (da_cons (de_ix (de_peek (de_var gd (va (i := 1) (x := "bounds") rfl (by decide +kernel)))) (de_peek de_int) (fun _ _ => by first | rfl | with_unfolding_all rfl)) da_nil))) da_nil))))))))))
theorem o_shows_row {f : Addr} {fd : FuncData} (Fn : FnP K "shows_row" s_shows_row f fd) (hm : mg "shows_row" = some (.ref f)) (b_all : mg "all" = none) (b_any : mg "any" = none) (b_isinstance : mg "isinstance" = none) (b_range : mg "range" = none) (b_str : mg "str" = none) (g_NEVER : ∃ t, mg "NEVER" = some (.str "never" t)) (g_PAIR_stuck : ∃ t, mg "PAIR_stuck" = some (.int 2 t)) (g_ROW : ∃ t, mg "ROW" = some (.str "row" t)) (c_check_bounds : OwnFn P w K mg base 6 "check_bounds" m_check_bounds) (c_is_tuple : OwnFn P w K mg base 6 "is_tuple" m_is_tuple) (c_is_integer : OwnFn P w K mg base 6 "is_integer" m_is_integer) (c_parts : OwnFn P w K mg base 6 "parts" m_parts) :
    OwnFn P w K mg base 7 "shows_row" m_shows_row := own_mk (N := ["vat", "bounds", "value", "every", "one", "at"]) (ps := ["vat", "bounds", "value"]) Fn hm
  ⟨rfl, rfl, rfl, (by decide +kernel), rfl, (by decide +kernel), (by decide +kernel)⟩ (fun _ _ _ _ _ _ us hl => match us, hl with | [_, _, _], _ => rfl) (by decide +kernel)
  fun X gd e1 e2 e3 e4 e5 hfn hr => by
  subst e1 e2 e3 e4 e5
  exact (dss_cons (ds_expr (de_call gd c_check_bounds hr (by decide +kernel) (da_cons (de_var gd (va (i := 0) (x := "vat") rfl (by decide +kernel))) (da_cons (de_var gd (va (i := 1) (x := "bounds") rfl (by decide +kernel))) da_nil)) (by decide +kernel)))
  (dss_cons (ds_if (dt_w (dw_or (dt_not (dt_val (de_call gd c_is_tuple hr (by decide +kernel) (da_cons (de_var gd (va (i := 2) (x := "value") rfl (by decide +kernel))) (da_cons (de_gint (i := 2) gd (by decide +kernel) g_PAIR_stuck (by decide +kernel)) (da_cons (de_gint (i := 2) gd (by decide +kernel) g_PAIR_stuck (by decide +kernel)) da_nil))) (by decide +kernel)))) (dw_or1 (dt_not (dt_val (de_isi (T := .str) gd (fun h => nomatch h) (by decide +kernel) b_isinstance (by decide +kernel) b_str boot_str (de_peek (de_ix (de_peek (de_var gd (va (i := 2) (x := "value") rfl (by decide +kernel)))) (de_peek de_int) (fun _ _ => by first | rfl | with_unfolding_all rfl))))))))) (dss_one (ds_ret de_bl)) dss_nil)
  (dss_cons (ds_set gd (la (i := 3) (x := "every") rfl (by decide +kernel) (.inl (hfn _))) (de_ty gd cd_range (by decide +kernel) b_range boot_range (dak_cons (de_peek (de_ix (de_peek (de_var gd (va (i := 1) (x := "bounds") rfl (by decide +kernel)))) (de_peek de_int) (fun _ _ => by first | rfl | with_unfolding_all rfl))) (dak_cons (de_peek (de_op opd_add (de_peek (de_ix (de_peek (de_var gd (va (i := 1) (x := "bounds") rfl (by decide +kernel)))) (de_peek de_int) (fun _ _ => by first | rfl | with_unfolding_all rfl))) (de_peek de_int))) dak_nil))))
  (dss_cons (ds_if (dt_cmp (opd_eq gd.hu) (de_peek (de_ix (de_peek (de_var gd (va (i := 2) (x := "value") rfl (by decide +kernel)))) (de_peek de_int) (fun _ _ => by first | rfl | with_unfolding_all rfl))) (de_peek (de_gstr (z := "never") gd (by decide +kernel) g_NEVER (by decide +kernel))) (nomark _)) (dss_one (ds_ret (de_and (de_call gd c_is_integer hr (by decide +kernel) (da_cons (de_ix (de_peek (de_var gd (va (i := 2) (x := "value") rfl (by decide +kernel)))) (de_peek de_int) (fun _ _ => by first | rfl | with_unfolding_all rfl)) (da_cons (de_ix (de_peek (de_var gd (va (i := 1) (x := "bounds") rfl (by decide +kernel)))) (de_peek de_int) (fun _ _ => by first | rfl | with_unfolding_all rfl)) (da_cons (de_ix (de_peek (de_var gd (va (i := 1) (x := "bounds") rfl (by decide +kernel)))) (de_peek de_int) (fun _ _ => by first | rfl | with_unfolding_all rfl)) da_nil))) (by decide +kernel)) (de_one (de_not (de_bi gd (cd_any gd.calm) (by decide +kernel) b_any boot_any (dak_cons (de_peek (de_new (dn_compG (own := [("one", 4)]) gd (di_seq (de_var gd (va (i := 3) (x := "every") rfl (by decide +kernel)))) (blk_of rfl (by decide +kernel) (by decide +kernel) (by decide +kernel) (by decide +kernel)) (by decide +kernel) (fun s H C cl fp gd => (dg_nm gd (la (i := 4) (x := "one") rfl (by decide +kernel) (.inr (by decide +kernel))))) (fun s H C cl fp gd => dts_nil) (fun s H C cl fp gd => (de_call gd c_parts hr (by decide +kernel) (da_cons (de_var gd (va (i := 0) (x := "vat") rfl (by decide +kernel))) (da_cons (de_var gd (va (i := 4) (x := "one") rfl (by decide +kernel))) (da_cons (de_ix (de_peek (de_var gd (va (i := 2) (x := "value") rfl (by decide +kernel)))) (de_peek de_int) (fun _ _ => by first | rfl | with_unfolding_all rfl)) da_nil))) (by decide +kernel)))))) dak_nil))))))) dss_nil)
  (dss_cons (ds_if (dt_w (dw_or (dt_cmp (opd_ne gd.hu) (de_peek (de_ix (de_peek (de_var gd (va (i := 2) (x := "value") rfl (by decide +kernel)))) (de_peek de_int) (fun _ _ => by first | rfl | with_unfolding_all rfl))) (de_peek (de_gstr (z := "row") gd (by decide +kernel) g_ROW (by decide +kernel))) (nomark _)) (dw_or1 (dt_not (dt_val (de_call gd c_is_tuple hr (by decide +kernel) (da_cons (de_ix (de_peek (de_var gd (va (i := 2) (x := "value") rfl (by decide +kernel)))) (de_peek de_int) (fun _ _ => by first | rfl | with_unfolding_all rfl)) (da_cons (de_gint (i := 2) gd (by decide +kernel) g_PAIR_stuck (by decide +kernel)) (da_cons (de_gint (i := 2) gd (by decide +kernel) g_PAIR_stuck (by decide +kernel)) da_nil))) (by decide +kernel))))))) (dss_one (ds_ret de_bl)) dss_nil)
  (dss_cons (ds_if (dt_not (dt_val (de_bi gd (cd_all gd.calm) (by decide +kernel) b_all boot_all (dak_cons (de_peek (de_new (dn_compG (own := [("one", 4)]) gd (di_seq (de_ix (de_peek (de_var gd (va (i := 2) (x := "value") rfl (by decide +kernel)))) (de_peek de_int) (fun _ _ => by first | rfl | with_unfolding_all rfl))) (blk_of rfl (by decide +kernel) (by decide +kernel) (by decide +kernel) (by decide +kernel)) (by decide +kernel) (fun s H C cl fp gd => (dg_nm gd (la (i := 4) (x := "one") rfl (by decide +kernel) (.inr (by decide +kernel))))) (fun s H C cl fp gd => dts_nil) (fun s H C cl fp gd => (de_call gd c_is_integer hr (by decide +kernel) (da_cons (de_var gd (va (i := 4) (x := "one") rfl (by decide +kernel))) (da_cons (de_ix (de_peek (de_var gd (va (i := 1) (x := "bounds") rfl (by decide +kernel)))) (de_peek de_int) (fun _ _ => by first | rfl | with_unfolding_all rfl)) (da_cons (de_ix (de_peek (de_var gd (va (i := 1) (x := "bounds") rfl (by decide +kernel)))) (de_peek de_int) (fun _ _ => by first | rfl | with_unfolding_all rfl)) da_nil))) (by decide +kernel)))))) dak_nil)))) (dss_one (ds_ret de_bl)) dss_nil)
  (dss_one (ds_ret (de_bi gd (cd_all gd.calm) (by decide +kernel) b_all boot_all (dak_cons (de_peek (de_new (dn_compG (own := [("at", 5)]) gd (di_seq (de_var gd (va (i := 3) (x := "every") rfl (by decide +kernel)))) (blk_of rfl (by decide +kernel) (by decide +kernel) (by decide +kernel) (by decide +kernel)) (by decide +kernel) (fun s H C cl fp gd => (dg_nm gd (la (i := 5) (x := "at") rfl (by decide +kernel) (.inl (by rfl))))) (fun s H C cl fp gd => dts_nil) (fun s H C cl fp gd => (de_bi gd (cd_any gd.calm) (by decide +kernel) b_any boot_any (dak_cons (de_peek (de_new (dn_compG (own := [("one", 4)]) gd (di_seq (de_ix (de_peek (de_var gd (va (i := 2) (x := "value") rfl (by decide +kernel)))) (de_peek de_int) (fun _ _ => by first | rfl | with_unfolding_all rfl))) (blk_of rfl (by decide +kernel) (by decide +kernel) (by decide +kernel) (by decide +kernel)) (by decide +kernel) (fun s H C cl fp gd => (dg_nm gd (la (i := 4) (x := "one") rfl (by decide +kernel) (.inr (by decide +kernel))))) (fun s H C cl fp gd => dts_nil) (fun s H C cl fp gd => (de_call gd c_parts hr (by decide +kernel) (da_cons (de_var gd (va (i := 0) (x := "vat") rfl (by decide +kernel))) (da_cons (de_var gd (va (i := 4) (x := "one") rfl (by decide +kernel))) (da_cons (de_var gd (va (i := 5) (x := "at") rfl (by decide +kernel))) da_nil))) (by decide +kernel)))))) dak_nil)))))) dak_nil))))))))))
theorem o_is_told {f : Addr} {fd : FuncData} (Fn : FnP K "is_told" s_is_told f fd) (hm : mg "is_told" = some (.ref f)) (b_all : mg "all" = none) (b_any : mg "any" = none) (b_range : mg "range" = none) (g_MOST_SEEN : ∃ t, mg "MOST_SEEN" = some (.int 60 t)) (c_check_bounds : OwnFn P w K mg base 6 "check_bounds" m_check_bounds) (c_check_level : OwnFn P w K mg base 6 "check_level" m_check_level) (c_is_tuple : OwnFn P w K mg base 6 "is_tuple" m_is_tuple) (c_is_integer : OwnFn P w K mg base 6 "is_integer" m_is_integer) (c_parts : OwnFn P w K mg base 6 "parts" m_parts) :
    OwnFn P w K mg base 7 "is_told" m_is_told := own_mk (N := ["vat", "bounds", "level", "settings", "at", "one"]) (ps := ["vat", "bounds", "level", "settings"]) Fn hm
  ⟨rfl, rfl, rfl, (by decide +kernel), rfl, (by decide +kernel), (by decide +kernel)⟩ (fun _ _ _ _ _ _ us hl => match us, hl with | [_, _, _, _], _ => rfl) (by decide +kernel)
  fun X gd e1 e2 e3 e4 e5 hfn hr => by
  subst e1 e2 e3 e4 e5
  exact (dss_cons (ds_expr (de_call gd c_check_bounds hr (by decide +kernel) (da_cons (de_var gd (va (i := 0) (x := "vat") rfl (by decide +kernel))) (da_cons (de_var gd (va (i := 1) (x := "bounds") rfl (by decide +kernel))) da_nil)) (by decide +kernel)))
  (dss_cons (ds_expr (de_call gd c_check_level hr (by decide +kernel) (da_cons (de_var gd (va (i := 0) (x := "vat") rfl (by decide +kernel))) (da_cons (de_var gd (va (i := 2) (x := "level") rfl (by decide +kernel))) da_nil)) (by decide +kernel)))
  (dss_cons (ds_if (dt_w (dw_or (dt_not (dt_val (de_call gd c_is_tuple hr (by decide +kernel) (da_cons (de_var gd (va (i := 3) (x := "settings") rfl (by decide +kernel))) (da_cons de_int (da_cons (de_gint (i := 60) gd (by decide +kernel) g_MOST_SEEN (by decide +kernel)) da_nil))) (by decide +kernel)))) (dw_or1 (dt_not (dt_val (de_bi gd (cd_all gd.calm) (by decide +kernel) b_all boot_all (dak_cons (de_peek (de_new (dn_compG (own := [("at", 4)]) gd (di_seq (de_var gd (va (i := 3) (x := "settings") rfl (by decide +kernel)))) (blk_of rfl (by decide +kernel) (by decide +kernel) (by decide +kernel) (by decide +kernel)) (by decide +kernel) (fun s H C cl fp gd => (dg_nm gd (la (i := 4) (x := "at") rfl (by decide +kernel) (.inr (by decide +kernel))))) (fun s H C cl fp gd => dts_nil) (fun s H C cl fp gd => (de_call gd c_is_integer hr (by decide +kernel) (da_cons (de_var gd (va (i := 4) (x := "at") rfl (by decide +kernel))) (da_cons (de_ix (de_peek (de_var gd (va (i := 1) (x := "bounds") rfl (by decide +kernel)))) (de_peek de_int) (fun _ _ => by first | rfl | with_unfolding_all rfl)) (da_cons (de_ix (de_peek (de_var gd (va (i := 1) (x := "bounds") rfl (by decide +kernel)))) (de_peek de_int) (fun _ _ => by first | rfl | with_unfolding_all rfl)) da_nil))) (by decide +kernel)))))) dak_nil))))))) (dss_one ds_never) dss_nil)
  (dss_one (ds_ret (de_bi gd (cd_all gd.calm) (by decide +kernel) b_all boot_all (dak_cons (de_peek (de_new (dn_compG (own := [("at", 4)]) gd (di_range2 gd (by decide +kernel) b_range (da_cons (de_ix (de_peek (de_var gd (va (i := 1) (x := "bounds") rfl (by decide +kernel)))) (de_peek de_int) (fun _ _ => by first | rfl | with_unfolding_all rfl)) (da_cons (de_op opd_add (de_peek (de_ix (de_peek (de_var gd (va (i := 1) (x := "bounds") rfl (by decide +kernel)))) (de_peek de_int) (fun _ _ => by first | rfl | with_unfolding_all rfl))) (de_peek de_int)) da_nil))) (blk_of rfl (by decide +kernel) (by decide +kernel) (by decide +kernel) (by decide +kernel)) (by decide +kernel) (fun s H C cl fp gd => (dg_nm gd (la (i := 4) (x := "at") rfl (by decide +kernel) (.inl (by rfl))))) (fun s H C cl fp gd => dts_nil) (fun s H C cl fp gd => (de_bi gd (cd_any gd.calm) (by decide +kernel) b_any boot_any (dak_cons (de_peek (de_new (dn_compG (own := [("one", 5)]) gd (di_seq (de_var gd (va (i := 3) (x := "settings") rfl (by decide +kernel)))) (blk_of rfl (by decide +kernel) (by decide +kernel) (by decide +kernel) (by decide +kernel)) (by decide +kernel) (fun s H C cl fp gd => (dg_nm gd (la (i := 5) (x := "one") rfl (by decide +kernel) (.inr (by decide +kernel))))) (fun s H C cl fp gd => dts_nil) (fun s H C cl fp gd => (de_call gd c_parts hr (by decide +kernel) (da_cons (de_var gd (va (i := 0) (x := "vat") rfl (by decide +kernel))) (da_cons (de_var gd (va (i := 5) (x := "one") rfl (by decide +kernel))) (da_cons (de_var gd (va (i := 4) (x := "at") rfl (by decide +kernel))) da_nil))) (by decide +kernel)))))) dak_nil)))))) dak_nil)))))))
theorem o__law_pot {f : Addr} {fd : FuncData} (Fn : FnP K "_law_pot" s__law_pot f fd) (hm : mg "_law_pot" = some (.ref f)) (b_abs : mg "abs" = none) (b_int : mg "int" = none) (b_len : mg "len" = none) (b_sum : mg "sum" = none) :
    OwnFnN P w K mg base 1 "_law_pot" m__law_pot := own_mkN (N := ["script", "place", "cell", "own", "small"]) (ps := ["script", "place"]) Fn hm
  ⟨rfl, rfl, rfl, (by decide +kernel), rfl, (by decide +kernel), (by decide +kernel)⟩ (fun _ _ _ _ _ _ us hl => match us, hl with | [_, _], _ => rfl)
  fun X gd e1 e2 e3 e4 e5 hfn hr => by
  subst e1 e2 e3 e4 e5
  exact (dsn_cons (ds_set gd (la (i := 2) (x := "cell") rfl (by decide +kernel) (.inl (hfn _))) (de_if (dt_cmp opd_lt (de_peek (de_var gd (va (i := 1) (x := "place") rfl (by decide +kernel)))) (de_peek (de_bi gd cd_len (by decide +kernel) b_len boot_len (dak_cons (de_peek (de_var gd (va (i := 0) (x := "script") rfl (by decide +kernel)))) dak_nil))) (nomark _)) (de_ix (de_peek (de_var gd (va (i := 0) (x := "script") rfl (by decide +kernel)))) (de_peek (de_var gd (va (i := 1) (x := "place") rfl (by decide +kernel)))) (fun _ _ => by first | rfl | with_unfolding_all rfl)) (de_op opd_add (de_peek (de_op opd_add (de_peek (de_op opd_mod (de_peek (de_bi gd (cd_sum gd.calm) (by decide +kernel) b_sum boot_sum (dak_cons (de_peek (de_slice (de_peek (de_var gd (va (i := 0) (x := "script") rfl (by decide +kernel)))) do_none (do_some de_int))) dak_nil))) (de_peek de_int))) (de_peek (de_op opd_mul (de_peek de_int) (de_peek (de_var gd (va (i := 1) (x := "place") rfl (by decide +kernel)))))))) (de_peek de_int))))
  (dsn_cons (ds_set gd (la (i := 3) (x := "own") rfl (by decide +kernel) (.inl (hfn _))) (de_op opd_mul (de_peek (de_op opd_mod (de_peek (de_ty gd cd_int (by decide +kernel) b_int boot_int (dak_cons (de_peek (de_bi gd cd_abs (by decide +kernel) b_abs boot_abs (dak_cons (de_peek (de_var gd (va (i := 2) (x := "cell") rfl (by decide +kernel)))) dak_nil))) dak_nil))) (de_peek (de_op opd_pow (de_peek (de_op opd_pow (de_peek de_int) (de_peek de_int))) (de_peek de_int))))) (de_peek (de_ty gd cd_int (by decide +kernel) b_int boot_int (dak_cons (de_peek (de_cmp opd_ge (de_peek (de_bi gd cd_abs (by decide +kernel) b_abs boot_abs (dak_cons (de_peek (de_var gd (va (i := 2) (x := "cell") rfl (by decide +kernel)))) dak_nil))) (de_peek (de_op opd_pow (de_peek de_int) (de_peek de_int))) (nomark _))) dak_nil)))))
  (dsn_cons (ds_set gd (la (i := 4) (x := "small") rfl (by decide +kernel) (.inl (hfn _))) (de_op opd_mod (de_peek (de_ty gd cd_int (by decide +kernel) b_int boot_int (dak_cons (de_peek (de_var gd (va (i := 2) (x := "cell") rfl (by decide +kernel)))) dak_nil))) (de_peek de_int)))
  (dsn_ret (dn_lst (da_cons (de_var gd (va (i := 3) (x := "own") rfl (by decide +kernel))) (da_cons (de_op opd_mod (de_peek (de_ty gd cd_int (by decide +kernel) b_int boot_int (dak_cons (de_peek (de_op opd_add (de_peek (de_op opd_add (de_peek (de_op opd_mul (de_peek (de_var gd (va (i := 4) (x := "small") rfl (by decide +kernel)))) (de_peek de_int))) (de_peek (de_op opd_mul (de_peek (de_op opd_mul (de_peek de_int) (de_peek (de_var gd (va (i := 1) (x := "place") rfl (by decide +kernel)))))) (de_peek (de_var gd (va (i := 1) (x := "place") rfl (by decide +kernel)))))))) (de_peek de_int))) dak_nil))) (de_peek de_int)) (da_cons de_int da_nil))))))))
theorem o__law_take {f : Addr} {fd : FuncData} (Fn : FnP K "_law_take" s__law_take f fd) (hm : mg "_law_take" = some (.ref f)) (b_int : mg "int" = none) :
    OwnFn P w K mg base 1 "_law_take" m__law_take := own_mk (N := ["pot", "upto", "digit", "prime", "blend"]) (ps := ["pot", "upto"]) Fn hm
  ⟨rfl, rfl, rfl, (by decide +kernel), rfl, (by decide +kernel), (by decide +kernel)⟩ (fun _ _ _ _ _ _ us hl => match us, hl with | [_, _], _ => rfl) (by decide +kernel)
  fun X gd e1 e2 e3 e4 e5 hfn hr => by
  subst e1 e2 e3 e4 e5
  exact (dss_cons (ds_if (dt_cmp opd_gt (de_peek (de_pot (de_var gd (va (i := 0) (x := "pot") rfl (by decide +kernel))) de_int (fun _ _ => by first | rfl | with_unfolding_all rfl))) (de_peek de_int) (nomark _)) (dss_cons (ds_set gd (la (i := 2) (x := "digit") rfl (by decide +kernel) (.inl (hfn _))) (de_op opd_mod (de_peek (de_ty gd cd_int (by decide +kernel) b_int boot_int (dak_cons (de_peek (de_pot (de_var gd (va (i := 0) (x := "pot") rfl (by decide +kernel))) de_int (fun _ _ => by first | rfl | with_unfolding_all rfl))) dak_nil))) (de_peek (de_var gd (va (i := 1) (x := "upto") rfl (by decide +kernel))))))
  (dss_cons (ds_potPut (de_var gd (va (i := 0) (x := "pot") rfl (by decide +kernel))) de_int (de_op opd_fdiv (de_peek (de_pot (de_var gd (va (i := 0) (x := "pot") rfl (by decide +kernel))) de_int (fun _ _ => by first | rfl | with_unfolding_all rfl))) (de_peek (de_var gd (va (i := 1) (x := "upto") rfl (by decide +kernel))))))
  (dss_one (ds_ret (de_var gd (va (i := 2) (x := "digit") rfl (by decide +kernel))))))) dss_nil)
  (dss_cons (ds_potPut (de_var gd (va (i := 0) (x := "pot") rfl (by decide +kernel))) de_int (de_op opd_add (de_peek (de_pot (de_var gd (va (i := 0) (x := "pot") rfl (by decide +kernel))) de_int (fun _ _ => by first | rfl | with_unfolding_all rfl))) (de_peek de_int)))
  (dss_cons (ds_set gd (la (i := 3) (x := "prime") rfl (by decide +kernel) (.inl (hfn _))) (de_ix (de_peek (de_new (dn_lst (da_cons de_int (da_cons de_int (da_cons de_int (da_cons de_int (da_cons de_int da_nil)))))))) (de_peek (de_op opd_mod (de_peek (de_ty gd cd_int (by decide +kernel) b_int boot_int (dak_cons (de_peek (de_pot (de_var gd (va (i := 0) (x := "pot") rfl (by decide +kernel))) de_int (fun _ _ => by first | rfl | with_unfolding_all rfl))) dak_nil))) (de_peek de_int))) (fun _ _ => by first | rfl | with_unfolding_all rfl)))
  (dss_cons (ds_set gd (la (i := 4) (x := "blend") rfl (by decide +kernel) (.inl (hfn _))) (de_op opd_mod (de_peek (de_ty gd cd_int (by decide +kernel) b_int boot_int (dak_cons (de_peek (de_op opd_pow (de_peek (de_ty gd cd_int (by decide +kernel) b_int boot_int (dak_cons (de_peek (de_op opd_add (de_peek (de_op opd_add (de_peek (de_pot (de_var gd (va (i := 0) (x := "pot") rfl (by decide +kernel))) de_int (fun _ _ => by first | rfl | with_unfolding_all rfl))) (de_peek (de_op opd_mul (de_peek (de_op opd_mul (de_peek de_int) (de_peek (de_pot (de_var gd (va (i := 0) (x := "pot") rfl (by decide +kernel))) de_int (fun _ _ => by first | rfl | with_unfolding_all rfl))))) (de_peek (de_pot (de_var gd (va (i := 0) (x := "pot") rfl (by decide +kernel))) de_int (fun _ _ => by first | rfl | with_unfolding_all rfl))))))) (de_peek de_int))) dak_nil))) (de_peek de_int))) dak_nil))) (de_peek (de_var gd (va (i := 3) (x := "prime") rfl (by decide +kernel))))))
  (dss_cons (ds_set gd (la (i := 4) (x := "blend") rfl (by decide +kernel) (.inl (hfn _))) (de_op opd_mod (de_peek (de_ty gd cd_int (by decide +kernel) b_int boot_int (dak_cons (de_peek (de_op opd_mul (de_peek (de_var gd (va (i := 4) (x := "blend") rfl (by decide +kernel)))) (de_peek (de_op opd_add (de_peek (de_op opd_mod (de_peek (de_ty gd cd_int (by decide +kernel) b_int boot_int (dak_cons (de_peek (de_var gd (va (i := 4) (x := "blend") rfl (by decide +kernel)))) dak_nil))) (de_peek de_int))) (de_peek (de_op opd_mul (de_peek de_int) (de_peek (de_pot (de_var gd (va (i := 0) (x := "pot") rfl (by decide +kernel))) de_int (fun _ _ => by first | rfl | with_unfolding_all rfl))))))))) dak_nil))) (de_peek de_int)))
  (dss_one (ds_ret (de_op opd_mod (de_peek (de_ty gd cd_int (by decide +kernel) b_int boot_int (dak_cons (de_peek (de_op opd_fdiv (de_peek (de_var gd (va (i := 4) (x := "blend") rfl (by decide +kernel)))) (de_peek de_int))) dak_nil))) (de_peek (de_var gd (va (i := 1) (x := "upto") rfl (by decide +kernel))))))))))))
theorem o__law_of {f : Addr} {fd : FuncData} (Fn : FnP K "_law_of" s__law_of f fd) (hm : mg "_law_of" = some (.ref f)) (b_len : mg "len" = none) (c__law_take : OwnFn P w K mg base 1 "_law_take" m__law_take) :
    OwnFn P w K mg base 2 "_law_of" m__law_of := own_mk (N := ["pot", "some"]) (ps := ["pot", "some"]) Fn hm
  ⟨rfl, rfl, rfl, (by decide +kernel), rfl, (by decide +kernel), (by decide +kernel)⟩ (fun _ _ _ _ _ _ us hl => match us, hl with | [_, _], _ => rfl) (by decide +kernel)
  fun X gd e1 e2 e3 e4 e5 hfn hr => by
  subst e1 e2 e3 e4 e5
  exact (dss_one (ds_ret (de_ix (de_peek (de_var gd (va (i := 1) (x := "some") rfl (by decide +kernel)))) (de_peek (de_call gd c__law_take hr (by decide +kernel) (da_cons (de_var gd (va (i := 0) (x := "pot") rfl (by decide +kernel))) (da_cons (de_bi gd cd_len (by decide +kernel) b_len boot_len (dak_cons (de_peek (de_var gd (va (i := 1) (x := "some") rfl (by decide +kernel)))) dak_nil)) da_nil)) (by decide +kernel))) (fun _ _ => by first | rfl | with_unfolding_all rfl))))
theorem o__law_places {f : Addr} {fd : FuncData} (Fn : FnP K "_law_places" s__law_places f fd) (hm : mg "_law_places" = some (.ref f)) (b_len : mg "len" = none) (b_list : mg "list" = none) (b_max : mg "max" = none) (b_min : mg "min" = none) (b_range : mg "range" = none) :
    OwnFn P w K mg base 1 "_law_places" m__law_places := own_mk (N := ["script", "most"]) (ps := ["script", "most"]) Fn hm
  ⟨rfl, rfl, rfl, (by decide +kernel), rfl, (by decide +kernel), (by decide +kernel)⟩ (fun _ _ _ _ _ _ us hl => match us, hl with | [_, _], _ => rfl) (by decide +kernel)
  fun X gd e1 e2 e3 e4 e5 hfn hr => by
  subst e1 e2 e3 e4 e5
  exact (dss_one (ds_ret (de_new (dn_listRg gd (by decide +kernel) b_list (dr_1 gd (by decide +kernel) b_range (de_bi gd (cd_max gd.calm gd.hu) (by decide +kernel) b_max boot_max (dak_cons (de_peek de_int) (dak_cons (de_peek (de_bi gd (cd_min gd.calm gd.hu) (by decide +kernel) b_min boot_min (dak_cons (de_peek (de_var gd (va (i := 1) (x := "most") rfl (by decide +kernel)))) (dak_cons (de_peek (de_bi gd cd_len (by decide +kernel) b_len boot_len (dak_cons (de_peek (de_var gd (va (i := 0) (x := "script") rfl (by decide +kernel)))) dak_nil))) dak_nil)))) dak_nil))))))))
theorem o__law_drawn {f : Addr} {fd : FuncData} (Fn : FnP K "_law_drawn" s__law_drawn f fd) (hm : mg "_law_drawn" = some (.ref f)) (c__law_of : OwnFn P w K mg base 2 "_law_of" m__law_of) (c__law_take : OwnFn P w K mg base 2 "_law_take" m__law_take) :
    OwnFn P w K mg base 3 "_law_drawn" m__law_drawn := own_mk (N := ["pot", "strength", "least", "vat", "first"]) (ps := ["pot"]) Fn hm
  ⟨rfl, rfl, rfl, (by decide +kernel), rfl, (by decide +kernel), (by decide +kernel)⟩ (fun _ _ _ _ _ _ us hl => match us, hl with | [_], _ => rfl) (by decide +kernel)
  fun X gd e1 e2 e3 e4 e5 hfn hr => by
  subst e1 e2 e3 e4 e5
  exact (dss_cons (ds_par gd (la (i := 1) (x := "strength") rfl (by decide +kernel) (.inl (hfn _))) (la (i := 2) (x := "least") rfl (by decide +kernel) (.inl (hfn _))) (by decide +kernel) (by decide +kernel) (by decide +kernel) (dv_old (de_call gd c__law_of hr (by decide +kernel) (da_cons (de_var gd (va (i := 0) (x := "pot") rfl (by decide +kernel))) (da_cons (de_new (dn_lst (da_cons de_int (da_cons de_int (da_cons (de_neg de_int) (da_cons de_int (da_cons de_int (da_cons de_int da_nil)))))))) da_nil)) (by decide +kernel))) (dv_old (de_op opd_sub (de_peek de_int) (de_peek (de_call gd c__law_take hr (by decide +kernel) (da_cons (de_var gd (va (i := 0) (x := "pot") rfl (by decide +kernel))) (da_cons de_int da_nil)) (by decide +kernel))))) rfl rfl (sw_pair gd rfl (by decide +kernel) (by decide +kernel) rfl (by decide +kernel) rfl rfl rfl))
  (dss_cons (ds_set gd (la (i := 3) (x := "vat") rfl (by decide +kernel) (.inl (hfn _))) (de_tup (da_cons de_int (da_cons de_int (da_cons (de_var gd (va (i := 1) (x := "strength") rfl (by decide +kernel))) (da_cons (de_tup (da_cons (de_neg de_int) (da_cons de_int da_nil))) (da_cons (de_tup (da_cons (de_var gd (va (i := 2) (x := "least") rfl (by decide +kernel))) (da_cons (de_op opd_add (de_peek (de_var gd (va (i := 2) (x := "least") rfl (by decide +kernel)))) (de_peek (de_call gd c__law_take hr (by decide +kernel) (da_cons (de_var gd (va (i := 0) (x := "pot") rfl (by decide +kernel))) (da_cons de_int da_nil)) (by decide +kernel)))) da_nil))) da_nil)))))))
  (dss_cons (ds_set gd (la (i := 4) (x := "first") rfl (by decide +kernel) (.inl (hfn _))) (de_neg (de_call gd c__law_take hr (by decide +kernel) (da_cons (de_var gd (va (i := 0) (x := "pot") rfl (by decide +kernel))) (da_cons de_int da_nil)) (by decide +kernel))))
  (dss_one (ds_ret (de_tup (da_cons (de_var gd (va (i := 3) (x := "vat") rfl (by decide +kernel))) (da_cons (de_tup (da_cons (de_var gd (va (i := 4) (x := "first") rfl (by decide +kernel))) (da_cons (de_op opd_add (de_peek (de_var gd (va (i := 4) (x := "first") rfl (by decide +kernel)))) (de_peek (de_call gd c__law_take hr (by decide +kernel) (da_cons (de_var gd (va (i := 0) (x := "pot") rfl (by decide +kernel))) (da_cons de_int da_nil)) (by decide +kernel)))) da_nil))) da_nil))))))))
theorem o__law_parts {f : Addr} {fd : FuncData} (Fn : FnP K "_law_parts" s__law_parts f fd) (hm : mg "_law_parts" = some (.ref f)) (b_abs : mg "abs" = none) :
    OwnFn P w K mg base 1 "_law_parts" m__law_parts := own_mk (N := ["vat", "one", "other"]) (ps := ["vat", "one", "other"]) Fn hm
  ⟨rfl, rfl, rfl, (by decide +kernel), rfl, (by decide +kernel), (by decide +kernel)⟩ (fun _ _ _ _ _ _ us hl => match us, hl with | [_, _, _], _ => rfl) (by decide +kernel)
  fun X gd e1 e2 e3 e4 e5 hfn hr => by
  subst e1 e2 e3 e4 e5
  exact (dss_one (ds_ret (de_cmp opd_gt (de_peek (de_bi gd cd_abs (by decide +kernel) b_abs boot_abs (dak_cons (de_peek (de_op opd_mul (de_peek (de_ix (de_peek (de_var gd (va (i := 0) (x := "vat") rfl (by decide +kernel)))) (de_peek de_int) (fun _ _ => by first | rfl | with_unfolding_all rfl))) (de_peek (de_op opd_sub (de_peek (de_var gd (va (i := 1) (x := "one") rfl (by decide +kernel)))) (de_peek (de_var gd (va (i := 2) (x := "other") rfl (by decide +kernel)))))))) dak_nil))) (de_peek (de_op opd_sub (de_peek (de_ix (de_peek (de_ix (de_peek (de_var gd (va (i := 0) (x := "vat") rfl (by decide +kernel)))) (de_peek de_int) (fun _ _ => by first | rfl | with_unfolding_all rfl))) (de_peek de_int) (fun _ _ => by first | rfl | with_unfolding_all rfl))) (de_peek (de_ix (de_peek (de_ix (de_peek (de_var gd (va (i := 0) (x := "vat") rfl (by decide +kernel)))) (de_peek de_int) (fun _ _ => by first | rfl | with_unfolding_all rfl))) (de_peek de_int) (fun _ _ => by first | rfl | with_unfolding_all rfl))))) (nomark _))))
theorem o__law_is_told {f : Addr} {fd : FuncData} (Fn : FnP K "_law_is_told" s__law_is_told f fd) (hm : mg "_law_is_told" = some (.ref f)) (b_all : mg "all" = none) (b_any : mg "any" = none) (b_range : mg "range" = none) (c__law_parts : OwnFn P w K mg base 1 "_law_parts" m__law_parts) :
    OwnFn P w K mg base 2 "_law_is_told" m__law_is_told := own_mk (N := ["vat", "bounds", "row", "one", "at"]) (ps := ["vat", "bounds", "row"]) Fn hm
  ⟨rfl, rfl, rfl, (by decide +kernel), rfl, (by decide +kernel), (by decide +kernel)⟩ (fun _ _ _ _ _ _ us hl => match us, hl with | [_, _, _], _ => rfl) (by decide +kernel)
  fun X gd e1 e2 e3 e4 e5 hfn hr => by
  subst e1 e2 e3 e4 e5
  exact (dss_one (ds_ret (de_bi gd (cd_all gd.calm) (by decide +kernel) b_all boot_all (dak_cons (de_peek (de_new (dn_compG (own := [("at", 4)]) gd (di_range2 gd (by decide +kernel) b_range (da_cons (de_ix (de_peek (de_var gd (va (i := 1) (x := "bounds") rfl (by decide +kernel)))) (de_peek de_int) (fun _ _ => by first | rfl | with_unfolding_all rfl)) (da_cons (de_op opd_add (de_peek (de_ix (de_peek (de_var gd (va (i := 1) (x := "bounds") rfl (by decide +kernel)))) (de_peek de_int) (fun _ _ => by first | rfl | with_unfolding_all rfl))) (de_peek de_int)) da_nil))) (blk_of rfl (by decide +kernel) (by decide +kernel) (by decide +kernel) (by decide +kernel)) (by decide +kernel) (fun s H C cl fp gd => (dg_nm gd (la (i := 4) (x := "at") rfl (by decide +kernel) (.inl (by rfl))))) (fun s H C cl fp gd => dts_nil) (fun s H C cl fp gd => (de_bi gd (cd_any gd.calm) (by decide +kernel) b_any boot_any (dak_cons (de_peek (de_new (dn_compG (own := [("one", 3)]) gd (di_seq (de_var gd (va (i := 2) (x := "row") rfl (by decide +kernel)))) (blk_of rfl (by decide +kernel) (by decide +kernel) (by decide +kernel) (by decide +kernel)) (by decide +kernel) (fun s H C cl fp gd => (dg_nm gd (la (i := 3) (x := "one") rfl (by decide +kernel) (.inr (by decide +kernel))))) (fun s H C cl fp gd => dts_nil) (fun s H C cl fp gd => (de_call gd c__law_parts hr (by decide +kernel) (da_cons (de_var gd (va (i := 0) (x := "vat") rfl (by decide +kernel))) (da_cons (de_var gd (va (i := 3) (x := "one") rfl (by decide +kernel))) (da_cons (de_var gd (va (i := 4) (x := "at") rfl (by decide +kernel))) da_nil))) (by decide +kernel)))))) dak_nil)))))) dak_nil))))
theorem o__law_shuffled {f : Addr} {fd : FuncData} (Fn : FnP K "_law_shuffled" s__law_shuffled f fd) (hm : mg "_law_shuffled" = some (.ref f)) (b_len : mg "len" = none) (b_list : mg "list" = none) (b_range : mg "range" = none) (b_tuple : mg "tuple" = none) (c__law_take : OwnFn P w K mg base 1 "_law_take" m__law_take) :
    OwnFn P w K mg base 2 "_law_shuffled" m__law_shuffled := own_mk (N := ["pot", "row", "left", "found", "lap"]) (ps := ["pot", "row"]) Fn hm
  ⟨rfl, rfl, rfl, (by decide +kernel), rfl, (by decide +kernel), (by decide +kernel)⟩ (fun _ _ _ _ _ _ us hl => match us, hl with | [_, _], _ => rfl) (by decide +kernel)
  fun X gd e1 e2 e3 e4 e5 hfn hr => by
  subst e1 e2 e3 e4 e5
  exact (dss_cons (ds_par gd (la (i := 2) (x := "left") rfl (by decide +kernel) (.inl (hfn _))) (la (i := 3) (x := "found") rfl (by decide +kernel) (.inl (hfn _))) (by decide +kernel) (by decide +kernel) (by decide +kernel) (dv_new (dn_ty gd cn_list (by decide +kernel) b_list boot_list (dak_cons (de_peek (de_var gd (va (i := 1) (x := "row") rfl (by decide +kernel)))) dak_nil))) (dv_new (dn_lst da_nil)) rfl rfl (sw_pair gd rfl (by decide +kernel) (by decide +kernel) rfl (by decide +kernel) rfl rfl rfl))
  (dss_cons (ds_for gd (di_range1 gd (by decide +kernel) b_range (da_cons (de_bi gd cd_len (by decide +kernel) b_len boot_len (dak_cons (de_peek (de_var gd (va (i := 1) (x := "row") rfl (by decide +kernel)))) dak_nil)) da_nil)) (dg_nm gd (la (i := 4) (x := "lap") rfl (by decide +kernel) (.inl (hfn _)))) (dss_one (ds_app gd (va (i := 3) (x := "found") rfl (by decide +kernel)) (dx_popAt gd (va (i := 2) (x := "left") rfl (by decide +kernel)) (de_call gd c__law_take hr (by decide +kernel) (da_cons (de_var gd (va (i := 0) (x := "pot") rfl (by decide +kernel))) (da_cons (de_bi gd cd_len (by decide +kernel) b_len boot_len (dak_cons (dp_var gd (va (i := 2) (x := "left") rfl (by decide +kernel))) dak_nil)) da_nil)) (by decide +kernel))))))
  (dss_one (ds_ret (de_ty gd cd_tuple (by decide +kernel) b_tuple boot_tuple (dak_cons (dp_var gd (va (i := 3) (x := "found") rfl (by decide +kernel))) dak_nil))))))
theorem o__law_is_row_right {f : Addr} {fd : FuncData} (Fn : FnP K "_law_is_row_right" s__law_is_row_right f fd) (hm : mg "_law_is_row_right" = some (.ref f)) (b_max : mg "max" = none) (b_min : mg "min" = none) (b_range : mg "range" = none) (b_repr : mg "repr" = none) (b_tuple : mg "tuple" = none) (c__law_take : OwnFn P w K mg base 7 "_law_take" m__law_take) (c__law_is_told : OwnFn P w K mg base 7 "_law_is_told" m__law_is_told) (c__law_shuffled : OwnFn P w K mg base 7 "_law_shuffled" m__law_shuffled) (c_is_told : OwnFn P w K mg base 7 "is_told" m_is_told) (c_shows_row : OwnFn P w K mg base 7 "shows_row" m_shows_row) (c_least_row : OwnFn P w K mg base 7 "least_row" m_least_row) (c__law_parts : OwnFn P w K mg base 7 "_law_parts" m__law_parts) (c_telling : OwnFn P w K mg base 7 "telling" m_telling) :
    OwnFn P w K mg base 8 "_law_is_row_right" m__law_is_row_right := own_mk (N := ["pot", "vat", "bounds", "row", "level", "ends", "due", "some", "two", "other", "lap", "both", "word", "at", "one"]) (ps := ["pot", "vat", "bounds", "row"]) Fn hm
  ⟨rfl, rfl, rfl, (by decide +kernel), rfl, (by decide +kernel), (by decide +kernel)⟩ (fun _ _ _ _ _ _ us hl => match us, hl with | [_, _, _, _], _ => rfl) (by decide +kernel)
  fun X gd e1 e2 e3 e4 e5 hfn hr => by
  subst e1 e2 e3 e4 e5
  exact (dss_cons (ds_set gd (la (i := 4) (x := "level") rfl (by decide +kernel) (.inl (hfn _))) (de_op opd_sub (de_peek (de_call gd c__law_take hr (by decide +kernel) (da_cons (de_var gd (va (i := 0) (x := "pot") rfl (by decide +kernel))) (da_cons de_int da_nil)) (by decide +kernel))) (de_peek de_int)))
  (dss_cons (ds_set gd (la (i := 5) (x := "ends") rfl (by decide +kernel) (.inl (hfn _))) (de_tup (da_cons (de_bi gd (cd_min gd.calm gd.hu) (by decide +kernel) b_min boot_min (dak_cons (de_peek (de_var gd (va (i := 3) (x := "row") rfl (by decide +kernel)))) dak_nil)) (da_cons (de_bi gd (cd_max gd.calm gd.hu) (by decide +kernel) b_max boot_max (dak_cons (de_peek (de_var gd (va (i := 3) (x := "row") rfl (by decide +kernel)))) dak_nil)) da_nil))))
  (dss_cons (ds_set gd (la (i := 6) (x := "due") rfl (by decide +kernel) (.inl (hfn _))) (de_call gd c__law_is_told hr (by decide +kernel) (da_cons (de_var gd (va (i := 1) (x := "vat") rfl (by decide +kernel))) (da_cons (de_var gd (va (i := 2) (x := "bounds") rfl (by decide +kernel))) (da_cons (de_var gd (va (i := 3) (x := "row") rfl (by decide +kernel))) da_nil))) (by decide +kernel)))
  (dss_cons (ds_for gd (di_seq (de_tup (da_cons (de_var gd (va (i := 3) (x := "row") rfl (by decide +kernel))) (da_cons (de_var gd (va (i := 5) (x := "ends") rfl (by decide +kernel))) (da_cons (de_rev (de_peek (de_var gd (va (i := 5) (x := "ends") rfl (by decide +kernel))))) (da_cons (de_call gd c__law_shuffled hr (by decide +kernel) (da_cons (de_var gd (va (i := 0) (x := "pot") rfl (by decide +kernel))) (da_cons (de_var gd (va (i := 3) (x := "row") rfl (by decide +kernel))) da_nil)) (by decide +kernel)) (da_cons (de_slice (de_peek (de_op opd_mul (de_peek (de_var gd (va (i := 3) (x := "row") rfl (by decide +kernel)))) (de_peek de_int))) do_none (do_some de_int)) (da_cons (de_op opd_add (de_peek (de_slice (de_peek (de_var gd (va (i := 3) (x := "row") rfl (by decide +kernel)))) do_none (do_some de_int))) (de_peek (de_var gd (va (i := 5) (x := "ends") rfl (by decide +kernel))))) da_nil)))))))) (dg_nm gd (la (i := 7) (x := "some") rfl (by decide +kernel) (.inl (hfn _)))) (dss_one (ds_if (dt_cmp (opd_ne gd.hu) (de_peek (de_bi gd (cd_repr gd.hu gd.gu) (by decide +kernel) b_repr boot_repr (dak_cons (de_peek (de_call gd c_is_told hr (by decide +kernel) (da_cons (de_var gd (va (i := 1) (x := "vat") rfl (by decide +kernel))) (da_cons (de_var gd (va (i := 2) (x := "bounds") rfl (by decide +kernel))) (da_cons (de_var gd (va (i := 4) (x := "level") rfl (by decide +kernel))) (da_cons (de_var gd (va (i := 7) (x := "some") rfl (by decide +kernel))) da_nil)))) (by decide +kernel))) dak_nil))) (de_peek (de_bi gd (cd_repr gd.hu gd.gu) (by decide +kernel) b_repr boot_repr (dak_cons (de_peek (de_var gd (va (i := 6) (x := "due") rfl (by decide +kernel)))) dak_nil))) (nomark _)) (dss_one (ds_ret de_bl)) dss_nil)))
  (dss_cons (ds_for gd (di_seq (de_tup (da_cons (de_var gd (va (i := 5) (x := "ends") rfl (by decide +kernel))) (da_cons (de_rev (de_peek (de_var gd (va (i := 5) (x := "ends") rfl (by decide +kernel))))) da_nil)))) (dg_nm gd (la (i := 8) (x := "two") rfl (by decide +kernel) (.inl (hfn _)))) (dss_one (ds_if (dt_cmp (opd_ne gd.hu) (de_peek (de_bi gd (cd_repr gd.hu gd.gu) (by decide +kernel) b_repr boot_repr (dak_cons (de_peek (de_call gd c_shows_row hr (by decide +kernel) (da_cons (de_var gd (va (i := 1) (x := "vat") rfl (by decide +kernel))) (da_cons (de_var gd (va (i := 2) (x := "bounds") rfl (by decide +kernel))) (da_cons (de_tup (da_cons de_str (da_cons (de_var gd (va (i := 8) (x := "two") rfl (by decide +kernel))) da_nil))) da_nil))) (by decide +kernel))) dak_nil))) (de_peek (de_bi gd (cd_repr gd.hu gd.gu) (by decide +kernel) b_repr boot_repr (dak_cons (de_peek (de_var gd (va (i := 6) (x := "due") rfl (by decide +kernel)))) dak_nil))) (nomark _)) (dss_one (ds_ret de_bl)) dss_nil)))
  (dss_cons (ds_set gd (la (i := 9) (x := "other") rfl (by decide +kernel) (.inl (hfn _))) (de_ty gd cd_tuple (by decide +kernel) b_tuple boot_tuple (dak_cons (de_peek (de_new (dn_compG (own := [("lap", 10)]) gd (di_range1 gd (by decide +kernel) b_range (da_cons (de_op opd_add (de_peek de_int) (de_peek (de_call gd c__law_take hr (by decide +kernel) (da_cons (de_var gd (va (i := 0) (x := "pot") rfl (by decide +kernel))) (da_cons de_int da_nil)) (by decide +kernel)))) da_nil)) (blk_of rfl (by decide +kernel) (by decide +kernel) (by decide +kernel) (by decide +kernel)) (by decide +kernel) (fun s H C cl fp gd => (dg_nm gd (la (i := 10) (x := "lap") rfl (by decide +kernel) (.inr (by decide +kernel))))) (fun s H C cl fp gd => dts_nil) (fun s H C cl fp gd => (de_op opd_add (de_peek (de_ix (de_peek (de_var gd (va (i := 2) (x := "bounds") rfl (by decide +kernel)))) (de_peek de_int) (fun _ _ => by first | rfl | with_unfolding_all rfl))) (de_peek (de_call gd c__law_take hr (by decide +kernel) (da_cons (de_var gd (va (i := 0) (x := "pot") rfl (by decide +kernel))) (da_cons (de_op opd_add (de_peek (de_op opd_sub (de_peek (de_ix (de_peek (de_var gd (va (i := 2) (x := "bounds") rfl (by decide +kernel)))) (de_peek de_int) (fun _ _ => by first | rfl | with_unfolding_all rfl))) (de_peek (de_ix (de_peek (de_var gd (va (i := 2) (x := "bounds") rfl (by decide +kernel)))) (de_peek de_int) (fun _ _ => by first | rfl | with_unfolding_all rfl))))) (de_peek de_int)) da_nil)) (by decide +kernel)))))))) dak_nil)))
  (dss_cons (ds_set gd (la (i := 11) (x := "both") rfl (by decide +kernel) (.inl (hfn _))) (de_op opd_add (de_peek (de_slice (de_peek (de_var gd (va (i := 3) (x := "row") rfl (by decide +kernel)))) do_none (do_some de_int))) (de_peek (de_var gd (va (i := 9) (x := "other") rfl (by decide +kernel))))))
  (dss_cons (ds_if (dt_w (dw_and (dt_val (de_var gd (va (i := 6) (x := "due") rfl (by decide +kernel)))) (dw_and1 (dt_cmp opd_isnot (de_peek (de_call gd c_is_told hr (by decide +kernel) (da_cons (de_var gd (va (i := 1) (x := "vat") rfl (by decide +kernel))) (da_cons (de_var gd (va (i := 2) (x := "bounds") rfl (by decide +kernel))) (da_cons (de_var gd (va (i := 4) (x := "level") rfl (by decide +kernel))) (da_cons (de_var gd (va (i := 11) (x := "both") rfl (by decide +kernel))) da_nil)))) (by decide +kernel))) (de_peek de_bl) (nomark _))))) (dss_one (ds_ret de_bl)) dss_nil)
  (dss_cons (ds_if (dt_cmp (opd_ne gd.hu) (de_peek (de_bi gd (cd_repr gd.hu gd.gu) (by decide +kernel) b_repr boot_repr (dak_cons (de_peek (de_call gd c_is_told hr (by decide +kernel) (da_cons (de_var gd (va (i := 1) (x := "vat") rfl (by decide +kernel))) (da_cons (de_var gd (va (i := 2) (x := "bounds") rfl (by decide +kernel))) (da_cons (de_var gd (va (i := 4) (x := "level") rfl (by decide +kernel))) (da_cons (de_var gd (va (i := 11) (x := "both") rfl (by decide +kernel))) da_nil)))) (by decide +kernel))) dak_nil))) (de_peek (de_bi gd (cd_repr gd.hu gd.gu) (by decide +kernel) b_repr boot_repr (dak_cons (de_peek (de_call gd c__law_is_told hr (by decide +kernel) (da_cons (de_var gd (va (i := 1) (x := "vat") rfl (by decide +kernel))) (da_cons (de_var gd (va (i := 2) (x := "bounds") rfl (by decide +kernel))) (da_cons (de_tup (da_cons (de_bi gd (cd_min gd.calm gd.hu) (by decide +kernel) b_min boot_min (dak_cons (de_peek (de_var gd (va (i := 11) (x := "both") rfl (by decide +kernel)))) dak_nil)) (da_cons (de_bi gd (cd_max gd.calm gd.hu) (by decide +kernel) b_max boot_max (dak_cons (de_peek (de_var gd (va (i := 11) (x := "both") rfl (by decide +kernel)))) dak_nil)) da_nil))) da_nil))) (by decide +kernel))) dak_nil))) (nomark _)) (dss_one (ds_ret de_bl)) dss_nil)
  (dss_cons (ds_set gd (la (i := 12) (x := "word") rfl (by decide +kernel) (.inl (hfn _))) (de_ix (de_peek (de_call gd c_least_row hr (by decide +kernel) (da_cons (de_var gd (va (i := 1) (x := "vat") rfl (by decide +kernel))) (da_cons (de_var gd (va (i := 2) (x := "bounds") rfl (by decide +kernel))) da_nil)) (by decide +kernel))) (de_peek de_int) (fun _ _ => by first | rfl | with_unfolding_all rfl)))
  (dss_cons (ds_if (dt_cmp (opd_ne gd.hu) (de_peek (de_cmp (opd_eq gd.hu) (de_peek (de_var gd (va (i := 12) (x := "word") rfl (by decide +kernel)))) (de_peek de_str) (nomark _))) (de_peek (de_call gd c__law_is_told hr (by decide +kernel) (da_cons (de_var gd (va (i := 1) (x := "vat") rfl (by decide +kernel))) (da_cons (de_var gd (va (i := 2) (x := "bounds") rfl (by decide +kernel))) (da_cons (de_var gd (va (i := 2) (x := "bounds") rfl (by decide +kernel))) da_nil))) (by decide +kernel))) (nomark _)) (dss_one (ds_ret de_bl)) dss_nil)
  (dss_cons (ds_for gd (di_seq (de_var gd (va (i := 5) (x := "ends") rfl (by decide +kernel)))) (dg_nm gd (la (i := 13) (x := "at") rfl (by decide +kernel) (.inl (hfn _)))) (dss_cons (ds_setcompV (i := 7) (own := [("one", 14)]) gd rfl rfl (by decide +kernel) (by decide +kernel) (by decide +kernel) (di_range2 gd (by decide +kernel) b_range (da_cons (de_ix (de_peek (de_var gd (va (i := 2) (x := "bounds") rfl (by decide +kernel)))) (de_peek de_int) (fun _ _ => by first | rfl | with_unfolding_all rfl)) (da_cons (de_op opd_add (de_peek (de_ix (de_peek (de_var gd (va (i := 2) (x := "bounds") rfl (by decide +kernel)))) (de_peek de_int) (fun _ _ => by first | rfl | with_unfolding_all rfl))) (de_peek de_int)) da_nil))) (blk_of rfl (by decide +kernel) (by decide +kernel) (by decide +kernel) (by decide +kernel)) (by decide +kernel) (fun s H C cl fp gd => (dg_nm gd (la (i := 14) (x := "one") rfl (by decide +kernel) (.inr (by decide +kernel))))) (fun s H C cl fp gd => (dts_one (dt_val (de_call gd c__law_parts hr (by decide +kernel) (da_cons (de_var gd (va (i := 1) (x := "vat") rfl (by decide +kernel))) (da_cons (de_var gd (va (i := 14) (x := "one") rfl (by decide +kernel))) (da_cons (de_var gd (va (i := 13) (x := "at") rfl (by decide +kernel))) da_nil))) (by decide +kernel))))) (fun s H C cl fp gd => (de_var gd (va (i := 14) (x := "one") rfl (by decide +kernel)))))
  (dss_one (ds_if (dt_cmp (opd_ne gd.hu) (de_peek (de_bi gd (cd_repr gd.hu gd.gu) (by decide +kernel) b_repr boot_repr (dak_cons (de_peek (de_call gd c_telling hr (by decide +kernel) (da_cons (de_var gd (va (i := 1) (x := "vat") rfl (by decide +kernel))) (da_cons (de_var gd (va (i := 2) (x := "bounds") rfl (by decide +kernel))) (da_cons (de_var gd (va (i := 13) (x := "at") rfl (by decide +kernel))) da_nil))) (by decide +kernel))) dak_nil))) (de_peek (de_bi gd (cd_repr gd.hu gd.gu) (by decide +kernel) b_repr boot_repr (dak_cons (de_peek (de_ty gd cd_tuple (by decide +kernel) b_tuple boot_tuple (dak_cons (de_peek (de_var gd (va (i := 7) (x := "some") rfl (by decide +kernel)))) dak_nil))) dak_nil))) (nomark _)) (dss_one (ds_ret de_bl)) dss_nil))))
  (dss_one (ds_ret de_bl))))))))))))))
theorem o__law_levels {f : Addr} {fd : FuncData} (Fn : FnP K "_law_levels" s__law_levels f fd) (hm : mg "_law_levels" = some (.ref f)) (b_tuple : mg "tuple" = none) (b_zip : mg "zip" = none) :
    OwnFn P w K mg base 1 "_law_levels" m__law_levels := own_mk (N := ["vat", "fault", "row", "weathers", "level", "found", "at", "weather", "real"]) (ps := ["vat", "fault", "row", "weathers", "level"]) Fn hm
  ⟨rfl, rfl, rfl, (by decide +kernel), rfl, (by decide +kernel), (by decide +kernel)⟩ (fun _ _ _ _ _ _ us hl => match us, hl with | [_, _, _, _, _], _ => rfl) (by decide +kernel)
  fun X gd e1 e2 e3 e4 e5 hfn hr => by
  subst e1 e2 e3 e4 e5
  exact (dss_cons (ds_setN gd (la (i := 5) (x := "found") rfl (by decide +kernel) (.inl (hfn _))) (dn_lst (da_cons (de_var gd (va (i := 4) (x := "level") rfl (by decide +kernel))) da_nil)))
  (dss_cons (ds_for gd (di_zip2 gd (by decide +kernel) b_zip (da_cons (de_var gd (va (i := 2) (x := "row") rfl (by decide +kernel))) (da_cons (de_var gd (va (i := 3) (x := "weathers") rfl (by decide +kernel))) da_nil))) (dg_tp gd (dgs_cons (dg_nm gd (la (i := 6) (x := "at") rfl (by decide +kernel) (.inl (hfn _)))) (dgs_cons (dg_nm gd (la (i := 7) (x := "weather") rfl (by decide +kernel) (.inl (hfn _)))) dgs_nil))) (dss_cons (ds_set gd (la (i := 8) (x := "real") rfl (by decide +kernel) (.inl (hfn _))) (de_if (dt_cmp (opd_eq gd.hu) (de_peek (de_var gd (va (i := 1) (x := "fault") rfl (by decide +kernel)))) (de_peek (de_tup (da_cons de_str da_nil))) (nomark _)) (de_var gd (va (i := 6) (x := "at") rfl (by decide +kernel))) (de_ix (de_peek (de_var gd (va (i := 1) (x := "fault") rfl (by decide +kernel)))) (de_peek de_int) (fun _ _ => by first | rfl | with_unfolding_all rfl))))
  (dss_one (ds_app gd (va (i := 5) (x := "found") rfl (by decide +kernel)) (dx_of (de_op opd_add (de_peek (de_op opd_add (de_peek (de_ix (dp_var gd (va (i := 5) (x := "found") rfl (by decide +kernel))) (de_peek (de_neg de_int)) (fun _ _ => by first | rfl | with_unfolding_all rfl))) (de_peek (de_op opd_mul (de_peek (de_ix (de_peek (de_var gd (va (i := 0) (x := "vat") rfl (by decide +kernel)))) (de_peek de_int) (fun _ _ => by first | rfl | with_unfolding_all rfl))) (de_peek (de_var gd (va (i := 8) (x := "real") rfl (by decide +kernel)))))))) (de_peek (de_var gd (va (i := 7) (x := "weather") rfl (by decide +kernel))))))))))
  (dss_one (ds_ret (de_ty gd cd_tuple (by decide +kernel) b_tuple boot_tuple (dak_cons (dp_var gd (va (i := 5) (x := "found") rfl (by decide +kernel))) dak_nil))))))
theorem o__law_lets {f : Addr} {fd : FuncData} (Fn : FnP K "_law_lets" s__law_lets f fd) (hm : mg "_law_lets" = some (.ref f)) (b_zip : mg "zip" = none) :
    OwnFn P w K mg base 1 "_law_lets" m__law_lets := own_mk (N := ["vat", "fault", "row", "levels", "at", "one", "new", "real"]) (ps := ["vat", "fault", "row", "levels"]) Fn hm
  ⟨rfl, rfl, rfl, (by decide +kernel), rfl, (by decide +kernel), (by decide +kernel)⟩ (fun _ _ _ _ _ _ us hl => match us, hl with | [_, _, _, _], _ => rfl) (by decide +kernel)
  fun X gd e1 e2 e3 e4 e5 hfn hr => by
  subst e1 e2 e3 e4 e5
  exact (dss_cons (ds_for gd (di_zip3 gd (by decide +kernel) b_zip (da_cons (de_var gd (va (i := 2) (x := "row") rfl (by decide +kernel))) (da_cons (de_var gd (va (i := 3) (x := "levels") rfl (by decide +kernel))) (da_cons (de_slice (de_peek (de_var gd (va (i := 3) (x := "levels") rfl (by decide +kernel)))) (do_some de_int) do_none) da_nil)))) (dg_tp gd (dgs_cons (dg_nm gd (la (i := 4) (x := "at") rfl (by decide +kernel) (.inl (hfn _)))) (dgs_cons (dg_nm gd (la (i := 5) (x := "one") rfl (by decide +kernel) (.inl (hfn _)))) (dgs_cons (dg_nm gd (la (i := 6) (x := "new") rfl (by decide +kernel) (.inl (hfn _)))) dgs_nil)))) (dss_cons (ds_set gd (la (i := 7) (x := "real") rfl (by decide +kernel) (.inl (hfn _))) (de_if (dt_cmp (opd_eq gd.hu) (de_peek (de_var gd (va (i := 1) (x := "fault") rfl (by decide +kernel)))) (de_peek (de_tup (da_cons de_str da_nil))) (nomark _)) (de_var gd (va (i := 4) (x := "at") rfl (by decide +kernel))) (de_ix (de_peek (de_var gd (va (i := 1) (x := "fault") rfl (by decide +kernel)))) (de_peek de_int) (fun _ _ => by first | rfl | with_unfolding_all rfl))))
  (dss_one (ds_if (dt_not (dt_chain opd_le opd_le (de_peek (de_ix (de_peek (de_ix (de_peek (de_var gd (va (i := 0) (x := "vat") rfl (by decide +kernel)))) (de_peek de_int) (fun _ _ => by first | rfl | with_unfolding_all rfl))) (de_peek de_int) (fun _ _ => by first | rfl | with_unfolding_all rfl))) (de_peek (de_op opd_sub (de_peek (de_op opd_sub (de_peek (de_var gd (va (i := 6) (x := "new") rfl (by decide +kernel)))) (de_peek (de_var gd (va (i := 5) (x := "one") rfl (by decide +kernel)))))) (de_peek (de_op opd_mul (de_peek (de_ix (de_peek (de_var gd (va (i := 0) (x := "vat") rfl (by decide +kernel)))) (de_peek de_int) (fun _ _ => by first | rfl | with_unfolding_all rfl))) (de_peek (de_var gd (va (i := 7) (x := "real") rfl (by decide +kernel)))))))) (de_peek (de_ix (de_peek (de_ix (de_peek (de_var gd (va (i := 0) (x := "vat") rfl (by decide +kernel)))) (de_peek de_int) (fun _ _ => by first | rfl | with_unfolding_all rfl))) (de_peek de_int) (fun _ _ => by first | rfl | with_unfolding_all rfl))))) (dss_one (ds_ret de_bl)) dss_nil))))
  (dss_one (ds_ret de_bl)))
theorem o__law_between {f : Addr} {fd : FuncData} (Fn : FnP K "_law_between" s__law_between f fd) (hm : mg "_law_between" = some (.ref f)) (b_max : mg "max" = none) :
    OwnFn P w K mg base 1 "_law_between" m__law_between := own_mk (N := ["vat", "one", "at", "far"]) (ps := ["vat", "one", "at"]) Fn hm
  ⟨rfl, rfl, rfl, (by decide +kernel), rfl, (by decide +kernel), (by decide +kernel)⟩ (fun _ _ _ _ _ _ us hl => match us, hl with | [_, _, _], _ => rfl) (by decide +kernel)
  fun X gd e1 e2 e3 e4 e5 hfn hr => by
  subst e1 e2 e3 e4 e5
  exact (dss_cons (ds_set gd (la (i := 3) (x := "far") rfl (by decide +kernel) (.inl (hfn _))) (de_op opd_mul (de_peek (de_ix (de_peek (de_var gd (va (i := 0) (x := "vat") rfl (by decide +kernel)))) (de_peek de_int) (fun _ _ => by first | rfl | with_unfolding_all rfl))) (de_peek (de_op opd_sub (de_peek (de_var gd (va (i := 2) (x := "at") rfl (by decide +kernel)))) (de_peek (de_var gd (va (i := 1) (x := "one") rfl (by decide +kernel))))))))
  (dss_one (ds_ret (de_bi gd (cd_max gd.calm gd.hu) (by decide +kernel) b_max boot_max (dak_cons (de_peek (de_ix (de_peek (de_ix (de_peek (de_var gd (va (i := 0) (x := "vat") rfl (by decide +kernel)))) (de_peek de_int) (fun _ _ => by first | rfl | with_unfolding_all rfl))) (de_peek de_int) (fun _ _ => by first | rfl | with_unfolding_all rfl))) (dak_cons (de_peek (de_op opd_add (de_peek (de_ix (de_peek (de_ix (de_peek (de_var gd (va (i := 0) (x := "vat") rfl (by decide +kernel)))) (de_peek de_int) (fun _ _ => by first | rfl | with_unfolding_all rfl))) (de_peek de_int) (fun _ _ => by first | rfl | with_unfolding_all rfl))) (de_peek (de_var gd (va (i := 3) (x := "far") rfl (by decide +kernel)))))) dak_nil))))))
theorem o__law_is_course_right {f : Addr} {fd : FuncData} (Fn : FnP K "_law_is_course_right" s__law_is_course_right f fd) (hm : mg "_law_is_course_right" = some (.ref f)) (b_abs : mg "abs" = none) (b_any : mg "any" = none) (b_max : mg "max" = none) (b_range : mg "range" = none) (b_repr : mg "repr" = none) (b_tuple : mg "tuple" = none) (b_zip : mg "zip" = none) (c__law_of : OwnFn P w K mg base 7 "_law_of" m__law_of) (c__law_levels : OwnFn P w K mg base 7 "_law_levels" m__law_levels) (c__law_lets : OwnFn P w K mg base 7 "_law_lets" m__law_lets) (c_may_be : OwnFn P w K mg base 7 "may_be" m_may_be) (c__law_is_told : OwnFn P w K mg base 7 "_law_is_told" m__law_is_told) (c__law_parts : OwnFn P w K mg base 7 "_law_parts" m__law_parts) (c__law_between : OwnFn P w K mg base 7 "_law_between" m__law_between) :
    OwnFn P w K mg base 8 "_law_is_course_right" m__law_is_course_right := own_mk (N := ["pot", "vat", "bounds", "row", "faults", "at", "real", "weathers", "levels", "one", "due", "fault", "told", "left", "new", "some", "lone", "again"]) (ps := ["pot", "vat", "bounds", "row"]) Fn hm
  ⟨rfl, rfl, rfl, (by decide +kernel), rfl, (by decide +kernel), (by decide +kernel)⟩ (fun _ _ _ _ _ _ us hl => match us, hl with | [_, _, _, _], _ => rfl) (by decide +kernel)
  fun X gd e1 e2 e3 e4 e5 hfn hr => by
  subst e1 e2 e3 e4 e5
  exact (dss_cons (ds_set gd (la (i := 4) (x := "faults") rfl (by decide +kernel) (.inl (hfn _))) (de_op opd_add (de_peek (de_new (dn_lst (da_cons (de_tup (da_cons de_str da_nil)) da_nil)))) (de_peek (de_new (dn_compG (own := [("at", 5)]) gd (di_range2 gd (by decide +kernel) b_range (da_cons (de_ix (de_peek (de_var gd (va (i := 2) (x := "bounds") rfl (by decide +kernel)))) (de_peek de_int) (fun _ _ => by first | rfl | with_unfolding_all rfl)) (da_cons (de_op opd_add (de_peek (de_ix (de_peek (de_var gd (va (i := 2) (x := "bounds") rfl (by decide +kernel)))) (de_peek de_int) (fun _ _ => by first | rfl | with_unfolding_all rfl))) (de_peek de_int)) da_nil))) (blk_of rfl (by decide +kernel) (by decide +kernel) (by decide +kernel) (by decide +kernel)) (by decide +kernel) (fun s H C cl fp gd => (dg_nm gd (la (i := 5) (x := "at") rfl (by decide +kernel) (.inr (by decide +kernel))))) (fun s H C cl fp gd => dts_nil) (fun s H C cl fp gd => (de_tup (da_cons de_str (da_cons (de_var gd (va (i := 5) (x := "at") rfl (by decide +kernel))) da_nil)))))))))
  (dss_cons (ds_asg (de_tup (da_cons (de_call gd c__law_of hr (by decide +kernel) (da_cons (de_var gd (va (i := 0) (x := "pot") rfl (by decide +kernel))) (da_cons (de_new (dn_lst (da_cons (de_tup (da_cons de_str da_nil)) (da_cons (de_call gd c__law_of hr (by decide +kernel) (da_cons (de_var gd (va (i := 0) (x := "pot") rfl (by decide +kernel))) (da_cons (de_var gd (va (i := 4) (x := "faults") rfl (by decide +kernel))) da_nil)) (by decide +kernel)) da_nil)))) da_nil)) (by decide +kernel)) (da_cons (de_slice (de_peek (de_var gd (va (i := 3) (x := "row") rfl (by decide +kernel)))) do_none (do_some de_int)) da_nil))) (dg_tp gd (dgs_cons (dg_nm gd (la (i := 6) (x := "real") rfl (by decide +kernel) (.inl (hfn _)))) (dgs_cons (dg_nm gd (la (i := 3) (x := "row") rfl (by decide +kernel) (.inl (hfn _)))) dgs_nil))) (hw := sw_cell gd (.inr (by decide +kernel))))
  (dss_cons (ds_setcompV (i := 7) (own := [("at", 5)]) gd rfl rfl (by decide +kernel) (by decide +kernel) (by decide +kernel) (di_seq (de_var gd (va (i := 3) (x := "row") rfl (by decide +kernel)))) (blk_of rfl (by decide +kernel) (by decide +kernel) (by decide +kernel) (by decide +kernel)) (by decide +kernel) (fun s H C cl fp gd => (dg_nm gd (la (i := 5) (x := "at") rfl (by decide +kernel) (.inr (by decide +kernel))))) (fun s H C cl fp gd => dts_nil) (fun s H C cl fp gd => (de_call gd c__law_of hr (by decide +kernel) (da_cons (de_var gd (va (i := 0) (x := "pot") rfl (by decide +kernel))) (da_cons (de_new (dn_lst (da_cons (de_ix (de_peek (de_ix (de_peek (de_var gd (va (i := 1) (x := "vat") rfl (by decide +kernel)))) (de_peek de_int) (fun _ _ => by first | rfl | with_unfolding_all rfl))) (de_peek de_int) (fun _ _ => by first | rfl | with_unfolding_all rfl)) (da_cons (de_ix (de_peek (de_ix (de_peek (de_var gd (va (i := 1) (x := "vat") rfl (by decide +kernel)))) (de_peek de_int) (fun _ _ => by first | rfl | with_unfolding_all rfl))) (de_peek de_int) (fun _ _ => by first | rfl | with_unfolding_all rfl)) (da_cons (de_op opd_fdiv (de_peek (de_op opd_add (de_peek (de_ix (de_peek (de_ix (de_peek (de_var gd (va (i := 1) (x := "vat") rfl (by decide +kernel)))) (de_peek de_int) (fun _ _ => by first | rfl | with_unfolding_all rfl))) (de_peek de_int) (fun _ _ => by first | rfl | with_unfolding_all rfl))) (de_peek (de_ix (de_peek (de_ix (de_peek (de_var gd (va (i := 1) (x := "vat") rfl (by decide +kernel)))) (de_peek de_int) (fun _ _ => by first | rfl | with_unfolding_all rfl))) (de_peek de_int) (fun _ _ => by first | rfl | with_unfolding_all rfl))))) (de_peek de_int)) da_nil))))) da_nil)) (by decide +kernel))))
  (dss_cons (ds_set gd (la (i := 8) (x := "levels") rfl (by decide +kernel) (.inl (hfn _))) (de_call gd c__law_levels hr (by decide +kernel) (da_cons (de_var gd (va (i := 1) (x := "vat") rfl (by decide +kernel))) (da_cons (de_var gd (va (i := 6) (x := "real") rfl (by decide +kernel))) (da_cons (de_var gd (va (i := 3) (x := "row") rfl (by decide +kernel))) (da_cons (de_var gd (va (i := 7) (x := "weathers") rfl (by decide +kernel))) (da_cons de_int da_nil))))) (by decide +kernel)))
  (dss_cons (ds_if (dt_cmp opd_gt (de_peek (de_bi gd (cd_max gd.calm gd.hu) (by decide +kernel) b_max boot_max (dak_cons (de_peek (de_new (dn_compG (own := [("one", 9)]) gd (di_seq (de_var gd (va (i := 8) (x := "levels") rfl (by decide +kernel)))) (blk_of rfl (by decide +kernel) (by decide +kernel) (by decide +kernel) (by decide +kernel)) (by decide +kernel) (fun s H C cl fp gd => (dg_nm gd (la (i := 9) (x := "one") rfl (by decide +kernel) (.inr (by decide +kernel))))) (fun s H C cl fp gd => dts_nil) (fun s H C cl fp gd => (de_bi gd cd_abs (by decide +kernel) b_abs boot_abs (dak_cons (de_peek (de_var gd (va (i := 9) (x := "one") rfl (by decide +kernel)))) dak_nil)))))) dak_nil))) (de_peek de_int) (nomark _)) (dss_one (ds_ret de_bl)) dss_nil)
  (dss_cons (ds_setcompV (i := 10) (own := [("fault", 11)]) gd rfl rfl (by decide +kernel) (by decide +kernel) (by decide +kernel) (di_seq (de_var gd (va (i := 4) (x := "faults") rfl (by decide +kernel)))) (blk_of rfl (by decide +kernel) (by decide +kernel) (by decide +kernel) (by decide +kernel)) (by decide +kernel) (fun s H C cl fp gd => (dg_nm gd (la (i := 11) (x := "fault") rfl (by decide +kernel) (.inr (by decide +kernel))))) (fun s H C cl fp gd => (dts_one (dt_val (de_call gd c__law_lets hr (by decide +kernel) (da_cons (de_var gd (va (i := 1) (x := "vat") rfl (by decide +kernel))) (da_cons (de_var gd (va (i := 11) (x := "fault") rfl (by decide +kernel))) (da_cons (de_var gd (va (i := 3) (x := "row") rfl (by decide +kernel))) (da_cons (de_var gd (va (i := 8) (x := "levels") rfl (by decide +kernel))) da_nil)))) (by decide +kernel))))) (fun s H C cl fp gd => (de_var gd (va (i := 11) (x := "fault") rfl (by decide +kernel)))))
  (dss_cons (ds_set gd (la (i := 12) (x := "told") rfl (by decide +kernel) (.inl (hfn _))) (de_call gd c_may_be hr (by decide +kernel) (da_cons (de_var gd (va (i := 1) (x := "vat") rfl (by decide +kernel))) (da_cons (de_var gd (va (i := 2) (x := "bounds") rfl (by decide +kernel))) (da_cons (de_tup (da_cons (de_var gd (va (i := 3) (x := "row") rfl (by decide +kernel))) (da_cons (de_var gd (va (i := 8) (x := "levels") rfl (by decide +kernel))) da_nil))) da_nil))) (by decide +kernel)))
  (dss_cons (ds_if (dt_w (dw_or (dt_cmp (opd_ne gd.hu) (de_peek (de_bi gd (cd_repr gd.hu gd.gu) (by decide +kernel) b_repr boot_repr (dak_cons (de_peek (de_var gd (va (i := 12) (x := "told") rfl (by decide +kernel)))) dak_nil))) (de_peek (de_bi gd (cd_repr gd.hu gd.gu) (by decide +kernel) b_repr boot_repr (dak_cons (de_peek (de_ty gd cd_tuple (by decide +kernel) b_tuple boot_tuple (dak_cons (de_peek (de_var gd (va (i := 10) (x := "due") rfl (by decide +kernel)))) dak_nil))) dak_nil))) (nomark _)) (dw_or1 (dt_cmp (opd_notin gd.hu) (de_peek (de_var gd (va (i := 6) (x := "real") rfl (by decide +kernel)))) (de_peek (de_var gd (va (i := 12) (x := "told") rfl (by decide +kernel)))) (by with_unfolding_all rfl))))) (dss_one (ds_ret de_bl)) dss_nil)
  (dss_cons (ds_if (dt_w (dw_and (dt_val (de_call gd c__law_is_told hr (by decide +kernel) (da_cons (de_var gd (va (i := 1) (x := "vat") rfl (by decide +kernel))) (da_cons (de_var gd (va (i := 2) (x := "bounds") rfl (by decide +kernel))) (da_cons (de_var gd (va (i := 3) (x := "row") rfl (by decide +kernel))) da_nil))) (by decide +kernel))) (dw_and (dt_cmp (opd_in gd.hu) (de_peek (de_tup (da_cons de_str da_nil))) (de_peek (de_var gd (va (i := 12) (x := "told") rfl (by decide +kernel)))) (by with_unfolding_all rfl)) (dw_and1 (dt_cmp (opd_ne gd.hu) (de_peek (de_var gd (va (i := 12) (x := "told") rfl (by decide +kernel)))) (de_peek (de_tup (da_cons (de_tup (da_cons de_str da_nil)) da_nil))) (nomark _)))))) (dss_one (ds_ret de_bl)) dss_nil)
  (dss_cons (ds_set gd (la (i := 13) (x := "left") rfl (by decide +kernel) (.inl (hfn _))) (de_var gd (va (i := 4) (x := "faults") rfl (by decide +kernel))))
  (dss_cons (ds_for gd (di_zip3 gd (by decide +kernel) b_zip (da_cons (de_var gd (va (i := 3) (x := "row") rfl (by decide +kernel))) (da_cons (de_var gd (va (i := 8) (x := "levels") rfl (by decide +kernel))) (da_cons (de_slice (de_peek (de_var gd (va (i := 8) (x := "levels") rfl (by decide +kernel)))) (do_some de_int) do_none) da_nil)))) (dg_tp gd (dgs_cons (dg_nm gd (la (i := 5) (x := "at") rfl (by decide +kernel) (.inl (hfn _)))) (dgs_cons (dg_nm gd (la (i := 9) (x := "one") rfl (by decide +kernel) (.inl (hfn _)))) (dgs_cons (dg_nm gd (la (i := 14) (x := "new") rfl (by decide +kernel) (.inl (hfn _)))) dgs_nil)))) (dss_cons (ds_set gd (la (i := 15) (x := "some") rfl (by decide +kernel) (.inl (hfn _))) (de_call gd c_may_be hr (by decide +kernel) (da_cons (de_var gd (va (i := 1) (x := "vat") rfl (by decide +kernel))) (da_cons (de_var gd (va (i := 2) (x := "bounds") rfl (by decide +kernel))) (da_cons (de_tup (da_cons (de_tup (da_cons (de_var gd (va (i := 5) (x := "at") rfl (by decide +kernel))) da_nil)) (da_cons (de_tup (da_cons (de_var gd (va (i := 9) (x := "one") rfl (by decide +kernel))) (da_cons (de_var gd (va (i := 14) (x := "new") rfl (by decide +kernel))) da_nil))) da_nil))) da_nil))) (by decide +kernel)))
  (dss_one (ds_setcompV (i := 13) (own := [("fault", 11)]) gd rfl rfl (by decide +kernel) (by decide +kernel) (by decide +kernel) (di_seq (de_var gd (va (i := 13) (x := "left") rfl (by decide +kernel)))) (blk_of rfl (by decide +kernel) (by decide +kernel) (by decide +kernel) (by decide +kernel)) (by decide +kernel) (fun s H C cl fp gd => (dg_nm gd (la (i := 11) (x := "fault") rfl (by decide +kernel) (.inr (by decide +kernel))))) (fun s H C cl fp gd => (dts_one (dt_cmp (opd_in gd.hu) (de_peek (de_var gd (va (i := 11) (x := "fault") rfl (by decide +kernel)))) (de_peek (de_var gd (va (i := 15) (x := "some") rfl (by decide +kernel)))) (by with_unfolding_all rfl)))) (fun s H C cl fp gd => (de_var gd (va (i := 11) (x := "fault") rfl (by decide +kernel))))))))
  (dss_cons (ds_if (dt_cmp (opd_ne gd.hu) (de_peek (de_var gd (va (i := 13) (x := "left") rfl (by decide +kernel)))) (de_peek (de_var gd (va (i := 10) (x := "due") rfl (by decide +kernel)))) (nomark _)) (dss_one (ds_ret de_bl)) dss_nil)
  (dss_cons (ds_setcompV (i := 16) (own := [("at", 5)]) gd rfl rfl (by decide +kernel) (by decide +kernel) (by decide +kernel) (di_range2 gd (by decide +kernel) b_range (da_cons (de_ix (de_peek (de_var gd (va (i := 2) (x := "bounds") rfl (by decide +kernel)))) (de_peek de_int) (fun _ _ => by first | rfl | with_unfolding_all rfl)) (da_cons (de_op opd_add (de_peek (de_ix (de_peek (de_var gd (va (i := 2) (x := "bounds") rfl (by decide +kernel)))) (de_peek de_int) (fun _ _ => by first | rfl | with_unfolding_all rfl))) (de_peek de_int)) da_nil))) (blk_of rfl (by decide +kernel) (by decide +kernel) (by decide +kernel) (by decide +kernel)) (by decide +kernel) (fun s H C cl fp gd => (dg_nm gd (la (i := 5) (x := "at") rfl (by decide +kernel) (.inl (by rfl))))) (fun s H C cl fp gd => (dts_one (dt_not (dt_val (de_bi gd (cd_any gd.calm) (by decide +kernel) b_any boot_any (dak_cons (de_peek (de_new (dn_compG (own := [("one", 9)]) gd (di_seq (de_var gd (va (i := 3) (x := "row") rfl (by decide +kernel)))) (blk_of rfl (by decide +kernel) (by decide +kernel) (by decide +kernel) (by decide +kernel)) (by decide +kernel) (fun s H C cl fp gd => (dg_nm gd (la (i := 9) (x := "one") rfl (by decide +kernel) (.inr (by decide +kernel))))) (fun s H C cl fp gd => dts_nil) (fun s H C cl fp gd => (de_call gd c__law_parts hr (by decide +kernel) (da_cons (de_var gd (va (i := 1) (x := "vat") rfl (by decide +kernel))) (da_cons (de_var gd (va (i := 9) (x := "one") rfl (by decide +kernel))) (da_cons (de_var gd (va (i := 5) (x := "at") rfl (by decide +kernel))) da_nil))) (by decide +kernel)))))) dak_nil)))))) (fun s H C cl fp gd => (de_var gd (va (i := 5) (x := "at") rfl (by decide +kernel)))))
  (dss_cons (ds_for gd (di_seq (de_slice (de_peek (de_var gd (va (i := 16) (x := "lone") rfl (by decide +kernel)))) do_none (do_some de_int))) (dg_nm gd (la (i := 5) (x := "at") rfl (by decide +kernel) (.inl (hfn _)))) (dss_cons (ds_setcompV (i := 17) (own := [("one", 9)]) gd rfl rfl (by decide +kernel) (by decide +kernel) (by decide +kernel) (di_seq (de_var gd (va (i := 3) (x := "row") rfl (by decide +kernel)))) (blk_of rfl (by decide +kernel) (by decide +kernel) (by decide +kernel) (by decide +kernel)) (by decide +kernel) (fun s H C cl fp gd => (dg_nm gd (la (i := 9) (x := "one") rfl (by decide +kernel) (.inr (by decide +kernel))))) (fun s H C cl fp gd => dts_nil) (fun s H C cl fp gd => (de_call gd c__law_between hr (by decide +kernel) (da_cons (de_var gd (va (i := 1) (x := "vat") rfl (by decide +kernel))) (da_cons (de_var gd (va (i := 9) (x := "one") rfl (by decide +kernel))) (da_cons (de_var gd (va (i := 5) (x := "at") rfl (by decide +kernel))) da_nil))) (by decide +kernel))))
  (dss_cons (ds_set gd (la (i := 8) (x := "levels") rfl (by decide +kernel) (.inl (hfn _))) (de_call gd c__law_levels hr (by decide +kernel) (da_cons (de_var gd (va (i := 1) (x := "vat") rfl (by decide +kernel))) (da_cons (de_tup (da_cons de_str da_nil)) (da_cons (de_var gd (va (i := 3) (x := "row") rfl (by decide +kernel))) (da_cons (de_var gd (va (i := 17) (x := "again") rfl (by decide +kernel))) (da_cons de_int da_nil))))) (by decide +kernel)))
  (dss_one (ds_if (dt_cmp opd_le (de_peek (de_bi gd (cd_max gd.calm gd.hu) (by decide +kernel) b_max boot_max (dak_cons (de_peek (de_new (dn_compG (own := [("one", 9)]) gd (di_seq (de_var gd (va (i := 8) (x := "levels") rfl (by decide +kernel)))) (blk_of rfl (by decide +kernel) (by decide +kernel) (by decide +kernel) (by decide +kernel)) (by decide +kernel) (fun s H C cl fp gd => (dg_nm gd (la (i := 9) (x := "one") rfl (by decide +kernel) (.inr (by decide +kernel))))) (fun s H C cl fp gd => dts_nil) (fun s H C cl fp gd => (de_bi gd cd_abs (by decide +kernel) b_abs boot_abs (dak_cons (de_peek (de_var gd (va (i := 9) (x := "one") rfl (by decide +kernel)))) dak_nil)))))) dak_nil))) (de_peek de_int) (nomark _)) (dss_cons (ds_set gd (la (i := 15) (x := "some") rfl (by decide +kernel) (.inl (hfn _))) (de_call gd c_may_be hr (by decide +kernel) (da_cons (de_var gd (va (i := 1) (x := "vat") rfl (by decide +kernel))) (da_cons (de_var gd (va (i := 2) (x := "bounds") rfl (by decide +kernel))) (da_cons (de_tup (da_cons (de_var gd (va (i := 3) (x := "row") rfl (by decide +kernel))) (da_cons (de_var gd (va (i := 8) (x := "levels") rfl (by decide +kernel))) da_nil))) da_nil))) (by decide +kernel)))
  (dss_one (ds_if (dt_w (dw_or (dt_cmp (opd_notin gd.hu) (de_peek (de_tup (da_cons de_str da_nil))) (de_peek (de_var gd (va (i := 15) (x := "some") rfl (by decide +kernel)))) (by with_unfolding_all rfl)) (dw_or1 (dt_cmp (opd_notin gd.hu) (de_peek (de_tup (da_cons de_str (da_cons (de_var gd (va (i := 5) (x := "at") rfl (by decide +kernel))) da_nil)))) (de_peek (de_var gd (va (i := 15) (x := "some") rfl (by decide +kernel)))) (by with_unfolding_all rfl))))) (dss_one (ds_ret de_bl)) dss_nil))) dss_nil)))))
  (dss_one (ds_ret de_bl))))))))))))))))
theorem o__law_is_right {f : Addr} {fd : FuncData} (Fn : FnP K "_law_is_right" s__law_is_right f fd) (hm : mg "_law_is_right" = some (.ref f)) (b_abs : mg "abs" = none) (b_range : mg "range" = none) (b_repr : mg "repr" = none) (b_tuple : mg "tuple" = none) (c__law_drawn : OwnFn P w K mg base 8 "_law_drawn" m__law_drawn) (c__law_take : OwnFn P w K mg base 8 "_law_take" m__law_take) (c__law_is_row_right : OwnFn P w K mg base 8 "_law_is_row_right" m__law_is_row_right) (c__law_is_course_right : OwnFn P w K mg base 8 "_law_is_course_right" m__law_is_course_right) (c__law_is_told : OwnFn P w K mg base 8 "_law_is_told" m__law_is_told) (c_is_told : OwnFn P w K mg base 8 "is_told" m_is_told) (c_least_row : OwnFn P w K mg base 8 "least_row" m_least_row) :
    OwnFn P w K mg base 9 "_law_is_right" m__law_is_right := own_mk (N := ["pot", "vat", "bounds", "row", "lap", "times", "wide", "due"]) (ps := ["pot"]) Fn hm
  ⟨rfl, rfl, rfl, (by decide +kernel), rfl, (by decide +kernel), (by decide +kernel)⟩ (fun _ _ _ _ _ _ us hl => match us, hl with | [_], _ => rfl) (by decide +kernel)
  fun X gd e1 e2 e3 e4 e5 hfn hr => by
  subst e1 e2 e3 e4 e5
  exact (dss_cons (ds_asg (de_call gd c__law_drawn hr (by decide +kernel) (da_cons (de_var gd (va (i := 0) (x := "pot") rfl (by decide +kernel))) da_nil) (by decide +kernel)) (dg_tp gd (dgs_cons (dg_nm gd (la (i := 1) (x := "vat") rfl (by decide +kernel) (.inl (hfn _)))) (dgs_cons (dg_nm gd (la (i := 2) (x := "bounds") rfl (by decide +kernel) (.inl (hfn _)))) dgs_nil))))
  (dss_cons (ds_set gd (la (i := 3) (x := "row") rfl (by decide +kernel) (.inl (hfn _))) (de_ty gd cd_tuple (by decide +kernel) b_tuple boot_tuple (dak_cons (de_peek (de_new (dn_compG (own := [("lap", 4)]) gd (di_range1 gd (by decide +kernel) b_range (da_cons (de_op opd_add (de_peek de_int) (de_peek (de_call gd c__law_take hr (by decide +kernel) (da_cons (de_var gd (va (i := 0) (x := "pot") rfl (by decide +kernel))) (da_cons de_int da_nil)) (by decide +kernel)))) da_nil)) (blk_of rfl (by decide +kernel) (by decide +kernel) (by decide +kernel) (by decide +kernel)) (by decide +kernel) (fun s H C cl fp gd => (dg_nm gd (la (i := 4) (x := "lap") rfl (by decide +kernel) (.inr (by decide +kernel))))) (fun s H C cl fp gd => dts_nil) (fun s H C cl fp gd => (de_op opd_add (de_peek (de_ix (de_peek (de_var gd (va (i := 2) (x := "bounds") rfl (by decide +kernel)))) (de_peek de_int) (fun _ _ => by first | rfl | with_unfolding_all rfl))) (de_peek (de_call gd c__law_take hr (by decide +kernel) (da_cons (de_var gd (va (i := 0) (x := "pot") rfl (by decide +kernel))) (da_cons (de_op opd_add (de_peek (de_op opd_sub (de_peek (de_ix (de_peek (de_var gd (va (i := 2) (x := "bounds") rfl (by decide +kernel)))) (de_peek de_int) (fun _ _ => by first | rfl | with_unfolding_all rfl))) (de_peek (de_ix (de_peek (de_var gd (va (i := 2) (x := "bounds") rfl (by decide +kernel)))) (de_peek de_int) (fun _ _ => by first | rfl | with_unfolding_all rfl))))) (de_peek de_int)) da_nil)) (by decide +kernel)))))))) dak_nil)))
  (dss_cons (ds_if (dt_w (dw_or (dt_not (dt_val (de_call gd c__law_is_row_right hr (by decide +kernel) (da_cons (de_var gd (va (i := 0) (x := "pot") rfl (by decide +kernel))) (da_cons (de_var gd (va (i := 1) (x := "vat") rfl (by decide +kernel))) (da_cons (de_var gd (va (i := 2) (x := "bounds") rfl (by decide +kernel))) (da_cons (de_var gd (va (i := 3) (x := "row") rfl (by decide +kernel))) da_nil)))) (by decide +kernel)))) (dw_or1 (dt_not (dt_val (de_call gd c__law_is_course_right hr (by decide +kernel) (da_cons (de_var gd (va (i := 0) (x := "pot") rfl (by decide +kernel))) (da_cons (de_var gd (va (i := 1) (x := "vat") rfl (by decide +kernel))) (da_cons (de_var gd (va (i := 2) (x := "bounds") rfl (by decide +kernel))) (da_cons (de_var gd (va (i := 3) (x := "row") rfl (by decide +kernel))) da_nil)))) (by decide +kernel))))))) (dss_one (ds_ret de_bl)) dss_nil)
  (dss_cons (ds_set gd (la (i := 5) (x := "times") rfl (by decide +kernel) (.inl (hfn _))) (de_op opd_add (de_peek de_int) (de_peek (de_call gd c__law_take hr (by decide +kernel) (da_cons (de_var gd (va (i := 0) (x := "pot") rfl (by decide +kernel))) (da_cons de_int da_nil)) (by decide +kernel)))))
  (dss_cons (ds_set gd (la (i := 6) (x := "wide") rfl (by decide +kernel) (.inl (hfn _))) (de_tup (da_cons de_int (da_cons de_int (da_cons (de_op opd_mul (de_peek (de_var gd (va (i := 5) (x := "times") rfl (by decide +kernel)))) (de_peek (de_ix (de_peek (de_var gd (va (i := 1) (x := "vat") rfl (by decide +kernel)))) (de_peek de_int) (fun _ _ => by first | rfl | with_unfolding_all rfl)))) (da_cons (de_ix (de_peek (de_var gd (va (i := 1) (x := "vat") rfl (by decide +kernel)))) (de_peek de_int) (fun _ _ => by first | rfl | with_unfolding_all rfl)) (da_cons (de_tup (da_cons (de_op opd_mul (de_peek (de_var gd (va (i := 5) (x := "times") rfl (by decide +kernel)))) (de_peek (de_ix (de_peek (de_ix (de_peek (de_var gd (va (i := 1) (x := "vat") rfl (by decide +kernel)))) (de_peek de_int) (fun _ _ => by first | rfl | with_unfolding_all rfl))) (de_peek de_int) (fun _ _ => by first | rfl | with_unfolding_all rfl)))) (da_cons (de_op opd_mul (de_peek (de_var gd (va (i := 5) (x := "times") rfl (by decide +kernel)))) (de_peek (de_ix (de_peek (de_ix (de_peek (de_var gd (va (i := 1) (x := "vat") rfl (by decide +kernel)))) (de_peek de_int) (fun _ _ => by first | rfl | with_unfolding_all rfl))) (de_peek de_int) (fun _ _ => by first | rfl | with_unfolding_all rfl)))) da_nil))) da_nil)))))))
  (dss_cons (ds_if (dt_cmp opd_gt (de_peek (de_bi gd cd_abs (by decide +kernel) b_abs boot_abs (dak_cons (de_peek (de_ix (de_peek (de_var gd (va (i := 6) (x := "wide") rfl (by decide +kernel)))) (de_peek de_int) (fun _ _ => by first | rfl | with_unfolding_all rfl))) dak_nil))) (de_peek de_int) (nomark _)) (dss_one (ds_ret de_bl)) dss_nil)
  (dss_cons (ds_set gd (la (i := 7) (x := "due") rfl (by decide +kernel) (.inl (hfn _))) (de_call gd c__law_is_told hr (by decide +kernel) (da_cons (de_var gd (va (i := 1) (x := "vat") rfl (by decide +kernel))) (da_cons (de_var gd (va (i := 2) (x := "bounds") rfl (by decide +kernel))) (da_cons (de_var gd (va (i := 3) (x := "row") rfl (by decide +kernel))) da_nil))) (by decide +kernel)))
  (dss_one (ds_ret (de_and (de_cmp (opd_eq gd.hu) (de_peek (de_bi gd (cd_repr gd.hu gd.gu) (by decide +kernel) b_repr boot_repr (dak_cons (de_peek (de_call gd c_is_told hr (by decide +kernel) (da_cons (de_var gd (va (i := 6) (x := "wide") rfl (by decide +kernel))) (da_cons (de_var gd (va (i := 2) (x := "bounds") rfl (by decide +kernel))) (da_cons de_int (da_cons (de_var gd (va (i := 3) (x := "row") rfl (by decide +kernel))) da_nil)))) (by decide +kernel))) dak_nil))) (de_peek (de_bi gd (cd_repr gd.hu gd.gu) (by decide +kernel) b_repr boot_repr (dak_cons (de_peek (de_var gd (va (i := 7) (x := "due") rfl (by decide +kernel)))) dak_nil))) (nomark _)) (de_one (de_cmp (opd_eq gd.hu) (de_peek (de_bi gd (cd_repr gd.hu gd.gu) (by decide +kernel) b_repr boot_repr (dak_cons (de_peek (de_call gd c_least_row hr (by decide +kernel) (da_cons (de_var gd (va (i := 6) (x := "wide") rfl (by decide +kernel))) (da_cons (de_var gd (va (i := 2) (x := "bounds") rfl (by decide +kernel))) da_nil)) (by decide +kernel))) dak_nil))) (de_peek (de_bi gd (cd_repr gd.hu gd.gu) (by decide +kernel) b_repr boot_repr (dak_cons (de_peek (de_call gd c_least_row hr (by decide +kernel) (da_cons (de_var gd (va (i := 1) (x := "vat") rfl (by decide +kernel))) (da_cons (de_var gd (va (i := 2) (x := "bounds") rfl (by decide +kernel))) da_nil)) (by decide +kernel))) dak_nil))) (nomark _)))))))))))))
theorem o_law {f : Addr} {fd : FuncData} (Fn : FnP K "law" s_law f fd) (b_all : mg "all" = none) (b_range : mg "range" = none) (c__law_places : OwnFn P w K mg base 9 "_law_places" m__law_places) (c__law_pot : OwnFnN P w K mg base 9 "_law_pot" m__law_pot) (c__law_is_right : OwnFn P w K mg base 9 "_law_is_right" m__law_is_right) :
    FnS P w K mg base 10 f fd ["script"] (spLaw K okLaw) := fns_mk (N := ["script", "place", "pot", "lap"]) (ps := ["script"]) (ts := tLaw K fi_law 1 2 3 fp_law fr_law) Fn
  ⟨rfl, rfl, rfl, (by decide +kernel), rfl, (by decide +kernel), (by decide +kernel)⟩
  (fun X gd e1 e2 e3 e4 e5 hfn hr => by
  subst e1 e2 e3 e4 e5
  exact law_walk gd (di_seq (de_call gd c__law_places hr (by decide +kernel) (da_cons (de_var gd (va (i := 0) (x := "script") rfl (by decide +kernel))) (da_cons de_int da_nil)) (by decide +kernel))) (dg_nm gd (la (i := 1) (x := "place") rfl (by decide +kernel) (.inl (hfn _)))) (ds_setN gd (la (i := 2) (x := "pot") rfl (by decide +kernel) (.inl (hfn _))) (dn_call gd c__law_pot hr (by decide +kernel) (da_cons (de_var gd (va (i := 0) (x := "script") rfl (by decide +kernel))) (da_cons (de_var gd (va (i := 1) (x := "place") rfl (by decide +kernel))) da_nil)) (by decide +kernel))) (dss_one (ds_if (dt_not (dt_val (de_bi gd (cd_all gd.calm) (by decide +kernel) b_all boot_all (dak_cons (de_peek (de_new (dn_compG (own := [("lap", 3)]) gd (di_range1 gd (by decide +kernel) b_range (da_cons de_int da_nil)) (blk_of rfl (by decide +kernel) (by decide +kernel) (by decide +kernel) (by decide +kernel)) (by decide +kernel) (fun s H C cl fp gd => (dg_nm gd (la (i := 3) (x := "lap") rfl (by decide +kernel) (.inr (by decide +kernel))))) (fun s H C cl fp gd => dts_nil) (fun s H C cl fp gd => (de_call gd c__law_is_right hr (by decide +kernel) (da_cons (de_var gd (va (i := 2) (x := "pot") rfl (by decide +kernel))) da_nil) (by decide +kernel)))))) dak_nil)))) (dss_one (ds_ret de_bl)) dss_nil)))
  fun vs H Q _ h => law_sp rfl (by decide) (by decide) (by decide) (by decide) h
end
end K68

set_option Elab.async false
set_option linter.all false
set_option maxRecDepth 100000
set_option maxHeartbeats 4000000
namespace K68
open PySem PySem.Spec PyProof.Rows L2 Dx
/-! ### the program's own defs -/
theorem is_tuple_tup (l : List D) (a b : Int) : m_is_tuple [.tup l, .int a, .int b] = ret (.bl (decide (a ≤ l.length ∧ (l.length : Int) ≤ b))) := by
  simp (config := {maxSteps := 3000000}) (disch := omega) [Dx.fnM_ev', Dx.seqM_ev, Dx.seqK_next, Dx.seqK_ret, Dx.seqK_brk, Dx.seqK_cont, Dx.finM_ret, Dx.finM_next, Dx.retM, Dx.setM, Dx.setN, Dx.parM, Dx.oldM, Dx.newM, Dx.Val.slot, Dx.appM, Dx.plnM, Dx.ifM, Dx.exprM, Dx.skipM, Dx.failM, Dx.brkM, Dx.contM, Dx.con, Dx.callM, Dx.consM, Dx.nilM, Dx.op2, Dx.ts2, Dx.tsB, Dx.tNotM, Dx.tAndM, Dx.tOrM, Dx.andM, Dx.orM, Dx.notM, Dx.iteM, Dx.isiM, Dx.isiD, Dx.tyD, Dx.isaB, Dx.chB, Dx.blM, Dx.lenG, Dx.negM, Dx.negG, Dx.tupM, Dx.lstM, Dx.frzM, Dx.asgM, Dx.asgT, Dx.setAll, Dx.bnd_ret, Dx.bnd_fail, Dx.bnd_bnd, Dx.lift_val, Dx.lift_no, Dx.ev_0, Dx.ev_1, Dx.ev_2, Dx.ev_3, Dx.ev_4, Dx.ev_5, Dx.ev_6, Dx.ev_7, Dx.ev_8, Dx.ev_9, Dx.ev_10, Dx.ev_11, Dx.ev_12, Dx.ev_13, Dx.ev_14, Dx.ev_15, Dx.ev_16, Dx.ev_17, Dx.ev_18, Dx.ev_19, Dx.ev_20, Dx.ev_21, Dx.ev_22, Dx.ev_23, Dx.ev_24, Dx.ev_25, Dx.pk_0, Dx.pk_1, Dx.pk_2, Dx.pk_3, Dx.pk_4, Dx.pk_5, Dx.pk_6, Dx.pk_7, Dx.pk_8, Dx.pk_9, Dx.pk_10, Dx.pk_11, Dx.pk_12, Dx.pk_13, Dx.pk_14, Dx.pk_15, Dx.pk_16, Dx.pk_17, Dx.pk_18, Dx.pk_19, Dx.pk_20, Dx.pk_21, Dx.pk_22, Dx.pk_23, Dx.pk_24, Dx.pk_25, Dx.st_0, Dx.st_1, Dx.st_2, Dx.st_3, Dx.st_4, Dx.st_5, Dx.st_6, Dx.st_7, Dx.st_8, Dx.st_9, Dx.st_10, Dx.st_11, Dx.st_12, Dx.st_13, Dx.st_14, Dx.st_15, Dx.st_16, Dx.st_17, Dx.st_18, Dx.st_19, Dx.st_20, Dx.st_21, Dx.st_22, Dx.st_23, Dx.st_24, Dx.st_25, Dx.ow_0, Dx.ow_1, Dx.ow_2, Dx.ow_3, Dx.ow_4, Dx.ow_5, Dx.ow_6, Dx.ow_7, Dx.ow_8, Dx.ow_9, Dx.ow_10, Dx.ow_11, Dx.ow_12, Dx.ow_13, Dx.ow_14, Dx.ow_15, Dx.ow_16, Dx.ow_17, Dx.ow_18, Dx.ow_19, Dx.ow_20, Dx.ow_21, Dx.ow_22, Dx.ow_23, Dx.ow_24, Dx.ow_25, Dx.pk_o, Dx.gam0, Dx.ixD_t, Dx.ixD_l, Dx.atI_0, Dx.atI_1, Dx.atI_2, Dx.atI_3, Dx.atI_4, Dx.asB_b, Dx.addD_i, Dx.subD_i, Dx.addD_t, Dx.addD_l, Dx.mulD_l, Dx.fdivD_s, Dx.modD_p, Dx.cmpI_i, Dx.absG_i, Dx.szOk_le, Dx.tupG, Dx.yesM, Dx.seqI, Dx.seqG_t, Dx.seqG_l, Dx.seqZ_t, Dx.seqZ_l, Dx.starM, Dx.compL_nil, Dx.compL_cons, Dx.all_2, Dx.any_2, Dx.neD_i, Dx.eqD_i, Dx.neD_b, Dx.cut_from1, Dx.cut_to, Dx.sliceM, Dx.noBd, Dx.someBd, Dx.asI, Dx.sliceD_t, Dx.sliceD_l, Dx.zipL3_ints, Dx.zipL2_ints, Dx.zip3G_t, Dx.zip2G_t, Dx.zip2G_tl, Dx.loopM_map, Dx.biM, Dx.compM, Dx.compL_map, Dx.compI_ret, Dx.wipeG, Dx.rng2_ok, Dx.rng1_ok, Dx.seqRng_ok, Dx.rngG, Dx.any_ok, Dx.all_ok, Dx.filter_yes, Dx.rngI_length, Dx.ite_or, Dx.ite_and, Dx.ite_orB, Dx.ite_andB, m_is_tuple]
theorem is_whole_int (i : Int) : m_is_whole [.int i] = ret (.bl true) := by
  simp (config := {maxSteps := 3000000}) (disch := omega) [Dx.fnM_ev', Dx.seqM_ev, Dx.seqK_next, Dx.seqK_ret, Dx.seqK_brk, Dx.seqK_cont, Dx.finM_ret, Dx.finM_next, Dx.retM, Dx.setM, Dx.setN, Dx.parM, Dx.oldM, Dx.newM, Dx.Val.slot, Dx.appM, Dx.plnM, Dx.ifM, Dx.exprM, Dx.skipM, Dx.failM, Dx.brkM, Dx.contM, Dx.con, Dx.callM, Dx.consM, Dx.nilM, Dx.op2, Dx.ts2, Dx.tsB, Dx.tNotM, Dx.tAndM, Dx.tOrM, Dx.andM, Dx.orM, Dx.notM, Dx.iteM, Dx.isiM, Dx.isiD, Dx.tyD, Dx.isaB, Dx.chB, Dx.blM, Dx.lenG, Dx.negM, Dx.negG, Dx.tupM, Dx.lstM, Dx.frzM, Dx.asgM, Dx.asgT, Dx.setAll, Dx.bnd_ret, Dx.bnd_fail, Dx.bnd_bnd, Dx.lift_val, Dx.lift_no, Dx.ev_0, Dx.ev_1, Dx.ev_2, Dx.ev_3, Dx.ev_4, Dx.ev_5, Dx.ev_6, Dx.ev_7, Dx.ev_8, Dx.ev_9, Dx.ev_10, Dx.ev_11, Dx.ev_12, Dx.ev_13, Dx.ev_14, Dx.ev_15, Dx.ev_16, Dx.ev_17, Dx.ev_18, Dx.ev_19, Dx.ev_20, Dx.ev_21, Dx.ev_22, Dx.ev_23, Dx.ev_24, Dx.ev_25, Dx.pk_0, Dx.pk_1, Dx.pk_2, Dx.pk_3, Dx.pk_4, Dx.pk_5, Dx.pk_6, Dx.pk_7, Dx.pk_8, Dx.pk_9, Dx.pk_10, Dx.pk_11, Dx.pk_12, Dx.pk_13, Dx.pk_14, Dx.pk_15, Dx.pk_16, Dx.pk_17, Dx.pk_18, Dx.pk_19, Dx.pk_20, Dx.pk_21, Dx.pk_22, Dx.pk_23, Dx.pk_24, Dx.pk_25, Dx.st_0, Dx.st_1, Dx.st_2, Dx.st_3, Dx.st_4, Dx.st_5, Dx.st_6, Dx.st_7, Dx.st_8, Dx.st_9, Dx.st_10, Dx.st_11, Dx.st_12, Dx.st_13, Dx.st_14, Dx.st_15, Dx.st_16, Dx.st_17, Dx.st_18, Dx.st_19, Dx.st_20, Dx.st_21, Dx.st_22, Dx.st_23, Dx.st_24, Dx.st_25, Dx.ow_0, Dx.ow_1, Dx.ow_2, Dx.ow_3, Dx.ow_4, Dx.ow_5, Dx.ow_6, Dx.ow_7, Dx.ow_8, Dx.ow_9, Dx.ow_10, Dx.ow_11, Dx.ow_12, Dx.ow_13, Dx.ow_14, Dx.ow_15, Dx.ow_16, Dx.ow_17, Dx.ow_18, Dx.ow_19, Dx.ow_20, Dx.ow_21, Dx.ow_22, Dx.ow_23, Dx.ow_24, Dx.ow_25, Dx.pk_o, Dx.gam0, Dx.ixD_t, Dx.ixD_l, Dx.atI_0, Dx.atI_1, Dx.atI_2, Dx.atI_3, Dx.atI_4, Dx.asB_b, Dx.addD_i, Dx.subD_i, Dx.addD_t, Dx.addD_l, Dx.mulD_l, Dx.fdivD_s, Dx.modD_p, Dx.cmpI_i, Dx.absG_i, Dx.szOk_le, Dx.tupG, Dx.yesM, Dx.seqI, Dx.seqG_t, Dx.seqG_l, Dx.seqZ_t, Dx.seqZ_l, Dx.starM, Dx.compL_nil, Dx.compL_cons, Dx.all_2, Dx.any_2, Dx.neD_i, Dx.eqD_i, Dx.neD_b, Dx.cut_from1, Dx.cut_to, Dx.sliceM, Dx.noBd, Dx.someBd, Dx.asI, Dx.sliceD_t, Dx.sliceD_l, Dx.zipL3_ints, Dx.zipL2_ints, Dx.zip3G_t, Dx.zip2G_t, Dx.zip2G_tl, Dx.loopM_map, Dx.biM, Dx.compM, Dx.compL_map, Dx.compI_ret, Dx.wipeG, Dx.rng2_ok, Dx.rng1_ok, Dx.seqRng_ok, Dx.rngG, Dx.any_ok, Dx.all_ok, Dx.filter_yes, Dx.rngI_length, Dx.ite_or, Dx.ite_and, Dx.ite_orB, Dx.ite_andB, m_is_whole]
theorem is_integer_int (i a b : Int) : m_is_integer [.int i, .int a, .int b] = ret (.bl (decide (a ≤ i ∧ i ≤ b))) := by
  simp (config := {maxSteps := 3000000}) (disch := omega) [Dx.fnM_ev', Dx.seqM_ev, Dx.seqK_next, Dx.seqK_ret, Dx.seqK_brk, Dx.seqK_cont, Dx.finM_ret, Dx.finM_next, Dx.retM, Dx.setM, Dx.setN, Dx.parM, Dx.oldM, Dx.newM, Dx.Val.slot, Dx.appM, Dx.plnM, Dx.ifM, Dx.exprM, Dx.skipM, Dx.failM, Dx.brkM, Dx.contM, Dx.con, Dx.callM, Dx.consM, Dx.nilM, Dx.op2, Dx.ts2, Dx.tsB, Dx.tNotM, Dx.tAndM, Dx.tOrM, Dx.andM, Dx.orM, Dx.notM, Dx.iteM, Dx.isiM, Dx.isiD, Dx.tyD, Dx.isaB, Dx.chB, Dx.blM, Dx.lenG, Dx.negM, Dx.negG, Dx.tupM, Dx.lstM, Dx.frzM, Dx.asgM, Dx.asgT, Dx.setAll, Dx.bnd_ret, Dx.bnd_fail, Dx.bnd_bnd, Dx.lift_val, Dx.lift_no, Dx.ev_0, Dx.ev_1, Dx.ev_2, Dx.ev_3, Dx.ev_4, Dx.ev_5, Dx.ev_6, Dx.ev_7, Dx.ev_8, Dx.ev_9, Dx.ev_10, Dx.ev_11, Dx.ev_12, Dx.ev_13, Dx.ev_14, Dx.ev_15, Dx.ev_16, Dx.ev_17, Dx.ev_18, Dx.ev_19, Dx.ev_20, Dx.ev_21, Dx.ev_22, Dx.ev_23, Dx.ev_24, Dx.ev_25, Dx.pk_0, Dx.pk_1, Dx.pk_2, Dx.pk_3, Dx.pk_4, Dx.pk_5, Dx.pk_6, Dx.pk_7, Dx.pk_8, Dx.pk_9, Dx.pk_10, Dx.pk_11, Dx.pk_12, Dx.pk_13, Dx.pk_14, Dx.pk_15, Dx.pk_16, Dx.pk_17, Dx.pk_18, Dx.pk_19, Dx.pk_20, Dx.pk_21, Dx.pk_22, Dx.pk_23, Dx.pk_24, Dx.pk_25, Dx.st_0, Dx.st_1, Dx.st_2, Dx.st_3, Dx.st_4, Dx.st_5, Dx.st_6, Dx.st_7, Dx.st_8, Dx.st_9, Dx.st_10, Dx.st_11, Dx.st_12, Dx.st_13, Dx.st_14, Dx.st_15, Dx.st_16, Dx.st_17, Dx.st_18, Dx.st_19, Dx.st_20, Dx.st_21, Dx.st_22, Dx.st_23, Dx.st_24, Dx.st_25, Dx.ow_0, Dx.ow_1, Dx.ow_2, Dx.ow_3, Dx.ow_4, Dx.ow_5, Dx.ow_6, Dx.ow_7, Dx.ow_8, Dx.ow_9, Dx.ow_10, Dx.ow_11, Dx.ow_12, Dx.ow_13, Dx.ow_14, Dx.ow_15, Dx.ow_16, Dx.ow_17, Dx.ow_18, Dx.ow_19, Dx.ow_20, Dx.ow_21, Dx.ow_22, Dx.ow_23, Dx.ow_24, Dx.ow_25, Dx.pk_o, Dx.gam0, Dx.ixD_t, Dx.ixD_l, Dx.atI_0, Dx.atI_1, Dx.atI_2, Dx.atI_3, Dx.atI_4, Dx.asB_b, Dx.addD_i, Dx.subD_i, Dx.addD_t, Dx.addD_l, Dx.mulD_l, Dx.fdivD_s, Dx.modD_p, Dx.cmpI_i, Dx.absG_i, Dx.szOk_le, Dx.tupG, Dx.yesM, Dx.seqI, Dx.seqG_t, Dx.seqG_l, Dx.seqZ_t, Dx.seqZ_l, Dx.starM, Dx.compL_nil, Dx.compL_cons, Dx.all_2, Dx.any_2, Dx.neD_i, Dx.eqD_i, Dx.neD_b, Dx.cut_from1, Dx.cut_to, Dx.sliceM, Dx.noBd, Dx.someBd, Dx.asI, Dx.sliceD_t, Dx.sliceD_l, Dx.zipL3_ints, Dx.zipL2_ints, Dx.zip3G_t, Dx.zip2G_t, Dx.zip2G_tl, Dx.loopM_map, Dx.biM, Dx.compM, Dx.compL_map, Dx.compI_ret, Dx.wipeG, Dx.rng2_ok, Dx.rng1_ok, Dx.seqRng_ok, Dx.rngG, Dx.any_ok, Dx.all_ok, Dx.filter_yes, Dx.rngI_length, Dx.ite_or, Dx.ite_and, Dx.ite_orB, Dx.ite_andB, m_is_integer, is_whole_int]
def pr (a b : Int) : D := .tup [.int a, .int b]
def vt (s lo hi : Int) : D := .tup [.int 1, .int 1, .int s, .tup [.int (-200), .int 200], .tup [.int lo, .int hi]]
theorem is_between_ok {a b m : Int} (h1 : -m ≤ a) (h2 : a ≤ b) (h3 : b ≤ m) : m_is_between [pr a b, .int m] = ret (.bl true) := by
  have e1 : a ≤ m := by omega
  simp (config := {maxSteps := 3000000}) (disch := omega) [Dx.fnM_ev', Dx.seqM_ev, Dx.seqK_next, Dx.seqK_ret, Dx.seqK_brk, Dx.seqK_cont, Dx.finM_ret, Dx.finM_next, Dx.retM, Dx.setM, Dx.setN, Dx.parM, Dx.oldM, Dx.newM, Dx.Val.slot, Dx.appM, Dx.plnM, Dx.ifM, Dx.exprM, Dx.skipM, Dx.failM, Dx.brkM, Dx.contM, Dx.con, Dx.callM, Dx.consM, Dx.nilM, Dx.op2, Dx.ts2, Dx.tsB, Dx.tNotM, Dx.tAndM, Dx.tOrM, Dx.andM, Dx.orM, Dx.notM, Dx.iteM, Dx.isiM, Dx.isiD, Dx.tyD, Dx.isaB, Dx.chB, Dx.blM, Dx.lenG, Dx.negM, Dx.negG, Dx.tupM, Dx.lstM, Dx.frzM, Dx.asgM, Dx.asgT, Dx.setAll, Dx.bnd_ret, Dx.bnd_fail, Dx.bnd_bnd, Dx.lift_val, Dx.lift_no, Dx.ev_0, Dx.ev_1, Dx.ev_2, Dx.ev_3, Dx.ev_4, Dx.ev_5, Dx.ev_6, Dx.ev_7, Dx.ev_8, Dx.ev_9, Dx.ev_10, Dx.ev_11, Dx.ev_12, Dx.ev_13, Dx.ev_14, Dx.ev_15, Dx.ev_16, Dx.ev_17, Dx.ev_18, Dx.ev_19, Dx.ev_20, Dx.ev_21, Dx.ev_22, Dx.ev_23, Dx.ev_24, Dx.ev_25, Dx.pk_0, Dx.pk_1, Dx.pk_2, Dx.pk_3, Dx.pk_4, Dx.pk_5, Dx.pk_6, Dx.pk_7, Dx.pk_8, Dx.pk_9, Dx.pk_10, Dx.pk_11, Dx.pk_12, Dx.pk_13, Dx.pk_14, Dx.pk_15, Dx.pk_16, Dx.pk_17, Dx.pk_18, Dx.pk_19, Dx.pk_20, Dx.pk_21, Dx.pk_22, Dx.pk_23, Dx.pk_24, Dx.pk_25, Dx.st_0, Dx.st_1, Dx.st_2, Dx.st_3, Dx.st_4, Dx.st_5, Dx.st_6, Dx.st_7, Dx.st_8, Dx.st_9, Dx.st_10, Dx.st_11, Dx.st_12, Dx.st_13, Dx.st_14, Dx.st_15, Dx.st_16, Dx.st_17, Dx.st_18, Dx.st_19, Dx.st_20, Dx.st_21, Dx.st_22, Dx.st_23, Dx.st_24, Dx.st_25, Dx.ow_0, Dx.ow_1, Dx.ow_2, Dx.ow_3, Dx.ow_4, Dx.ow_5, Dx.ow_6, Dx.ow_7, Dx.ow_8, Dx.ow_9, Dx.ow_10, Dx.ow_11, Dx.ow_12, Dx.ow_13, Dx.ow_14, Dx.ow_15, Dx.ow_16, Dx.ow_17, Dx.ow_18, Dx.ow_19, Dx.ow_20, Dx.ow_21, Dx.ow_22, Dx.ow_23, Dx.ow_24, Dx.ow_25, Dx.pk_o, Dx.gam0, Dx.ixD_t, Dx.ixD_l, Dx.atI_0, Dx.atI_1, Dx.atI_2, Dx.atI_3, Dx.atI_4, Dx.asB_b, Dx.addD_i, Dx.subD_i, Dx.addD_t, Dx.addD_l, Dx.mulD_l, Dx.fdivD_s, Dx.modD_p, Dx.cmpI_i, Dx.absG_i, Dx.szOk_le, Dx.tupG, Dx.yesM, Dx.seqI, Dx.seqG_t, Dx.seqG_l, Dx.seqZ_t, Dx.seqZ_l, Dx.starM, Dx.compL_nil, Dx.compL_cons, Dx.all_2, Dx.any_2, Dx.neD_i, Dx.eqD_i, Dx.neD_b, Dx.cut_from1, Dx.cut_to, Dx.sliceM, Dx.noBd, Dx.someBd, Dx.asI, Dx.sliceD_t, Dx.sliceD_l, Dx.zipL3_ints, Dx.zipL2_ints, Dx.zip3G_t, Dx.zip2G_t, Dx.zip2G_tl, Dx.loopM_map, Dx.biM, Dx.compM, Dx.compL_map, Dx.compI_ret, Dx.wipeG, Dx.rng2_ok, Dx.rng1_ok, Dx.seqRng_ok, Dx.rngG, Dx.any_ok, Dx.all_ok, Dx.filter_yes, Dx.rngI_length, Dx.ite_or, Dx.ite_and, Dx.ite_orB, Dx.ite_andB, m_is_between, pr, is_tuple_tup, is_integer_int, h1, h2, h3, e1]
structure VOk (s lo hi : Int) : Prop where
  s1 : -20 ≤ s
  s2 : s ≤ 20
  l1 : -50 ≤ lo
  l2 : lo ≤ hi
  l3 : hi ≤ 50
structure BOk (a b : Int) : Prop where
  a1 : -50 ≤ a
  a2 : a ≤ b
  a3 : b ≤ 50
theorem is_vat_ok {s lo hi : Int} (h : VOk s lo hi) : m_is_vat [vt s lo hi] = ret (.bl true) := by
  obtain ⟨s1, s2, l1, l2, l3⟩ := h
  have e1 : m_is_between [.tup [.int (-200), .int 200], .int 200] = ret (.bl true) := is_between_ok (by decide) (by decide) (by decide)
  have e2 : m_is_between [.tup [.int lo, .int hi], .int 50] = ret (.bl true) := is_between_ok (by omega) l2 l3
  simp (config := {maxSteps := 3000000}) (disch := omega) [Dx.fnM_ev', Dx.seqM_ev, Dx.seqK_next, Dx.seqK_ret, Dx.seqK_brk, Dx.seqK_cont, Dx.finM_ret, Dx.finM_next, Dx.retM, Dx.setM, Dx.setN, Dx.parM, Dx.oldM, Dx.newM, Dx.Val.slot, Dx.appM, Dx.plnM, Dx.ifM, Dx.exprM, Dx.skipM, Dx.failM, Dx.brkM, Dx.contM, Dx.con, Dx.callM, Dx.consM, Dx.nilM, Dx.op2, Dx.ts2, Dx.tsB, Dx.tNotM, Dx.tAndM, Dx.tOrM, Dx.andM, Dx.orM, Dx.notM, Dx.iteM, Dx.isiM, Dx.isiD, Dx.tyD, Dx.isaB, Dx.chB, Dx.blM, Dx.lenG, Dx.negM, Dx.negG, Dx.tupM, Dx.lstM, Dx.frzM, Dx.asgM, Dx.asgT, Dx.setAll, Dx.bnd_ret, Dx.bnd_fail, Dx.bnd_bnd, Dx.lift_val, Dx.lift_no, Dx.ev_0, Dx.ev_1, Dx.ev_2, Dx.ev_3, Dx.ev_4, Dx.ev_5, Dx.ev_6, Dx.ev_7, Dx.ev_8, Dx.ev_9, Dx.ev_10, Dx.ev_11, Dx.ev_12, Dx.ev_13, Dx.ev_14, Dx.ev_15, Dx.ev_16, Dx.ev_17, Dx.ev_18, Dx.ev_19, Dx.ev_20, Dx.ev_21, Dx.ev_22, Dx.ev_23, Dx.ev_24, Dx.ev_25, Dx.pk_0, Dx.pk_1, Dx.pk_2, Dx.pk_3, Dx.pk_4, Dx.pk_5, Dx.pk_6, Dx.pk_7, Dx.pk_8, Dx.pk_9, Dx.pk_10, Dx.pk_11, Dx.pk_12, Dx.pk_13, Dx.pk_14, Dx.pk_15, Dx.pk_16, Dx.pk_17, Dx.pk_18, Dx.pk_19, Dx.pk_20, Dx.pk_21, Dx.pk_22, Dx.pk_23, Dx.pk_24, Dx.pk_25, Dx.st_0, Dx.st_1, Dx.st_2, Dx.st_3, Dx.st_4, Dx.st_5, Dx.st_6, Dx.st_7, Dx.st_8, Dx.st_9, Dx.st_10, Dx.st_11, Dx.st_12, Dx.st_13, Dx.st_14, Dx.st_15, Dx.st_16, Dx.st_17, Dx.st_18, Dx.st_19, Dx.st_20, Dx.st_21, Dx.st_22, Dx.st_23, Dx.st_24, Dx.st_25, Dx.ow_0, Dx.ow_1, Dx.ow_2, Dx.ow_3, Dx.ow_4, Dx.ow_5, Dx.ow_6, Dx.ow_7, Dx.ow_8, Dx.ow_9, Dx.ow_10, Dx.ow_11, Dx.ow_12, Dx.ow_13, Dx.ow_14, Dx.ow_15, Dx.ow_16, Dx.ow_17, Dx.ow_18, Dx.ow_19, Dx.ow_20, Dx.ow_21, Dx.ow_22, Dx.ow_23, Dx.ow_24, Dx.ow_25, Dx.pk_o, Dx.gam0, Dx.ixD_t, Dx.ixD_l, Dx.atI_0, Dx.atI_1, Dx.atI_2, Dx.atI_3, Dx.atI_4, Dx.asB_b, Dx.addD_i, Dx.subD_i, Dx.addD_t, Dx.addD_l, Dx.mulD_l, Dx.fdivD_s, Dx.modD_p, Dx.cmpI_i, Dx.absG_i, Dx.szOk_le, Dx.tupG, Dx.yesM, Dx.seqI, Dx.seqG_t, Dx.seqG_l, Dx.seqZ_t, Dx.seqZ_l, Dx.starM, Dx.compL_nil, Dx.compL_cons, Dx.all_2, Dx.any_2, Dx.neD_i, Dx.eqD_i, Dx.neD_b, Dx.cut_from1, Dx.cut_to, Dx.sliceM, Dx.noBd, Dx.someBd, Dx.asI, Dx.sliceD_t, Dx.sliceD_l, Dx.zipL3_ints, Dx.zipL2_ints, Dx.zip3G_t, Dx.zip2G_t, Dx.zip2G_tl, Dx.loopM_map, Dx.biM, Dx.compM, Dx.compL_map, Dx.compI_ret, Dx.wipeG, Dx.rng2_ok, Dx.rng1_ok, Dx.seqRng_ok, Dx.rngG, Dx.any_ok, Dx.all_ok, Dx.filter_yes, Dx.rngI_length, Dx.ite_or, Dx.ite_and, Dx.ite_orB, Dx.ite_andB, m_is_vat, vt, is_tuple_tup, is_integer_int, s1, s2, e1, e2]
theorem check_vat_ok {s lo hi : Int} (h : VOk s lo hi) : m_check_vat [vt s lo hi] = ret .non := by
  simp (config := {maxSteps := 3000000}) (disch := omega) [Dx.fnM_ev', Dx.seqM_ev, Dx.seqK_next, Dx.seqK_ret, Dx.seqK_brk, Dx.seqK_cont, Dx.finM_ret, Dx.finM_next, Dx.retM, Dx.setM, Dx.setN, Dx.parM, Dx.oldM, Dx.newM, Dx.Val.slot, Dx.appM, Dx.plnM, Dx.ifM, Dx.exprM, Dx.skipM, Dx.failM, Dx.brkM, Dx.contM, Dx.con, Dx.callM, Dx.consM, Dx.nilM, Dx.op2, Dx.ts2, Dx.tsB, Dx.tNotM, Dx.tAndM, Dx.tOrM, Dx.andM, Dx.orM, Dx.notM, Dx.iteM, Dx.isiM, Dx.isiD, Dx.tyD, Dx.isaB, Dx.chB, Dx.blM, Dx.lenG, Dx.negM, Dx.negG, Dx.tupM, Dx.lstM, Dx.frzM, Dx.asgM, Dx.asgT, Dx.setAll, Dx.bnd_ret, Dx.bnd_fail, Dx.bnd_bnd, Dx.lift_val, Dx.lift_no, Dx.ev_0, Dx.ev_1, Dx.ev_2, Dx.ev_3, Dx.ev_4, Dx.ev_5, Dx.ev_6, Dx.ev_7, Dx.ev_8, Dx.ev_9, Dx.ev_10, Dx.ev_11, Dx.ev_12, Dx.ev_13, Dx.ev_14, Dx.ev_15, Dx.ev_16, Dx.ev_17, Dx.ev_18, Dx.ev_19, Dx.ev_20, Dx.ev_21, Dx.ev_22, Dx.ev_23, Dx.ev_24, Dx.ev_25, Dx.pk_0, Dx.pk_1, Dx.pk_2, Dx.pk_3, Dx.pk_4, Dx.pk_5, Dx.pk_6, Dx.pk_7, Dx.pk_8, Dx.pk_9, Dx.pk_10, Dx.pk_11, Dx.pk_12, Dx.pk_13, Dx.pk_14, Dx.pk_15, Dx.pk_16, Dx.pk_17, Dx.pk_18, Dx.pk_19, Dx.pk_20, Dx.pk_21, Dx.pk_22, Dx.pk_23, Dx.pk_24, Dx.pk_25, Dx.st_0, Dx.st_1, Dx.st_2, Dx.st_3, Dx.st_4, Dx.st_5, Dx.st_6, Dx.st_7, Dx.st_8, Dx.st_9, Dx.st_10, Dx.st_11, Dx.st_12, Dx.st_13, Dx.st_14, Dx.st_15, Dx.st_16, Dx.st_17, Dx.st_18, Dx.st_19, Dx.st_20, Dx.st_21, Dx.st_22, Dx.st_23, Dx.st_24, Dx.st_25, Dx.ow_0, Dx.ow_1, Dx.ow_2, Dx.ow_3, Dx.ow_4, Dx.ow_5, Dx.ow_6, Dx.ow_7, Dx.ow_8, Dx.ow_9, Dx.ow_10, Dx.ow_11, Dx.ow_12, Dx.ow_13, Dx.ow_14, Dx.ow_15, Dx.ow_16, Dx.ow_17, Dx.ow_18, Dx.ow_19, Dx.ow_20, Dx.ow_21, Dx.ow_22, Dx.ow_23, Dx.ow_24, Dx.ow_25, Dx.pk_o, Dx.gam0, Dx.ixD_t, Dx.ixD_l, Dx.atI_0, Dx.atI_1, Dx.atI_2, Dx.atI_3, Dx.atI_4, Dx.asB_b, Dx.addD_i, Dx.subD_i, Dx.addD_t, Dx.addD_l, Dx.mulD_l, Dx.fdivD_s, Dx.modD_p, Dx.cmpI_i, Dx.absG_i, Dx.szOk_le, Dx.tupG, Dx.yesM, Dx.seqI, Dx.seqG_t, Dx.seqG_l, Dx.seqZ_t, Dx.seqZ_l, Dx.starM, Dx.compL_nil, Dx.compL_cons, Dx.all_2, Dx.any_2, Dx.neD_i, Dx.eqD_i, Dx.neD_b, Dx.cut_from1, Dx.cut_to, Dx.sliceM, Dx.noBd, Dx.someBd, Dx.asI, Dx.sliceD_t, Dx.sliceD_l, Dx.zipL3_ints, Dx.zipL2_ints, Dx.zip3G_t, Dx.zip2G_t, Dx.zip2G_tl, Dx.loopM_map, Dx.biM, Dx.compM, Dx.compL_map, Dx.compI_ret, Dx.wipeG, Dx.rng2_ok, Dx.rng1_ok, Dx.seqRng_ok, Dx.rngG, Dx.any_ok, Dx.all_ok, Dx.filter_yes, Dx.rngI_length, Dx.ite_or, Dx.ite_and, Dx.ite_orB, Dx.ite_andB, m_check_vat, is_vat_ok h]
theorem check_bounds_ok {s lo hi a b : Int} (h : VOk s lo hi) (g : BOk a b) : m_check_bounds [vt s lo hi, pr a b] = ret .non := by
  simp (config := {maxSteps := 3000000}) (disch := omega) [Dx.fnM_ev', Dx.seqM_ev, Dx.seqK_next, Dx.seqK_ret, Dx.seqK_brk, Dx.seqK_cont, Dx.finM_ret, Dx.finM_next, Dx.retM, Dx.setM, Dx.setN, Dx.parM, Dx.oldM, Dx.newM, Dx.Val.slot, Dx.appM, Dx.plnM, Dx.ifM, Dx.exprM, Dx.skipM, Dx.failM, Dx.brkM, Dx.contM, Dx.con, Dx.callM, Dx.consM, Dx.nilM, Dx.op2, Dx.ts2, Dx.tsB, Dx.tNotM, Dx.tAndM, Dx.tOrM, Dx.andM, Dx.orM, Dx.notM, Dx.iteM, Dx.isiM, Dx.isiD, Dx.tyD, Dx.isaB, Dx.chB, Dx.blM, Dx.lenG, Dx.negM, Dx.negG, Dx.tupM, Dx.lstM, Dx.frzM, Dx.asgM, Dx.asgT, Dx.setAll, Dx.bnd_ret, Dx.bnd_fail, Dx.bnd_bnd, Dx.lift_val, Dx.lift_no, Dx.ev_0, Dx.ev_1, Dx.ev_2, Dx.ev_3, Dx.ev_4, Dx.ev_5, Dx.ev_6, Dx.ev_7, Dx.ev_8, Dx.ev_9, Dx.ev_10, Dx.ev_11, Dx.ev_12, Dx.ev_13, Dx.ev_14, Dx.ev_15, Dx.ev_16, Dx.ev_17, Dx.ev_18, Dx.ev_19, Dx.ev_20, Dx.ev_21, Dx.ev_22, Dx.ev_23, Dx.ev_24, Dx.ev_25, Dx.pk_0, Dx.pk_1, Dx.pk_2, Dx.pk_3, Dx.pk_4, Dx.pk_5, Dx.pk_6, Dx.pk_7, Dx.pk_8, Dx.pk_9, Dx.pk_10, Dx.pk_11, Dx.pk_12, Dx.pk_13, Dx.pk_14, Dx.pk_15, Dx.pk_16, Dx.pk_17, Dx.pk_18, Dx.pk_19, Dx.pk_20, Dx.pk_21, Dx.pk_22, Dx.pk_23, Dx.pk_24, Dx.pk_25, Dx.st_0, Dx.st_1, Dx.st_2, Dx.st_3, Dx.st_4, Dx.st_5, Dx.st_6, Dx.st_7, Dx.st_8, Dx.st_9, Dx.st_10, Dx.st_11, Dx.st_12, Dx.st_13, Dx.st_14, Dx.st_15, Dx.st_16, Dx.st_17, Dx.st_18, Dx.st_19, Dx.st_20, Dx.st_21, Dx.st_22, Dx.st_23, Dx.st_24, Dx.st_25, Dx.ow_0, Dx.ow_1, Dx.ow_2, Dx.ow_3, Dx.ow_4, Dx.ow_5, Dx.ow_6, Dx.ow_7, Dx.ow_8, Dx.ow_9, Dx.ow_10, Dx.ow_11, Dx.ow_12, Dx.ow_13, Dx.ow_14, Dx.ow_15, Dx.ow_16, Dx.ow_17, Dx.ow_18, Dx.ow_19, Dx.ow_20, Dx.ow_21, Dx.ow_22, Dx.ow_23, Dx.ow_24, Dx.ow_25, Dx.pk_o, Dx.gam0, Dx.ixD_t, Dx.ixD_l, Dx.atI_0, Dx.atI_1, Dx.atI_2, Dx.atI_3, Dx.atI_4, Dx.asB_b, Dx.addD_i, Dx.subD_i, Dx.addD_t, Dx.addD_l, Dx.mulD_l, Dx.fdivD_s, Dx.modD_p, Dx.cmpI_i, Dx.absG_i, Dx.szOk_le, Dx.tupG, Dx.yesM, Dx.seqI, Dx.seqG_t, Dx.seqG_l, Dx.seqZ_t, Dx.seqZ_l, Dx.starM, Dx.compL_nil, Dx.compL_cons, Dx.all_2, Dx.any_2, Dx.neD_i, Dx.eqD_i, Dx.neD_b, Dx.cut_from1, Dx.cut_to, Dx.sliceM, Dx.noBd, Dx.someBd, Dx.asI, Dx.sliceD_t, Dx.sliceD_l, Dx.zipL3_ints, Dx.zipL2_ints, Dx.zip3G_t, Dx.zip2G_t, Dx.zip2G_tl, Dx.loopM_map, Dx.biM, Dx.compM, Dx.compL_map, Dx.compI_ret, Dx.wipeG, Dx.rng2_ok, Dx.rng1_ok, Dx.seqRng_ok, Dx.rngG, Dx.any_ok, Dx.all_ok, Dx.filter_yes, Dx.rngI_length, Dx.ite_or, Dx.ite_and, Dx.ite_orB, Dx.ite_andB, m_check_bounds, check_vat_ok h, is_between_ok g.a1 g.a2 g.a3]
theorem v0 (s lo hi : Int) : ixD (vt s lo hi) (.int 0) = some (.int 1) := atI_0 _ _
theorem v1 (s lo hi : Int) : ixD (vt s lo hi) (.int 1) = some (.int 1) := atI_1 _ _ _
theorem v2 (s lo hi : Int) : ixD (vt s lo hi) (.int 2) = some (.int s) := atI_2 _ _ _ _
theorem v3 (s lo hi : Int) : ixD (vt s lo hi) (.int 3) = some (pr (-200) 200) := atI_3 _ _ _ _ _
theorem v4 (s lo hi : Int) : ixD (vt s lo hi) (.int 4) = some (pr lo hi) := atI_4 _ _ _ _ _ _
theorem p0 (a b : Int) : ixD (pr a b) (.int 0) = some (.int a) := atI_0 _ _
theorem p1 (a b : Int) : ixD (pr a b) (.int 1) = some (.int b) := atI_1 _ _ _
theorem check_level_ok {s lo hi l : Int} (h : VOk s lo hi) (h1 : -200 ≤ l) (h2 : l ≤ 200) : m_check_level [vt s lo hi, .int l] = ret .non := by
  simp (config := {maxSteps := 3000000}) (disch := omega) [Dx.fnM_ev', Dx.seqM_ev, Dx.seqK_next, Dx.seqK_ret, Dx.seqK_brk, Dx.seqK_cont, Dx.finM_ret, Dx.finM_next, Dx.retM, Dx.setM, Dx.setN, Dx.parM, Dx.oldM, Dx.newM, Dx.Val.slot, Dx.appM, Dx.plnM, Dx.ifM, Dx.exprM, Dx.skipM, Dx.failM, Dx.brkM, Dx.contM, Dx.con, Dx.callM, Dx.consM, Dx.nilM, Dx.op2, Dx.ts2, Dx.tsB, Dx.tNotM, Dx.tAndM, Dx.tOrM, Dx.andM, Dx.orM, Dx.notM, Dx.iteM, Dx.isiM, Dx.isiD, Dx.tyD, Dx.isaB, Dx.chB, Dx.blM, Dx.lenG, Dx.negM, Dx.negG, Dx.tupM, Dx.lstM, Dx.frzM, Dx.asgM, Dx.asgT, Dx.setAll, Dx.bnd_ret, Dx.bnd_fail, Dx.bnd_bnd, Dx.lift_val, Dx.lift_no, Dx.ev_0, Dx.ev_1, Dx.ev_2, Dx.ev_3, Dx.ev_4, Dx.ev_5, Dx.ev_6, Dx.ev_7, Dx.ev_8, Dx.ev_9, Dx.ev_10, Dx.ev_11, Dx.ev_12, Dx.ev_13, Dx.ev_14, Dx.ev_15, Dx.ev_16, Dx.ev_17, Dx.ev_18, Dx.ev_19, Dx.ev_20, Dx.ev_21, Dx.ev_22, Dx.ev_23, Dx.ev_24, Dx.ev_25, Dx.pk_0, Dx.pk_1, Dx.pk_2, Dx.pk_3, Dx.pk_4, Dx.pk_5, Dx.pk_6, Dx.pk_7, Dx.pk_8, Dx.pk_9, Dx.pk_10, Dx.pk_11, Dx.pk_12, Dx.pk_13, Dx.pk_14, Dx.pk_15, Dx.pk_16, Dx.pk_17, Dx.pk_18, Dx.pk_19, Dx.pk_20, Dx.pk_21, Dx.pk_22, Dx.pk_23, Dx.pk_24, Dx.pk_25, Dx.st_0, Dx.st_1, Dx.st_2, Dx.st_3, Dx.st_4, Dx.st_5, Dx.st_6, Dx.st_7, Dx.st_8, Dx.st_9, Dx.st_10, Dx.st_11, Dx.st_12, Dx.st_13, Dx.st_14, Dx.st_15, Dx.st_16, Dx.st_17, Dx.st_18, Dx.st_19, Dx.st_20, Dx.st_21, Dx.st_22, Dx.st_23, Dx.st_24, Dx.st_25, Dx.ow_0, Dx.ow_1, Dx.ow_2, Dx.ow_3, Dx.ow_4, Dx.ow_5, Dx.ow_6, Dx.ow_7, Dx.ow_8, Dx.ow_9, Dx.ow_10, Dx.ow_11, Dx.ow_12, Dx.ow_13, Dx.ow_14, Dx.ow_15, Dx.ow_16, Dx.ow_17, Dx.ow_18, Dx.ow_19, Dx.ow_20, Dx.ow_21, Dx.ow_22, Dx.ow_23, Dx.ow_24, Dx.ow_25, Dx.pk_o, Dx.gam0, Dx.ixD_t, Dx.ixD_l, Dx.atI_0, Dx.atI_1, Dx.atI_2, Dx.atI_3, Dx.atI_4, Dx.asB_b, Dx.addD_i, Dx.subD_i, Dx.addD_t, Dx.addD_l, Dx.mulD_l, Dx.fdivD_s, Dx.modD_p, Dx.cmpI_i, Dx.absG_i, Dx.szOk_le, Dx.tupG, Dx.yesM, Dx.seqI, Dx.seqG_t, Dx.seqG_l, Dx.seqZ_t, Dx.seqZ_l, Dx.starM, Dx.compL_nil, Dx.compL_cons, Dx.all_2, Dx.any_2, Dx.neD_i, Dx.eqD_i, Dx.neD_b, Dx.cut_from1, Dx.cut_to, Dx.sliceM, Dx.noBd, Dx.someBd, Dx.asI, Dx.sliceD_t, Dx.sliceD_l, Dx.zipL3_ints, Dx.zipL2_ints, Dx.zip3G_t, Dx.zip2G_t, Dx.zip2G_tl, Dx.loopM_map, Dx.biM, Dx.compM, Dx.compL_map, Dx.compI_ret, Dx.wipeG, Dx.rng2_ok, Dx.rng1_ok, Dx.seqRng_ok, Dx.rngG, Dx.any_ok, Dx.all_ok, Dx.filter_yes, Dx.rngI_length, Dx.ite_or, Dx.ite_and, Dx.ite_orB, Dx.ite_andB, m_check_level, check_vat_ok h, v0, v1, v2, v3, v4, p0, p1, is_integer_int, h1, h2]
theorem level_by_ok {s lo hi : Int} (h : VOk s lo hi) (l a w : Int) : m_level_by [vt s lo hi, .int l, .int a, .int w] = ret (.int (l + s * a + w)) := by
  obtain ⟨s1, s2, l1, l2, l3⟩ := h
  simp (config := {maxSteps := 3000000}) (disch := omega) [Dx.fnM_ev', Dx.seqM_ev, Dx.seqK_next, Dx.seqK_ret, Dx.seqK_brk, Dx.seqK_cont, Dx.finM_ret, Dx.finM_next, Dx.retM, Dx.setM, Dx.setN, Dx.parM, Dx.oldM, Dx.newM, Dx.Val.slot, Dx.appM, Dx.plnM, Dx.ifM, Dx.exprM, Dx.skipM, Dx.failM, Dx.brkM, Dx.contM, Dx.con, Dx.callM, Dx.consM, Dx.nilM, Dx.op2, Dx.ts2, Dx.tsB, Dx.tNotM, Dx.tAndM, Dx.tOrM, Dx.andM, Dx.orM, Dx.notM, Dx.iteM, Dx.isiM, Dx.isiD, Dx.tyD, Dx.isaB, Dx.chB, Dx.blM, Dx.lenG, Dx.negM, Dx.negG, Dx.tupM, Dx.lstM, Dx.frzM, Dx.asgM, Dx.asgT, Dx.setAll, Dx.bnd_ret, Dx.bnd_fail, Dx.bnd_bnd, Dx.lift_val, Dx.lift_no, Dx.ev_0, Dx.ev_1, Dx.ev_2, Dx.ev_3, Dx.ev_4, Dx.ev_5, Dx.ev_6, Dx.ev_7, Dx.ev_8, Dx.ev_9, Dx.ev_10, Dx.ev_11, Dx.ev_12, Dx.ev_13, Dx.ev_14, Dx.ev_15, Dx.ev_16, Dx.ev_17, Dx.ev_18, Dx.ev_19, Dx.ev_20, Dx.ev_21, Dx.ev_22, Dx.ev_23, Dx.ev_24, Dx.ev_25, Dx.pk_0, Dx.pk_1, Dx.pk_2, Dx.pk_3, Dx.pk_4, Dx.pk_5, Dx.pk_6, Dx.pk_7, Dx.pk_8, Dx.pk_9, Dx.pk_10, Dx.pk_11, Dx.pk_12, Dx.pk_13, Dx.pk_14, Dx.pk_15, Dx.pk_16, Dx.pk_17, Dx.pk_18, Dx.pk_19, Dx.pk_20, Dx.pk_21, Dx.pk_22, Dx.pk_23, Dx.pk_24, Dx.pk_25, Dx.st_0, Dx.st_1, Dx.st_2, Dx.st_3, Dx.st_4, Dx.st_5, Dx.st_6, Dx.st_7, Dx.st_8, Dx.st_9, Dx.st_10, Dx.st_11, Dx.st_12, Dx.st_13, Dx.st_14, Dx.st_15, Dx.st_16, Dx.st_17, Dx.st_18, Dx.st_19, Dx.st_20, Dx.st_21, Dx.st_22, Dx.st_23, Dx.st_24, Dx.st_25, Dx.ow_0, Dx.ow_1, Dx.ow_2, Dx.ow_3, Dx.ow_4, Dx.ow_5, Dx.ow_6, Dx.ow_7, Dx.ow_8, Dx.ow_9, Dx.ow_10, Dx.ow_11, Dx.ow_12, Dx.ow_13, Dx.ow_14, Dx.ow_15, Dx.ow_16, Dx.ow_17, Dx.ow_18, Dx.ow_19, Dx.ow_20, Dx.ow_21, Dx.ow_22, Dx.ow_23, Dx.ow_24, Dx.ow_25, Dx.pk_o, Dx.gam0, Dx.ixD_t, Dx.ixD_l, Dx.atI_0, Dx.atI_1, Dx.atI_2, Dx.atI_3, Dx.atI_4, Dx.asB_b, Dx.addD_i, Dx.subD_i, Dx.addD_t, Dx.addD_l, Dx.mulD_l, Dx.fdivD_s, Dx.modD_p, Dx.cmpI_i, Dx.absG_i, Dx.szOk_le, Dx.tupG, Dx.yesM, Dx.seqI, Dx.seqG_t, Dx.seqG_l, Dx.seqZ_t, Dx.seqZ_l, Dx.starM, Dx.compL_nil, Dx.compL_cons, Dx.all_2, Dx.any_2, Dx.neD_i, Dx.eqD_i, Dx.neD_b, Dx.cut_from1, Dx.cut_to, Dx.sliceM, Dx.noBd, Dx.someBd, Dx.asI, Dx.sliceD_t, Dx.sliceD_l, Dx.zipL3_ints, Dx.zipL2_ints, Dx.zip3G_t, Dx.zip2G_t, Dx.zip2G_tl, Dx.loopM_map, Dx.biM, Dx.compM, Dx.compL_map, Dx.compI_ret, Dx.wipeG, Dx.rng2_ok, Dx.rng1_ok, Dx.seqRng_ok, Dx.rngG, Dx.any_ok, Dx.all_ok, Dx.filter_yes, Dx.rngI_length, Dx.ite_or, Dx.ite_and, Dx.ite_orB, Dx.ite_andB, m_level_by, v0, v1, v2, v3, v4, p0, p1]
theorem width_ok (s lo hi : Int) : m_width_of [vt s lo hi] = ret (.int (hi - lo)) := by
  simp (config := {maxSteps := 3000000}) (disch := omega) [Dx.fnM_ev', Dx.seqM_ev, Dx.seqK_next, Dx.seqK_ret, Dx.seqK_brk, Dx.seqK_cont, Dx.finM_ret, Dx.finM_next, Dx.retM, Dx.setM, Dx.setN, Dx.parM, Dx.oldM, Dx.newM, Dx.Val.slot, Dx.appM, Dx.plnM, Dx.ifM, Dx.exprM, Dx.skipM, Dx.failM, Dx.brkM, Dx.contM, Dx.con, Dx.callM, Dx.consM, Dx.nilM, Dx.op2, Dx.ts2, Dx.tsB, Dx.tNotM, Dx.tAndM, Dx.tOrM, Dx.andM, Dx.orM, Dx.notM, Dx.iteM, Dx.isiM, Dx.isiD, Dx.tyD, Dx.isaB, Dx.chB, Dx.blM, Dx.lenG, Dx.negM, Dx.negG, Dx.tupM, Dx.lstM, Dx.frzM, Dx.asgM, Dx.asgT, Dx.setAll, Dx.bnd_ret, Dx.bnd_fail, Dx.bnd_bnd, Dx.lift_val, Dx.lift_no, Dx.ev_0, Dx.ev_1, Dx.ev_2, Dx.ev_3, Dx.ev_4, Dx.ev_5, Dx.ev_6, Dx.ev_7, Dx.ev_8, Dx.ev_9, Dx.ev_10, Dx.ev_11, Dx.ev_12, Dx.ev_13, Dx.ev_14, Dx.ev_15, Dx.ev_16, Dx.ev_17, Dx.ev_18, Dx.ev_19, Dx.ev_20, Dx.ev_21, Dx.ev_22, Dx.ev_23, Dx.ev_24, Dx.ev_25, Dx.pk_0, Dx.pk_1, Dx.pk_2, Dx.pk_3, Dx.pk_4, Dx.pk_5, Dx.pk_6, Dx.pk_7, Dx.pk_8, Dx.pk_9, Dx.pk_10, Dx.pk_11, Dx.pk_12, Dx.pk_13, Dx.pk_14, Dx.pk_15, Dx.pk_16, Dx.pk_17, Dx.pk_18, Dx.pk_19, Dx.pk_20, Dx.pk_21, Dx.pk_22, Dx.pk_23, Dx.pk_24, Dx.pk_25, Dx.st_0, Dx.st_1, Dx.st_2, Dx.st_3, Dx.st_4, Dx.st_5, Dx.st_6, Dx.st_7, Dx.st_8, Dx.st_9, Dx.st_10, Dx.st_11, Dx.st_12, Dx.st_13, Dx.st_14, Dx.st_15, Dx.st_16, Dx.st_17, Dx.st_18, Dx.st_19, Dx.st_20, Dx.st_21, Dx.st_22, Dx.st_23, Dx.st_24, Dx.st_25, Dx.ow_0, Dx.ow_1, Dx.ow_2, Dx.ow_3, Dx.ow_4, Dx.ow_5, Dx.ow_6, Dx.ow_7, Dx.ow_8, Dx.ow_9, Dx.ow_10, Dx.ow_11, Dx.ow_12, Dx.ow_13, Dx.ow_14, Dx.ow_15, Dx.ow_16, Dx.ow_17, Dx.ow_18, Dx.ow_19, Dx.ow_20, Dx.ow_21, Dx.ow_22, Dx.ow_23, Dx.ow_24, Dx.ow_25, Dx.pk_o, Dx.gam0, Dx.ixD_t, Dx.ixD_l, Dx.atI_0, Dx.atI_1, Dx.atI_2, Dx.atI_3, Dx.atI_4, Dx.asB_b, Dx.addD_i, Dx.subD_i, Dx.addD_t, Dx.addD_l, Dx.mulD_l, Dx.fdivD_s, Dx.modD_p, Dx.cmpI_i, Dx.absG_i, Dx.szOk_le, Dx.tupG, Dx.yesM, Dx.seqI, Dx.seqG_t, Dx.seqG_l, Dx.seqZ_t, Dx.seqZ_l, Dx.starM, Dx.compL_nil, Dx.compL_cons, Dx.all_2, Dx.any_2, Dx.neD_i, Dx.eqD_i, Dx.neD_b, Dx.cut_from1, Dx.cut_to, Dx.sliceM, Dx.noBd, Dx.someBd, Dx.asI, Dx.sliceD_t, Dx.sliceD_l, Dx.zipL3_ints, Dx.zipL2_ints, Dx.zip3G_t, Dx.zip2G_t, Dx.zip2G_tl, Dx.loopM_map, Dx.biM, Dx.compM, Dx.compL_map, Dx.compI_ret, Dx.wipeG, Dx.rng2_ok, Dx.rng1_ok, Dx.seqRng_ok, Dx.rngG, Dx.any_ok, Dx.all_ok, Dx.filter_yes, Dx.rngI_length, Dx.ite_or, Dx.ite_and, Dx.ite_orB, Dx.ite_andB, m_width_of, v0, v1, v2, v3, v4, p0, p1]
/-- one and other part at a strength s, a width w -/
def par (s w one other : Int) : Bool := decide (w < ab (s * (one - other)))
theorem parts_ok {s lo hi : Int} (h : VOk s lo hi) (a b : Int) : m_parts [vt s lo hi, .int a, .int b] = ret (.bl (par s (hi - lo) a b)) := by
  obtain ⟨s1, s2, l1, l2, l3⟩ := h
  simp (config := {maxSteps := 3000000}) (disch := omega) [Dx.fnM_ev', Dx.seqM_ev, Dx.seqK_next, Dx.seqK_ret, Dx.seqK_brk, Dx.seqK_cont, Dx.finM_ret, Dx.finM_next, Dx.retM, Dx.setM, Dx.setN, Dx.parM, Dx.oldM, Dx.newM, Dx.Val.slot, Dx.appM, Dx.plnM, Dx.ifM, Dx.exprM, Dx.skipM, Dx.failM, Dx.brkM, Dx.contM, Dx.con, Dx.callM, Dx.consM, Dx.nilM, Dx.op2, Dx.ts2, Dx.tsB, Dx.tNotM, Dx.tAndM, Dx.tOrM, Dx.andM, Dx.orM, Dx.notM, Dx.iteM, Dx.isiM, Dx.isiD, Dx.tyD, Dx.isaB, Dx.chB, Dx.blM, Dx.lenG, Dx.negM, Dx.negG, Dx.tupM, Dx.lstM, Dx.frzM, Dx.asgM, Dx.asgT, Dx.setAll, Dx.bnd_ret, Dx.bnd_fail, Dx.bnd_bnd, Dx.lift_val, Dx.lift_no, Dx.ev_0, Dx.ev_1, Dx.ev_2, Dx.ev_3, Dx.ev_4, Dx.ev_5, Dx.ev_6, Dx.ev_7, Dx.ev_8, Dx.ev_9, Dx.ev_10, Dx.ev_11, Dx.ev_12, Dx.ev_13, Dx.ev_14, Dx.ev_15, Dx.ev_16, Dx.ev_17, Dx.ev_18, Dx.ev_19, Dx.ev_20, Dx.ev_21, Dx.ev_22, Dx.ev_23, Dx.ev_24, Dx.ev_25, Dx.pk_0, Dx.pk_1, Dx.pk_2, Dx.pk_3, Dx.pk_4, Dx.pk_5, Dx.pk_6, Dx.pk_7, Dx.pk_8, Dx.pk_9, Dx.pk_10, Dx.pk_11, Dx.pk_12, Dx.pk_13, Dx.pk_14, Dx.pk_15, Dx.pk_16, Dx.pk_17, Dx.pk_18, Dx.pk_19, Dx.pk_20, Dx.pk_21, Dx.pk_22, Dx.pk_23, Dx.pk_24, Dx.pk_25, Dx.st_0, Dx.st_1, Dx.st_2, Dx.st_3, Dx.st_4, Dx.st_5, Dx.st_6, Dx.st_7, Dx.st_8, Dx.st_9, Dx.st_10, Dx.st_11, Dx.st_12, Dx.st_13, Dx.st_14, Dx.st_15, Dx.st_16, Dx.st_17, Dx.st_18, Dx.st_19, Dx.st_20, Dx.st_21, Dx.st_22, Dx.st_23, Dx.st_24, Dx.st_25, Dx.ow_0, Dx.ow_1, Dx.ow_2, Dx.ow_3, Dx.ow_4, Dx.ow_5, Dx.ow_6, Dx.ow_7, Dx.ow_8, Dx.ow_9, Dx.ow_10, Dx.ow_11, Dx.ow_12, Dx.ow_13, Dx.ow_14, Dx.ow_15, Dx.ow_16, Dx.ow_17, Dx.ow_18, Dx.ow_19, Dx.ow_20, Dx.ow_21, Dx.ow_22, Dx.ow_23, Dx.ow_24, Dx.ow_25, Dx.pk_o, Dx.gam0, Dx.ixD_t, Dx.ixD_l, Dx.atI_0, Dx.atI_1, Dx.atI_2, Dx.atI_3, Dx.atI_4, Dx.asB_b, Dx.addD_i, Dx.subD_i, Dx.addD_t, Dx.addD_l, Dx.mulD_l, Dx.fdivD_s, Dx.modD_p, Dx.cmpI_i, Dx.absG_i, Dx.szOk_le, Dx.tupG, Dx.yesM, Dx.seqI, Dx.seqG_t, Dx.seqG_l, Dx.seqZ_t, Dx.seqZ_l, Dx.starM, Dx.compL_nil, Dx.compL_cons, Dx.all_2, Dx.any_2, Dx.neD_i, Dx.eqD_i, Dx.neD_b, Dx.cut_from1, Dx.cut_to, Dx.sliceM, Dx.noBd, Dx.someBd, Dx.asI, Dx.sliceD_t, Dx.sliceD_l, Dx.zipL3_ints, Dx.zipL2_ints, Dx.zip3G_t, Dx.zip2G_t, Dx.zip2G_tl, Dx.loopM_map, Dx.biM, Dx.compM, Dx.compL_map, Dx.compI_ret, Dx.wipeG, Dx.rng2_ok, Dx.rng1_ok, Dx.seqRng_ok, Dx.rngG, Dx.any_ok, Dx.all_ok, Dx.filter_yes, Dx.rngI_length, Dx.ite_or, Dx.ite_and, Dx.ite_orB, Dx.ite_andB, m_parts, v0, v1, v2, v3, v4, p0, p1, width_ok, par]
theorem lparts_ok {s lo hi : Int} (h : VOk s lo hi) (a b : Int) : m__law_parts [vt s lo hi, .int a, .int b] = ret (.bl (par s (hi - lo) a b)) := by
  obtain ⟨s1, s2, l1, l2, l3⟩ := h
  simp (config := {maxSteps := 3000000}) (disch := omega) [Dx.fnM_ev', Dx.seqM_ev, Dx.seqK_next, Dx.seqK_ret, Dx.seqK_brk, Dx.seqK_cont, Dx.finM_ret, Dx.finM_next, Dx.retM, Dx.setM, Dx.setN, Dx.parM, Dx.oldM, Dx.newM, Dx.Val.slot, Dx.appM, Dx.plnM, Dx.ifM, Dx.exprM, Dx.skipM, Dx.failM, Dx.brkM, Dx.contM, Dx.con, Dx.callM, Dx.consM, Dx.nilM, Dx.op2, Dx.ts2, Dx.tsB, Dx.tNotM, Dx.tAndM, Dx.tOrM, Dx.andM, Dx.orM, Dx.notM, Dx.iteM, Dx.isiM, Dx.isiD, Dx.tyD, Dx.isaB, Dx.chB, Dx.blM, Dx.lenG, Dx.negM, Dx.negG, Dx.tupM, Dx.lstM, Dx.frzM, Dx.asgM, Dx.asgT, Dx.setAll, Dx.bnd_ret, Dx.bnd_fail, Dx.bnd_bnd, Dx.lift_val, Dx.lift_no, Dx.ev_0, Dx.ev_1, Dx.ev_2, Dx.ev_3, Dx.ev_4, Dx.ev_5, Dx.ev_6, Dx.ev_7, Dx.ev_8, Dx.ev_9, Dx.ev_10, Dx.ev_11, Dx.ev_12, Dx.ev_13, Dx.ev_14, Dx.ev_15, Dx.ev_16, Dx.ev_17, Dx.ev_18, Dx.ev_19, Dx.ev_20, Dx.ev_21, Dx.ev_22, Dx.ev_23, Dx.ev_24, Dx.ev_25, Dx.pk_0, Dx.pk_1, Dx.pk_2, Dx.pk_3, Dx.pk_4, Dx.pk_5, Dx.pk_6, Dx.pk_7, Dx.pk_8, Dx.pk_9, Dx.pk_10, Dx.pk_11, Dx.pk_12, Dx.pk_13, Dx.pk_14, Dx.pk_15, Dx.pk_16, Dx.pk_17, Dx.pk_18, Dx.pk_19, Dx.pk_20, Dx.pk_21, Dx.pk_22, Dx.pk_23, Dx.pk_24, Dx.pk_25, Dx.st_0, Dx.st_1, Dx.st_2, Dx.st_3, Dx.st_4, Dx.st_5, Dx.st_6, Dx.st_7, Dx.st_8, Dx.st_9, Dx.st_10, Dx.st_11, Dx.st_12, Dx.st_13, Dx.st_14, Dx.st_15, Dx.st_16, Dx.st_17, Dx.st_18, Dx.st_19, Dx.st_20, Dx.st_21, Dx.st_22, Dx.st_23, Dx.st_24, Dx.st_25, Dx.ow_0, Dx.ow_1, Dx.ow_2, Dx.ow_3, Dx.ow_4, Dx.ow_5, Dx.ow_6, Dx.ow_7, Dx.ow_8, Dx.ow_9, Dx.ow_10, Dx.ow_11, Dx.ow_12, Dx.ow_13, Dx.ow_14, Dx.ow_15, Dx.ow_16, Dx.ow_17, Dx.ow_18, Dx.ow_19, Dx.ow_20, Dx.ow_21, Dx.ow_22, Dx.ow_23, Dx.ow_24, Dx.ow_25, Dx.pk_o, Dx.gam0, Dx.ixD_t, Dx.ixD_l, Dx.atI_0, Dx.atI_1, Dx.atI_2, Dx.atI_3, Dx.atI_4, Dx.asB_b, Dx.addD_i, Dx.subD_i, Dx.addD_t, Dx.addD_l, Dx.mulD_l, Dx.fdivD_s, Dx.modD_p, Dx.cmpI_i, Dx.absG_i, Dx.szOk_le, Dx.tupG, Dx.yesM, Dx.seqI, Dx.seqG_t, Dx.seqG_l, Dx.seqZ_t, Dx.seqZ_l, Dx.starM, Dx.compL_nil, Dx.compL_cons, Dx.all_2, Dx.any_2, Dx.neD_i, Dx.eqD_i, Dx.neD_b, Dx.cut_from1, Dx.cut_to, Dx.sliceM, Dx.noBd, Dx.someBd, Dx.asI, Dx.sliceD_t, Dx.sliceD_l, Dx.zipL3_ints, Dx.zipL2_ints, Dx.zip3G_t, Dx.zip2G_t, Dx.zip2G_tl, Dx.loopM_map, Dx.biM, Dx.compM, Dx.compL_map, Dx.compI_ret, Dx.wipeG, Dx.rng2_ok, Dx.rng1_ok, Dx.seqRng_ok, Dx.rngG, Dx.any_ok, Dx.all_ok, Dx.filter_yes, Dx.rngI_length, Dx.ite_or, Dx.ite_and, Dx.ite_orB, Dx.ite_andB, m__law_parts, v0, v1, v2, v3, v4, p0, p1, par]
abbrev rg (a b : Int) : List Int := rngI a (b + 1 - a).toNat
def told (P : Int → Int → Bool) (a b : Int) (l : List Int) : Bool := (rg a b).all fun at_ => l.any fun one => P one at_
theorem ltold_ok {s lo hi a b : Int} (h : VOk s lo hi) (g : BOk a b) {l : List Int} (hl : l.length ≤ 100) : m__law_is_told [vt s lo hi, pr a b, .tup (l.map .int)] = ret (.bl (told (par s (hi - lo)) a b l)) := by
  obtain ⟨g1, g2, g3⟩ := g
  simp (config := {maxSteps := 3000000}) (disch := omega) [Dx.fnM_ev', Dx.seqM_ev, Dx.seqK_next, Dx.seqK_ret, Dx.seqK_brk, Dx.seqK_cont, Dx.finM_ret, Dx.finM_next, Dx.retM, Dx.setM, Dx.setN, Dx.parM, Dx.oldM, Dx.newM, Dx.Val.slot, Dx.appM, Dx.plnM, Dx.ifM, Dx.exprM, Dx.skipM, Dx.failM, Dx.brkM, Dx.contM, Dx.con, Dx.callM, Dx.consM, Dx.nilM, Dx.op2, Dx.ts2, Dx.tsB, Dx.tNotM, Dx.tAndM, Dx.tOrM, Dx.andM, Dx.orM, Dx.notM, Dx.iteM, Dx.isiM, Dx.isiD, Dx.tyD, Dx.isaB, Dx.chB, Dx.blM, Dx.lenG, Dx.negM, Dx.negG, Dx.tupM, Dx.lstM, Dx.frzM, Dx.asgM, Dx.asgT, Dx.setAll, Dx.bnd_ret, Dx.bnd_fail, Dx.bnd_bnd, Dx.lift_val, Dx.lift_no, Dx.ev_0, Dx.ev_1, Dx.ev_2, Dx.ev_3, Dx.ev_4, Dx.ev_5, Dx.ev_6, Dx.ev_7, Dx.ev_8, Dx.ev_9, Dx.ev_10, Dx.ev_11, Dx.ev_12, Dx.ev_13, Dx.ev_14, Dx.ev_15, Dx.ev_16, Dx.ev_17, Dx.ev_18, Dx.ev_19, Dx.ev_20, Dx.ev_21, Dx.ev_22, Dx.ev_23, Dx.ev_24, Dx.ev_25, Dx.pk_0, Dx.pk_1, Dx.pk_2, Dx.pk_3, Dx.pk_4, Dx.pk_5, Dx.pk_6, Dx.pk_7, Dx.pk_8, Dx.pk_9, Dx.pk_10, Dx.pk_11, Dx.pk_12, Dx.pk_13, Dx.pk_14, Dx.pk_15, Dx.pk_16, Dx.pk_17, Dx.pk_18, Dx.pk_19, Dx.pk_20, Dx.pk_21, Dx.pk_22, Dx.pk_23, Dx.pk_24, Dx.pk_25, Dx.st_0, Dx.st_1, Dx.st_2, Dx.st_3, Dx.st_4, Dx.st_5, Dx.st_6, Dx.st_7, Dx.st_8, Dx.st_9, Dx.st_10, Dx.st_11, Dx.st_12, Dx.st_13, Dx.st_14, Dx.st_15, Dx.st_16, Dx.st_17, Dx.st_18, Dx.st_19, Dx.st_20, Dx.st_21, Dx.st_22, Dx.st_23, Dx.st_24, Dx.st_25, Dx.ow_0, Dx.ow_1, Dx.ow_2, Dx.ow_3, Dx.ow_4, Dx.ow_5, Dx.ow_6, Dx.ow_7, Dx.ow_8, Dx.ow_9, Dx.ow_10, Dx.ow_11, Dx.ow_12, Dx.ow_13, Dx.ow_14, Dx.ow_15, Dx.ow_16, Dx.ow_17, Dx.ow_18, Dx.ow_19, Dx.ow_20, Dx.ow_21, Dx.ow_22, Dx.ow_23, Dx.ow_24, Dx.ow_25, Dx.pk_o, Dx.gam0, Dx.ixD_t, Dx.ixD_l, Dx.atI_0, Dx.atI_1, Dx.atI_2, Dx.atI_3, Dx.atI_4, Dx.asB_b, Dx.addD_i, Dx.subD_i, Dx.addD_t, Dx.addD_l, Dx.mulD_l, Dx.fdivD_s, Dx.modD_p, Dx.cmpI_i, Dx.absG_i, Dx.szOk_le, Dx.tupG, Dx.yesM, Dx.seqI, Dx.seqG_t, Dx.seqG_l, Dx.seqZ_t, Dx.seqZ_l, Dx.starM, Dx.compL_nil, Dx.compL_cons, Dx.all_2, Dx.any_2, Dx.neD_i, Dx.eqD_i, Dx.neD_b, Dx.cut_from1, Dx.cut_to, Dx.sliceM, Dx.noBd, Dx.someBd, Dx.asI, Dx.sliceD_t, Dx.sliceD_l, Dx.zipL3_ints, Dx.zipL2_ints, Dx.zip3G_t, Dx.zip2G_t, Dx.zip2G_tl, Dx.loopM_map, Dx.biM, Dx.compM, Dx.compL_map, Dx.compI_ret, Dx.wipeG, Dx.rng2_ok, Dx.rng1_ok, Dx.seqRng_ok, Dx.rngG, Dx.any_ok, Dx.all_ok, Dx.filter_yes, Dx.rngI_length, Dx.ite_or, Dx.ite_and, Dx.ite_orB, Dx.ite_andB, m__law_is_told, v0, v1, v2, v3, v4, p0, p1, lparts_ok h, told]
def inB (a b : Int) (l : List Int) : Prop := ∀ i ∈ l, a ≤ i ∧ i ≤ b
theorem inB_no {a b : Int} {l : List Int} (h : inB a b l) : ¬ ∃ x, x ∈ l ∧ (a ≤ x → b < x) := by
  rintro ⟨x, hx, k⟩
  have := h x hx
  omega
theorem inB_all {a b : Int} {l : List Int} (h : inB a b l) : (l.all fun i => decide (a ≤ i ∧ i ≤ b)) = true := List.all_eq_true.mpr fun i hi => decide_eq_true (h i hi)
theorem is_told_ok {s lo hi a b v : Int} (h : VOk s lo hi) (g : BOk a b) (h1 : -200 ≤ v) (h2 : v ≤ 200) {l : List Int} (hl : l.length ≤ 60) (hb : inB a b l) :
    m_is_told [vt s lo hi, pr a b, .int v, .tup (l.map .int)] = ret (.bl (told (par s (hi - lo)) a b l)) := by
  have hb' := inB_no hb
  have hl' : ¬ (60 < (l.length : Int)) := by omega
  have c1 := check_bounds_ok h g
  obtain ⟨g1, g2, g3⟩ := g
  simp (config := {maxSteps := 3000000}) (disch := omega) [Dx.fnM_ev', Dx.seqM_ev, Dx.seqK_next, Dx.seqK_ret, Dx.seqK_brk, Dx.seqK_cont, Dx.finM_ret, Dx.finM_next, Dx.retM, Dx.setM, Dx.setN, Dx.parM, Dx.oldM, Dx.newM, Dx.Val.slot, Dx.appM, Dx.plnM, Dx.ifM, Dx.exprM, Dx.skipM, Dx.failM, Dx.brkM, Dx.contM, Dx.con, Dx.callM, Dx.consM, Dx.nilM, Dx.op2, Dx.ts2, Dx.tsB, Dx.tNotM, Dx.tAndM, Dx.tOrM, Dx.andM, Dx.orM, Dx.notM, Dx.iteM, Dx.isiM, Dx.isiD, Dx.tyD, Dx.isaB, Dx.chB, Dx.blM, Dx.lenG, Dx.negM, Dx.negG, Dx.tupM, Dx.lstM, Dx.frzM, Dx.asgM, Dx.asgT, Dx.setAll, Dx.bnd_ret, Dx.bnd_fail, Dx.bnd_bnd, Dx.lift_val, Dx.lift_no, Dx.ev_0, Dx.ev_1, Dx.ev_2, Dx.ev_3, Dx.ev_4, Dx.ev_5, Dx.ev_6, Dx.ev_7, Dx.ev_8, Dx.ev_9, Dx.ev_10, Dx.ev_11, Dx.ev_12, Dx.ev_13, Dx.ev_14, Dx.ev_15, Dx.ev_16, Dx.ev_17, Dx.ev_18, Dx.ev_19, Dx.ev_20, Dx.ev_21, Dx.ev_22, Dx.ev_23, Dx.ev_24, Dx.ev_25, Dx.pk_0, Dx.pk_1, Dx.pk_2, Dx.pk_3, Dx.pk_4, Dx.pk_5, Dx.pk_6, Dx.pk_7, Dx.pk_8, Dx.pk_9, Dx.pk_10, Dx.pk_11, Dx.pk_12, Dx.pk_13, Dx.pk_14, Dx.pk_15, Dx.pk_16, Dx.pk_17, Dx.pk_18, Dx.pk_19, Dx.pk_20, Dx.pk_21, Dx.pk_22, Dx.pk_23, Dx.pk_24, Dx.pk_25, Dx.st_0, Dx.st_1, Dx.st_2, Dx.st_3, Dx.st_4, Dx.st_5, Dx.st_6, Dx.st_7, Dx.st_8, Dx.st_9, Dx.st_10, Dx.st_11, Dx.st_12, Dx.st_13, Dx.st_14, Dx.st_15, Dx.st_16, Dx.st_17, Dx.st_18, Dx.st_19, Dx.st_20, Dx.st_21, Dx.st_22, Dx.st_23, Dx.st_24, Dx.st_25, Dx.ow_0, Dx.ow_1, Dx.ow_2, Dx.ow_3, Dx.ow_4, Dx.ow_5, Dx.ow_6, Dx.ow_7, Dx.ow_8, Dx.ow_9, Dx.ow_10, Dx.ow_11, Dx.ow_12, Dx.ow_13, Dx.ow_14, Dx.ow_15, Dx.ow_16, Dx.ow_17, Dx.ow_18, Dx.ow_19, Dx.ow_20, Dx.ow_21, Dx.ow_22, Dx.ow_23, Dx.ow_24, Dx.ow_25, Dx.pk_o, Dx.gam0, Dx.ixD_t, Dx.ixD_l, Dx.atI_0, Dx.atI_1, Dx.atI_2, Dx.atI_3, Dx.atI_4, Dx.asB_b, Dx.addD_i, Dx.subD_i, Dx.addD_t, Dx.addD_l, Dx.mulD_l, Dx.fdivD_s, Dx.modD_p, Dx.cmpI_i, Dx.absG_i, Dx.szOk_le, Dx.tupG, Dx.yesM, Dx.seqI, Dx.seqG_t, Dx.seqG_l, Dx.seqZ_t, Dx.seqZ_l, Dx.starM, Dx.compL_nil, Dx.compL_cons, Dx.all_2, Dx.any_2, Dx.neD_i, Dx.eqD_i, Dx.neD_b, Dx.cut_from1, Dx.cut_to, Dx.sliceM, Dx.noBd, Dx.someBd, Dx.asI, Dx.sliceD_t, Dx.sliceD_l, Dx.zipL3_ints, Dx.zipL2_ints, Dx.zip3G_t, Dx.zip2G_t, Dx.zip2G_tl, Dx.loopM_map, Dx.biM, Dx.compM, Dx.compL_map, Dx.compI_ret, Dx.wipeG, Dx.rng2_ok, Dx.rng1_ok, Dx.seqRng_ok, Dx.rngG, Dx.any_ok, Dx.all_ok, Dx.filter_yes, Dx.rngI_length, Dx.ite_or, Dx.ite_and, Dx.ite_orB, Dx.ite_andB, m_is_told, v0, v1, v2, v3, v4, p0, p1, c1, check_level_ok h h1 h2, is_tuple_tup, is_integer_int, parts_ok h, told, hb', hl']
theorem telling_ok {s lo hi a b v : Int} (h : VOk s lo hi) (g : BOk a b) (h1 : a ≤ v) (h2 : v ≤ b) :
    m_telling [vt s lo hi, pr a b, .int v] = ret (.tup (((rg a b).filter fun one => par s (hi - lo) one v).map .int)) := by
  have c1 := check_bounds_ok h g
  obtain ⟨g1, g2, g3⟩ := g
  simp (config := {maxSteps := 3000000}) (disch := omega) [Dx.fnM_ev', Dx.seqM_ev, Dx.seqK_next, Dx.seqK_ret, Dx.seqK_brk, Dx.seqK_cont, Dx.finM_ret, Dx.finM_next, Dx.retM, Dx.setM, Dx.setN, Dx.parM, Dx.oldM, Dx.newM, Dx.Val.slot, Dx.appM, Dx.plnM, Dx.ifM, Dx.exprM, Dx.skipM, Dx.failM, Dx.brkM, Dx.contM, Dx.con, Dx.callM, Dx.consM, Dx.nilM, Dx.op2, Dx.ts2, Dx.tsB, Dx.tNotM, Dx.tAndM, Dx.tOrM, Dx.andM, Dx.orM, Dx.notM, Dx.iteM, Dx.isiM, Dx.isiD, Dx.tyD, Dx.isaB, Dx.chB, Dx.blM, Dx.lenG, Dx.negM, Dx.negG, Dx.tupM, Dx.lstM, Dx.frzM, Dx.asgM, Dx.asgT, Dx.setAll, Dx.bnd_ret, Dx.bnd_fail, Dx.bnd_bnd, Dx.lift_val, Dx.lift_no, Dx.ev_0, Dx.ev_1, Dx.ev_2, Dx.ev_3, Dx.ev_4, Dx.ev_5, Dx.ev_6, Dx.ev_7, Dx.ev_8, Dx.ev_9, Dx.ev_10, Dx.ev_11, Dx.ev_12, Dx.ev_13, Dx.ev_14, Dx.ev_15, Dx.ev_16, Dx.ev_17, Dx.ev_18, Dx.ev_19, Dx.ev_20, Dx.ev_21, Dx.ev_22, Dx.ev_23, Dx.ev_24, Dx.ev_25, Dx.pk_0, Dx.pk_1, Dx.pk_2, Dx.pk_3, Dx.pk_4, Dx.pk_5, Dx.pk_6, Dx.pk_7, Dx.pk_8, Dx.pk_9, Dx.pk_10, Dx.pk_11, Dx.pk_12, Dx.pk_13, Dx.pk_14, Dx.pk_15, Dx.pk_16, Dx.pk_17, Dx.pk_18, Dx.pk_19, Dx.pk_20, Dx.pk_21, Dx.pk_22, Dx.pk_23, Dx.pk_24, Dx.pk_25, Dx.st_0, Dx.st_1, Dx.st_2, Dx.st_3, Dx.st_4, Dx.st_5, Dx.st_6, Dx.st_7, Dx.st_8, Dx.st_9, Dx.st_10, Dx.st_11, Dx.st_12, Dx.st_13, Dx.st_14, Dx.st_15, Dx.st_16, Dx.st_17, Dx.st_18, Dx.st_19, Dx.st_20, Dx.st_21, Dx.st_22, Dx.st_23, Dx.st_24, Dx.st_25, Dx.ow_0, Dx.ow_1, Dx.ow_2, Dx.ow_3, Dx.ow_4, Dx.ow_5, Dx.ow_6, Dx.ow_7, Dx.ow_8, Dx.ow_9, Dx.ow_10, Dx.ow_11, Dx.ow_12, Dx.ow_13, Dx.ow_14, Dx.ow_15, Dx.ow_16, Dx.ow_17, Dx.ow_18, Dx.ow_19, Dx.ow_20, Dx.ow_21, Dx.ow_22, Dx.ow_23, Dx.ow_24, Dx.ow_25, Dx.pk_o, Dx.gam0, Dx.ixD_t, Dx.ixD_l, Dx.atI_0, Dx.atI_1, Dx.atI_2, Dx.atI_3, Dx.atI_4, Dx.asB_b, Dx.addD_i, Dx.subD_i, Dx.addD_t, Dx.addD_l, Dx.mulD_l, Dx.fdivD_s, Dx.modD_p, Dx.cmpI_i, Dx.absG_i, Dx.szOk_le, Dx.tupG, Dx.yesM, Dx.seqI, Dx.seqG_t, Dx.seqG_l, Dx.seqZ_t, Dx.seqZ_l, Dx.starM, Dx.compL_nil, Dx.compL_cons, Dx.all_2, Dx.any_2, Dx.neD_i, Dx.eqD_i, Dx.neD_b, Dx.cut_from1, Dx.cut_to, Dx.sliceM, Dx.noBd, Dx.someBd, Dx.asI, Dx.sliceD_t, Dx.sliceD_l, Dx.zipL3_ints, Dx.zipL2_ints, Dx.zip3G_t, Dx.zip2G_t, Dx.zip2G_tl, Dx.loopM_map, Dx.biM, Dx.compM, Dx.compL_map, Dx.compI_ret, Dx.wipeG, Dx.rng2_ok, Dx.rng1_ok, Dx.seqRng_ok, Dx.rngG, Dx.any_ok, Dx.all_ok, Dx.filter_yes, Dx.rngI_length, Dx.ite_or, Dx.ite_and, Dx.ite_orB, Dx.ite_andB, m_telling, v0, v1, v2, v3, v4, p0, p1, c1, is_integer_int, parts_ok h, h1, h2]
theorem shows_ok {s lo hi a b : Int} (h : VOk s lo hi) (g : BOk a b) {l : List Int} (hl : l.length = 2) (hb : inB a b l) :
    m_shows_row [vt s lo hi, pr a b, .tup [.str "row", .tup (l.map .int)]] = ret (.bl (told (par s (hi - lo)) a b l)) := by
  have hb' := inB_no hb
  have hl' : ¬ (60 < (l.length : Int)) := by omega
  have c1 := check_bounds_ok h g
  have e1 := eq_ok (nice_str (x := "row") (w := 10) (by decide +kernel) (by decide +kernel)) (nice_str (x := "never") (w := 10) (by decide +kernel) (by decide +kernel)) (by decide) (by decide)
  have e2 := ne_ok (nice_str (x := "row") (w := 10) (by decide +kernel) (by decide +kernel)) (nice_str (x := "row") (w := 10) (by decide +kernel) (by decide +kernel)) (by decide) (by decide)
  have e3 : eqvD (.str "row") (.str "never") = false := by rw [eqv_str]; decide +kernel
  have e4 : eqvD (.str "row") (.str "row") = true := eqv_str_self _
  rw [e3] at e1
  rw [e4] at e2
  obtain ⟨g1, g2, g3⟩ := g
  have t3 : m_is_tuple [.tup [.str "row", .tup (l.map .int)], .int 2, .int 2] = ret (.bl true) := is_tuple_tup [.str "row", .tup (l.map .int)] 2 2
  simp (config := {maxSteps := 3000000}) (disch := omega) [Dx.fnM_ev', Dx.seqM_ev, Dx.seqK_next, Dx.seqK_ret, Dx.seqK_brk, Dx.seqK_cont, Dx.finM_ret, Dx.finM_next, Dx.retM, Dx.setM, Dx.setN, Dx.parM, Dx.oldM, Dx.newM, Dx.Val.slot, Dx.appM, Dx.plnM, Dx.ifM, Dx.exprM, Dx.skipM, Dx.failM, Dx.brkM, Dx.contM, Dx.con, Dx.callM, Dx.consM, Dx.nilM, Dx.op2, Dx.ts2, Dx.tsB, Dx.tNotM, Dx.tAndM, Dx.tOrM, Dx.andM, Dx.orM, Dx.notM, Dx.iteM, Dx.isiM, Dx.isiD, Dx.tyD, Dx.isaB, Dx.chB, Dx.blM, Dx.lenG, Dx.negM, Dx.negG, Dx.tupM, Dx.lstM, Dx.frzM, Dx.asgM, Dx.asgT, Dx.setAll, Dx.bnd_ret, Dx.bnd_fail, Dx.bnd_bnd, Dx.lift_val, Dx.lift_no, Dx.ev_0, Dx.ev_1, Dx.ev_2, Dx.ev_3, Dx.ev_4, Dx.ev_5, Dx.ev_6, Dx.ev_7, Dx.ev_8, Dx.ev_9, Dx.ev_10, Dx.ev_11, Dx.ev_12, Dx.ev_13, Dx.ev_14, Dx.ev_15, Dx.ev_16, Dx.ev_17, Dx.ev_18, Dx.ev_19, Dx.ev_20, Dx.ev_21, Dx.ev_22, Dx.ev_23, Dx.ev_24, Dx.ev_25, Dx.pk_0, Dx.pk_1, Dx.pk_2, Dx.pk_3, Dx.pk_4, Dx.pk_5, Dx.pk_6, Dx.pk_7, Dx.pk_8, Dx.pk_9, Dx.pk_10, Dx.pk_11, Dx.pk_12, Dx.pk_13, Dx.pk_14, Dx.pk_15, Dx.pk_16, Dx.pk_17, Dx.pk_18, Dx.pk_19, Dx.pk_20, Dx.pk_21, Dx.pk_22, Dx.pk_23, Dx.pk_24, Dx.pk_25, Dx.st_0, Dx.st_1, Dx.st_2, Dx.st_3, Dx.st_4, Dx.st_5, Dx.st_6, Dx.st_7, Dx.st_8, Dx.st_9, Dx.st_10, Dx.st_11, Dx.st_12, Dx.st_13, Dx.st_14, Dx.st_15, Dx.st_16, Dx.st_17, Dx.st_18, Dx.st_19, Dx.st_20, Dx.st_21, Dx.st_22, Dx.st_23, Dx.st_24, Dx.st_25, Dx.ow_0, Dx.ow_1, Dx.ow_2, Dx.ow_3, Dx.ow_4, Dx.ow_5, Dx.ow_6, Dx.ow_7, Dx.ow_8, Dx.ow_9, Dx.ow_10, Dx.ow_11, Dx.ow_12, Dx.ow_13, Dx.ow_14, Dx.ow_15, Dx.ow_16, Dx.ow_17, Dx.ow_18, Dx.ow_19, Dx.ow_20, Dx.ow_21, Dx.ow_22, Dx.ow_23, Dx.ow_24, Dx.ow_25, Dx.pk_o, Dx.gam0, Dx.ixD_t, Dx.ixD_l, Dx.atI_0, Dx.atI_1, Dx.atI_2, Dx.atI_3, Dx.atI_4, Dx.asB_b, Dx.addD_i, Dx.subD_i, Dx.addD_t, Dx.addD_l, Dx.mulD_l, Dx.fdivD_s, Dx.modD_p, Dx.cmpI_i, Dx.absG_i, Dx.szOk_le, Dx.tupG, Dx.yesM, Dx.seqI, Dx.seqG_t, Dx.seqG_l, Dx.seqZ_t, Dx.seqZ_l, Dx.starM, Dx.compL_nil, Dx.compL_cons, Dx.all_2, Dx.any_2, Dx.neD_i, Dx.eqD_i, Dx.neD_b, Dx.cut_from1, Dx.cut_to, Dx.sliceM, Dx.noBd, Dx.someBd, Dx.asI, Dx.sliceD_t, Dx.sliceD_l, Dx.zipL3_ints, Dx.zipL2_ints, Dx.zip3G_t, Dx.zip2G_t, Dx.zip2G_tl, Dx.loopM_map, Dx.biM, Dx.compM, Dx.compL_map, Dx.compI_ret, Dx.wipeG, Dx.rng2_ok, Dx.rng1_ok, Dx.seqRng_ok, Dx.rngG, Dx.any_ok, Dx.all_ok, Dx.filter_yes, Dx.rngI_length, Dx.ite_or, Dx.ite_and, Dx.ite_orB, Dx.ite_andB, m_shows_row, v0, v1, v2, v3, v4, p0, p1, c1, t3, is_tuple_tup, hl, is_integer_int, parts_ok h, told, e1, e2, hb']
/-- fine, or stuck at a place -/
def fD : Option Int → D
  | none => .tup [.str "fine"]
  | some n => .tup [.str "stuck", .int n]
def realOf (f : Option Int) (a : Int) : Int := f.getD a
def fitB (s lo hi : Int) (f : Option Int) (t : Int × Int × Int) : Bool := decide (lo ≤ t.2.2 - t.2.1 - s * realOf f t.1 ∧ t.2.2 - t.2.1 - s * realOf f t.1 ≤ hi)
theorem ff : eqD (.str "fine") (.str "fine") = some (.bl true) := by
  have e := eq_ok (nice_str (x := "fine") (w := 10) (by decide +kernel) (by decide +kernel)) (nice_str (x := "fine") (w := 10) (by decide +kernel) (by decide +kernel)) (by decide) (by decide)
  rwa [eqv_str_self] at e
theorem sf : eqD (.str "stuck") (.str "fine") = some (.bl false) := by
  have e := eq_ok (nice_str (x := "stuck") (w := 10) (by decide +kernel) (by decide +kernel)) (nice_str (x := "fine") (w := 10) (by decide +kernel) (by decide +kernel)) (by decide) (by decide)
  have e2 : eqvD (.str "stuck") (.str "fine") = false := by rw [eqv_str]; decide +kernel
  rwa [e2] at e
theorem fits_ok {s lo hi : Int} (h : VOk s lo hi) (f : Option Int) (t : Int × Int × Int) : m_fits [vt s lo hi, fD f, .int t.1, .int t.2.1, .int t.2.2] = ret (.bl (fitB s lo hi f t)) := by
  have lv := fun l a w => level_by_ok h l a w
  cases f with
  | none =>
    simp (config := {maxSteps := 3000000}) (disch := omega) [Dx.fnM_ev', Dx.seqM_ev, Dx.seqK_next, Dx.seqK_ret, Dx.seqK_brk, Dx.seqK_cont, Dx.finM_ret, Dx.finM_next, Dx.retM, Dx.setM, Dx.setN, Dx.parM, Dx.oldM, Dx.newM, Dx.Val.slot, Dx.appM, Dx.plnM, Dx.ifM, Dx.exprM, Dx.skipM, Dx.failM, Dx.brkM, Dx.contM, Dx.con, Dx.callM, Dx.consM, Dx.nilM, Dx.op2, Dx.ts2, Dx.tsB, Dx.tNotM, Dx.tAndM, Dx.tOrM, Dx.andM, Dx.orM, Dx.notM, Dx.iteM, Dx.isiM, Dx.isiD, Dx.tyD, Dx.isaB, Dx.chB, Dx.blM, Dx.lenG, Dx.negM, Dx.negG, Dx.tupM, Dx.lstM, Dx.frzM, Dx.asgM, Dx.asgT, Dx.setAll, Dx.bnd_ret, Dx.bnd_fail, Dx.bnd_bnd, Dx.lift_val, Dx.lift_no, Dx.ev_0, Dx.ev_1, Dx.ev_2, Dx.ev_3, Dx.ev_4, Dx.ev_5, Dx.ev_6, Dx.ev_7, Dx.ev_8, Dx.ev_9, Dx.ev_10, Dx.ev_11, Dx.ev_12, Dx.ev_13, Dx.ev_14, Dx.ev_15, Dx.ev_16, Dx.ev_17, Dx.ev_18, Dx.ev_19, Dx.ev_20, Dx.ev_21, Dx.ev_22, Dx.ev_23, Dx.ev_24, Dx.ev_25, Dx.pk_0, Dx.pk_1, Dx.pk_2, Dx.pk_3, Dx.pk_4, Dx.pk_5, Dx.pk_6, Dx.pk_7, Dx.pk_8, Dx.pk_9, Dx.pk_10, Dx.pk_11, Dx.pk_12, Dx.pk_13, Dx.pk_14, Dx.pk_15, Dx.pk_16, Dx.pk_17, Dx.pk_18, Dx.pk_19, Dx.pk_20, Dx.pk_21, Dx.pk_22, Dx.pk_23, Dx.pk_24, Dx.pk_25, Dx.st_0, Dx.st_1, Dx.st_2, Dx.st_3, Dx.st_4, Dx.st_5, Dx.st_6, Dx.st_7, Dx.st_8, Dx.st_9, Dx.st_10, Dx.st_11, Dx.st_12, Dx.st_13, Dx.st_14, Dx.st_15, Dx.st_16, Dx.st_17, Dx.st_18, Dx.st_19, Dx.st_20, Dx.st_21, Dx.st_22, Dx.st_23, Dx.st_24, Dx.st_25, Dx.ow_0, Dx.ow_1, Dx.ow_2, Dx.ow_3, Dx.ow_4, Dx.ow_5, Dx.ow_6, Dx.ow_7, Dx.ow_8, Dx.ow_9, Dx.ow_10, Dx.ow_11, Dx.ow_12, Dx.ow_13, Dx.ow_14, Dx.ow_15, Dx.ow_16, Dx.ow_17, Dx.ow_18, Dx.ow_19, Dx.ow_20, Dx.ow_21, Dx.ow_22, Dx.ow_23, Dx.ow_24, Dx.ow_25, Dx.pk_o, Dx.gam0, Dx.ixD_t, Dx.ixD_l, Dx.atI_0, Dx.atI_1, Dx.atI_2, Dx.atI_3, Dx.atI_4, Dx.asB_b, Dx.addD_i, Dx.subD_i, Dx.addD_t, Dx.addD_l, Dx.mulD_l, Dx.fdivD_s, Dx.modD_p, Dx.cmpI_i, Dx.absG_i, Dx.szOk_le, Dx.tupG, Dx.yesM, Dx.seqI, Dx.seqG_t, Dx.seqG_l, Dx.seqZ_t, Dx.seqZ_l, Dx.starM, Dx.compL_nil, Dx.compL_cons, Dx.all_2, Dx.any_2, Dx.neD_i, Dx.eqD_i, Dx.neD_b, Dx.cut_from1, Dx.cut_to, Dx.sliceM, Dx.noBd, Dx.someBd, Dx.asI, Dx.sliceD_t, Dx.sliceD_l, Dx.zipL3_ints, Dx.zipL2_ints, Dx.zip3G_t, Dx.zip2G_t, Dx.zip2G_tl, Dx.loopM_map, Dx.biM, Dx.compM, Dx.compL_map, Dx.compI_ret, Dx.wipeG, Dx.rng2_ok, Dx.rng1_ok, Dx.seqRng_ok, Dx.rngG, Dx.any_ok, Dx.all_ok, Dx.filter_yes, Dx.rngI_length, Dx.ite_or, Dx.ite_and, Dx.ite_orB, Dx.ite_andB, m_fits, v0, v1, v2, v3, v4, p0, p1, fD, ff, pr, lv, fitB, realOf]
    congr 2
    rw [← Bool.decide_and]
    apply decide_eq_decide.mpr
    omega
  | some n =>
    simp (config := {maxSteps := 3000000}) (disch := omega) [Dx.fnM_ev', Dx.seqM_ev, Dx.seqK_next, Dx.seqK_ret, Dx.seqK_brk, Dx.seqK_cont, Dx.finM_ret, Dx.finM_next, Dx.retM, Dx.setM, Dx.setN, Dx.parM, Dx.oldM, Dx.newM, Dx.Val.slot, Dx.appM, Dx.plnM, Dx.ifM, Dx.exprM, Dx.skipM, Dx.failM, Dx.brkM, Dx.contM, Dx.con, Dx.callM, Dx.consM, Dx.nilM, Dx.op2, Dx.ts2, Dx.tsB, Dx.tNotM, Dx.tAndM, Dx.tOrM, Dx.andM, Dx.orM, Dx.notM, Dx.iteM, Dx.isiM, Dx.isiD, Dx.tyD, Dx.isaB, Dx.chB, Dx.blM, Dx.lenG, Dx.negM, Dx.negG, Dx.tupM, Dx.lstM, Dx.frzM, Dx.asgM, Dx.asgT, Dx.setAll, Dx.bnd_ret, Dx.bnd_fail, Dx.bnd_bnd, Dx.lift_val, Dx.lift_no, Dx.ev_0, Dx.ev_1, Dx.ev_2, Dx.ev_3, Dx.ev_4, Dx.ev_5, Dx.ev_6, Dx.ev_7, Dx.ev_8, Dx.ev_9, Dx.ev_10, Dx.ev_11, Dx.ev_12, Dx.ev_13, Dx.ev_14, Dx.ev_15, Dx.ev_16, Dx.ev_17, Dx.ev_18, Dx.ev_19, Dx.ev_20, Dx.ev_21, Dx.ev_22, Dx.ev_23, Dx.ev_24, Dx.ev_25, Dx.pk_0, Dx.pk_1, Dx.pk_2, Dx.pk_3, Dx.pk_4, Dx.pk_5, Dx.pk_6, Dx.pk_7, Dx.pk_8, Dx.pk_9, Dx.pk_10, Dx.pk_11, Dx.pk_12, Dx.pk_13, Dx.pk_14, Dx.pk_15, Dx.pk_16, Dx.pk_17, Dx.pk_18, Dx.pk_19, Dx.pk_20, Dx.pk_21, Dx.pk_22, Dx.pk_23, Dx.pk_24, Dx.pk_25, Dx.st_0, Dx.st_1, Dx.st_2, Dx.st_3, Dx.st_4, Dx.st_5, Dx.st_6, Dx.st_7, Dx.st_8, Dx.st_9, Dx.st_10, Dx.st_11, Dx.st_12, Dx.st_13, Dx.st_14, Dx.st_15, Dx.st_16, Dx.st_17, Dx.st_18, Dx.st_19, Dx.st_20, Dx.st_21, Dx.st_22, Dx.st_23, Dx.st_24, Dx.st_25, Dx.ow_0, Dx.ow_1, Dx.ow_2, Dx.ow_3, Dx.ow_4, Dx.ow_5, Dx.ow_6, Dx.ow_7, Dx.ow_8, Dx.ow_9, Dx.ow_10, Dx.ow_11, Dx.ow_12, Dx.ow_13, Dx.ow_14, Dx.ow_15, Dx.ow_16, Dx.ow_17, Dx.ow_18, Dx.ow_19, Dx.ow_20, Dx.ow_21, Dx.ow_22, Dx.ow_23, Dx.ow_24, Dx.ow_25, Dx.pk_o, Dx.gam0, Dx.ixD_t, Dx.ixD_l, Dx.atI_0, Dx.atI_1, Dx.atI_2, Dx.atI_3, Dx.atI_4, Dx.asB_b, Dx.addD_i, Dx.subD_i, Dx.addD_t, Dx.addD_l, Dx.mulD_l, Dx.fdivD_s, Dx.modD_p, Dx.cmpI_i, Dx.absG_i, Dx.szOk_le, Dx.tupG, Dx.yesM, Dx.seqI, Dx.seqG_t, Dx.seqG_l, Dx.seqZ_t, Dx.seqZ_l, Dx.starM, Dx.compL_nil, Dx.compL_cons, Dx.all_2, Dx.any_2, Dx.neD_i, Dx.eqD_i, Dx.neD_b, Dx.cut_from1, Dx.cut_to, Dx.sliceM, Dx.noBd, Dx.someBd, Dx.asI, Dx.sliceD_t, Dx.sliceD_l, Dx.zipL3_ints, Dx.zipL2_ints, Dx.zip3G_t, Dx.zip2G_t, Dx.zip2G_tl, Dx.loopM_map, Dx.biM, Dx.compM, Dx.compL_map, Dx.compI_ret, Dx.wipeG, Dx.rng2_ok, Dx.rng1_ok, Dx.seqRng_ok, Dx.rngG, Dx.any_ok, Dx.all_ok, Dx.filter_yes, Dx.rngI_length, Dx.ite_or, Dx.ite_and, Dx.ite_orB, Dx.ite_andB, m_fits, v0, v1, v2, v3, v4, p0, p1, fD, sf, pr, lv, fitB, realOf]
    congr 2
    rw [← Bool.decide_and]
    apply decide_eq_decide.mpr
    omega
def faults (a b : Int) : List (Option Int) := none :: (rg a b).map some
theorem all_faults_ok {a b : Int} (g : BOk a b) : m_all_faults [pr a b] = ret (.lst ((faults a b).map fD)) := by
  obtain ⟨g1, g2, g3⟩ := g
  simp (config := {maxSteps := 3000000}) (disch := omega) [Dx.fnM_ev', Dx.seqM_ev, Dx.seqK_next, Dx.seqK_ret, Dx.seqK_brk, Dx.seqK_cont, Dx.finM_ret, Dx.finM_next, Dx.retM, Dx.setM, Dx.setN, Dx.parM, Dx.oldM, Dx.newM, Dx.Val.slot, Dx.appM, Dx.plnM, Dx.ifM, Dx.exprM, Dx.skipM, Dx.failM, Dx.brkM, Dx.contM, Dx.con, Dx.callM, Dx.consM, Dx.nilM, Dx.op2, Dx.ts2, Dx.tsB, Dx.tNotM, Dx.tAndM, Dx.tOrM, Dx.andM, Dx.orM, Dx.notM, Dx.iteM, Dx.isiM, Dx.isiD, Dx.tyD, Dx.isaB, Dx.chB, Dx.blM, Dx.lenG, Dx.negM, Dx.negG, Dx.tupM, Dx.lstM, Dx.frzM, Dx.asgM, Dx.asgT, Dx.setAll, Dx.bnd_ret, Dx.bnd_fail, Dx.bnd_bnd, Dx.lift_val, Dx.lift_no, Dx.ev_0, Dx.ev_1, Dx.ev_2, Dx.ev_3, Dx.ev_4, Dx.ev_5, Dx.ev_6, Dx.ev_7, Dx.ev_8, Dx.ev_9, Dx.ev_10, Dx.ev_11, Dx.ev_12, Dx.ev_13, Dx.ev_14, Dx.ev_15, Dx.ev_16, Dx.ev_17, Dx.ev_18, Dx.ev_19, Dx.ev_20, Dx.ev_21, Dx.ev_22, Dx.ev_23, Dx.ev_24, Dx.ev_25, Dx.pk_0, Dx.pk_1, Dx.pk_2, Dx.pk_3, Dx.pk_4, Dx.pk_5, Dx.pk_6, Dx.pk_7, Dx.pk_8, Dx.pk_9, Dx.pk_10, Dx.pk_11, Dx.pk_12, Dx.pk_13, Dx.pk_14, Dx.pk_15, Dx.pk_16, Dx.pk_17, Dx.pk_18, Dx.pk_19, Dx.pk_20, Dx.pk_21, Dx.pk_22, Dx.pk_23, Dx.pk_24, Dx.pk_25, Dx.st_0, Dx.st_1, Dx.st_2, Dx.st_3, Dx.st_4, Dx.st_5, Dx.st_6, Dx.st_7, Dx.st_8, Dx.st_9, Dx.st_10, Dx.st_11, Dx.st_12, Dx.st_13, Dx.st_14, Dx.st_15, Dx.st_16, Dx.st_17, Dx.st_18, Dx.st_19, Dx.st_20, Dx.st_21, Dx.st_22, Dx.st_23, Dx.st_24, Dx.st_25, Dx.ow_0, Dx.ow_1, Dx.ow_2, Dx.ow_3, Dx.ow_4, Dx.ow_5, Dx.ow_6, Dx.ow_7, Dx.ow_8, Dx.ow_9, Dx.ow_10, Dx.ow_11, Dx.ow_12, Dx.ow_13, Dx.ow_14, Dx.ow_15, Dx.ow_16, Dx.ow_17, Dx.ow_18, Dx.ow_19, Dx.ow_20, Dx.ow_21, Dx.ow_22, Dx.ow_23, Dx.ow_24, Dx.ow_25, Dx.pk_o, Dx.gam0, Dx.ixD_t, Dx.ixD_l, Dx.atI_0, Dx.atI_1, Dx.atI_2, Dx.atI_3, Dx.atI_4, Dx.asB_b, Dx.addD_i, Dx.subD_i, Dx.addD_t, Dx.addD_l, Dx.mulD_l, Dx.fdivD_s, Dx.modD_p, Dx.cmpI_i, Dx.absG_i, Dx.szOk_le, Dx.tupG, Dx.yesM, Dx.seqI, Dx.seqG_t, Dx.seqG_l, Dx.seqZ_t, Dx.seqZ_l, Dx.starM, Dx.compL_nil, Dx.compL_cons, Dx.all_2, Dx.any_2, Dx.neD_i, Dx.eqD_i, Dx.neD_b, Dx.cut_from1, Dx.cut_to, Dx.sliceM, Dx.noBd, Dx.someBd, Dx.asI, Dx.sliceD_t, Dx.sliceD_l, Dx.zipL3_ints, Dx.zipL2_ints, Dx.zip3G_t, Dx.zip2G_t, Dx.zip2G_tl, Dx.loopM_map, Dx.biM, Dx.compM, Dx.compL_map, Dx.compI_ret, Dx.wipeG, Dx.rng2_ok, Dx.rng1_ok, Dx.seqRng_ok, Dx.rngG, Dx.any_ok, Dx.all_ok, Dx.filter_yes, Dx.rngI_length, Dx.ite_or, Dx.ite_and, Dx.ite_orB, Dx.ite_andB, m_all_faults, v0, v1, v2, v3, v4, p0, p1, faults, fD]
  rfl
structure SOk (a b : Int) (row lev : List Int) : Prop where
  r1 : row.length ≤ 60
  l1 : lev.length = row.length + 1
  rb : inB a b row
  lb : inB (-200) 200 lev
def sn (row lev : List Int) : D := .tup [.tup (row.map .int), .tup (lev.map .int)]
theorem is_seen_ok {s lo hi a b : Int} (h : VOk s lo hi) (g : BOk a b) {row lev : List Int} (k : SOk a b row lev) : m_is_seen [vt s lo hi, pr a b, sn row lev] = ret (.bl true) := by
  obtain ⟨r1, l1, rb, lb⟩ := k
  have hb1 := inB_no rb
  have hb2 := inB_no lb
  have h1 : (row.length : Int) ≤ 60 + 1 := by omega
  have h2 : ((row.length + 1 : Nat) : Int) ≤ 60 + 1 := by omega
  have h3 : ((lev.length : Nat) : Int) = (row.length : Int) + 1 := by omega
  have h4 : ¬ (∃ x, x ∈ lev ∧ (-200 ≤ x → 200 < x)) := hb2
  have t3 : m_is_tuple [.tup [.tup (row.map .int), .tup (lev.map .int)], .int 2, .int 2] = ret (.bl true) := is_tuple_tup [.tup (row.map .int), .tup (lev.map .int)] 2 2
  have q1 : (row.length : Int) ≤ 61 := by omega
  have q2 : (row.length : Int) + 1 ≤ 61 := by omega
  have q3 : 0 ≤ (row.length : Int) + 1 := by omega
  have hl : (lev.all fun a => decide (-200 ≤ a) && decide (a ≤ 200)) = true := List.all_eq_true.mpr fun i hi => by
    have := lb i hi
    simp only [Bool.and_eq_true, decide_eq_true_eq]
    exact this
  simp (config := {maxSteps := 3000000}) (disch := omega) [Dx.fnM_ev', Dx.seqM_ev, Dx.seqK_next, Dx.seqK_ret, Dx.seqK_brk, Dx.seqK_cont, Dx.finM_ret, Dx.finM_next, Dx.retM, Dx.setM, Dx.setN, Dx.parM, Dx.oldM, Dx.newM, Dx.Val.slot, Dx.appM, Dx.plnM, Dx.ifM, Dx.exprM, Dx.skipM, Dx.failM, Dx.brkM, Dx.contM, Dx.con, Dx.callM, Dx.consM, Dx.nilM, Dx.op2, Dx.ts2, Dx.tsB, Dx.tNotM, Dx.tAndM, Dx.tOrM, Dx.andM, Dx.orM, Dx.notM, Dx.iteM, Dx.isiM, Dx.isiD, Dx.tyD, Dx.isaB, Dx.chB, Dx.blM, Dx.lenG, Dx.negM, Dx.negG, Dx.tupM, Dx.lstM, Dx.frzM, Dx.asgM, Dx.asgT, Dx.setAll, Dx.bnd_ret, Dx.bnd_fail, Dx.bnd_bnd, Dx.lift_val, Dx.lift_no, Dx.ev_0, Dx.ev_1, Dx.ev_2, Dx.ev_3, Dx.ev_4, Dx.ev_5, Dx.ev_6, Dx.ev_7, Dx.ev_8, Dx.ev_9, Dx.ev_10, Dx.ev_11, Dx.ev_12, Dx.ev_13, Dx.ev_14, Dx.ev_15, Dx.ev_16, Dx.ev_17, Dx.ev_18, Dx.ev_19, Dx.ev_20, Dx.ev_21, Dx.ev_22, Dx.ev_23, Dx.ev_24, Dx.ev_25, Dx.pk_0, Dx.pk_1, Dx.pk_2, Dx.pk_3, Dx.pk_4, Dx.pk_5, Dx.pk_6, Dx.pk_7, Dx.pk_8, Dx.pk_9, Dx.pk_10, Dx.pk_11, Dx.pk_12, Dx.pk_13, Dx.pk_14, Dx.pk_15, Dx.pk_16, Dx.pk_17, Dx.pk_18, Dx.pk_19, Dx.pk_20, Dx.pk_21, Dx.pk_22, Dx.pk_23, Dx.pk_24, Dx.pk_25, Dx.st_0, Dx.st_1, Dx.st_2, Dx.st_3, Dx.st_4, Dx.st_5, Dx.st_6, Dx.st_7, Dx.st_8, Dx.st_9, Dx.st_10, Dx.st_11, Dx.st_12, Dx.st_13, Dx.st_14, Dx.st_15, Dx.st_16, Dx.st_17, Dx.st_18, Dx.st_19, Dx.st_20, Dx.st_21, Dx.st_22, Dx.st_23, Dx.st_24, Dx.st_25, Dx.ow_0, Dx.ow_1, Dx.ow_2, Dx.ow_3, Dx.ow_4, Dx.ow_5, Dx.ow_6, Dx.ow_7, Dx.ow_8, Dx.ow_9, Dx.ow_10, Dx.ow_11, Dx.ow_12, Dx.ow_13, Dx.ow_14, Dx.ow_15, Dx.ow_16, Dx.ow_17, Dx.ow_18, Dx.ow_19, Dx.ow_20, Dx.ow_21, Dx.ow_22, Dx.ow_23, Dx.ow_24, Dx.ow_25, Dx.pk_o, Dx.gam0, Dx.ixD_t, Dx.ixD_l, Dx.atI_0, Dx.atI_1, Dx.atI_2, Dx.atI_3, Dx.atI_4, Dx.asB_b, Dx.addD_i, Dx.subD_i, Dx.addD_t, Dx.addD_l, Dx.mulD_l, Dx.fdivD_s, Dx.modD_p, Dx.cmpI_i, Dx.absG_i, Dx.szOk_le, Dx.tupG, Dx.yesM, Dx.seqI, Dx.seqG_t, Dx.seqG_l, Dx.seqZ_t, Dx.seqZ_l, Dx.starM, Dx.compL_nil, Dx.compL_cons, Dx.all_2, Dx.any_2, Dx.neD_i, Dx.eqD_i, Dx.neD_b, Dx.cut_from1, Dx.cut_to, Dx.sliceM, Dx.noBd, Dx.someBd, Dx.asI, Dx.sliceD_t, Dx.sliceD_l, Dx.zipL3_ints, Dx.zipL2_ints, Dx.zip3G_t, Dx.zip2G_t, Dx.zip2G_tl, Dx.loopM_map, Dx.biM, Dx.compM, Dx.compL_map, Dx.compI_ret, Dx.wipeG, Dx.rng2_ok, Dx.rng1_ok, Dx.seqRng_ok, Dx.rngG, Dx.any_ok, Dx.all_ok, Dx.filter_yes, Dx.rngI_length, Dx.ite_or, Dx.ite_and, Dx.ite_orB, Dx.ite_andB, m_is_seen, v0, v1, v2, v3, v4, p0, p1, sn, t3, is_tuple_tup, is_integer_int, h3, hb1, hb2, q1, q2, q3]
  rw [hl]
def steps (row lev : List Int) : List (Int × Int × Int) := z3 row lev lev.tail
def mayS (s lo hi a b : Int) (row lev : List Int) : List (Option Int) := (faults a b).filter fun f => (steps row lev).all fun t => fitB s lo hi f t
theorem steps_eq (row lev : List Int) : zipL3 (row.map .int) (lev.map .int) (lev.map .int).tail = (steps row lev).map fun t => .tup [.int t.1, .int t.2.1, .int t.2.2] := by
  rw [← List.map_tail, zipL3_ints]
  rfl
theorem steps_len (row lev : List Int) : (steps row lev).length ≤ row.length := by
  unfold steps z3
  rw [List.length_zip]
  omega
theorem faults_len (a b : Int) : (faults a b).length = (b + 1 - a).toNat + 1 := by
  unfold faults
  rw [List.length_cons, List.length_map, rngI_length]
theorem may_be_ok {s lo hi a b : Int} (h : VOk s lo hi) (g : BOk a b) {row lev : List Int} (k : SOk a b row lev) : m_may_be [vt s lo hi, pr a b, sn row lev] = ret (.tup ((mayS s lo hi a b row lev).map fD)) := by
  have c1 := check_bounds_ok h g
  have c2 := is_seen_ok h g k
  have c3 := all_faults_ok g
  have n1 : ixD (sn row lev) (.int 0) = some (.tup (row.map .int)) := atI_0 _ _
  have n2 : ixD (sn row lev) (.int 1) = some (.tup (lev.map .int)) := atI_1 _ _ _
  have sl := steps_len row lev
  have fl := faults_len a b
  obtain ⟨r1, l1, rb, lb⟩ := k
  obtain ⟨g1, g2, g3⟩ := g
  have step : ∀ (f : Option Int) (acc : List D) (x : Slot), acc.length < 1000 → ∃ y : Slot, (fun (f : Option Int) (Γ : Gam) => lb_may_be_1 (List.set Γ 4 (.val (fD f)))) f [.val (vt s lo hi), .val (pr a b), .val (sn row lev), .own (.lst acc), x, .none, .none, .none] =
      ret (.next, [.val (vt s lo hi), .val (pr a b), .val (sn row lev), .own (.lst (if ((steps row lev).all fun t => fitB s lo hi f t) = true then acc ++ [fD f] else acc)), y, .none, .none, .none]) := fun f acc x ha => by
    refine ⟨.val (fD f), ?_⟩
    have st := steps_eq row lev
    simp (config := {maxSteps := 3000000}) (disch := omega) [Dx.fnM_ev', Dx.seqM_ev, Dx.seqK_next, Dx.seqK_ret, Dx.seqK_brk, Dx.seqK_cont, Dx.finM_ret, Dx.finM_next, Dx.retM, Dx.setM, Dx.setN, Dx.parM, Dx.oldM, Dx.newM, Dx.Val.slot, Dx.appM, Dx.plnM, Dx.ifM, Dx.exprM, Dx.skipM, Dx.failM, Dx.brkM, Dx.contM, Dx.con, Dx.callM, Dx.consM, Dx.nilM, Dx.op2, Dx.ts2, Dx.tsB, Dx.tNotM, Dx.tAndM, Dx.tOrM, Dx.andM, Dx.orM, Dx.notM, Dx.iteM, Dx.isiM, Dx.isiD, Dx.tyD, Dx.isaB, Dx.chB, Dx.blM, Dx.lenG, Dx.negM, Dx.negG, Dx.tupM, Dx.lstM, Dx.frzM, Dx.asgM, Dx.asgT, Dx.setAll, Dx.bnd_ret, Dx.bnd_fail, Dx.bnd_bnd, Dx.lift_val, Dx.lift_no, Dx.ev_0, Dx.ev_1, Dx.ev_2, Dx.ev_3, Dx.ev_4, Dx.ev_5, Dx.ev_6, Dx.ev_7, Dx.ev_8, Dx.ev_9, Dx.ev_10, Dx.ev_11, Dx.ev_12, Dx.ev_13, Dx.ev_14, Dx.ev_15, Dx.ev_16, Dx.ev_17, Dx.ev_18, Dx.ev_19, Dx.ev_20, Dx.ev_21, Dx.ev_22, Dx.ev_23, Dx.ev_24, Dx.ev_25, Dx.pk_0, Dx.pk_1, Dx.pk_2, Dx.pk_3, Dx.pk_4, Dx.pk_5, Dx.pk_6, Dx.pk_7, Dx.pk_8, Dx.pk_9, Dx.pk_10, Dx.pk_11, Dx.pk_12, Dx.pk_13, Dx.pk_14, Dx.pk_15, Dx.pk_16, Dx.pk_17, Dx.pk_18, Dx.pk_19, Dx.pk_20, Dx.pk_21, Dx.pk_22, Dx.pk_23, Dx.pk_24, Dx.pk_25, Dx.st_0, Dx.st_1, Dx.st_2, Dx.st_3, Dx.st_4, Dx.st_5, Dx.st_6, Dx.st_7, Dx.st_8, Dx.st_9, Dx.st_10, Dx.st_11, Dx.st_12, Dx.st_13, Dx.st_14, Dx.st_15, Dx.st_16, Dx.st_17, Dx.st_18, Dx.st_19, Dx.st_20, Dx.st_21, Dx.st_22, Dx.st_23, Dx.st_24, Dx.st_25, Dx.ow_0, Dx.ow_1, Dx.ow_2, Dx.ow_3, Dx.ow_4, Dx.ow_5, Dx.ow_6, Dx.ow_7, Dx.ow_8, Dx.ow_9, Dx.ow_10, Dx.ow_11, Dx.ow_12, Dx.ow_13, Dx.ow_14, Dx.ow_15, Dx.ow_16, Dx.ow_17, Dx.ow_18, Dx.ow_19, Dx.ow_20, Dx.ow_21, Dx.ow_22, Dx.ow_23, Dx.ow_24, Dx.ow_25, Dx.pk_o, Dx.gam0, Dx.ixD_t, Dx.ixD_l, Dx.atI_0, Dx.atI_1, Dx.atI_2, Dx.atI_3, Dx.atI_4, Dx.asB_b, Dx.addD_i, Dx.subD_i, Dx.addD_t, Dx.addD_l, Dx.mulD_l, Dx.fdivD_s, Dx.modD_p, Dx.cmpI_i, Dx.absG_i, Dx.szOk_le, Dx.tupG, Dx.yesM, Dx.seqI, Dx.seqG_t, Dx.seqG_l, Dx.seqZ_t, Dx.seqZ_l, Dx.starM, Dx.compL_nil, Dx.compL_cons, Dx.all_2, Dx.any_2, Dx.neD_i, Dx.eqD_i, Dx.neD_b, Dx.cut_from1, Dx.cut_to, Dx.sliceM, Dx.noBd, Dx.someBd, Dx.asI, Dx.sliceD_t, Dx.sliceD_l, Dx.zipL3_ints, Dx.zipL2_ints, Dx.zip3G_t, Dx.zip2G_t, Dx.zip2G_tl, Dx.loopM_map, Dx.biM, Dx.compM, Dx.compL_map, Dx.compI_ret, Dx.wipeG, Dx.rng2_ok, Dx.rng1_ok, Dx.seqRng_ok, Dx.rngG, Dx.any_ok, Dx.all_ok, Dx.filter_yes, Dx.rngI_length, Dx.ite_or, Dx.ite_and, Dx.ite_orB, Dx.ite_andB, lb_may_be_1, v0, v1, v2, v3, v4, p0, p1, n1, n2, fits_ok h, st, appM, plnM]
    split <;> rfl
  have key := loopI_grow (n := 1000) (g := fun (f : Option Int) (Γ : Gam) => lb_may_be_1 (List.set Γ 4 (.val (fD f)))) (fun acc (x : Slot) => [.val (vt s lo hi), .val (pr a b), .val (sn row lev), .own (.lst acc), x, .none, .none, .none]) (fun f => (steps row lev).all fun t => fitB s lo hi f t) fD step (faults a b) [] .none (by simp only [List.length_nil]; omega)
  obtain ⟨y, ky⟩ := key
  simp only [List.nil_append] at ky
  simp (config := {maxSteps := 3000000}) (disch := omega) [Dx.fnM_ev', Dx.seqM_ev, Dx.seqK_next, Dx.seqK_ret, Dx.seqK_brk, Dx.seqK_cont, Dx.finM_ret, Dx.finM_next, Dx.retM, Dx.setM, Dx.setN, Dx.parM, Dx.oldM, Dx.newM, Dx.Val.slot, Dx.appM, Dx.plnM, Dx.ifM, Dx.exprM, Dx.skipM, Dx.failM, Dx.brkM, Dx.contM, Dx.con, Dx.callM, Dx.consM, Dx.nilM, Dx.op2, Dx.ts2, Dx.tsB, Dx.tNotM, Dx.tAndM, Dx.tOrM, Dx.andM, Dx.orM, Dx.notM, Dx.iteM, Dx.isiM, Dx.isiD, Dx.tyD, Dx.isaB, Dx.chB, Dx.blM, Dx.lenG, Dx.negM, Dx.negG, Dx.tupM, Dx.lstM, Dx.frzM, Dx.asgM, Dx.asgT, Dx.setAll, Dx.bnd_ret, Dx.bnd_fail, Dx.bnd_bnd, Dx.lift_val, Dx.lift_no, Dx.ev_0, Dx.ev_1, Dx.ev_2, Dx.ev_3, Dx.ev_4, Dx.ev_5, Dx.ev_6, Dx.ev_7, Dx.ev_8, Dx.ev_9, Dx.ev_10, Dx.ev_11, Dx.ev_12, Dx.ev_13, Dx.ev_14, Dx.ev_15, Dx.ev_16, Dx.ev_17, Dx.ev_18, Dx.ev_19, Dx.ev_20, Dx.ev_21, Dx.ev_22, Dx.ev_23, Dx.ev_24, Dx.ev_25, Dx.pk_0, Dx.pk_1, Dx.pk_2, Dx.pk_3, Dx.pk_4, Dx.pk_5, Dx.pk_6, Dx.pk_7, Dx.pk_8, Dx.pk_9, Dx.pk_10, Dx.pk_11, Dx.pk_12, Dx.pk_13, Dx.pk_14, Dx.pk_15, Dx.pk_16, Dx.pk_17, Dx.pk_18, Dx.pk_19, Dx.pk_20, Dx.pk_21, Dx.pk_22, Dx.pk_23, Dx.pk_24, Dx.pk_25, Dx.st_0, Dx.st_1, Dx.st_2, Dx.st_3, Dx.st_4, Dx.st_5, Dx.st_6, Dx.st_7, Dx.st_8, Dx.st_9, Dx.st_10, Dx.st_11, Dx.st_12, Dx.st_13, Dx.st_14, Dx.st_15, Dx.st_16, Dx.st_17, Dx.st_18, Dx.st_19, Dx.st_20, Dx.st_21, Dx.st_22, Dx.st_23, Dx.st_24, Dx.st_25, Dx.ow_0, Dx.ow_1, Dx.ow_2, Dx.ow_3, Dx.ow_4, Dx.ow_5, Dx.ow_6, Dx.ow_7, Dx.ow_8, Dx.ow_9, Dx.ow_10, Dx.ow_11, Dx.ow_12, Dx.ow_13, Dx.ow_14, Dx.ow_15, Dx.ow_16, Dx.ow_17, Dx.ow_18, Dx.ow_19, Dx.ow_20, Dx.ow_21, Dx.ow_22, Dx.ow_23, Dx.ow_24, Dx.ow_25, Dx.pk_o, Dx.gam0, Dx.ixD_t, Dx.ixD_l, Dx.atI_0, Dx.atI_1, Dx.atI_2, Dx.atI_3, Dx.atI_4, Dx.asB_b, Dx.addD_i, Dx.subD_i, Dx.addD_t, Dx.addD_l, Dx.mulD_l, Dx.fdivD_s, Dx.modD_p, Dx.cmpI_i, Dx.absG_i, Dx.szOk_le, Dx.tupG, Dx.yesM, Dx.seqI, Dx.seqG_t, Dx.seqG_l, Dx.seqZ_t, Dx.seqZ_l, Dx.starM, Dx.compL_nil, Dx.compL_cons, Dx.all_2, Dx.any_2, Dx.neD_i, Dx.eqD_i, Dx.neD_b, Dx.cut_from1, Dx.cut_to, Dx.sliceM, Dx.noBd, Dx.someBd, Dx.asI, Dx.sliceD_t, Dx.sliceD_l, Dx.zipL3_ints, Dx.zipL2_ints, Dx.zip3G_t, Dx.zip2G_t, Dx.zip2G_tl, Dx.loopM_map, Dx.biM, Dx.compM, Dx.compL_map, Dx.compI_ret, Dx.wipeG, Dx.rng2_ok, Dx.rng1_ok, Dx.seqRng_ok, Dx.rngG, Dx.any_ok, Dx.all_ok, Dx.filter_yes, Dx.rngI_length, Dx.ite_or, Dx.ite_and, Dx.ite_orB, Dx.ite_andB, m_may_be, v0, v1, v2, v3, v4, p0, p1, c1, c2, c3, forM', ky, mayS]
/-! ### the least row -/
def rowD (x y : Int) : D := .tup [.str "row", pr x y]
def lone (P : Int → Int → Bool) (a b : Int) : List Int := (rg a b).filter fun t => !P a t && !P b t
def fndIn (P : Int → Int → Bool) (a b one : Int) : Option D := (rg a b).findSome? fun other => if ((rg a b).all fun t => P one t || P other t) = true then some (rowD one other) else none
def fnd (P : Int → Int → Bool) (a b : Int) : Option D := (rg a b).findSome? fun one => fndIn P a b one
def lrow (P : Int → Int → Bool) (a b : Int) : D := match lone P a b with
  | n :: _ => .tup [.str "never", .int n]
  | [] => match fnd P a b with
    | some d => d
    | none => rowD a b
theorem nice_ints {l : List Int} {k : Nat} (hk : k ≤ 10 ^ 11) (h : ∀ i ∈ l, i.natAbs ≤ k) : ∀ d ∈ l.map D.int, Nice 0 40 d := fun d hd => by
  obtain ⟨i, hi, rfl⟩ := List.mem_map.mp hd
  have := h i hi
  exact nice_int (by omega)
theorem rg_abs {a b i : Int} (g : BOk a b) (h : i ∈ rg a b) : i.natAbs ≤ 50 := by
  have := rngI_mem.mp h
  obtain ⟨g1, g2, g3⟩ := g
  omega
theorem lone_abs {P : Int → Int → Bool} {a b i : Int} (g : BOk a b) (h : i ∈ lone P a b) : i.natAbs ≤ 50 := rg_abs g (List.mem_filter.mp h).1
theorem least_in {s lo hi a b : Int} (h : VOk s lo hi) (g : BOk a b) (one : Int) (x3 x4 x6 : Slot) : ∃ y4 y5 y6 : Slot, loopI (fun (other : Int) (Γ : Gam) => lb_least_row_1 (List.set Γ 6 (.val (.int other)))) (rg a b)
      [.val (vt s lo hi), .val (pr a b), .val (.rng a (b + 1)), x3, x4, .val (.int one), x6] =
    ret (flO (fndIn (par s (hi - lo)) a b one), [.val (vt s lo hi), .val (pr a b), .val (.rng a (b + 1)), x3, y4, y5, y6]) := by
  have g0 := g
  obtain ⟨g1, g2, g3⟩ := g
  have key := loopI_find (g := fun (other : Int) (Γ : Gam) => lb_least_row_1 (List.set Γ 6 (.val (.int other))))
    (fun Γ => ∃ x6 : Slot, Γ = [.val (vt s lo hi), .val (pr a b), .val (.rng a (b + 1)), x3, x4, .val (.int one), x6])
    (fun other => if ((rg a b).all fun t => par s (hi - lo) one t || par s (hi - lo) other t) = true then some (rowD one other) else none) (fun other Γ ⟨x6, e⟩ => by
      subst e
      refine ⟨_, ⟨.val (.int other), rfl⟩, ?_⟩
      simp (config := {maxSteps := 3000000}) (disch := omega) [Dx.fnM_ev', Dx.seqM_ev, Dx.seqK_next, Dx.seqK_ret, Dx.seqK_brk, Dx.seqK_cont, Dx.finM_ret, Dx.finM_next, Dx.retM, Dx.setM, Dx.setN, Dx.parM, Dx.oldM, Dx.newM, Dx.Val.slot, Dx.appM, Dx.plnM, Dx.ifM, Dx.exprM, Dx.skipM, Dx.failM, Dx.brkM, Dx.contM, Dx.con, Dx.callM, Dx.consM, Dx.nilM, Dx.op2, Dx.ts2, Dx.tsB, Dx.tNotM, Dx.tAndM, Dx.tOrM, Dx.andM, Dx.orM, Dx.notM, Dx.iteM, Dx.isiM, Dx.isiD, Dx.tyD, Dx.isaB, Dx.chB, Dx.blM, Dx.lenG, Dx.negM, Dx.negG, Dx.tupM, Dx.lstM, Dx.frzM, Dx.asgM, Dx.asgT, Dx.setAll, Dx.bnd_ret, Dx.bnd_fail, Dx.bnd_bnd, Dx.lift_val, Dx.lift_no, Dx.ev_0, Dx.ev_1, Dx.ev_2, Dx.ev_3, Dx.ev_4, Dx.ev_5, Dx.ev_6, Dx.ev_7, Dx.ev_8, Dx.ev_9, Dx.ev_10, Dx.ev_11, Dx.ev_12, Dx.ev_13, Dx.ev_14, Dx.ev_15, Dx.ev_16, Dx.ev_17, Dx.ev_18, Dx.ev_19, Dx.ev_20, Dx.ev_21, Dx.ev_22, Dx.ev_23, Dx.ev_24, Dx.ev_25, Dx.pk_0, Dx.pk_1, Dx.pk_2, Dx.pk_3, Dx.pk_4, Dx.pk_5, Dx.pk_6, Dx.pk_7, Dx.pk_8, Dx.pk_9, Dx.pk_10, Dx.pk_11, Dx.pk_12, Dx.pk_13, Dx.pk_14, Dx.pk_15, Dx.pk_16, Dx.pk_17, Dx.pk_18, Dx.pk_19, Dx.pk_20, Dx.pk_21, Dx.pk_22, Dx.pk_23, Dx.pk_24, Dx.pk_25, Dx.st_0, Dx.st_1, Dx.st_2, Dx.st_3, Dx.st_4, Dx.st_5, Dx.st_6, Dx.st_7, Dx.st_8, Dx.st_9, Dx.st_10, Dx.st_11, Dx.st_12, Dx.st_13, Dx.st_14, Dx.st_15, Dx.st_16, Dx.st_17, Dx.st_18, Dx.st_19, Dx.st_20, Dx.st_21, Dx.st_22, Dx.st_23, Dx.st_24, Dx.st_25, Dx.ow_0, Dx.ow_1, Dx.ow_2, Dx.ow_3, Dx.ow_4, Dx.ow_5, Dx.ow_6, Dx.ow_7, Dx.ow_8, Dx.ow_9, Dx.ow_10, Dx.ow_11, Dx.ow_12, Dx.ow_13, Dx.ow_14, Dx.ow_15, Dx.ow_16, Dx.ow_17, Dx.ow_18, Dx.ow_19, Dx.ow_20, Dx.ow_21, Dx.ow_22, Dx.ow_23, Dx.ow_24, Dx.ow_25, Dx.pk_o, Dx.gam0, Dx.ixD_t, Dx.ixD_l, Dx.atI_0, Dx.atI_1, Dx.atI_2, Dx.atI_3, Dx.atI_4, Dx.asB_b, Dx.addD_i, Dx.subD_i, Dx.addD_t, Dx.addD_l, Dx.mulD_l, Dx.fdivD_s, Dx.modD_p, Dx.cmpI_i, Dx.absG_i, Dx.szOk_le, Dx.tupG, Dx.yesM, Dx.seqI, Dx.seqG_t, Dx.seqG_l, Dx.seqZ_t, Dx.seqZ_l, Dx.starM, Dx.compL_nil, Dx.compL_cons, Dx.all_2, Dx.any_2, Dx.neD_i, Dx.eqD_i, Dx.neD_b, Dx.cut_from1, Dx.cut_to, Dx.sliceM, Dx.noBd, Dx.someBd, Dx.asI, Dx.sliceD_t, Dx.sliceD_l, Dx.zipL3_ints, Dx.zipL2_ints, Dx.zip3G_t, Dx.zip2G_t, Dx.zip2G_tl, Dx.loopM_map, Dx.biM, Dx.compM, Dx.compL_map, Dx.compI_ret, Dx.wipeG, Dx.rng2_ok, Dx.rng1_ok, Dx.seqRng_ok, Dx.rngG, Dx.any_ok, Dx.all_ok, Dx.filter_yes, Dx.rngI_length, Dx.ite_or, Dx.ite_and, Dx.ite_orB, Dx.ite_andB, lb_least_row_1, v0, v1, v2, v3, v4, p0, p1, parts_ok h]
      split <;> rfl) (rg a b) _ ⟨x6, rfl⟩
  obtain ⟨Γ', ⟨y6, rfl⟩, e⟩ := key
  exact ⟨x4, .val (.int one), y6, e⟩
theorem least_out {s lo hi a b : Int} (h : VOk s lo hi) (g : BOk a b) (x3 x4 x5 x6 : Slot) : ∃ y4 y5 y6 : Slot, loopI (fun (one : Int) (Γ : Gam) => lb_least_row_2 (List.set Γ 5 (.val (.int one)))) (rg a b)
      [.val (vt s lo hi), .val (pr a b), .val (.rng a (b + 1)), x3, x4, x5, x6] =
    ret (flO (fnd (par s (hi - lo)) a b), [.val (vt s lo hi), .val (pr a b), .val (.rng a (b + 1)), x3, y4, y5, y6]) := by
  have g0 := g
  obtain ⟨g1, g2, g3⟩ := g
  have key := loopI_find (g := fun (one : Int) (Γ : Gam) => lb_least_row_2 (List.set Γ 5 (.val (.int one))))
    (fun Γ => ∃ x4 x5 x6 : Slot, Γ = [.val (vt s lo hi), .val (pr a b), .val (.rng a (b + 1)), x3, x4, x5, x6])
    (fun one => fndIn (par s (hi - lo)) a b one) (fun one Γ ⟨x4, x5, x6, e⟩ => by
      subst e
      obtain ⟨y4, y5, y6, e⟩ := least_in h g0 one x3 x4 x6
      refine ⟨_, ⟨y4, y5, y6, rfl⟩, ?_⟩
      simp (config := {maxSteps := 3000000}) (disch := omega) [Dx.fnM_ev', Dx.seqM_ev, Dx.seqK_next, Dx.seqK_ret, Dx.seqK_brk, Dx.seqK_cont, Dx.finM_ret, Dx.finM_next, Dx.retM, Dx.setM, Dx.setN, Dx.parM, Dx.oldM, Dx.newM, Dx.Val.slot, Dx.appM, Dx.plnM, Dx.ifM, Dx.exprM, Dx.skipM, Dx.failM, Dx.brkM, Dx.contM, Dx.con, Dx.callM, Dx.consM, Dx.nilM, Dx.op2, Dx.ts2, Dx.tsB, Dx.tNotM, Dx.tAndM, Dx.tOrM, Dx.andM, Dx.orM, Dx.notM, Dx.iteM, Dx.isiM, Dx.isiD, Dx.tyD, Dx.isaB, Dx.chB, Dx.blM, Dx.lenG, Dx.negM, Dx.negG, Dx.tupM, Dx.lstM, Dx.frzM, Dx.asgM, Dx.asgT, Dx.setAll, Dx.bnd_ret, Dx.bnd_fail, Dx.bnd_bnd, Dx.lift_val, Dx.lift_no, Dx.ev_0, Dx.ev_1, Dx.ev_2, Dx.ev_3, Dx.ev_4, Dx.ev_5, Dx.ev_6, Dx.ev_7, Dx.ev_8, Dx.ev_9, Dx.ev_10, Dx.ev_11, Dx.ev_12, Dx.ev_13, Dx.ev_14, Dx.ev_15, Dx.ev_16, Dx.ev_17, Dx.ev_18, Dx.ev_19, Dx.ev_20, Dx.ev_21, Dx.ev_22, Dx.ev_23, Dx.ev_24, Dx.ev_25, Dx.pk_0, Dx.pk_1, Dx.pk_2, Dx.pk_3, Dx.pk_4, Dx.pk_5, Dx.pk_6, Dx.pk_7, Dx.pk_8, Dx.pk_9, Dx.pk_10, Dx.pk_11, Dx.pk_12, Dx.pk_13, Dx.pk_14, Dx.pk_15, Dx.pk_16, Dx.pk_17, Dx.pk_18, Dx.pk_19, Dx.pk_20, Dx.pk_21, Dx.pk_22, Dx.pk_23, Dx.pk_24, Dx.pk_25, Dx.st_0, Dx.st_1, Dx.st_2, Dx.st_3, Dx.st_4, Dx.st_5, Dx.st_6, Dx.st_7, Dx.st_8, Dx.st_9, Dx.st_10, Dx.st_11, Dx.st_12, Dx.st_13, Dx.st_14, Dx.st_15, Dx.st_16, Dx.st_17, Dx.st_18, Dx.st_19, Dx.st_20, Dx.st_21, Dx.st_22, Dx.st_23, Dx.st_24, Dx.st_25, Dx.ow_0, Dx.ow_1, Dx.ow_2, Dx.ow_3, Dx.ow_4, Dx.ow_5, Dx.ow_6, Dx.ow_7, Dx.ow_8, Dx.ow_9, Dx.ow_10, Dx.ow_11, Dx.ow_12, Dx.ow_13, Dx.ow_14, Dx.ow_15, Dx.ow_16, Dx.ow_17, Dx.ow_18, Dx.ow_19, Dx.ow_20, Dx.ow_21, Dx.ow_22, Dx.ow_23, Dx.ow_24, Dx.ow_25, Dx.pk_o, Dx.gam0, Dx.ixD_t, Dx.ixD_l, Dx.atI_0, Dx.atI_1, Dx.atI_2, Dx.atI_3, Dx.atI_4, Dx.asB_b, Dx.addD_i, Dx.subD_i, Dx.addD_t, Dx.addD_l, Dx.mulD_l, Dx.fdivD_s, Dx.modD_p, Dx.cmpI_i, Dx.absG_i, Dx.szOk_le, Dx.tupG, Dx.yesM, Dx.seqI, Dx.seqG_t, Dx.seqG_l, Dx.seqZ_t, Dx.seqZ_l, Dx.starM, Dx.compL_nil, Dx.compL_cons, Dx.all_2, Dx.any_2, Dx.neD_i, Dx.eqD_i, Dx.neD_b, Dx.cut_from1, Dx.cut_to, Dx.sliceM, Dx.noBd, Dx.someBd, Dx.asI, Dx.sliceD_t, Dx.sliceD_l, Dx.zipL3_ints, Dx.zipL2_ints, Dx.zip3G_t, Dx.zip2G_t, Dx.zip2G_tl, Dx.loopM_map, Dx.biM, Dx.compM, Dx.compL_map, Dx.compI_ret, Dx.wipeG, Dx.rng2_ok, Dx.rng1_ok, Dx.seqRng_ok, Dx.rngG, Dx.any_ok, Dx.all_ok, Dx.filter_yes, Dx.rngI_length, Dx.ite_or, Dx.ite_and, Dx.ite_orB, Dx.ite_andB, lb_least_row_2, forM', v0, v1, v2, v3, v4, p0, p1, e]) (rg a b) _ ⟨x4, x5, x6, rfl⟩
  obtain ⟨Γ', ⟨y4, y5, y6, rfl⟩, e⟩ := key
  exact ⟨y4, y5, y6, e⟩
theorem least_ok {s lo hi a b : Int} (h : VOk s lo hi) (g : BOk a b) : m_least_row [vt s lo hi, pr a b] = ret (lrow (par s (hi - lo)) a b) := by
  have c1 := check_bounds_ok h g
  have ln : ((rg a b).filter fun t => !par s (hi - lo) a t && !par s (hi - lo) b t) = lone (par s (hi - lo)) a b := rfl
  have ne : neD (.lst ((lone (par s (hi - lo)) a b).map .int)) (.lst []) = some (.bl (!eqvL ((lone (par s (hi - lo)) a b).map .int) [])) := by
    rw [← eqv_lst]
    exact ne_ok (nice_lst (nice_ints (k := 50) (by decide) fun i hi => lone_abs g hi)) (nice_lst (k := 0) (w := 0) fun d hd => nomatch hd) (by decide) (by decide)
  obtain ⟨g1, g2, g3⟩ := g
  have g0 : BOk a b := ⟨g1, g2, g3⟩
  cases hl : lone (par s (hi - lo)) a b with
  | nil =>
    rw [hl] at ln ne
    simp only [List.map_nil, eqvL, Bool.not_true] at ne
    obtain ⟨y4, y5, y6, e⟩ := least_out h g0 (.val (.lst [])) .none .none .none
    simp (config := {maxSteps := 3000000}) (disch := omega) [Dx.fnM_ev', Dx.seqM_ev, Dx.seqK_next, Dx.seqK_ret, Dx.seqK_brk, Dx.seqK_cont, Dx.finM_ret, Dx.finM_next, Dx.retM, Dx.setM, Dx.setN, Dx.parM, Dx.oldM, Dx.newM, Dx.Val.slot, Dx.appM, Dx.plnM, Dx.ifM, Dx.exprM, Dx.skipM, Dx.failM, Dx.brkM, Dx.contM, Dx.con, Dx.callM, Dx.consM, Dx.nilM, Dx.op2, Dx.ts2, Dx.tsB, Dx.tNotM, Dx.tAndM, Dx.tOrM, Dx.andM, Dx.orM, Dx.notM, Dx.iteM, Dx.isiM, Dx.isiD, Dx.tyD, Dx.isaB, Dx.chB, Dx.blM, Dx.lenG, Dx.negM, Dx.negG, Dx.tupM, Dx.lstM, Dx.frzM, Dx.asgM, Dx.asgT, Dx.setAll, Dx.bnd_ret, Dx.bnd_fail, Dx.bnd_bnd, Dx.lift_val, Dx.lift_no, Dx.ev_0, Dx.ev_1, Dx.ev_2, Dx.ev_3, Dx.ev_4, Dx.ev_5, Dx.ev_6, Dx.ev_7, Dx.ev_8, Dx.ev_9, Dx.ev_10, Dx.ev_11, Dx.ev_12, Dx.ev_13, Dx.ev_14, Dx.ev_15, Dx.ev_16, Dx.ev_17, Dx.ev_18, Dx.ev_19, Dx.ev_20, Dx.ev_21, Dx.ev_22, Dx.ev_23, Dx.ev_24, Dx.ev_25, Dx.pk_0, Dx.pk_1, Dx.pk_2, Dx.pk_3, Dx.pk_4, Dx.pk_5, Dx.pk_6, Dx.pk_7, Dx.pk_8, Dx.pk_9, Dx.pk_10, Dx.pk_11, Dx.pk_12, Dx.pk_13, Dx.pk_14, Dx.pk_15, Dx.pk_16, Dx.pk_17, Dx.pk_18, Dx.pk_19, Dx.pk_20, Dx.pk_21, Dx.pk_22, Dx.pk_23, Dx.pk_24, Dx.pk_25, Dx.st_0, Dx.st_1, Dx.st_2, Dx.st_3, Dx.st_4, Dx.st_5, Dx.st_6, Dx.st_7, Dx.st_8, Dx.st_9, Dx.st_10, Dx.st_11, Dx.st_12, Dx.st_13, Dx.st_14, Dx.st_15, Dx.st_16, Dx.st_17, Dx.st_18, Dx.st_19, Dx.st_20, Dx.st_21, Dx.st_22, Dx.st_23, Dx.st_24, Dx.st_25, Dx.ow_0, Dx.ow_1, Dx.ow_2, Dx.ow_3, Dx.ow_4, Dx.ow_5, Dx.ow_6, Dx.ow_7, Dx.ow_8, Dx.ow_9, Dx.ow_10, Dx.ow_11, Dx.ow_12, Dx.ow_13, Dx.ow_14, Dx.ow_15, Dx.ow_16, Dx.ow_17, Dx.ow_18, Dx.ow_19, Dx.ow_20, Dx.ow_21, Dx.ow_22, Dx.ow_23, Dx.ow_24, Dx.ow_25, Dx.pk_o, Dx.gam0, Dx.ixD_t, Dx.ixD_l, Dx.atI_0, Dx.atI_1, Dx.atI_2, Dx.atI_3, Dx.atI_4, Dx.asB_b, Dx.addD_i, Dx.subD_i, Dx.addD_t, Dx.addD_l, Dx.mulD_l, Dx.fdivD_s, Dx.modD_p, Dx.cmpI_i, Dx.absG_i, Dx.szOk_le, Dx.tupG, Dx.yesM, Dx.seqI, Dx.seqG_t, Dx.seqG_l, Dx.seqZ_t, Dx.seqZ_l, Dx.starM, Dx.compL_nil, Dx.compL_cons, Dx.all_2, Dx.any_2, Dx.neD_i, Dx.eqD_i, Dx.neD_b, Dx.cut_from1, Dx.cut_to, Dx.sliceM, Dx.noBd, Dx.someBd, Dx.asI, Dx.sliceD_t, Dx.sliceD_l, Dx.zipL3_ints, Dx.zipL2_ints, Dx.zip3G_t, Dx.zip2G_t, Dx.zip2G_tl, Dx.loopM_map, Dx.biM, Dx.compM, Dx.compL_map, Dx.compI_ret, Dx.wipeG, Dx.rng2_ok, Dx.rng1_ok, Dx.seqRng_ok, Dx.rngG, Dx.any_ok, Dx.all_ok, Dx.filter_yes, Dx.rngI_length, Dx.ite_or, Dx.ite_and, Dx.ite_orB, Dx.ite_andB, m_least_row, v0, v1, v2, v3, v4, p0, p1, c1, parts_ok h, forM', ln, ne, e, lrow, hl]
    cases fnd (par s (hi - lo)) a b with
    | none => simp (config := {maxSteps := 3000000}) (disch := omega) [Dx.fnM_ev', Dx.seqM_ev, Dx.seqK_next, Dx.seqK_ret, Dx.seqK_brk, Dx.seqK_cont, Dx.finM_ret, Dx.finM_next, Dx.retM, Dx.setM, Dx.setN, Dx.parM, Dx.oldM, Dx.newM, Dx.Val.slot, Dx.appM, Dx.plnM, Dx.ifM, Dx.exprM, Dx.skipM, Dx.failM, Dx.brkM, Dx.contM, Dx.con, Dx.callM, Dx.consM, Dx.nilM, Dx.op2, Dx.ts2, Dx.tsB, Dx.tNotM, Dx.tAndM, Dx.tOrM, Dx.andM, Dx.orM, Dx.notM, Dx.iteM, Dx.isiM, Dx.isiD, Dx.tyD, Dx.isaB, Dx.chB, Dx.blM, Dx.lenG, Dx.negM, Dx.negG, Dx.tupM, Dx.lstM, Dx.frzM, Dx.asgM, Dx.asgT, Dx.setAll, Dx.bnd_ret, Dx.bnd_fail, Dx.bnd_bnd, Dx.lift_val, Dx.lift_no, Dx.ev_0, Dx.ev_1, Dx.ev_2, Dx.ev_3, Dx.ev_4, Dx.ev_5, Dx.ev_6, Dx.ev_7, Dx.ev_8, Dx.ev_9, Dx.ev_10, Dx.ev_11, Dx.ev_12, Dx.ev_13, Dx.ev_14, Dx.ev_15, Dx.ev_16, Dx.ev_17, Dx.ev_18, Dx.ev_19, Dx.ev_20, Dx.ev_21, Dx.ev_22, Dx.ev_23, Dx.ev_24, Dx.ev_25, Dx.pk_0, Dx.pk_1, Dx.pk_2, Dx.pk_3, Dx.pk_4, Dx.pk_5, Dx.pk_6, Dx.pk_7, Dx.pk_8, Dx.pk_9, Dx.pk_10, Dx.pk_11, Dx.pk_12, Dx.pk_13, Dx.pk_14, Dx.pk_15, Dx.pk_16, Dx.pk_17, Dx.pk_18, Dx.pk_19, Dx.pk_20, Dx.pk_21, Dx.pk_22, Dx.pk_23, Dx.pk_24, Dx.pk_25, Dx.st_0, Dx.st_1, Dx.st_2, Dx.st_3, Dx.st_4, Dx.st_5, Dx.st_6, Dx.st_7, Dx.st_8, Dx.st_9, Dx.st_10, Dx.st_11, Dx.st_12, Dx.st_13, Dx.st_14, Dx.st_15, Dx.st_16, Dx.st_17, Dx.st_18, Dx.st_19, Dx.st_20, Dx.st_21, Dx.st_22, Dx.st_23, Dx.st_24, Dx.st_25, Dx.ow_0, Dx.ow_1, Dx.ow_2, Dx.ow_3, Dx.ow_4, Dx.ow_5, Dx.ow_6, Dx.ow_7, Dx.ow_8, Dx.ow_9, Dx.ow_10, Dx.ow_11, Dx.ow_12, Dx.ow_13, Dx.ow_14, Dx.ow_15, Dx.ow_16, Dx.ow_17, Dx.ow_18, Dx.ow_19, Dx.ow_20, Dx.ow_21, Dx.ow_22, Dx.ow_23, Dx.ow_24, Dx.ow_25, Dx.pk_o, Dx.gam0, Dx.ixD_t, Dx.ixD_l, Dx.atI_0, Dx.atI_1, Dx.atI_2, Dx.atI_3, Dx.atI_4, Dx.asB_b, Dx.addD_i, Dx.subD_i, Dx.addD_t, Dx.addD_l, Dx.mulD_l, Dx.fdivD_s, Dx.modD_p, Dx.cmpI_i, Dx.absG_i, Dx.szOk_le, Dx.tupG, Dx.yesM, Dx.seqI, Dx.seqG_t, Dx.seqG_l, Dx.seqZ_t, Dx.seqZ_l, Dx.starM, Dx.compL_nil, Dx.compL_cons, Dx.all_2, Dx.any_2, Dx.neD_i, Dx.eqD_i, Dx.neD_b, Dx.cut_from1, Dx.cut_to, Dx.sliceM, Dx.noBd, Dx.someBd, Dx.asI, Dx.sliceD_t, Dx.sliceD_l, Dx.zipL3_ints, Dx.zipL2_ints, Dx.zip3G_t, Dx.zip2G_t, Dx.zip2G_tl, Dx.loopM_map, Dx.biM, Dx.compM, Dx.compL_map, Dx.compI_ret, Dx.wipeG, Dx.rng2_ok, Dx.rng1_ok, Dx.seqRng_ok, Dx.rngG, Dx.any_ok, Dx.all_ok, Dx.filter_yes, Dx.rngI_length, Dx.ite_or, Dx.ite_and, Dx.ite_orB, Dx.ite_andB, flO, v0, v1, v2, v3, v4, p0, p1, rowD, pr]
    | some d => simp (config := {maxSteps := 3000000}) (disch := omega) [Dx.fnM_ev', Dx.seqM_ev, Dx.seqK_next, Dx.seqK_ret, Dx.seqK_brk, Dx.seqK_cont, Dx.finM_ret, Dx.finM_next, Dx.retM, Dx.setM, Dx.setN, Dx.parM, Dx.oldM, Dx.newM, Dx.Val.slot, Dx.appM, Dx.plnM, Dx.ifM, Dx.exprM, Dx.skipM, Dx.failM, Dx.brkM, Dx.contM, Dx.con, Dx.callM, Dx.consM, Dx.nilM, Dx.op2, Dx.ts2, Dx.tsB, Dx.tNotM, Dx.tAndM, Dx.tOrM, Dx.andM, Dx.orM, Dx.notM, Dx.iteM, Dx.isiM, Dx.isiD, Dx.tyD, Dx.isaB, Dx.chB, Dx.blM, Dx.lenG, Dx.negM, Dx.negG, Dx.tupM, Dx.lstM, Dx.frzM, Dx.asgM, Dx.asgT, Dx.setAll, Dx.bnd_ret, Dx.bnd_fail, Dx.bnd_bnd, Dx.lift_val, Dx.lift_no, Dx.ev_0, Dx.ev_1, Dx.ev_2, Dx.ev_3, Dx.ev_4, Dx.ev_5, Dx.ev_6, Dx.ev_7, Dx.ev_8, Dx.ev_9, Dx.ev_10, Dx.ev_11, Dx.ev_12, Dx.ev_13, Dx.ev_14, Dx.ev_15, Dx.ev_16, Dx.ev_17, Dx.ev_18, Dx.ev_19, Dx.ev_20, Dx.ev_21, Dx.ev_22, Dx.ev_23, Dx.ev_24, Dx.ev_25, Dx.pk_0, Dx.pk_1, Dx.pk_2, Dx.pk_3, Dx.pk_4, Dx.pk_5, Dx.pk_6, Dx.pk_7, Dx.pk_8, Dx.pk_9, Dx.pk_10, Dx.pk_11, Dx.pk_12, Dx.pk_13, Dx.pk_14, Dx.pk_15, Dx.pk_16, Dx.pk_17, Dx.pk_18, Dx.pk_19, Dx.pk_20, Dx.pk_21, Dx.pk_22, Dx.pk_23, Dx.pk_24, Dx.pk_25, Dx.st_0, Dx.st_1, Dx.st_2, Dx.st_3, Dx.st_4, Dx.st_5, Dx.st_6, Dx.st_7, Dx.st_8, Dx.st_9, Dx.st_10, Dx.st_11, Dx.st_12, Dx.st_13, Dx.st_14, Dx.st_15, Dx.st_16, Dx.st_17, Dx.st_18, Dx.st_19, Dx.st_20, Dx.st_21, Dx.st_22, Dx.st_23, Dx.st_24, Dx.st_25, Dx.ow_0, Dx.ow_1, Dx.ow_2, Dx.ow_3, Dx.ow_4, Dx.ow_5, Dx.ow_6, Dx.ow_7, Dx.ow_8, Dx.ow_9, Dx.ow_10, Dx.ow_11, Dx.ow_12, Dx.ow_13, Dx.ow_14, Dx.ow_15, Dx.ow_16, Dx.ow_17, Dx.ow_18, Dx.ow_19, Dx.ow_20, Dx.ow_21, Dx.ow_22, Dx.ow_23, Dx.ow_24, Dx.ow_25, Dx.pk_o, Dx.gam0, Dx.ixD_t, Dx.ixD_l, Dx.atI_0, Dx.atI_1, Dx.atI_2, Dx.atI_3, Dx.atI_4, Dx.asB_b, Dx.addD_i, Dx.subD_i, Dx.addD_t, Dx.addD_l, Dx.mulD_l, Dx.fdivD_s, Dx.modD_p, Dx.cmpI_i, Dx.absG_i, Dx.szOk_le, Dx.tupG, Dx.yesM, Dx.seqI, Dx.seqG_t, Dx.seqG_l, Dx.seqZ_t, Dx.seqZ_l, Dx.starM, Dx.compL_nil, Dx.compL_cons, Dx.all_2, Dx.any_2, Dx.neD_i, Dx.eqD_i, Dx.neD_b, Dx.cut_from1, Dx.cut_to, Dx.sliceM, Dx.noBd, Dx.someBd, Dx.asI, Dx.sliceD_t, Dx.sliceD_l, Dx.zipL3_ints, Dx.zipL2_ints, Dx.zip3G_t, Dx.zip2G_t, Dx.zip2G_tl, Dx.loopM_map, Dx.biM, Dx.compM, Dx.compL_map, Dx.compI_ret, Dx.wipeG, Dx.rng2_ok, Dx.rng1_ok, Dx.seqRng_ok, Dx.rngG, Dx.any_ok, Dx.all_ok, Dx.filter_yes, Dx.rngI_length, Dx.ite_or, Dx.ite_and, Dx.ite_orB, Dx.ite_andB, flO]
  | cons n t =>
    rw [hl] at ln ne
    simp only [List.map_cons, eqvL, Bool.not_false] at ne
    simp (config := {maxSteps := 3000000}) (disch := omega) [Dx.fnM_ev', Dx.seqM_ev, Dx.seqK_next, Dx.seqK_ret, Dx.seqK_brk, Dx.seqK_cont, Dx.finM_ret, Dx.finM_next, Dx.retM, Dx.setM, Dx.setN, Dx.parM, Dx.oldM, Dx.newM, Dx.Val.slot, Dx.appM, Dx.plnM, Dx.ifM, Dx.exprM, Dx.skipM, Dx.failM, Dx.brkM, Dx.contM, Dx.con, Dx.callM, Dx.consM, Dx.nilM, Dx.op2, Dx.ts2, Dx.tsB, Dx.tNotM, Dx.tAndM, Dx.tOrM, Dx.andM, Dx.orM, Dx.notM, Dx.iteM, Dx.isiM, Dx.isiD, Dx.tyD, Dx.isaB, Dx.chB, Dx.blM, Dx.lenG, Dx.negM, Dx.negG, Dx.tupM, Dx.lstM, Dx.frzM, Dx.asgM, Dx.asgT, Dx.setAll, Dx.bnd_ret, Dx.bnd_fail, Dx.bnd_bnd, Dx.lift_val, Dx.lift_no, Dx.ev_0, Dx.ev_1, Dx.ev_2, Dx.ev_3, Dx.ev_4, Dx.ev_5, Dx.ev_6, Dx.ev_7, Dx.ev_8, Dx.ev_9, Dx.ev_10, Dx.ev_11, Dx.ev_12, Dx.ev_13, Dx.ev_14, Dx.ev_15, Dx.ev_16, Dx.ev_17, Dx.ev_18, Dx.ev_19, Dx.ev_20, Dx.ev_21, Dx.ev_22, Dx.ev_23, Dx.ev_24, Dx.ev_25, Dx.pk_0, Dx.pk_1, Dx.pk_2, Dx.pk_3, Dx.pk_4, Dx.pk_5, Dx.pk_6, Dx.pk_7, Dx.pk_8, Dx.pk_9, Dx.pk_10, Dx.pk_11, Dx.pk_12, Dx.pk_13, Dx.pk_14, Dx.pk_15, Dx.pk_16, Dx.pk_17, Dx.pk_18, Dx.pk_19, Dx.pk_20, Dx.pk_21, Dx.pk_22, Dx.pk_23, Dx.pk_24, Dx.pk_25, Dx.st_0, Dx.st_1, Dx.st_2, Dx.st_3, Dx.st_4, Dx.st_5, Dx.st_6, Dx.st_7, Dx.st_8, Dx.st_9, Dx.st_10, Dx.st_11, Dx.st_12, Dx.st_13, Dx.st_14, Dx.st_15, Dx.st_16, Dx.st_17, Dx.st_18, Dx.st_19, Dx.st_20, Dx.st_21, Dx.st_22, Dx.st_23, Dx.st_24, Dx.st_25, Dx.ow_0, Dx.ow_1, Dx.ow_2, Dx.ow_3, Dx.ow_4, Dx.ow_5, Dx.ow_6, Dx.ow_7, Dx.ow_8, Dx.ow_9, Dx.ow_10, Dx.ow_11, Dx.ow_12, Dx.ow_13, Dx.ow_14, Dx.ow_15, Dx.ow_16, Dx.ow_17, Dx.ow_18, Dx.ow_19, Dx.ow_20, Dx.ow_21, Dx.ow_22, Dx.ow_23, Dx.ow_24, Dx.ow_25, Dx.pk_o, Dx.gam0, Dx.ixD_t, Dx.ixD_l, Dx.atI_0, Dx.atI_1, Dx.atI_2, Dx.atI_3, Dx.atI_4, Dx.asB_b, Dx.addD_i, Dx.subD_i, Dx.addD_t, Dx.addD_l, Dx.mulD_l, Dx.fdivD_s, Dx.modD_p, Dx.cmpI_i, Dx.absG_i, Dx.szOk_le, Dx.tupG, Dx.yesM, Dx.seqI, Dx.seqG_t, Dx.seqG_l, Dx.seqZ_t, Dx.seqZ_l, Dx.starM, Dx.compL_nil, Dx.compL_cons, Dx.all_2, Dx.any_2, Dx.neD_i, Dx.eqD_i, Dx.neD_b, Dx.cut_from1, Dx.cut_to, Dx.sliceM, Dx.noBd, Dx.someBd, Dx.asI, Dx.sliceD_t, Dx.sliceD_l, Dx.zipL3_ints, Dx.zipL2_ints, Dx.zip3G_t, Dx.zip2G_t, Dx.zip2G_tl, Dx.loopM_map, Dx.biM, Dx.compM, Dx.compL_map, Dx.compI_ret, Dx.wipeG, Dx.rng2_ok, Dx.rng1_ok, Dx.seqRng_ok, Dx.rngG, Dx.any_ok, Dx.all_ok, Dx.filter_yes, Dx.rngI_length, Dx.ite_or, Dx.ite_and, Dx.ite_orB, Dx.ite_andB, m_least_row, v0, v1, v2, v3, v4, p0, p1, c1, parts_ok h, forM', ln, ne, lrow, hl]
end K68

set_option Elab.async false
set_option linter.all false
set_option maxRecDepth 100000
set_option maxHeartbeats 4000000
namespace K68
open PySem PySem.Spec PyProof.Rows L2 Dx
theorem take_ok : Draws1 m__law_take := by
  intro n p u ⟨a, b, c, e, b1, b2, c1, c2⟩ hn u1 u2
  subst e
  have pe : ∀ (Γ : Gam) (i : Int), potIx (evv 0) (con (.int i)) (.val .pot :: Γ) = potG i := fun Γ i => potIx_ev rfl rfl
  have pp : ∀ (Γ : Gam) (i : Int) (fe : Gam → M D), potPut (evv 0) (con (.int i)) fe (.val .pot :: Γ) = bnd (fe (.val .pot :: Γ)) fun v => match v with
    | .int n => potS (.val .pot :: Γ) i n
    | _ => fail := fun Γ i fe => potPut_ev rfl rfl
  obtain ⟨q, hq, q1, q2⟩ := five (q0 := 2147483647) (q1 := 2147483629) (q2 := 2147483587) (q3 := 2147483579) (q4 := 2147483563) (i := (c + 1) % 5) (by omega) (by omega) (by decide)
  have cc1 : 0 ≤ 101853 * (c + 1) * (c + 1) := Int.mul_nonneg (by omega) (by omega)
  have cc2 : 101853 * (c + 1) * (c + 1) ≤ 101853 * 2 ^ 41 * 2 ^ 41 := Int.mul_le_mul (by omega) (by omega) (by omega) (by decide)
  have r1 := Int.emod_nonneg ((b + 101853 * (c + 1) * (c + 1) + 167) ^ 3) (show q ≠ 0 by omega)
  have r2 := Int.emod_lt_of_pos ((b + 101853 * (c + 1) * (c + 1) + 167) ^ 3) (show 0 < q by omega)
  by_cases h : 0 < a
  · simp (config := {maxSteps := 3000000}) (disch := omega) [Dx.fnM_ev', Dx.seqM_ev, Dx.seqK_next, Dx.seqK_ret, Dx.seqK_brk, Dx.seqK_cont, Dx.finM_ret, Dx.finM_next, Dx.retM, Dx.setM, Dx.setN, Dx.parM, Dx.oldM, Dx.newM, Dx.Val.slot, Dx.appM, Dx.plnM, Dx.ifM, Dx.exprM, Dx.skipM, Dx.failM, Dx.brkM, Dx.contM, Dx.con, Dx.callM, Dx.consM, Dx.nilM, Dx.op2, Dx.ts2, Dx.tsB, Dx.tNotM, Dx.tAndM, Dx.tOrM, Dx.andM, Dx.orM, Dx.notM, Dx.iteM, Dx.isiM, Dx.isiD, Dx.tyD, Dx.isaB, Dx.chB, Dx.blM, Dx.lenG, Dx.negM, Dx.negG, Dx.tupM, Dx.lstM, Dx.frzM, Dx.asgM, Dx.asgT, Dx.setAll, Dx.bnd_ret, Dx.bnd_fail, Dx.bnd_bnd, Dx.lift_val, Dx.lift_no, Dx.ev_0, Dx.ev_1, Dx.ev_2, Dx.ev_3, Dx.ev_4, Dx.ev_5, Dx.ev_6, Dx.ev_7, Dx.ev_8, Dx.ev_9, Dx.ev_10, Dx.ev_11, Dx.ev_12, Dx.ev_13, Dx.ev_14, Dx.ev_15, Dx.ev_16, Dx.ev_17, Dx.ev_18, Dx.ev_19, Dx.ev_20, Dx.ev_21, Dx.ev_22, Dx.ev_23, Dx.ev_24, Dx.ev_25, Dx.pk_0, Dx.pk_1, Dx.pk_2, Dx.pk_3, Dx.pk_4, Dx.pk_5, Dx.pk_6, Dx.pk_7, Dx.pk_8, Dx.pk_9, Dx.pk_10, Dx.pk_11, Dx.pk_12, Dx.pk_13, Dx.pk_14, Dx.pk_15, Dx.pk_16, Dx.pk_17, Dx.pk_18, Dx.pk_19, Dx.pk_20, Dx.pk_21, Dx.pk_22, Dx.pk_23, Dx.pk_24, Dx.pk_25, Dx.st_0, Dx.st_1, Dx.st_2, Dx.st_3, Dx.st_4, Dx.st_5, Dx.st_6, Dx.st_7, Dx.st_8, Dx.st_9, Dx.st_10, Dx.st_11, Dx.st_12, Dx.st_13, Dx.st_14, Dx.st_15, Dx.st_16, Dx.st_17, Dx.st_18, Dx.st_19, Dx.st_20, Dx.st_21, Dx.st_22, Dx.st_23, Dx.st_24, Dx.st_25, Dx.ow_0, Dx.ow_1, Dx.ow_2, Dx.ow_3, Dx.ow_4, Dx.ow_5, Dx.ow_6, Dx.ow_7, Dx.ow_8, Dx.ow_9, Dx.ow_10, Dx.ow_11, Dx.ow_12, Dx.ow_13, Dx.ow_14, Dx.ow_15, Dx.ow_16, Dx.ow_17, Dx.ow_18, Dx.ow_19, Dx.ow_20, Dx.ow_21, Dx.ow_22, Dx.ow_23, Dx.ow_24, Dx.ow_25, Dx.pk_o, Dx.gam0, Dx.ixD_t, Dx.ixD_l, Dx.atI_0, Dx.atI_1, Dx.atI_2, Dx.atI_3, Dx.atI_4, Dx.asB_b, Dx.addD_i, Dx.subD_i, Dx.addD_t, Dx.addD_l, Dx.mulD_l, Dx.fdivD_s, Dx.modD_p, Dx.cmpI_i, Dx.absG_i, Dx.szOk_le, Dx.tupG, Dx.yesM, Dx.seqI, Dx.seqG_t, Dx.seqG_l, Dx.seqZ_t, Dx.seqZ_l, Dx.starM, Dx.compL_nil, Dx.compL_cons, Dx.all_2, Dx.any_2, Dx.neD_i, Dx.eqD_i, Dx.neD_b, Dx.cut_from1, Dx.cut_to, Dx.sliceM, Dx.noBd, Dx.someBd, Dx.asI, Dx.sliceD_t, Dx.sliceD_l, Dx.zipL3_ints, Dx.zipL2_ints, Dx.zip3G_t, Dx.zip2G_t, Dx.zip2G_tl, Dx.loopM_map, Dx.biM, Dx.compM, Dx.compL_map, Dx.compI_ret, Dx.wipeG, Dx.rng2_ok, Dx.rng1_ok, Dx.seqRng_ok, Dx.rngG, Dx.any_ok, Dx.all_ok, Dx.filter_yes, Dx.rngI_length, Dx.ite_or, Dx.ite_and, Dx.ite_orB, Dx.ite_andB, Dx.wp_bnd_iff, Dx.wp_ret_iff, Dx.wp_ite_iff, Dx.wp_g0, Dx.wp_g1, Dx.wp_g2, Dx.wp_s0, Dx.wp_s2, Dx.intG_i, Dx.intG_b, Dx.powD_3, m__law_take, pe, pp, h]
    exact ⟨Int.emod_nonneg _ (by omega), Int.emod_lt_of_pos _ u1, _, _, _, rfl, b1, b2, by omega, by omega⟩
  · simp (config := {maxSteps := 3000000}) (disch := omega) [Dx.fnM_ev', Dx.seqM_ev, Dx.seqK_next, Dx.seqK_ret, Dx.seqK_brk, Dx.seqK_cont, Dx.finM_ret, Dx.finM_next, Dx.retM, Dx.setM, Dx.setN, Dx.parM, Dx.oldM, Dx.newM, Dx.Val.slot, Dx.appM, Dx.plnM, Dx.ifM, Dx.exprM, Dx.skipM, Dx.failM, Dx.brkM, Dx.contM, Dx.con, Dx.callM, Dx.consM, Dx.nilM, Dx.op2, Dx.ts2, Dx.tsB, Dx.tNotM, Dx.tAndM, Dx.tOrM, Dx.andM, Dx.orM, Dx.notM, Dx.iteM, Dx.isiM, Dx.isiD, Dx.tyD, Dx.isaB, Dx.chB, Dx.blM, Dx.lenG, Dx.negM, Dx.negG, Dx.tupM, Dx.lstM, Dx.frzM, Dx.asgM, Dx.asgT, Dx.setAll, Dx.bnd_ret, Dx.bnd_fail, Dx.bnd_bnd, Dx.lift_val, Dx.lift_no, Dx.ev_0, Dx.ev_1, Dx.ev_2, Dx.ev_3, Dx.ev_4, Dx.ev_5, Dx.ev_6, Dx.ev_7, Dx.ev_8, Dx.ev_9, Dx.ev_10, Dx.ev_11, Dx.ev_12, Dx.ev_13, Dx.ev_14, Dx.ev_15, Dx.ev_16, Dx.ev_17, Dx.ev_18, Dx.ev_19, Dx.ev_20, Dx.ev_21, Dx.ev_22, Dx.ev_23, Dx.ev_24, Dx.ev_25, Dx.pk_0, Dx.pk_1, Dx.pk_2, Dx.pk_3, Dx.pk_4, Dx.pk_5, Dx.pk_6, Dx.pk_7, Dx.pk_8, Dx.pk_9, Dx.pk_10, Dx.pk_11, Dx.pk_12, Dx.pk_13, Dx.pk_14, Dx.pk_15, Dx.pk_16, Dx.pk_17, Dx.pk_18, Dx.pk_19, Dx.pk_20, Dx.pk_21, Dx.pk_22, Dx.pk_23, Dx.pk_24, Dx.pk_25, Dx.st_0, Dx.st_1, Dx.st_2, Dx.st_3, Dx.st_4, Dx.st_5, Dx.st_6, Dx.st_7, Dx.st_8, Dx.st_9, Dx.st_10, Dx.st_11, Dx.st_12, Dx.st_13, Dx.st_14, Dx.st_15, Dx.st_16, Dx.st_17, Dx.st_18, Dx.st_19, Dx.st_20, Dx.st_21, Dx.st_22, Dx.st_23, Dx.st_24, Dx.st_25, Dx.ow_0, Dx.ow_1, Dx.ow_2, Dx.ow_3, Dx.ow_4, Dx.ow_5, Dx.ow_6, Dx.ow_7, Dx.ow_8, Dx.ow_9, Dx.ow_10, Dx.ow_11, Dx.ow_12, Dx.ow_13, Dx.ow_14, Dx.ow_15, Dx.ow_16, Dx.ow_17, Dx.ow_18, Dx.ow_19, Dx.ow_20, Dx.ow_21, Dx.ow_22, Dx.ow_23, Dx.ow_24, Dx.ow_25, Dx.pk_o, Dx.gam0, Dx.ixD_t, Dx.ixD_l, Dx.atI_0, Dx.atI_1, Dx.atI_2, Dx.atI_3, Dx.atI_4, Dx.asB_b, Dx.addD_i, Dx.subD_i, Dx.addD_t, Dx.addD_l, Dx.mulD_l, Dx.fdivD_s, Dx.modD_p, Dx.cmpI_i, Dx.absG_i, Dx.szOk_le, Dx.tupG, Dx.yesM, Dx.seqI, Dx.seqG_t, Dx.seqG_l, Dx.seqZ_t, Dx.seqZ_l, Dx.starM, Dx.compL_nil, Dx.compL_cons, Dx.all_2, Dx.any_2, Dx.neD_i, Dx.eqD_i, Dx.neD_b, Dx.cut_from1, Dx.cut_to, Dx.sliceM, Dx.noBd, Dx.someBd, Dx.asI, Dx.sliceD_t, Dx.sliceD_l, Dx.zipL3_ints, Dx.zipL2_ints, Dx.zip3G_t, Dx.zip2G_t, Dx.zip2G_tl, Dx.loopM_map, Dx.biM, Dx.compM, Dx.compL_map, Dx.compI_ret, Dx.wipeG, Dx.rng2_ok, Dx.rng1_ok, Dx.seqRng_ok, Dx.rngG, Dx.any_ok, Dx.all_ok, Dx.filter_yes, Dx.rngI_length, Dx.ite_or, Dx.ite_and, Dx.ite_orB, Dx.ite_andB, Dx.wp_bnd_iff, Dx.wp_ret_iff, Dx.wp_ite_iff, Dx.wp_g0, Dx.wp_g1, Dx.wp_g2, Dx.wp_s0, Dx.wp_s2, Dx.intG_i, Dx.intG_b, Dx.powD_3, m__law_take, pe, pp, h, hq]
    exact ⟨Int.emod_nonneg _ (by omega), Int.emod_lt_of_pos _ u1, _, _, _, rfl, b1, b2, by omega, by omega⟩
theorem of_ok : DrawsOf m__law_of := by
  intro n p l hp hn hl hz
  have hl' : 0 < l.length := List.length_pos_iff.mpr hl
  simp (config := {maxSteps := 3000000}) (disch := omega) [Dx.fnM_ev', Dx.seqM_ev, Dx.seqK_next, Dx.seqK_ret, Dx.seqK_brk, Dx.seqK_cont, Dx.finM_ret, Dx.finM_next, Dx.retM, Dx.setM, Dx.setN, Dx.parM, Dx.oldM, Dx.newM, Dx.Val.slot, Dx.appM, Dx.plnM, Dx.ifM, Dx.exprM, Dx.skipM, Dx.failM, Dx.brkM, Dx.contM, Dx.con, Dx.callM, Dx.consM, Dx.nilM, Dx.op2, Dx.ts2, Dx.tsB, Dx.tNotM, Dx.tAndM, Dx.tOrM, Dx.andM, Dx.orM, Dx.notM, Dx.iteM, Dx.isiM, Dx.isiD, Dx.tyD, Dx.isaB, Dx.chB, Dx.blM, Dx.lenG, Dx.negM, Dx.negG, Dx.tupM, Dx.lstM, Dx.frzM, Dx.asgM, Dx.asgT, Dx.setAll, Dx.bnd_ret, Dx.bnd_fail, Dx.bnd_bnd, Dx.lift_val, Dx.lift_no, Dx.ev_0, Dx.ev_1, Dx.ev_2, Dx.ev_3, Dx.ev_4, Dx.ev_5, Dx.ev_6, Dx.ev_7, Dx.ev_8, Dx.ev_9, Dx.ev_10, Dx.ev_11, Dx.ev_12, Dx.ev_13, Dx.ev_14, Dx.ev_15, Dx.ev_16, Dx.ev_17, Dx.ev_18, Dx.ev_19, Dx.ev_20, Dx.ev_21, Dx.ev_22, Dx.ev_23, Dx.ev_24, Dx.ev_25, Dx.pk_0, Dx.pk_1, Dx.pk_2, Dx.pk_3, Dx.pk_4, Dx.pk_5, Dx.pk_6, Dx.pk_7, Dx.pk_8, Dx.pk_9, Dx.pk_10, Dx.pk_11, Dx.pk_12, Dx.pk_13, Dx.pk_14, Dx.pk_15, Dx.pk_16, Dx.pk_17, Dx.pk_18, Dx.pk_19, Dx.pk_20, Dx.pk_21, Dx.pk_22, Dx.pk_23, Dx.pk_24, Dx.pk_25, Dx.st_0, Dx.st_1, Dx.st_2, Dx.st_3, Dx.st_4, Dx.st_5, Dx.st_6, Dx.st_7, Dx.st_8, Dx.st_9, Dx.st_10, Dx.st_11, Dx.st_12, Dx.st_13, Dx.st_14, Dx.st_15, Dx.st_16, Dx.st_17, Dx.st_18, Dx.st_19, Dx.st_20, Dx.st_21, Dx.st_22, Dx.st_23, Dx.st_24, Dx.st_25, Dx.ow_0, Dx.ow_1, Dx.ow_2, Dx.ow_3, Dx.ow_4, Dx.ow_5, Dx.ow_6, Dx.ow_7, Dx.ow_8, Dx.ow_9, Dx.ow_10, Dx.ow_11, Dx.ow_12, Dx.ow_13, Dx.ow_14, Dx.ow_15, Dx.ow_16, Dx.ow_17, Dx.ow_18, Dx.ow_19, Dx.ow_20, Dx.ow_21, Dx.ow_22, Dx.ow_23, Dx.ow_24, Dx.ow_25, Dx.pk_o, Dx.gam0, Dx.ixD_t, Dx.ixD_l, Dx.atI_0, Dx.atI_1, Dx.atI_2, Dx.atI_3, Dx.atI_4, Dx.asB_b, Dx.addD_i, Dx.subD_i, Dx.addD_t, Dx.addD_l, Dx.mulD_l, Dx.fdivD_s, Dx.modD_p, Dx.cmpI_i, Dx.absG_i, Dx.szOk_le, Dx.tupG, Dx.yesM, Dx.seqI, Dx.seqG_t, Dx.seqG_l, Dx.seqZ_t, Dx.seqZ_l, Dx.starM, Dx.compL_nil, Dx.compL_cons, Dx.all_2, Dx.any_2, Dx.neD_i, Dx.eqD_i, Dx.neD_b, Dx.cut_from1, Dx.cut_to, Dx.sliceM, Dx.noBd, Dx.someBd, Dx.asI, Dx.sliceD_t, Dx.sliceD_l, Dx.zipL3_ints, Dx.zipL2_ints, Dx.zip3G_t, Dx.zip2G_t, Dx.zip2G_tl, Dx.loopM_map, Dx.biM, Dx.compM, Dx.compL_map, Dx.compI_ret, Dx.wipeG, Dx.rng2_ok, Dx.rng1_ok, Dx.seqRng_ok, Dx.rngG, Dx.any_ok, Dx.all_ok, Dx.filter_yes, Dx.rngI_length, Dx.ite_or, Dx.ite_and, Dx.ite_orB, Dx.ite_andB, Dx.wp_bnd_iff, Dx.wp_ret_iff, Dx.wp_ite_iff, Dx.wp_g0, Dx.wp_g1, Dx.wp_g2, Dx.wp_s0, Dx.wp_s2, Dx.intG_i, Dx.intG_b, Dx.powD_3, m__law_of]
  refine wp_mono (take_ok n p l.length hp hn (by omega) (by omega)) ?_
  rintro _ q ⟨i, rfl, i0, i1, hq⟩
  obtain ⟨y, e1, e2⟩ := atI_mem i0 i1
  simp (config := {maxSteps := 3000000}) (disch := omega) [Dx.fnM_ev', Dx.seqM_ev, Dx.seqK_next, Dx.seqK_ret, Dx.seqK_brk, Dx.seqK_cont, Dx.finM_ret, Dx.finM_next, Dx.retM, Dx.setM, Dx.setN, Dx.parM, Dx.oldM, Dx.newM, Dx.Val.slot, Dx.appM, Dx.plnM, Dx.ifM, Dx.exprM, Dx.skipM, Dx.failM, Dx.brkM, Dx.contM, Dx.con, Dx.callM, Dx.consM, Dx.nilM, Dx.op2, Dx.ts2, Dx.tsB, Dx.tNotM, Dx.tAndM, Dx.tOrM, Dx.andM, Dx.orM, Dx.notM, Dx.iteM, Dx.isiM, Dx.isiD, Dx.tyD, Dx.isaB, Dx.chB, Dx.blM, Dx.lenG, Dx.negM, Dx.negG, Dx.tupM, Dx.lstM, Dx.frzM, Dx.asgM, Dx.asgT, Dx.setAll, Dx.bnd_ret, Dx.bnd_fail, Dx.bnd_bnd, Dx.lift_val, Dx.lift_no, Dx.ev_0, Dx.ev_1, Dx.ev_2, Dx.ev_3, Dx.ev_4, Dx.ev_5, Dx.ev_6, Dx.ev_7, Dx.ev_8, Dx.ev_9, Dx.ev_10, Dx.ev_11, Dx.ev_12, Dx.ev_13, Dx.ev_14, Dx.ev_15, Dx.ev_16, Dx.ev_17, Dx.ev_18, Dx.ev_19, Dx.ev_20, Dx.ev_21, Dx.ev_22, Dx.ev_23, Dx.ev_24, Dx.ev_25, Dx.pk_0, Dx.pk_1, Dx.pk_2, Dx.pk_3, Dx.pk_4, Dx.pk_5, Dx.pk_6, Dx.pk_7, Dx.pk_8, Dx.pk_9, Dx.pk_10, Dx.pk_11, Dx.pk_12, Dx.pk_13, Dx.pk_14, Dx.pk_15, Dx.pk_16, Dx.pk_17, Dx.pk_18, Dx.pk_19, Dx.pk_20, Dx.pk_21, Dx.pk_22, Dx.pk_23, Dx.pk_24, Dx.pk_25, Dx.st_0, Dx.st_1, Dx.st_2, Dx.st_3, Dx.st_4, Dx.st_5, Dx.st_6, Dx.st_7, Dx.st_8, Dx.st_9, Dx.st_10, Dx.st_11, Dx.st_12, Dx.st_13, Dx.st_14, Dx.st_15, Dx.st_16, Dx.st_17, Dx.st_18, Dx.st_19, Dx.st_20, Dx.st_21, Dx.st_22, Dx.st_23, Dx.st_24, Dx.st_25, Dx.ow_0, Dx.ow_1, Dx.ow_2, Dx.ow_3, Dx.ow_4, Dx.ow_5, Dx.ow_6, Dx.ow_7, Dx.ow_8, Dx.ow_9, Dx.ow_10, Dx.ow_11, Dx.ow_12, Dx.ow_13, Dx.ow_14, Dx.ow_15, Dx.ow_16, Dx.ow_17, Dx.ow_18, Dx.ow_19, Dx.ow_20, Dx.ow_21, Dx.ow_22, Dx.ow_23, Dx.ow_24, Dx.ow_25, Dx.pk_o, Dx.gam0, Dx.ixD_t, Dx.ixD_l, Dx.atI_0, Dx.atI_1, Dx.atI_2, Dx.atI_3, Dx.atI_4, Dx.asB_b, Dx.addD_i, Dx.subD_i, Dx.addD_t, Dx.addD_l, Dx.mulD_l, Dx.fdivD_s, Dx.modD_p, Dx.cmpI_i, Dx.absG_i, Dx.szOk_le, Dx.tupG, Dx.yesM, Dx.seqI, Dx.seqG_t, Dx.seqG_l, Dx.seqZ_t, Dx.seqZ_l, Dx.starM, Dx.compL_nil, Dx.compL_cons, Dx.all_2, Dx.any_2, Dx.neD_i, Dx.eqD_i, Dx.neD_b, Dx.cut_from1, Dx.cut_to, Dx.sliceM, Dx.noBd, Dx.someBd, Dx.asI, Dx.sliceD_t, Dx.sliceD_l, Dx.zipL3_ints, Dx.zipL2_ints, Dx.zip3G_t, Dx.zip2G_t, Dx.zip2G_tl, Dx.loopM_map, Dx.biM, Dx.compM, Dx.compL_map, Dx.compI_ret, Dx.wipeG, Dx.rng2_ok, Dx.rng1_ok, Dx.seqRng_ok, Dx.rngG, Dx.any_ok, Dx.all_ok, Dx.filter_yes, Dx.rngI_length, Dx.ite_or, Dx.ite_and, Dx.ite_orB, Dx.ite_andB, Dx.wp_bnd_iff, Dx.wp_ret_iff, Dx.wp_ite_iff, Dx.wp_g0, Dx.wp_g1, Dx.wp_g2, Dx.wp_s0, Dx.wp_s2, Dx.intG_i, Dx.intG_b, Dx.powD_3, e1]
  exact ⟨e2, hq⟩
structure Dr (s lo hi a b : Int) : Prop where
  s1 : -5 ≤ s
  s2 : s ≤ 5
  l1 : -5 ≤ lo
  l2 : lo ≤ hi
  l3 : hi ≤ 14
  a1 : -16 ≤ a
  a2 : a ≤ b
  b2 : b ≤ 16
theorem Dr.v {s lo hi a b : Int} (h : Dr s lo hi a b) : VOk s lo hi := by
  obtain ⟨h1, h2, h3, h4, h5, h6, h7, h8⟩ := h
  exact ⟨by omega, by omega, by omega, h4, by omega⟩
theorem Dr.b {s lo hi a b : Int} (h : Dr s lo hi a b) : BOk a b := by
  obtain ⟨h1, h2, h3, h4, h5, h6, h7, h8⟩ := h
  exact ⟨by omega, h7, by omega⟩
theorem drawn_ok {n : Int} {p : Pt} (hp : Okp n p) (hn : n < 2 ^ 39) : Wp (m__law_drawn [.pot]) p fun d q => ∃ s lo hi a b, d = .tup [vt s lo hi, pr a b] ∧ Dr s lo hi a b ∧ Okp (n + 5) q := by
  simp (config := {maxSteps := 3000000}) (disch := omega) [Dx.fnM_ev', Dx.seqM_ev, Dx.seqK_next, Dx.seqK_ret, Dx.seqK_brk, Dx.seqK_cont, Dx.finM_ret, Dx.finM_next, Dx.retM, Dx.setM, Dx.setN, Dx.parM, Dx.oldM, Dx.newM, Dx.Val.slot, Dx.appM, Dx.plnM, Dx.ifM, Dx.exprM, Dx.skipM, Dx.failM, Dx.brkM, Dx.contM, Dx.con, Dx.callM, Dx.consM, Dx.nilM, Dx.op2, Dx.ts2, Dx.tsB, Dx.tNotM, Dx.tAndM, Dx.tOrM, Dx.andM, Dx.orM, Dx.notM, Dx.iteM, Dx.isiM, Dx.isiD, Dx.tyD, Dx.isaB, Dx.chB, Dx.blM, Dx.lenG, Dx.negM, Dx.negG, Dx.tupM, Dx.lstM, Dx.frzM, Dx.asgM, Dx.asgT, Dx.setAll, Dx.bnd_ret, Dx.bnd_fail, Dx.bnd_bnd, Dx.lift_val, Dx.lift_no, Dx.ev_0, Dx.ev_1, Dx.ev_2, Dx.ev_3, Dx.ev_4, Dx.ev_5, Dx.ev_6, Dx.ev_7, Dx.ev_8, Dx.ev_9, Dx.ev_10, Dx.ev_11, Dx.ev_12, Dx.ev_13, Dx.ev_14, Dx.ev_15, Dx.ev_16, Dx.ev_17, Dx.ev_18, Dx.ev_19, Dx.ev_20, Dx.ev_21, Dx.ev_22, Dx.ev_23, Dx.ev_24, Dx.ev_25, Dx.pk_0, Dx.pk_1, Dx.pk_2, Dx.pk_3, Dx.pk_4, Dx.pk_5, Dx.pk_6, Dx.pk_7, Dx.pk_8, Dx.pk_9, Dx.pk_10, Dx.pk_11, Dx.pk_12, Dx.pk_13, Dx.pk_14, Dx.pk_15, Dx.pk_16, Dx.pk_17, Dx.pk_18, Dx.pk_19, Dx.pk_20, Dx.pk_21, Dx.pk_22, Dx.pk_23, Dx.pk_24, Dx.pk_25, Dx.st_0, Dx.st_1, Dx.st_2, Dx.st_3, Dx.st_4, Dx.st_5, Dx.st_6, Dx.st_7, Dx.st_8, Dx.st_9, Dx.st_10, Dx.st_11, Dx.st_12, Dx.st_13, Dx.st_14, Dx.st_15, Dx.st_16, Dx.st_17, Dx.st_18, Dx.st_19, Dx.st_20, Dx.st_21, Dx.st_22, Dx.st_23, Dx.st_24, Dx.st_25, Dx.ow_0, Dx.ow_1, Dx.ow_2, Dx.ow_3, Dx.ow_4, Dx.ow_5, Dx.ow_6, Dx.ow_7, Dx.ow_8, Dx.ow_9, Dx.ow_10, Dx.ow_11, Dx.ow_12, Dx.ow_13, Dx.ow_14, Dx.ow_15, Dx.ow_16, Dx.ow_17, Dx.ow_18, Dx.ow_19, Dx.ow_20, Dx.ow_21, Dx.ow_22, Dx.ow_23, Dx.ow_24, Dx.ow_25, Dx.pk_o, Dx.gam0, Dx.ixD_t, Dx.ixD_l, Dx.atI_0, Dx.atI_1, Dx.atI_2, Dx.atI_3, Dx.atI_4, Dx.asB_b, Dx.addD_i, Dx.subD_i, Dx.addD_t, Dx.addD_l, Dx.mulD_l, Dx.fdivD_s, Dx.modD_p, Dx.cmpI_i, Dx.absG_i, Dx.szOk_le, Dx.tupG, Dx.yesM, Dx.seqI, Dx.seqG_t, Dx.seqG_l, Dx.seqZ_t, Dx.seqZ_l, Dx.starM, Dx.compL_nil, Dx.compL_cons, Dx.all_2, Dx.any_2, Dx.neD_i, Dx.eqD_i, Dx.neD_b, Dx.cut_from1, Dx.cut_to, Dx.sliceM, Dx.noBd, Dx.someBd, Dx.asI, Dx.sliceD_t, Dx.sliceD_l, Dx.zipL3_ints, Dx.zipL2_ints, Dx.zip3G_t, Dx.zip2G_t, Dx.zip2G_tl, Dx.loopM_map, Dx.biM, Dx.compM, Dx.compL_map, Dx.compI_ret, Dx.wipeG, Dx.rng2_ok, Dx.rng1_ok, Dx.seqRng_ok, Dx.rngG, Dx.any_ok, Dx.all_ok, Dx.filter_yes, Dx.rngI_length, Dx.ite_or, Dx.ite_and, Dx.ite_orB, Dx.ite_andB, Dx.wp_bnd_iff, Dx.wp_ret_iff, Dx.wp_ite_iff, Dx.wp_g0, Dx.wp_g1, Dx.wp_g2, Dx.wp_s0, Dx.wp_s2, Dx.intG_i, Dx.intG_b, Dx.powD_3, m__law_drawn]
  refine wp_mono (of_ok n p _ hp (by omega) (by simp) (by simp)) ?_
  rintro d q1 ⟨hd, hp1⟩
  have hs : ∃ s : Int, d = .int s ∧ -5 ≤ s ∧ s ≤ 5 := by
    simp at hd
    rcases hd with e | e | e | e | e | e <;> exact ⟨_, e, by decide, by decide⟩
  obtain ⟨s, rfl, s1, s2⟩ := hs
  refine wp_mono (take_ok _ q1 5 hp1 (by omega) (by decide) (by decide)) ?_
  rintro _ q2 ⟨r, rfl, r0, r1, hp2⟩
  simp (config := {maxSteps := 3000000}) (disch := omega) [Dx.fnM_ev', Dx.seqM_ev, Dx.seqK_next, Dx.seqK_ret, Dx.seqK_brk, Dx.seqK_cont, Dx.finM_ret, Dx.finM_next, Dx.retM, Dx.setM, Dx.setN, Dx.parM, Dx.oldM, Dx.newM, Dx.Val.slot, Dx.appM, Dx.plnM, Dx.ifM, Dx.exprM, Dx.skipM, Dx.failM, Dx.brkM, Dx.contM, Dx.con, Dx.callM, Dx.consM, Dx.nilM, Dx.op2, Dx.ts2, Dx.tsB, Dx.tNotM, Dx.tAndM, Dx.tOrM, Dx.andM, Dx.orM, Dx.notM, Dx.iteM, Dx.isiM, Dx.isiD, Dx.tyD, Dx.isaB, Dx.chB, Dx.blM, Dx.lenG, Dx.negM, Dx.negG, Dx.tupM, Dx.lstM, Dx.frzM, Dx.asgM, Dx.asgT, Dx.setAll, Dx.bnd_ret, Dx.bnd_fail, Dx.bnd_bnd, Dx.lift_val, Dx.lift_no, Dx.ev_0, Dx.ev_1, Dx.ev_2, Dx.ev_3, Dx.ev_4, Dx.ev_5, Dx.ev_6, Dx.ev_7, Dx.ev_8, Dx.ev_9, Dx.ev_10, Dx.ev_11, Dx.ev_12, Dx.ev_13, Dx.ev_14, Dx.ev_15, Dx.ev_16, Dx.ev_17, Dx.ev_18, Dx.ev_19, Dx.ev_20, Dx.ev_21, Dx.ev_22, Dx.ev_23, Dx.ev_24, Dx.ev_25, Dx.pk_0, Dx.pk_1, Dx.pk_2, Dx.pk_3, Dx.pk_4, Dx.pk_5, Dx.pk_6, Dx.pk_7, Dx.pk_8, Dx.pk_9, Dx.pk_10, Dx.pk_11, Dx.pk_12, Dx.pk_13, Dx.pk_14, Dx.pk_15, Dx.pk_16, Dx.pk_17, Dx.pk_18, Dx.pk_19, Dx.pk_20, Dx.pk_21, Dx.pk_22, Dx.pk_23, Dx.pk_24, Dx.pk_25, Dx.st_0, Dx.st_1, Dx.st_2, Dx.st_3, Dx.st_4, Dx.st_5, Dx.st_6, Dx.st_7, Dx.st_8, Dx.st_9, Dx.st_10, Dx.st_11, Dx.st_12, Dx.st_13, Dx.st_14, Dx.st_15, Dx.st_16, Dx.st_17, Dx.st_18, Dx.st_19, Dx.st_20, Dx.st_21, Dx.st_22, Dx.st_23, Dx.st_24, Dx.st_25, Dx.ow_0, Dx.ow_1, Dx.ow_2, Dx.ow_3, Dx.ow_4, Dx.ow_5, Dx.ow_6, Dx.ow_7, Dx.ow_8, Dx.ow_9, Dx.ow_10, Dx.ow_11, Dx.ow_12, Dx.ow_13, Dx.ow_14, Dx.ow_15, Dx.ow_16, Dx.ow_17, Dx.ow_18, Dx.ow_19, Dx.ow_20, Dx.ow_21, Dx.ow_22, Dx.ow_23, Dx.ow_24, Dx.ow_25, Dx.pk_o, Dx.gam0, Dx.ixD_t, Dx.ixD_l, Dx.atI_0, Dx.atI_1, Dx.atI_2, Dx.atI_3, Dx.atI_4, Dx.asB_b, Dx.addD_i, Dx.subD_i, Dx.addD_t, Dx.addD_l, Dx.mulD_l, Dx.fdivD_s, Dx.modD_p, Dx.cmpI_i, Dx.absG_i, Dx.szOk_le, Dx.tupG, Dx.yesM, Dx.seqI, Dx.seqG_t, Dx.seqG_l, Dx.seqZ_t, Dx.seqZ_l, Dx.starM, Dx.compL_nil, Dx.compL_cons, Dx.all_2, Dx.any_2, Dx.neD_i, Dx.eqD_i, Dx.neD_b, Dx.cut_from1, Dx.cut_to, Dx.sliceM, Dx.noBd, Dx.someBd, Dx.asI, Dx.sliceD_t, Dx.sliceD_l, Dx.zipL3_ints, Dx.zipL2_ints, Dx.zip3G_t, Dx.zip2G_t, Dx.zip2G_tl, Dx.loopM_map, Dx.biM, Dx.compM, Dx.compL_map, Dx.compI_ret, Dx.wipeG, Dx.rng2_ok, Dx.rng1_ok, Dx.seqRng_ok, Dx.rngG, Dx.any_ok, Dx.all_ok, Dx.filter_yes, Dx.rngI_length, Dx.ite_or, Dx.ite_and, Dx.ite_orB, Dx.ite_andB, Dx.wp_bnd_iff, Dx.wp_ret_iff, Dx.wp_ite_iff, Dx.wp_g0, Dx.wp_g1, Dx.wp_g2, Dx.wp_s0, Dx.wp_s2, Dx.intG_i, Dx.intG_b, Dx.powD_3]
  refine wp_mono (take_ok _ q2 12 hp2 (by omega) (by decide) (by decide)) ?_
  rintro _ q3 ⟨w, rfl, w0, w1, hp3⟩
  simp (config := {maxSteps := 3000000}) (disch := omega) [Dx.fnM_ev', Dx.seqM_ev, Dx.seqK_next, Dx.seqK_ret, Dx.seqK_brk, Dx.seqK_cont, Dx.finM_ret, Dx.finM_next, Dx.retM, Dx.setM, Dx.setN, Dx.parM, Dx.oldM, Dx.newM, Dx.Val.slot, Dx.appM, Dx.plnM, Dx.ifM, Dx.exprM, Dx.skipM, Dx.failM, Dx.brkM, Dx.contM, Dx.con, Dx.callM, Dx.consM, Dx.nilM, Dx.op2, Dx.ts2, Dx.tsB, Dx.tNotM, Dx.tAndM, Dx.tOrM, Dx.andM, Dx.orM, Dx.notM, Dx.iteM, Dx.isiM, Dx.isiD, Dx.tyD, Dx.isaB, Dx.chB, Dx.blM, Dx.lenG, Dx.negM, Dx.negG, Dx.tupM, Dx.lstM, Dx.frzM, Dx.asgM, Dx.asgT, Dx.setAll, Dx.bnd_ret, Dx.bnd_fail, Dx.bnd_bnd, Dx.lift_val, Dx.lift_no, Dx.ev_0, Dx.ev_1, Dx.ev_2, Dx.ev_3, Dx.ev_4, Dx.ev_5, Dx.ev_6, Dx.ev_7, Dx.ev_8, Dx.ev_9, Dx.ev_10, Dx.ev_11, Dx.ev_12, Dx.ev_13, Dx.ev_14, Dx.ev_15, Dx.ev_16, Dx.ev_17, Dx.ev_18, Dx.ev_19, Dx.ev_20, Dx.ev_21, Dx.ev_22, Dx.ev_23, Dx.ev_24, Dx.ev_25, Dx.pk_0, Dx.pk_1, Dx.pk_2, Dx.pk_3, Dx.pk_4, Dx.pk_5, Dx.pk_6, Dx.pk_7, Dx.pk_8, Dx.pk_9, Dx.pk_10, Dx.pk_11, Dx.pk_12, Dx.pk_13, Dx.pk_14, Dx.pk_15, Dx.pk_16, Dx.pk_17, Dx.pk_18, Dx.pk_19, Dx.pk_20, Dx.pk_21, Dx.pk_22, Dx.pk_23, Dx.pk_24, Dx.pk_25, Dx.st_0, Dx.st_1, Dx.st_2, Dx.st_3, Dx.st_4, Dx.st_5, Dx.st_6, Dx.st_7, Dx.st_8, Dx.st_9, Dx.st_10, Dx.st_11, Dx.st_12, Dx.st_13, Dx.st_14, Dx.st_15, Dx.st_16, Dx.st_17, Dx.st_18, Dx.st_19, Dx.st_20, Dx.st_21, Dx.st_22, Dx.st_23, Dx.st_24, Dx.st_25, Dx.ow_0, Dx.ow_1, Dx.ow_2, Dx.ow_3, Dx.ow_4, Dx.ow_5, Dx.ow_6, Dx.ow_7, Dx.ow_8, Dx.ow_9, Dx.ow_10, Dx.ow_11, Dx.ow_12, Dx.ow_13, Dx.ow_14, Dx.ow_15, Dx.ow_16, Dx.ow_17, Dx.ow_18, Dx.ow_19, Dx.ow_20, Dx.ow_21, Dx.ow_22, Dx.ow_23, Dx.ow_24, Dx.ow_25, Dx.pk_o, Dx.gam0, Dx.ixD_t, Dx.ixD_l, Dx.atI_0, Dx.atI_1, Dx.atI_2, Dx.atI_3, Dx.atI_4, Dx.asB_b, Dx.addD_i, Dx.subD_i, Dx.addD_t, Dx.addD_l, Dx.mulD_l, Dx.fdivD_s, Dx.modD_p, Dx.cmpI_i, Dx.absG_i, Dx.szOk_le, Dx.tupG, Dx.yesM, Dx.seqI, Dx.seqG_t, Dx.seqG_l, Dx.seqZ_t, Dx.seqZ_l, Dx.starM, Dx.compL_nil, Dx.compL_cons, Dx.all_2, Dx.any_2, Dx.neD_i, Dx.eqD_i, Dx.neD_b, Dx.cut_from1, Dx.cut_to, Dx.sliceM, Dx.noBd, Dx.someBd, Dx.asI, Dx.sliceD_t, Dx.sliceD_l, Dx.zipL3_ints, Dx.zipL2_ints, Dx.zip3G_t, Dx.zip2G_t, Dx.zip2G_tl, Dx.loopM_map, Dx.biM, Dx.compM, Dx.compL_map, Dx.compI_ret, Dx.wipeG, Dx.rng2_ok, Dx.rng1_ok, Dx.seqRng_ok, Dx.rngG, Dx.any_ok, Dx.all_ok, Dx.filter_yes, Dx.rngI_length, Dx.ite_or, Dx.ite_and, Dx.ite_orB, Dx.ite_andB, Dx.wp_bnd_iff, Dx.wp_ret_iff, Dx.wp_ite_iff, Dx.wp_g0, Dx.wp_g1, Dx.wp_g2, Dx.wp_s0, Dx.wp_s2, Dx.intG_i, Dx.intG_b, Dx.powD_3]
  refine wp_mono (take_ok _ q3 16 hp3 (by omega) (by decide) (by decide)) ?_
  rintro _ q4 ⟨f, rfl, f0, f1, hp4⟩
  simp (config := {maxSteps := 3000000}) (disch := omega) [Dx.fnM_ev', Dx.seqM_ev, Dx.seqK_next, Dx.seqK_ret, Dx.seqK_brk, Dx.seqK_cont, Dx.finM_ret, Dx.finM_next, Dx.retM, Dx.setM, Dx.setN, Dx.parM, Dx.oldM, Dx.newM, Dx.Val.slot, Dx.appM, Dx.plnM, Dx.ifM, Dx.exprM, Dx.skipM, Dx.failM, Dx.brkM, Dx.contM, Dx.con, Dx.callM, Dx.consM, Dx.nilM, Dx.op2, Dx.ts2, Dx.tsB, Dx.tNotM, Dx.tAndM, Dx.tOrM, Dx.andM, Dx.orM, Dx.notM, Dx.iteM, Dx.isiM, Dx.isiD, Dx.tyD, Dx.isaB, Dx.chB, Dx.blM, Dx.lenG, Dx.negM, Dx.negG, Dx.tupM, Dx.lstM, Dx.frzM, Dx.asgM, Dx.asgT, Dx.setAll, Dx.bnd_ret, Dx.bnd_fail, Dx.bnd_bnd, Dx.lift_val, Dx.lift_no, Dx.ev_0, Dx.ev_1, Dx.ev_2, Dx.ev_3, Dx.ev_4, Dx.ev_5, Dx.ev_6, Dx.ev_7, Dx.ev_8, Dx.ev_9, Dx.ev_10, Dx.ev_11, Dx.ev_12, Dx.ev_13, Dx.ev_14, Dx.ev_15, Dx.ev_16, Dx.ev_17, Dx.ev_18, Dx.ev_19, Dx.ev_20, Dx.ev_21, Dx.ev_22, Dx.ev_23, Dx.ev_24, Dx.ev_25, Dx.pk_0, Dx.pk_1, Dx.pk_2, Dx.pk_3, Dx.pk_4, Dx.pk_5, Dx.pk_6, Dx.pk_7, Dx.pk_8, Dx.pk_9, Dx.pk_10, Dx.pk_11, Dx.pk_12, Dx.pk_13, Dx.pk_14, Dx.pk_15, Dx.pk_16, Dx.pk_17, Dx.pk_18, Dx.pk_19, Dx.pk_20, Dx.pk_21, Dx.pk_22, Dx.pk_23, Dx.pk_24, Dx.pk_25, Dx.st_0, Dx.st_1, Dx.st_2, Dx.st_3, Dx.st_4, Dx.st_5, Dx.st_6, Dx.st_7, Dx.st_8, Dx.st_9, Dx.st_10, Dx.st_11, Dx.st_12, Dx.st_13, Dx.st_14, Dx.st_15, Dx.st_16, Dx.st_17, Dx.st_18, Dx.st_19, Dx.st_20, Dx.st_21, Dx.st_22, Dx.st_23, Dx.st_24, Dx.st_25, Dx.ow_0, Dx.ow_1, Dx.ow_2, Dx.ow_3, Dx.ow_4, Dx.ow_5, Dx.ow_6, Dx.ow_7, Dx.ow_8, Dx.ow_9, Dx.ow_10, Dx.ow_11, Dx.ow_12, Dx.ow_13, Dx.ow_14, Dx.ow_15, Dx.ow_16, Dx.ow_17, Dx.ow_18, Dx.ow_19, Dx.ow_20, Dx.ow_21, Dx.ow_22, Dx.ow_23, Dx.ow_24, Dx.ow_25, Dx.pk_o, Dx.gam0, Dx.ixD_t, Dx.ixD_l, Dx.atI_0, Dx.atI_1, Dx.atI_2, Dx.atI_3, Dx.atI_4, Dx.asB_b, Dx.addD_i, Dx.subD_i, Dx.addD_t, Dx.addD_l, Dx.mulD_l, Dx.fdivD_s, Dx.modD_p, Dx.cmpI_i, Dx.absG_i, Dx.szOk_le, Dx.tupG, Dx.yesM, Dx.seqI, Dx.seqG_t, Dx.seqG_l, Dx.seqZ_t, Dx.seqZ_l, Dx.starM, Dx.compL_nil, Dx.compL_cons, Dx.all_2, Dx.any_2, Dx.neD_i, Dx.eqD_i, Dx.neD_b, Dx.cut_from1, Dx.cut_to, Dx.sliceM, Dx.noBd, Dx.someBd, Dx.asI, Dx.sliceD_t, Dx.sliceD_l, Dx.zipL3_ints, Dx.zipL2_ints, Dx.zip3G_t, Dx.zip2G_t, Dx.zip2G_tl, Dx.loopM_map, Dx.biM, Dx.compM, Dx.compL_map, Dx.compI_ret, Dx.wipeG, Dx.rng2_ok, Dx.rng1_ok, Dx.seqRng_ok, Dx.rngG, Dx.any_ok, Dx.all_ok, Dx.filter_yes, Dx.rngI_length, Dx.ite_or, Dx.ite_and, Dx.ite_orB, Dx.ite_andB, Dx.wp_bnd_iff, Dx.wp_ret_iff, Dx.wp_ite_iff, Dx.wp_g0, Dx.wp_g1, Dx.wp_g2, Dx.wp_s0, Dx.wp_s2, Dx.intG_i, Dx.intG_b, Dx.powD_3]
  refine wp_mono (take_ok _ q4 15 hp4 (by omega) (by decide) (by decide)) ?_
  rintro _ q5 ⟨t, rfl, t0, t1, hp5⟩
  simp (config := {maxSteps := 3000000}) (disch := omega) [Dx.fnM_ev', Dx.seqM_ev, Dx.seqK_next, Dx.seqK_ret, Dx.seqK_brk, Dx.seqK_cont, Dx.finM_ret, Dx.finM_next, Dx.retM, Dx.setM, Dx.setN, Dx.parM, Dx.oldM, Dx.newM, Dx.Val.slot, Dx.appM, Dx.plnM, Dx.ifM, Dx.exprM, Dx.skipM, Dx.failM, Dx.brkM, Dx.contM, Dx.con, Dx.callM, Dx.consM, Dx.nilM, Dx.op2, Dx.ts2, Dx.tsB, Dx.tNotM, Dx.tAndM, Dx.tOrM, Dx.andM, Dx.orM, Dx.notM, Dx.iteM, Dx.isiM, Dx.isiD, Dx.tyD, Dx.isaB, Dx.chB, Dx.blM, Dx.lenG, Dx.negM, Dx.negG, Dx.tupM, Dx.lstM, Dx.frzM, Dx.asgM, Dx.asgT, Dx.setAll, Dx.bnd_ret, Dx.bnd_fail, Dx.bnd_bnd, Dx.lift_val, Dx.lift_no, Dx.ev_0, Dx.ev_1, Dx.ev_2, Dx.ev_3, Dx.ev_4, Dx.ev_5, Dx.ev_6, Dx.ev_7, Dx.ev_8, Dx.ev_9, Dx.ev_10, Dx.ev_11, Dx.ev_12, Dx.ev_13, Dx.ev_14, Dx.ev_15, Dx.ev_16, Dx.ev_17, Dx.ev_18, Dx.ev_19, Dx.ev_20, Dx.ev_21, Dx.ev_22, Dx.ev_23, Dx.ev_24, Dx.ev_25, Dx.pk_0, Dx.pk_1, Dx.pk_2, Dx.pk_3, Dx.pk_4, Dx.pk_5, Dx.pk_6, Dx.pk_7, Dx.pk_8, Dx.pk_9, Dx.pk_10, Dx.pk_11, Dx.pk_12, Dx.pk_13, Dx.pk_14, Dx.pk_15, Dx.pk_16, Dx.pk_17, Dx.pk_18, Dx.pk_19, Dx.pk_20, Dx.pk_21, Dx.pk_22, Dx.pk_23, Dx.pk_24, Dx.pk_25, Dx.st_0, Dx.st_1, Dx.st_2, Dx.st_3, Dx.st_4, Dx.st_5, Dx.st_6, Dx.st_7, Dx.st_8, Dx.st_9, Dx.st_10, Dx.st_11, Dx.st_12, Dx.st_13, Dx.st_14, Dx.st_15, Dx.st_16, Dx.st_17, Dx.st_18, Dx.st_19, Dx.st_20, Dx.st_21, Dx.st_22, Dx.st_23, Dx.st_24, Dx.st_25, Dx.ow_0, Dx.ow_1, Dx.ow_2, Dx.ow_3, Dx.ow_4, Dx.ow_5, Dx.ow_6, Dx.ow_7, Dx.ow_8, Dx.ow_9, Dx.ow_10, Dx.ow_11, Dx.ow_12, Dx.ow_13, Dx.ow_14, Dx.ow_15, Dx.ow_16, Dx.ow_17, Dx.ow_18, Dx.ow_19, Dx.ow_20, Dx.ow_21, Dx.ow_22, Dx.ow_23, Dx.ow_24, Dx.ow_25, Dx.pk_o, Dx.gam0, Dx.ixD_t, Dx.ixD_l, Dx.atI_0, Dx.atI_1, Dx.atI_2, Dx.atI_3, Dx.atI_4, Dx.asB_b, Dx.addD_i, Dx.subD_i, Dx.addD_t, Dx.addD_l, Dx.mulD_l, Dx.fdivD_s, Dx.modD_p, Dx.cmpI_i, Dx.absG_i, Dx.szOk_le, Dx.tupG, Dx.yesM, Dx.seqI, Dx.seqG_t, Dx.seqG_l, Dx.seqZ_t, Dx.seqZ_l, Dx.starM, Dx.compL_nil, Dx.compL_cons, Dx.all_2, Dx.any_2, Dx.neD_i, Dx.eqD_i, Dx.neD_b, Dx.cut_from1, Dx.cut_to, Dx.sliceM, Dx.noBd, Dx.someBd, Dx.asI, Dx.sliceD_t, Dx.sliceD_l, Dx.zipL3_ints, Dx.zipL2_ints, Dx.zip3G_t, Dx.zip2G_t, Dx.zip2G_tl, Dx.loopM_map, Dx.biM, Dx.compM, Dx.compL_map, Dx.compI_ret, Dx.wipeG, Dx.rng2_ok, Dx.rng1_ok, Dx.seqRng_ok, Dx.rngG, Dx.any_ok, Dx.all_ok, Dx.filter_yes, Dx.rngI_length, Dx.ite_or, Dx.ite_and, Dx.ite_orB, Dx.ite_andB, Dx.wp_bnd_iff, Dx.wp_ret_iff, Dx.wp_ite_iff, Dx.wp_g0, Dx.wp_g1, Dx.wp_g2, Dx.wp_s0, Dx.wp_s2, Dx.intG_i, Dx.intG_b, Dx.powD_3]
  exact ⟨s, 1 - r, 1 - r + w, -f, -f + t, ⟨rfl, rfl⟩, ⟨s1, s2, by omega, by omega, by omega, by omega, by omega, by omega⟩, hp5.mono (by omega)⟩
/-! ### the row -/
theorem ab_mid {x y z w : Int} (h1 : x ≤ y) (h2 : y ≤ z) (h : w < ab y) : w < ab x ∨ w < ab z := by
  unfold ab at *
  split at h <;> split <;> split <;> omega
theorem par_ends {s w t x y z : Int} (h1 : x ≤ y) (h2 : y ≤ z) (h : par s w y t = true) : par s w x t = true ∨ par s w z t = true := by
  unfold par at *
  simp only [decide_eq_true_eq] at *
  by_cases hs : 0 ≤ s
  · exact ab_mid (Int.mul_le_mul_of_nonneg_left (by omega) hs) (Int.mul_le_mul_of_nonneg_left (by omega) hs) h
  · exact (ab_mid (x := s * (z - t)) (z := s * (x - t)) (Int.mul_le_mul_of_nonpos_left (by omega) (by omega)) (Int.mul_le_mul_of_nonpos_left (by omega) (by omega)) h).symm
theorem told_mem {P : Int → Int → Bool} {a b : Int} {l m : List Int} (h : ∀ x, x ∈ l ↔ x ∈ m) : told P a b l = told P a b m := by
  unfold told
  congr 1
  funext t
  rw [Bool.eq_iff_iff, List.any_eq_true, List.any_eq_true]
  constructor
  · rintro ⟨x, hx, e⟩; exact ⟨x, (h x).mp hx, e⟩
  · rintro ⟨x, hx, e⟩; exact ⟨x, (h x).mpr hx, e⟩
theorem told_mono {P : Int → Int → Bool} {a b : Int} {l m : List Int} (h : ∀ x ∈ l, x ∈ m) (k : told P a b l = true) : told P a b m = true := by
  unfold told at *
  rw [List.all_eq_true] at *
  intro t ht
  obtain ⟨x, hx, e⟩ := List.any_eq_true.mp (k t ht)
  exact List.any_eq_true.mpr ⟨x, h x hx, e⟩
theorem told_ends {s w a b : Int} {l : List Int} (hl : l ≠ []) : told (par s w) a b l = told (par s w) a b [minI l, maxI l] := by
  unfold told
  congr 1
  funext t
  rw [Bool.eq_iff_iff, List.any_eq_true, List.any_eq_true]
  constructor
  · rintro ⟨x, hx, e⟩
    rcases par_ends (minI_le hx) (maxI_le hx) e with h | h
    · exact ⟨_, by simp, h⟩
    · exact ⟨_, by simp, h⟩
  · rintro ⟨x, hx, e⟩
    simp only [List.mem_cons, List.not_mem_nil, or_false] at hx
    rcases hx with rfl | rfl
    · exact ⟨_, minI_mem hl, e⟩
    · exact ⟨_, maxI_mem hl, e⟩
theorem erase_perm {α : Type} : ∀ {l : List α} {k : Nat} (h : k < l.length), (l[k] :: l.eraseIdx k).Perm l
  | a :: l, 0, _ => by simp
  | a :: l, k + 1, h => by
    have hk : k < l.length := by simpa using h
    simp only [List.getElem_cons_succ, List.eraseIdx_cons_succ]
    exact (List.Perm.swap a l[k] _).trans (List.Perm.cons a (erase_perm hk))
/-- drawn in some order -/
theorem shuffled_ok {n : Int} {p : Pt} {row : List Int} (hp : Okp n p) (hn : n < 2 ^ 39) (hr : row.length ≤ 100) : Wp (m__law_shuffled [.pot, .tup (row.map .int)]) p fun d q => ∃ l : List Int, d = .tup (l.map .int) ∧ l.Perm row ∧ Okp (n + row.length) q := by
  have lg : listG [.tup (row.map .int)] = some (row.map .int) := rfl
  simp (config := {maxSteps := 3000000}) (disch := omega) [Dx.fnM_ev', Dx.seqM_ev, Dx.seqK_next, Dx.seqK_ret, Dx.seqK_brk, Dx.seqK_cont, Dx.finM_ret, Dx.finM_next, Dx.retM, Dx.setM, Dx.setN, Dx.parM, Dx.oldM, Dx.newM, Dx.Val.slot, Dx.appM, Dx.plnM, Dx.ifM, Dx.exprM, Dx.skipM, Dx.failM, Dx.brkM, Dx.contM, Dx.con, Dx.callM, Dx.consM, Dx.nilM, Dx.op2, Dx.ts2, Dx.tsB, Dx.tNotM, Dx.tAndM, Dx.tOrM, Dx.andM, Dx.orM, Dx.notM, Dx.iteM, Dx.isiM, Dx.isiD, Dx.tyD, Dx.isaB, Dx.chB, Dx.blM, Dx.lenG, Dx.negM, Dx.negG, Dx.tupM, Dx.lstM, Dx.frzM, Dx.asgM, Dx.asgT, Dx.setAll, Dx.bnd_ret, Dx.bnd_fail, Dx.bnd_bnd, Dx.lift_val, Dx.lift_no, Dx.ev_0, Dx.ev_1, Dx.ev_2, Dx.ev_3, Dx.ev_4, Dx.ev_5, Dx.ev_6, Dx.ev_7, Dx.ev_8, Dx.ev_9, Dx.ev_10, Dx.ev_11, Dx.ev_12, Dx.ev_13, Dx.ev_14, Dx.ev_15, Dx.ev_16, Dx.ev_17, Dx.ev_18, Dx.ev_19, Dx.ev_20, Dx.ev_21, Dx.ev_22, Dx.ev_23, Dx.ev_24, Dx.ev_25, Dx.pk_0, Dx.pk_1, Dx.pk_2, Dx.pk_3, Dx.pk_4, Dx.pk_5, Dx.pk_6, Dx.pk_7, Dx.pk_8, Dx.pk_9, Dx.pk_10, Dx.pk_11, Dx.pk_12, Dx.pk_13, Dx.pk_14, Dx.pk_15, Dx.pk_16, Dx.pk_17, Dx.pk_18, Dx.pk_19, Dx.pk_20, Dx.pk_21, Dx.pk_22, Dx.pk_23, Dx.pk_24, Dx.pk_25, Dx.st_0, Dx.st_1, Dx.st_2, Dx.st_3, Dx.st_4, Dx.st_5, Dx.st_6, Dx.st_7, Dx.st_8, Dx.st_9, Dx.st_10, Dx.st_11, Dx.st_12, Dx.st_13, Dx.st_14, Dx.st_15, Dx.st_16, Dx.st_17, Dx.st_18, Dx.st_19, Dx.st_20, Dx.st_21, Dx.st_22, Dx.st_23, Dx.st_24, Dx.st_25, Dx.ow_0, Dx.ow_1, Dx.ow_2, Dx.ow_3, Dx.ow_4, Dx.ow_5, Dx.ow_6, Dx.ow_7, Dx.ow_8, Dx.ow_9, Dx.ow_10, Dx.ow_11, Dx.ow_12, Dx.ow_13, Dx.ow_14, Dx.ow_15, Dx.ow_16, Dx.ow_17, Dx.ow_18, Dx.ow_19, Dx.ow_20, Dx.ow_21, Dx.ow_22, Dx.ow_23, Dx.ow_24, Dx.ow_25, Dx.pk_o, Dx.gam0, Dx.ixD_t, Dx.ixD_l, Dx.atI_0, Dx.atI_1, Dx.atI_2, Dx.atI_3, Dx.atI_4, Dx.asB_b, Dx.addD_i, Dx.subD_i, Dx.addD_t, Dx.addD_l, Dx.mulD_l, Dx.fdivD_s, Dx.modD_p, Dx.cmpI_i, Dx.absG_i, Dx.szOk_le, Dx.tupG, Dx.yesM, Dx.seqI, Dx.seqG_t, Dx.seqG_l, Dx.seqZ_t, Dx.seqZ_l, Dx.starM, Dx.compL_nil, Dx.compL_cons, Dx.all_2, Dx.any_2, Dx.neD_i, Dx.eqD_i, Dx.neD_b, Dx.cut_from1, Dx.cut_to, Dx.sliceM, Dx.noBd, Dx.someBd, Dx.asI, Dx.sliceD_t, Dx.sliceD_l, Dx.zipL3_ints, Dx.zipL2_ints, Dx.zip3G_t, Dx.zip2G_t, Dx.zip2G_tl, Dx.loopM_map, Dx.biM, Dx.compM, Dx.compL_map, Dx.compI_ret, Dx.wipeG, Dx.rng2_ok, Dx.rng1_ok, Dx.seqRng_ok, Dx.rngG, Dx.any_ok, Dx.all_ok, Dx.filter_yes, Dx.rngI_length, Dx.ite_or, Dx.ite_and, Dx.ite_orB, Dx.ite_andB, Dx.wp_bnd_iff, Dx.wp_ret_iff, Dx.wp_ite_iff, Dx.wp_g0, Dx.wp_g1, Dx.wp_g2, Dx.wp_s0, Dx.wp_s2, Dx.intG_i, Dx.intG_b, Dx.powD_3, m__law_shuffled, lg, forM']
  refine wp_mono (wp_loopI (Q := fun r q => ∃ (l : List Int) (x : Slot), r = (.next, [.val .pot, .val (.tup (row.map .int)), .own (.lst []), .own (.lst (l.map .int)), x]) ∧ l.Perm row ∧ Okp (n + row.length) q)
    (I := fun ds Γ q => ∃ (left found : List Int) (x : Slot), Γ = [.val .pot, .val (.tup (row.map .int)), .own (.lst (left.map .int)), .own (.lst (found.map .int)), x] ∧ left.length = ds.length ∧ left.length + found.length = row.length ∧ (left ++ found).Perm row ∧ Okp (n + found.length) q) ?_ ?_ _ _ _
    ⟨row, [], _, rfl, by rw [rngI_length], by simp, by simp, hp.mono (by simp)⟩) ?_
  · rintro Γ q ⟨left, found, x, rfl, e1, e2, e3, e4⟩
    have e : left = [] := List.length_eq_zero_iff.mp e1
    subst e
    simp only [List.nil_append, List.length_nil, Nat.zero_add] at e2 e3
    exact ⟨found, x, rfl, e3, by rw [← e2]; exact e4⟩
  · rintro a ds Γ q ⟨left, found, x, rfl, e1, e2, e3, e4⟩
    rw [List.length_cons] at e1
    simp (config := {maxSteps := 3000000}) (disch := omega) [Dx.fnM_ev', Dx.seqM_ev, Dx.seqK_next, Dx.seqK_ret, Dx.seqK_brk, Dx.seqK_cont, Dx.finM_ret, Dx.finM_next, Dx.retM, Dx.setM, Dx.setN, Dx.parM, Dx.oldM, Dx.newM, Dx.Val.slot, Dx.appM, Dx.plnM, Dx.ifM, Dx.exprM, Dx.skipM, Dx.failM, Dx.brkM, Dx.contM, Dx.con, Dx.callM, Dx.consM, Dx.nilM, Dx.op2, Dx.ts2, Dx.tsB, Dx.tNotM, Dx.tAndM, Dx.tOrM, Dx.andM, Dx.orM, Dx.notM, Dx.iteM, Dx.isiM, Dx.isiD, Dx.tyD, Dx.isaB, Dx.chB, Dx.blM, Dx.lenG, Dx.negM, Dx.negG, Dx.tupM, Dx.lstM, Dx.frzM, Dx.asgM, Dx.asgT, Dx.setAll, Dx.bnd_ret, Dx.bnd_fail, Dx.bnd_bnd, Dx.lift_val, Dx.lift_no, Dx.ev_0, Dx.ev_1, Dx.ev_2, Dx.ev_3, Dx.ev_4, Dx.ev_5, Dx.ev_6, Dx.ev_7, Dx.ev_8, Dx.ev_9, Dx.ev_10, Dx.ev_11, Dx.ev_12, Dx.ev_13, Dx.ev_14, Dx.ev_15, Dx.ev_16, Dx.ev_17, Dx.ev_18, Dx.ev_19, Dx.ev_20, Dx.ev_21, Dx.ev_22, Dx.ev_23, Dx.ev_24, Dx.ev_25, Dx.pk_0, Dx.pk_1, Dx.pk_2, Dx.pk_3, Dx.pk_4, Dx.pk_5, Dx.pk_6, Dx.pk_7, Dx.pk_8, Dx.pk_9, Dx.pk_10, Dx.pk_11, Dx.pk_12, Dx.pk_13, Dx.pk_14, Dx.pk_15, Dx.pk_16, Dx.pk_17, Dx.pk_18, Dx.pk_19, Dx.pk_20, Dx.pk_21, Dx.pk_22, Dx.pk_23, Dx.pk_24, Dx.pk_25, Dx.st_0, Dx.st_1, Dx.st_2, Dx.st_3, Dx.st_4, Dx.st_5, Dx.st_6, Dx.st_7, Dx.st_8, Dx.st_9, Dx.st_10, Dx.st_11, Dx.st_12, Dx.st_13, Dx.st_14, Dx.st_15, Dx.st_16, Dx.st_17, Dx.st_18, Dx.st_19, Dx.st_20, Dx.st_21, Dx.st_22, Dx.st_23, Dx.st_24, Dx.st_25, Dx.ow_0, Dx.ow_1, Dx.ow_2, Dx.ow_3, Dx.ow_4, Dx.ow_5, Dx.ow_6, Dx.ow_7, Dx.ow_8, Dx.ow_9, Dx.ow_10, Dx.ow_11, Dx.ow_12, Dx.ow_13, Dx.ow_14, Dx.ow_15, Dx.ow_16, Dx.ow_17, Dx.ow_18, Dx.ow_19, Dx.ow_20, Dx.ow_21, Dx.ow_22, Dx.ow_23, Dx.ow_24, Dx.ow_25, Dx.pk_o, Dx.gam0, Dx.ixD_t, Dx.ixD_l, Dx.atI_0, Dx.atI_1, Dx.atI_2, Dx.atI_3, Dx.atI_4, Dx.asB_b, Dx.addD_i, Dx.subD_i, Dx.addD_t, Dx.addD_l, Dx.mulD_l, Dx.fdivD_s, Dx.modD_p, Dx.cmpI_i, Dx.absG_i, Dx.szOk_le, Dx.tupG, Dx.yesM, Dx.seqI, Dx.seqG_t, Dx.seqG_l, Dx.seqZ_t, Dx.seqZ_l, Dx.starM, Dx.compL_nil, Dx.compL_cons, Dx.all_2, Dx.any_2, Dx.neD_i, Dx.eqD_i, Dx.neD_b, Dx.cut_from1, Dx.cut_to, Dx.sliceM, Dx.noBd, Dx.someBd, Dx.asI, Dx.sliceD_t, Dx.sliceD_l, Dx.zipL3_ints, Dx.zipL2_ints, Dx.zip3G_t, Dx.zip2G_t, Dx.zip2G_tl, Dx.loopM_map, Dx.biM, Dx.compM, Dx.compL_map, Dx.compI_ret, Dx.wipeG, Dx.rng2_ok, Dx.rng1_ok, Dx.seqRng_ok, Dx.rngG, Dx.any_ok, Dx.all_ok, Dx.filter_yes, Dx.rngI_length, Dx.ite_or, Dx.ite_and, Dx.ite_orB, Dx.ite_andB, Dx.wp_bnd_iff, Dx.wp_ret_iff, Dx.wp_ite_iff, Dx.wp_g0, Dx.wp_g1, Dx.wp_g2, Dx.wp_s0, Dx.wp_s2, Dx.intG_i, Dx.intG_b, Dx.powD_3, lb__law_shuffled_1]
    refine popAt_wp (l := left) (by simp (config := {maxSteps := 3000000}) (disch := omega) [Dx.fnM_ev', Dx.seqM_ev, Dx.seqK_next, Dx.seqK_ret, Dx.seqK_brk, Dx.seqK_cont, Dx.finM_ret, Dx.finM_next, Dx.retM, Dx.setM, Dx.setN, Dx.parM, Dx.oldM, Dx.newM, Dx.Val.slot, Dx.appM, Dx.plnM, Dx.ifM, Dx.exprM, Dx.skipM, Dx.failM, Dx.brkM, Dx.contM, Dx.con, Dx.callM, Dx.consM, Dx.nilM, Dx.op2, Dx.ts2, Dx.tsB, Dx.tNotM, Dx.tAndM, Dx.tOrM, Dx.andM, Dx.orM, Dx.notM, Dx.iteM, Dx.isiM, Dx.isiD, Dx.tyD, Dx.isaB, Dx.chB, Dx.blM, Dx.lenG, Dx.negM, Dx.negG, Dx.tupM, Dx.lstM, Dx.frzM, Dx.asgM, Dx.asgT, Dx.setAll, Dx.bnd_ret, Dx.bnd_fail, Dx.bnd_bnd, Dx.lift_val, Dx.lift_no, Dx.ev_0, Dx.ev_1, Dx.ev_2, Dx.ev_3, Dx.ev_4, Dx.ev_5, Dx.ev_6, Dx.ev_7, Dx.ev_8, Dx.ev_9, Dx.ev_10, Dx.ev_11, Dx.ev_12, Dx.ev_13, Dx.ev_14, Dx.ev_15, Dx.ev_16, Dx.ev_17, Dx.ev_18, Dx.ev_19, Dx.ev_20, Dx.ev_21, Dx.ev_22, Dx.ev_23, Dx.ev_24, Dx.ev_25, Dx.pk_0, Dx.pk_1, Dx.pk_2, Dx.pk_3, Dx.pk_4, Dx.pk_5, Dx.pk_6, Dx.pk_7, Dx.pk_8, Dx.pk_9, Dx.pk_10, Dx.pk_11, Dx.pk_12, Dx.pk_13, Dx.pk_14, Dx.pk_15, Dx.pk_16, Dx.pk_17, Dx.pk_18, Dx.pk_19, Dx.pk_20, Dx.pk_21, Dx.pk_22, Dx.pk_23, Dx.pk_24, Dx.pk_25, Dx.st_0, Dx.st_1, Dx.st_2, Dx.st_3, Dx.st_4, Dx.st_5, Dx.st_6, Dx.st_7, Dx.st_8, Dx.st_9, Dx.st_10, Dx.st_11, Dx.st_12, Dx.st_13, Dx.st_14, Dx.st_15, Dx.st_16, Dx.st_17, Dx.st_18, Dx.st_19, Dx.st_20, Dx.st_21, Dx.st_22, Dx.st_23, Dx.st_24, Dx.st_25, Dx.ow_0, Dx.ow_1, Dx.ow_2, Dx.ow_3, Dx.ow_4, Dx.ow_5, Dx.ow_6, Dx.ow_7, Dx.ow_8, Dx.ow_9, Dx.ow_10, Dx.ow_11, Dx.ow_12, Dx.ow_13, Dx.ow_14, Dx.ow_15, Dx.ow_16, Dx.ow_17, Dx.ow_18, Dx.ow_19, Dx.ow_20, Dx.ow_21, Dx.ow_22, Dx.ow_23, Dx.ow_24, Dx.ow_25, Dx.pk_o, Dx.gam0, Dx.ixD_t, Dx.ixD_l, Dx.atI_0, Dx.atI_1, Dx.atI_2, Dx.atI_3, Dx.atI_4, Dx.asB_b, Dx.addD_i, Dx.subD_i, Dx.addD_t, Dx.addD_l, Dx.mulD_l, Dx.fdivD_s, Dx.modD_p, Dx.cmpI_i, Dx.absG_i, Dx.szOk_le, Dx.tupG, Dx.yesM, Dx.seqI, Dx.seqG_t, Dx.seqG_l, Dx.seqZ_t, Dx.seqZ_l, Dx.starM, Dx.compL_nil, Dx.compL_cons, Dx.all_2, Dx.any_2, Dx.neD_i, Dx.eqD_i, Dx.neD_b, Dx.cut_from1, Dx.cut_to, Dx.sliceM, Dx.noBd, Dx.someBd, Dx.asI, Dx.sliceD_t, Dx.sliceD_l, Dx.zipL3_ints, Dx.zipL2_ints, Dx.zip3G_t, Dx.zip2G_t, Dx.zip2G_tl, Dx.loopM_map, Dx.biM, Dx.compM, Dx.compL_map, Dx.compI_ret, Dx.wipeG, Dx.rng2_ok, Dx.rng1_ok, Dx.seqRng_ok, Dx.rngG, Dx.any_ok, Dx.all_ok, Dx.filter_yes, Dx.rngI_length, Dx.ite_or, Dx.ite_and, Dx.ite_orB, Dx.ite_andB]) (by omega) ?_
    simp (config := {maxSteps := 3000000}) (disch := omega) [Dx.fnM_ev', Dx.seqM_ev, Dx.seqK_next, Dx.seqK_ret, Dx.seqK_brk, Dx.seqK_cont, Dx.finM_ret, Dx.finM_next, Dx.retM, Dx.setM, Dx.setN, Dx.parM, Dx.oldM, Dx.newM, Dx.Val.slot, Dx.appM, Dx.plnM, Dx.ifM, Dx.exprM, Dx.skipM, Dx.failM, Dx.brkM, Dx.contM, Dx.con, Dx.callM, Dx.consM, Dx.nilM, Dx.op2, Dx.ts2, Dx.tsB, Dx.tNotM, Dx.tAndM, Dx.tOrM, Dx.andM, Dx.orM, Dx.notM, Dx.iteM, Dx.isiM, Dx.isiD, Dx.tyD, Dx.isaB, Dx.chB, Dx.blM, Dx.lenG, Dx.negM, Dx.negG, Dx.tupM, Dx.lstM, Dx.frzM, Dx.asgM, Dx.asgT, Dx.setAll, Dx.bnd_ret, Dx.bnd_fail, Dx.bnd_bnd, Dx.lift_val, Dx.lift_no, Dx.ev_0, Dx.ev_1, Dx.ev_2, Dx.ev_3, Dx.ev_4, Dx.ev_5, Dx.ev_6, Dx.ev_7, Dx.ev_8, Dx.ev_9, Dx.ev_10, Dx.ev_11, Dx.ev_12, Dx.ev_13, Dx.ev_14, Dx.ev_15, Dx.ev_16, Dx.ev_17, Dx.ev_18, Dx.ev_19, Dx.ev_20, Dx.ev_21, Dx.ev_22, Dx.ev_23, Dx.ev_24, Dx.ev_25, Dx.pk_0, Dx.pk_1, Dx.pk_2, Dx.pk_3, Dx.pk_4, Dx.pk_5, Dx.pk_6, Dx.pk_7, Dx.pk_8, Dx.pk_9, Dx.pk_10, Dx.pk_11, Dx.pk_12, Dx.pk_13, Dx.pk_14, Dx.pk_15, Dx.pk_16, Dx.pk_17, Dx.pk_18, Dx.pk_19, Dx.pk_20, Dx.pk_21, Dx.pk_22, Dx.pk_23, Dx.pk_24, Dx.pk_25, Dx.st_0, Dx.st_1, Dx.st_2, Dx.st_3, Dx.st_4, Dx.st_5, Dx.st_6, Dx.st_7, Dx.st_8, Dx.st_9, Dx.st_10, Dx.st_11, Dx.st_12, Dx.st_13, Dx.st_14, Dx.st_15, Dx.st_16, Dx.st_17, Dx.st_18, Dx.st_19, Dx.st_20, Dx.st_21, Dx.st_22, Dx.st_23, Dx.st_24, Dx.st_25, Dx.ow_0, Dx.ow_1, Dx.ow_2, Dx.ow_3, Dx.ow_4, Dx.ow_5, Dx.ow_6, Dx.ow_7, Dx.ow_8, Dx.ow_9, Dx.ow_10, Dx.ow_11, Dx.ow_12, Dx.ow_13, Dx.ow_14, Dx.ow_15, Dx.ow_16, Dx.ow_17, Dx.ow_18, Dx.ow_19, Dx.ow_20, Dx.ow_21, Dx.ow_22, Dx.ow_23, Dx.ow_24, Dx.ow_25, Dx.pk_o, Dx.gam0, Dx.ixD_t, Dx.ixD_l, Dx.atI_0, Dx.atI_1, Dx.atI_2, Dx.atI_3, Dx.atI_4, Dx.asB_b, Dx.addD_i, Dx.subD_i, Dx.addD_t, Dx.addD_l, Dx.mulD_l, Dx.fdivD_s, Dx.modD_p, Dx.cmpI_i, Dx.absG_i, Dx.szOk_le, Dx.tupG, Dx.yesM, Dx.seqI, Dx.seqG_t, Dx.seqG_l, Dx.seqZ_t, Dx.seqZ_l, Dx.starM, Dx.compL_nil, Dx.compL_cons, Dx.all_2, Dx.any_2, Dx.neD_i, Dx.eqD_i, Dx.neD_b, Dx.cut_from1, Dx.cut_to, Dx.sliceM, Dx.noBd, Dx.someBd, Dx.asI, Dx.sliceD_t, Dx.sliceD_l, Dx.zipL3_ints, Dx.zipL2_ints, Dx.zip3G_t, Dx.zip2G_t, Dx.zip2G_tl, Dx.loopM_map, Dx.biM, Dx.compM, Dx.compL_map, Dx.compI_ret, Dx.wipeG, Dx.rng2_ok, Dx.rng1_ok, Dx.seqRng_ok, Dx.rngG, Dx.any_ok, Dx.all_ok, Dx.filter_yes, Dx.rngI_length, Dx.ite_or, Dx.ite_and, Dx.ite_orB, Dx.ite_andB, Dx.wp_bnd_iff, Dx.wp_ret_iff, Dx.wp_ite_iff, Dx.wp_g0, Dx.wp_g1, Dx.wp_g2, Dx.wp_s0, Dx.wp_s2, Dx.intG_i, Dx.intG_b, Dx.powD_3]
    refine wp_mono (take_ok _ q left.length e4 (by omega) (by omega) (by omega)) ?_
    rintro _ q2 ⟨k, rfl, k0, k1, hq⟩
    refine ⟨k, rfl, k0, k1, fun y hy => ?_⟩
    have hk : k.toNat < left.length := by omega
    have ly : left[k.toNat] = y := by
      rw [List.getElem?_eq_getElem hk] at hy
      exact Option.some.inj hy
    refine ⟨left.eraseIdx k.toNat, found ++ [y], ⟨rfl, by simp⟩, ?_, ?_, ?_, ?_⟩
    · rw [List.length_eraseIdx_of_lt hk]; omega
    · rw [List.length_eraseIdx_of_lt hk, List.length_append]; simp only [List.length_cons, List.length_nil]; omega
    · refine List.Perm.trans ?_ e3
      have p1 : (y :: left.eraseIdx k.toNat).Perm left := by
        rw [← ly]
        exact erase_perm hk
      rw [← List.append_assoc]
      exact (List.perm_append_singleton y (left.eraseIdx k.toNat ++ found)).trans (List.Perm.append_right found p1)
    · refine hq.mono ?_
      rw [List.length_append]
      simp only [List.length_cons, List.length_nil]
      omega
  · rintro r q ⟨l, x, rfl, e1, e2⟩
    simp (config := {maxSteps := 3000000}) (disch := omega) [Dx.fnM_ev', Dx.seqM_ev, Dx.seqK_next, Dx.seqK_ret, Dx.seqK_brk, Dx.seqK_cont, Dx.finM_ret, Dx.finM_next, Dx.retM, Dx.setM, Dx.setN, Dx.parM, Dx.oldM, Dx.newM, Dx.Val.slot, Dx.appM, Dx.plnM, Dx.ifM, Dx.exprM, Dx.skipM, Dx.failM, Dx.brkM, Dx.contM, Dx.con, Dx.callM, Dx.consM, Dx.nilM, Dx.op2, Dx.ts2, Dx.tsB, Dx.tNotM, Dx.tAndM, Dx.tOrM, Dx.andM, Dx.orM, Dx.notM, Dx.iteM, Dx.isiM, Dx.isiD, Dx.tyD, Dx.isaB, Dx.chB, Dx.blM, Dx.lenG, Dx.negM, Dx.negG, Dx.tupM, Dx.lstM, Dx.frzM, Dx.asgM, Dx.asgT, Dx.setAll, Dx.bnd_ret, Dx.bnd_fail, Dx.bnd_bnd, Dx.lift_val, Dx.lift_no, Dx.ev_0, Dx.ev_1, Dx.ev_2, Dx.ev_3, Dx.ev_4, Dx.ev_5, Dx.ev_6, Dx.ev_7, Dx.ev_8, Dx.ev_9, Dx.ev_10, Dx.ev_11, Dx.ev_12, Dx.ev_13, Dx.ev_14, Dx.ev_15, Dx.ev_16, Dx.ev_17, Dx.ev_18, Dx.ev_19, Dx.ev_20, Dx.ev_21, Dx.ev_22, Dx.ev_23, Dx.ev_24, Dx.ev_25, Dx.pk_0, Dx.pk_1, Dx.pk_2, Dx.pk_3, Dx.pk_4, Dx.pk_5, Dx.pk_6, Dx.pk_7, Dx.pk_8, Dx.pk_9, Dx.pk_10, Dx.pk_11, Dx.pk_12, Dx.pk_13, Dx.pk_14, Dx.pk_15, Dx.pk_16, Dx.pk_17, Dx.pk_18, Dx.pk_19, Dx.pk_20, Dx.pk_21, Dx.pk_22, Dx.pk_23, Dx.pk_24, Dx.pk_25, Dx.st_0, Dx.st_1, Dx.st_2, Dx.st_3, Dx.st_4, Dx.st_5, Dx.st_6, Dx.st_7, Dx.st_8, Dx.st_9, Dx.st_10, Dx.st_11, Dx.st_12, Dx.st_13, Dx.st_14, Dx.st_15, Dx.st_16, Dx.st_17, Dx.st_18, Dx.st_19, Dx.st_20, Dx.st_21, Dx.st_22, Dx.st_23, Dx.st_24, Dx.st_25, Dx.ow_0, Dx.ow_1, Dx.ow_2, Dx.ow_3, Dx.ow_4, Dx.ow_5, Dx.ow_6, Dx.ow_7, Dx.ow_8, Dx.ow_9, Dx.ow_10, Dx.ow_11, Dx.ow_12, Dx.ow_13, Dx.ow_14, Dx.ow_15, Dx.ow_16, Dx.ow_17, Dx.ow_18, Dx.ow_19, Dx.ow_20, Dx.ow_21, Dx.ow_22, Dx.ow_23, Dx.ow_24, Dx.ow_25, Dx.pk_o, Dx.gam0, Dx.ixD_t, Dx.ixD_l, Dx.atI_0, Dx.atI_1, Dx.atI_2, Dx.atI_3, Dx.atI_4, Dx.asB_b, Dx.addD_i, Dx.subD_i, Dx.addD_t, Dx.addD_l, Dx.mulD_l, Dx.fdivD_s, Dx.modD_p, Dx.cmpI_i, Dx.absG_i, Dx.szOk_le, Dx.tupG, Dx.yesM, Dx.seqI, Dx.seqG_t, Dx.seqG_l, Dx.seqZ_t, Dx.seqZ_l, Dx.starM, Dx.compL_nil, Dx.compL_cons, Dx.all_2, Dx.any_2, Dx.neD_i, Dx.eqD_i, Dx.neD_b, Dx.cut_from1, Dx.cut_to, Dx.sliceM, Dx.noBd, Dx.someBd, Dx.asI, Dx.sliceD_t, Dx.sliceD_l, Dx.zipL3_ints, Dx.zipL2_ints, Dx.zip3G_t, Dx.zip2G_t, Dx.zip2G_tl, Dx.loopM_map, Dx.biM, Dx.compM, Dx.compL_map, Dx.compI_ret, Dx.wipeG, Dx.rng2_ok, Dx.rng1_ok, Dx.seqRng_ok, Dx.rngG, Dx.any_ok, Dx.all_ok, Dx.filter_yes, Dx.rngI_length, Dx.ite_or, Dx.ite_and, Dx.ite_orB, Dx.ite_andB, Dx.wp_bnd_iff, Dx.wp_ret_iff, Dx.wp_ite_iff, Dx.wp_g0, Dx.wp_g1, Dx.wp_g2, Dx.wp_s0, Dx.wp_s2, Dx.intG_i, Dx.intG_b, Dx.powD_3]
    exact ⟨l, rfl, e1, e2⟩
/-- the dresses of a row that are told alike -/
def Alike (P : Int → Int → Bool) (a b : Int) (row l : List Int) : Prop := l.length ≤ 60 ∧ inB a b l ∧ told P a b l = told P a b row
def rbS (x : Bool) : Str := (toP (.bl x)).shown
theorem rb (x : Bool) : reprG [.bl x] = some (.str (rbS x)) := repr_bl x
def G15 (s lo hi a b : Int) (row : List Int) (v : Int) (x7 x8 x9 x10 x11 x12 x13 x14 : Slot) : Gam := [.val .pot, .val (vt s lo hi), .val (pr a b), .val (.tup (row.map .int)), .val (.int v), .val (.tup [.int (minI row), .int (maxI row)]), .val (.bl (told (par s (hi - lo)) a b row)), x7, x8, x9, x10, x11, x12, x13, x14]
theorem lb1_ok {s lo hi a b v : Int} (h : Dr s lo hi a b) (h1 : -200 ≤ v) (h2 : v ≤ 200) {row l : List Int} (k : Alike (par s (hi - lo)) a b row l) (x7 x8 x9 x10 x11 x12 x13 x14 : Slot) :
    lb__law_is_row_right_1 (G15 s lo hi a b row v (.val (.tup (l.map .int))) x8 x9 x10 x11 x12 x13 x14) = ret (.next, G15 s lo hi a b row v (.val (.tup (l.map .int))) x8 x9 x10 x11 x12 x13 x14) := by
  obtain ⟨k1, k2, k3⟩ := k
  have t := is_told_ok h.v h.b h1 h2 k1 k2
  rw [k3] at t
  simp (config := {maxSteps := 3000000}) (disch := omega) [Dx.fnM_ev', Dx.seqM_ev, Dx.seqK_next, Dx.seqK_ret, Dx.seqK_brk, Dx.seqK_cont, Dx.finM_ret, Dx.finM_next, Dx.retM, Dx.setM, Dx.setN, Dx.parM, Dx.oldM, Dx.newM, Dx.Val.slot, Dx.appM, Dx.plnM, Dx.ifM, Dx.exprM, Dx.skipM, Dx.failM, Dx.brkM, Dx.contM, Dx.con, Dx.callM, Dx.consM, Dx.nilM, Dx.op2, Dx.ts2, Dx.tsB, Dx.tNotM, Dx.tAndM, Dx.tOrM, Dx.andM, Dx.orM, Dx.notM, Dx.iteM, Dx.isiM, Dx.isiD, Dx.tyD, Dx.isaB, Dx.chB, Dx.blM, Dx.lenG, Dx.negM, Dx.negG, Dx.tupM, Dx.lstM, Dx.frzM, Dx.asgM, Dx.asgT, Dx.setAll, Dx.bnd_ret, Dx.bnd_fail, Dx.bnd_bnd, Dx.lift_val, Dx.lift_no, Dx.ev_0, Dx.ev_1, Dx.ev_2, Dx.ev_3, Dx.ev_4, Dx.ev_5, Dx.ev_6, Dx.ev_7, Dx.ev_8, Dx.ev_9, Dx.ev_10, Dx.ev_11, Dx.ev_12, Dx.ev_13, Dx.ev_14, Dx.ev_15, Dx.ev_16, Dx.ev_17, Dx.ev_18, Dx.ev_19, Dx.ev_20, Dx.ev_21, Dx.ev_22, Dx.ev_23, Dx.ev_24, Dx.ev_25, Dx.pk_0, Dx.pk_1, Dx.pk_2, Dx.pk_3, Dx.pk_4, Dx.pk_5, Dx.pk_6, Dx.pk_7, Dx.pk_8, Dx.pk_9, Dx.pk_10, Dx.pk_11, Dx.pk_12, Dx.pk_13, Dx.pk_14, Dx.pk_15, Dx.pk_16, Dx.pk_17, Dx.pk_18, Dx.pk_19, Dx.pk_20, Dx.pk_21, Dx.pk_22, Dx.pk_23, Dx.pk_24, Dx.pk_25, Dx.st_0, Dx.st_1, Dx.st_2, Dx.st_3, Dx.st_4, Dx.st_5, Dx.st_6, Dx.st_7, Dx.st_8, Dx.st_9, Dx.st_10, Dx.st_11, Dx.st_12, Dx.st_13, Dx.st_14, Dx.st_15, Dx.st_16, Dx.st_17, Dx.st_18, Dx.st_19, Dx.st_20, Dx.st_21, Dx.st_22, Dx.st_23, Dx.st_24, Dx.st_25, Dx.ow_0, Dx.ow_1, Dx.ow_2, Dx.ow_3, Dx.ow_4, Dx.ow_5, Dx.ow_6, Dx.ow_7, Dx.ow_8, Dx.ow_9, Dx.ow_10, Dx.ow_11, Dx.ow_12, Dx.ow_13, Dx.ow_14, Dx.ow_15, Dx.ow_16, Dx.ow_17, Dx.ow_18, Dx.ow_19, Dx.ow_20, Dx.ow_21, Dx.ow_22, Dx.ow_23, Dx.ow_24, Dx.ow_25, Dx.pk_o, Dx.gam0, Dx.ixD_t, Dx.ixD_l, Dx.atI_0, Dx.atI_1, Dx.atI_2, Dx.atI_3, Dx.atI_4, Dx.asB_b, Dx.addD_i, Dx.subD_i, Dx.addD_t, Dx.addD_l, Dx.mulD_l, Dx.fdivD_s, Dx.modD_p, Dx.cmpI_i, Dx.absG_i, Dx.szOk_le, Dx.tupG, Dx.yesM, Dx.seqI, Dx.seqG_t, Dx.seqG_l, Dx.seqZ_t, Dx.seqZ_l, Dx.starM, Dx.compL_nil, Dx.compL_cons, Dx.all_2, Dx.any_2, Dx.neD_i, Dx.eqD_i, Dx.neD_b, Dx.cut_from1, Dx.cut_to, Dx.sliceM, Dx.noBd, Dx.someBd, Dx.asI, Dx.sliceD_t, Dx.sliceD_l, Dx.zipL3_ints, Dx.zipL2_ints, Dx.zip3G_t, Dx.zip2G_t, Dx.zip2G_tl, Dx.loopM_map, Dx.biM, Dx.compM, Dx.compL_map, Dx.compI_ret, Dx.wipeG, Dx.rng2_ok, Dx.rng1_ok, Dx.seqRng_ok, Dx.rngG, Dx.any_ok, Dx.all_ok, Dx.filter_yes, Dx.rngI_length, Dx.ite_or, Dx.ite_and, Dx.ite_orB, Dx.ite_andB, lb__law_is_row_right_1, G15, t, rb, neD_str]
theorem lb2_ok {s lo hi a b v : Int} (h : Dr s lo hi a b) {row l : List Int} (k : Alike (par s (hi - lo)) a b row l) (hl : l.length = 2) (x7 x8 x9 x10 x11 x12 x13 x14 : Slot) :
    lb__law_is_row_right_2 (G15 s lo hi a b row v x7 (.val (.tup (l.map .int))) x9 x10 x11 x12 x13 x14) = ret (.next, G15 s lo hi a b row v x7 (.val (.tup (l.map .int))) x9 x10 x11 x12 x13 x14) := by
  obtain ⟨k1, k2, k3⟩ := k
  have t := shows_ok h.v h.b hl k2
  rw [k3] at t
  simp (config := {maxSteps := 3000000}) (disch := omega) [Dx.fnM_ev', Dx.seqM_ev, Dx.seqK_next, Dx.seqK_ret, Dx.seqK_brk, Dx.seqK_cont, Dx.finM_ret, Dx.finM_next, Dx.retM, Dx.setM, Dx.setN, Dx.parM, Dx.oldM, Dx.newM, Dx.Val.slot, Dx.appM, Dx.plnM, Dx.ifM, Dx.exprM, Dx.skipM, Dx.failM, Dx.brkM, Dx.contM, Dx.con, Dx.callM, Dx.consM, Dx.nilM, Dx.op2, Dx.ts2, Dx.tsB, Dx.tNotM, Dx.tAndM, Dx.tOrM, Dx.andM, Dx.orM, Dx.notM, Dx.iteM, Dx.isiM, Dx.isiD, Dx.tyD, Dx.isaB, Dx.chB, Dx.blM, Dx.lenG, Dx.negM, Dx.negG, Dx.tupM, Dx.lstM, Dx.frzM, Dx.asgM, Dx.asgT, Dx.setAll, Dx.bnd_ret, Dx.bnd_fail, Dx.bnd_bnd, Dx.lift_val, Dx.lift_no, Dx.ev_0, Dx.ev_1, Dx.ev_2, Dx.ev_3, Dx.ev_4, Dx.ev_5, Dx.ev_6, Dx.ev_7, Dx.ev_8, Dx.ev_9, Dx.ev_10, Dx.ev_11, Dx.ev_12, Dx.ev_13, Dx.ev_14, Dx.ev_15, Dx.ev_16, Dx.ev_17, Dx.ev_18, Dx.ev_19, Dx.ev_20, Dx.ev_21, Dx.ev_22, Dx.ev_23, Dx.ev_24, Dx.ev_25, Dx.pk_0, Dx.pk_1, Dx.pk_2, Dx.pk_3, Dx.pk_4, Dx.pk_5, Dx.pk_6, Dx.pk_7, Dx.pk_8, Dx.pk_9, Dx.pk_10, Dx.pk_11, Dx.pk_12, Dx.pk_13, Dx.pk_14, Dx.pk_15, Dx.pk_16, Dx.pk_17, Dx.pk_18, Dx.pk_19, Dx.pk_20, Dx.pk_21, Dx.pk_22, Dx.pk_23, Dx.pk_24, Dx.pk_25, Dx.st_0, Dx.st_1, Dx.st_2, Dx.st_3, Dx.st_4, Dx.st_5, Dx.st_6, Dx.st_7, Dx.st_8, Dx.st_9, Dx.st_10, Dx.st_11, Dx.st_12, Dx.st_13, Dx.st_14, Dx.st_15, Dx.st_16, Dx.st_17, Dx.st_18, Dx.st_19, Dx.st_20, Dx.st_21, Dx.st_22, Dx.st_23, Dx.st_24, Dx.st_25, Dx.ow_0, Dx.ow_1, Dx.ow_2, Dx.ow_3, Dx.ow_4, Dx.ow_5, Dx.ow_6, Dx.ow_7, Dx.ow_8, Dx.ow_9, Dx.ow_10, Dx.ow_11, Dx.ow_12, Dx.ow_13, Dx.ow_14, Dx.ow_15, Dx.ow_16, Dx.ow_17, Dx.ow_18, Dx.ow_19, Dx.ow_20, Dx.ow_21, Dx.ow_22, Dx.ow_23, Dx.ow_24, Dx.ow_25, Dx.pk_o, Dx.gam0, Dx.ixD_t, Dx.ixD_l, Dx.atI_0, Dx.atI_1, Dx.atI_2, Dx.atI_3, Dx.atI_4, Dx.asB_b, Dx.addD_i, Dx.subD_i, Dx.addD_t, Dx.addD_l, Dx.mulD_l, Dx.fdivD_s, Dx.modD_p, Dx.cmpI_i, Dx.absG_i, Dx.szOk_le, Dx.tupG, Dx.yesM, Dx.seqI, Dx.seqG_t, Dx.seqG_l, Dx.seqZ_t, Dx.seqZ_l, Dx.starM, Dx.compL_nil, Dx.compL_cons, Dx.all_2, Dx.any_2, Dx.neD_i, Dx.eqD_i, Dx.neD_b, Dx.cut_from1, Dx.cut_to, Dx.sliceM, Dx.noBd, Dx.someBd, Dx.asI, Dx.sliceD_t, Dx.sliceD_l, Dx.zipL3_ints, Dx.zipL2_ints, Dx.zip3G_t, Dx.zip2G_t, Dx.zip2G_tl, Dx.loopM_map, Dx.biM, Dx.compM, Dx.compL_map, Dx.compI_ret, Dx.wipeG, Dx.rng2_ok, Dx.rng1_ok, Dx.seqRng_ok, Dx.rngG, Dx.any_ok, Dx.all_ok, Dx.filter_yes, Dx.rngI_length, Dx.ite_or, Dx.ite_and, Dx.ite_orB, Dx.ite_andB, lb__law_is_row_right_2, G15, t, rb, neD_str]
theorem lb3_ok {s lo hi a b v t : Int} (h : Dr s lo hi a b) {row : List Int} (h1 : a ≤ t) (h2 : t ≤ b) (x7 x8 x9 x10 x11 x12 x14 : Slot) :
    ∃ y7 : Slot, lb__law_is_row_right_3 (G15 s lo hi a b row v x7 x8 x9 x10 x11 x12 (.val (.int t)) x14) = ret (.next, G15 s lo hi a b row v y7 x8 x9 x10 x11 x12 (.val (.int t)) x14) := by
  have hv := h.v
  have hb := h.b
  have tl := telling_ok hv hb h1 h2
  have lp := fun x y => lparts_ok hv x y
  have rp : reprG [.tup (((rg a b).filter fun one => par s (hi - lo) one t).map .int)] = some (.str (toP (.tup (((rg a b).filter fun one => par s (hi - lo) one t).map .int))).shown) := by
    refine repr_ok (nice_tup (nice_ints (k := 50) (by decide) fun i hi => rg_abs hb (List.mem_filter.mp hi).1)) (by decide) ?_
    rw [List.length_map]
    have := List.length_filter_le (fun one => par s (hi - lo) one t) (rg a b)
    rw [rngI_length] at this
    obtain ⟨g1, g2, g3⟩ := hb
    omega
  obtain ⟨g1, g2, g3⟩ := hb
  refine ⟨.val (.lst (((rg a b).filter fun one => par s (hi - lo) one t).map .int)), ?_⟩
  simp (config := {maxSteps := 3000000}) (disch := omega) [Dx.fnM_ev', Dx.seqM_ev, Dx.seqK_next, Dx.seqK_ret, Dx.seqK_brk, Dx.seqK_cont, Dx.finM_ret, Dx.finM_next, Dx.retM, Dx.setM, Dx.setN, Dx.parM, Dx.oldM, Dx.newM, Dx.Val.slot, Dx.appM, Dx.plnM, Dx.ifM, Dx.exprM, Dx.skipM, Dx.failM, Dx.brkM, Dx.contM, Dx.con, Dx.callM, Dx.consM, Dx.nilM, Dx.op2, Dx.ts2, Dx.tsB, Dx.tNotM, Dx.tAndM, Dx.tOrM, Dx.andM, Dx.orM, Dx.notM, Dx.iteM, Dx.isiM, Dx.isiD, Dx.tyD, Dx.isaB, Dx.chB, Dx.blM, Dx.lenG, Dx.negM, Dx.negG, Dx.tupM, Dx.lstM, Dx.frzM, Dx.asgM, Dx.asgT, Dx.setAll, Dx.bnd_ret, Dx.bnd_fail, Dx.bnd_bnd, Dx.lift_val, Dx.lift_no, Dx.ev_0, Dx.ev_1, Dx.ev_2, Dx.ev_3, Dx.ev_4, Dx.ev_5, Dx.ev_6, Dx.ev_7, Dx.ev_8, Dx.ev_9, Dx.ev_10, Dx.ev_11, Dx.ev_12, Dx.ev_13, Dx.ev_14, Dx.ev_15, Dx.ev_16, Dx.ev_17, Dx.ev_18, Dx.ev_19, Dx.ev_20, Dx.ev_21, Dx.ev_22, Dx.ev_23, Dx.ev_24, Dx.ev_25, Dx.pk_0, Dx.pk_1, Dx.pk_2, Dx.pk_3, Dx.pk_4, Dx.pk_5, Dx.pk_6, Dx.pk_7, Dx.pk_8, Dx.pk_9, Dx.pk_10, Dx.pk_11, Dx.pk_12, Dx.pk_13, Dx.pk_14, Dx.pk_15, Dx.pk_16, Dx.pk_17, Dx.pk_18, Dx.pk_19, Dx.pk_20, Dx.pk_21, Dx.pk_22, Dx.pk_23, Dx.pk_24, Dx.pk_25, Dx.st_0, Dx.st_1, Dx.st_2, Dx.st_3, Dx.st_4, Dx.st_5, Dx.st_6, Dx.st_7, Dx.st_8, Dx.st_9, Dx.st_10, Dx.st_11, Dx.st_12, Dx.st_13, Dx.st_14, Dx.st_15, Dx.st_16, Dx.st_17, Dx.st_18, Dx.st_19, Dx.st_20, Dx.st_21, Dx.st_22, Dx.st_23, Dx.st_24, Dx.st_25, Dx.ow_0, Dx.ow_1, Dx.ow_2, Dx.ow_3, Dx.ow_4, Dx.ow_5, Dx.ow_6, Dx.ow_7, Dx.ow_8, Dx.ow_9, Dx.ow_10, Dx.ow_11, Dx.ow_12, Dx.ow_13, Dx.ow_14, Dx.ow_15, Dx.ow_16, Dx.ow_17, Dx.ow_18, Dx.ow_19, Dx.ow_20, Dx.ow_21, Dx.ow_22, Dx.ow_23, Dx.ow_24, Dx.ow_25, Dx.pk_o, Dx.gam0, Dx.ixD_t, Dx.ixD_l, Dx.atI_0, Dx.atI_1, Dx.atI_2, Dx.atI_3, Dx.atI_4, Dx.asB_b, Dx.addD_i, Dx.subD_i, Dx.addD_t, Dx.addD_l, Dx.mulD_l, Dx.fdivD_s, Dx.modD_p, Dx.cmpI_i, Dx.absG_i, Dx.szOk_le, Dx.tupG, Dx.yesM, Dx.seqI, Dx.seqG_t, Dx.seqG_l, Dx.seqZ_t, Dx.seqZ_l, Dx.starM, Dx.compL_nil, Dx.compL_cons, Dx.all_2, Dx.any_2, Dx.neD_i, Dx.eqD_i, Dx.neD_b, Dx.cut_from1, Dx.cut_to, Dx.sliceM, Dx.noBd, Dx.someBd, Dx.asI, Dx.sliceD_t, Dx.sliceD_l, Dx.zipL3_ints, Dx.zipL2_ints, Dx.zip3G_t, Dx.zip2G_t, Dx.zip2G_tl, Dx.loopM_map, Dx.biM, Dx.compM, Dx.compL_map, Dx.compI_ret, Dx.wipeG, Dx.rng2_ok, Dx.rng1_ok, Dx.seqRng_ok, Dx.rngG, Dx.any_ok, Dx.all_ok, Dx.filter_yes, Dx.rngI_length, Dx.ite_or, Dx.ite_and, Dx.ite_orB, Dx.ite_andB, lb__law_is_row_right_3, G15, v0, v1, v2, v3, v4, p0, p1, lp, tl, rp, neD_str]
theorem fnd_row {P : Int → Int → Bool} {a b : Int} {d : D} (h : fnd P a b = some d) : ∃ x y, d = rowD x y := by
  unfold fnd at h
  obtain ⟨x, _, hx⟩ := List.exists_of_findSome?_eq_some h
  unfold fndIn at hx
  obtain ⟨y, _, hy⟩ := List.exists_of_findSome?_eq_some hx
  by_cases q : ((rg a b).all fun t => P x t || P y t) = true
  · rw [if_pos q] at hy
    exact ⟨x, y, (Option.some.inj hy).symm⟩
  · rw [if_neg q] at hy
    cases hy
def lrW (P : Int → Int → Bool) (a b : Int) : Str := if lone P a b = [] then "row" else "never"
theorem lrow_word (P : Int → Int → Bool) (a b : Int) : ixD (lrow P a b) (.int 0) = some (.str (lrW P a b)) := by
  unfold lrow lrW
  cases hl : lone P a b with
  | cons n t =>
    rw [if_neg (fun z => nomatch z)]
    exact atI_0 _ _
  | nil =>
    rw [if_pos rfl]
    cases hf : fnd P a b with
    | none => exact atI_0 _ _
    | some d =>
      obtain ⟨x, y, rfl⟩ := fnd_row hf
      exact atI_0 _ _
theorem lone_told (P : Int → Int → Bool) (a b : Int) : (lrW P a b == ("row" : Str)) = told P a b [a, b] := by
  unfold lrW
  have e : told P a b [a, b] = true ↔ lone P a b = [] := by
    unfold told lone
    rw [List.all_eq_true, List.filter_eq_nil_iff]
    constructor
    · intro h t ht
      have := h t ht
      simp at this ⊢
      intro q
      rcases this with z | z
      · rw [z] at q; cases q
      · exact z
    · intro h t ht
      have := h t ht
      simp at this ⊢
      cases q : P a t with
      | true => exact .inl rfl
      | false => exact .inr (this q)
  by_cases q : lone P a b = []
  · rw [if_pos q, e.mpr q]
    exact beq_self_eq_true _
  · rw [if_neg q]
    have z : told P a b [a, b] = false := by
      cases w : told P a b [a, b] with
      | false => rfl
      | true => exact absurd (e.mp w) q
    rw [z]
    decide +kernel
theorem row_ok {n : Int} {p : Pt} {s lo hi a b : Int} (h : Dr s lo hi a b) {row : List Int} (hp : Okp n p) (hn : n < 2 ^ 38) (r0 : row ≠ []) (r1 : row.length ≤ 12) (rb' : inB a b row) :
    Wp (m__law_is_row_right [.pot, vt s lo hi, pr a b, .tup (row.map .int)]) p fun d q => d = .bl true ∧ Okp (n + 100) q := by
  have hv := h.v
  have hb := h.b
  have hmn : minG [.tup (row.map .int)] = some (.int (minI row)) := min_tup r0
  have hmx : maxG [.tup (row.map .int)] = some (.int (maxI row)) := max_tup r0
  have hml : (row.map D.int).length = row.length := List.length_map ..
  have hpos : 0 < row.length := List.length_pos_iff.mpr r0
  have c60 : ∀ l : List D, cutD l none (some 60) = l.take 60 := fun l => cut_to l 60
  have c50 : ∀ l : List D, cutD l none (some 50) = l.take 50 := fun l => cut_to l 50
  have c30 : ∀ l : List D, cutD l none (some 30) = l.take 30 := fun l => cut_to l 30
  have h30 : List.take 30 (row.map D.int) = row.map D.int := List.take_of_length_le (by omega)
  have h50 : List.take 50 (row.map D.int) = row.map D.int := List.take_of_length_le (by omega)
  have h60 : List.take 60 (row.map D.int ++ (row.map D.int ++ row.map D.int)) = row.map D.int ++ (row.map D.int ++ row.map D.int) := List.take_of_length_le (by simp only [List.length_append]; omega)
  have ha1 : addD (.tup (row.map .int)) (.tup [.int (minI row), .int (maxI row)]) = some (.tup (row.map .int ++ [.int (minI row), .int (maxI row)])) := addD_t (by simp only [List.length_cons, List.length_nil]; omega)
  have lt := ltold_ok hv hb (l := row) (by omega)
  have mnB := rb' _ (minI_mem r0)
  have mxB := rb' _ (maxI_mem r0)
  have al0 : Alike (par s (hi - lo)) a b row row := ⟨by omega, rb', rfl⟩
  have al1 : Alike (par s (hi - lo)) a b row [minI row, maxI row] := ⟨by simp, fun i hi => by simp at hi; rcases hi with rfl | rfl <;> assumption, (told_ends r0).symm⟩
  have al2 : Alike (par s (hi - lo)) a b row [maxI row, minI row] := ⟨by simp, fun i hi => by simp at hi; rcases hi with rfl | rfl <;> assumption, (told_mem fun x => by simp; exact Or.comm).trans (told_ends r0).symm⟩
  have al4 : Alike (par s (hi - lo)) a b row (row ++ (row ++ row)) := ⟨by simp only [List.length_append]; omega, fun i hi => by simp at hi; exact rb' i hi, told_mem fun x => by simp⟩
  have al5 : Alike (par s (hi - lo)) a b row (row ++ [minI row, maxI row]) := ⟨by simp; omega, fun i hi => by
    simp at hi
    rcases hi with z | rfl | rfl
    · exact rb' i z
    · exact mnB
    · exact mxB, told_mem fun x => by
      simp
      rintro (rfl | rfl)
      · exact minI_mem r0
      · exact maxI_mem r0⟩
  simp (config := {maxSteps := 3000000}) (disch := omega) [Dx.fnM_ev', Dx.seqM_ev, Dx.seqK_next, Dx.seqK_ret, Dx.seqK_brk, Dx.seqK_cont, Dx.finM_ret, Dx.finM_next, Dx.retM, Dx.setM, Dx.setN, Dx.parM, Dx.oldM, Dx.newM, Dx.Val.slot, Dx.appM, Dx.plnM, Dx.ifM, Dx.exprM, Dx.skipM, Dx.failM, Dx.brkM, Dx.contM, Dx.con, Dx.callM, Dx.consM, Dx.nilM, Dx.op2, Dx.ts2, Dx.tsB, Dx.tNotM, Dx.tAndM, Dx.tOrM, Dx.andM, Dx.orM, Dx.notM, Dx.iteM, Dx.isiM, Dx.isiD, Dx.tyD, Dx.isaB, Dx.chB, Dx.blM, Dx.lenG, Dx.negM, Dx.negG, Dx.tupM, Dx.lstM, Dx.frzM, Dx.asgM, Dx.asgT, Dx.setAll, Dx.bnd_ret, Dx.bnd_fail, Dx.bnd_bnd, Dx.lift_val, Dx.lift_no, Dx.ev_0, Dx.ev_1, Dx.ev_2, Dx.ev_3, Dx.ev_4, Dx.ev_5, Dx.ev_6, Dx.ev_7, Dx.ev_8, Dx.ev_9, Dx.ev_10, Dx.ev_11, Dx.ev_12, Dx.ev_13, Dx.ev_14, Dx.ev_15, Dx.ev_16, Dx.ev_17, Dx.ev_18, Dx.ev_19, Dx.ev_20, Dx.ev_21, Dx.ev_22, Dx.ev_23, Dx.ev_24, Dx.ev_25, Dx.pk_0, Dx.pk_1, Dx.pk_2, Dx.pk_3, Dx.pk_4, Dx.pk_5, Dx.pk_6, Dx.pk_7, Dx.pk_8, Dx.pk_9, Dx.pk_10, Dx.pk_11, Dx.pk_12, Dx.pk_13, Dx.pk_14, Dx.pk_15, Dx.pk_16, Dx.pk_17, Dx.pk_18, Dx.pk_19, Dx.pk_20, Dx.pk_21, Dx.pk_22, Dx.pk_23, Dx.pk_24, Dx.pk_25, Dx.st_0, Dx.st_1, Dx.st_2, Dx.st_3, Dx.st_4, Dx.st_5, Dx.st_6, Dx.st_7, Dx.st_8, Dx.st_9, Dx.st_10, Dx.st_11, Dx.st_12, Dx.st_13, Dx.st_14, Dx.st_15, Dx.st_16, Dx.st_17, Dx.st_18, Dx.st_19, Dx.st_20, Dx.st_21, Dx.st_22, Dx.st_23, Dx.st_24, Dx.st_25, Dx.ow_0, Dx.ow_1, Dx.ow_2, Dx.ow_3, Dx.ow_4, Dx.ow_5, Dx.ow_6, Dx.ow_7, Dx.ow_8, Dx.ow_9, Dx.ow_10, Dx.ow_11, Dx.ow_12, Dx.ow_13, Dx.ow_14, Dx.ow_15, Dx.ow_16, Dx.ow_17, Dx.ow_18, Dx.ow_19, Dx.ow_20, Dx.ow_21, Dx.ow_22, Dx.ow_23, Dx.ow_24, Dx.ow_25, Dx.pk_o, Dx.gam0, Dx.ixD_t, Dx.ixD_l, Dx.atI_0, Dx.atI_1, Dx.atI_2, Dx.atI_3, Dx.atI_4, Dx.asB_b, Dx.addD_i, Dx.subD_i, Dx.addD_t, Dx.addD_l, Dx.mulD_l, Dx.fdivD_s, Dx.modD_p, Dx.cmpI_i, Dx.absG_i, Dx.szOk_le, Dx.tupG, Dx.yesM, Dx.seqI, Dx.seqG_t, Dx.seqG_l, Dx.seqZ_t, Dx.seqZ_l, Dx.starM, Dx.compL_nil, Dx.compL_cons, Dx.all_2, Dx.any_2, Dx.neD_i, Dx.eqD_i, Dx.neD_b, Dx.cut_from1, Dx.cut_to, Dx.sliceM, Dx.noBd, Dx.someBd, Dx.asI, Dx.sliceD_t, Dx.sliceD_l, Dx.zipL3_ints, Dx.zipL2_ints, Dx.zip3G_t, Dx.zip2G_t, Dx.zip2G_tl, Dx.loopM_map, Dx.biM, Dx.compM, Dx.compL_map, Dx.compI_ret, Dx.wipeG, Dx.rng2_ok, Dx.rng1_ok, Dx.seqRng_ok, Dx.rngG, Dx.any_ok, Dx.all_ok, Dx.filter_yes, Dx.rngI_length, Dx.ite_or, Dx.ite_and, Dx.ite_orB, Dx.ite_andB, Dx.wp_bnd_iff, Dx.wp_ret_iff, Dx.wp_ite_iff, Dx.wp_g0, Dx.wp_g1, Dx.wp_g2, Dx.wp_s0, Dx.wp_s2, Dx.intG_i, Dx.intG_b, Dx.powD_3, m__law_is_row_right, forM', hmn, hmx, lt]
  refine wp_mono (take_ok n p 401 hp (by omega) (by decide) (by decide)) ?_
  rintro _ q1 ⟨v, rfl, v0, v1, hq1⟩
  simp (config := {maxSteps := 3000000}) (disch := omega) [Dx.fnM_ev', Dx.seqM_ev, Dx.seqK_next, Dx.seqK_ret, Dx.seqK_brk, Dx.seqK_cont, Dx.finM_ret, Dx.finM_next, Dx.retM, Dx.setM, Dx.setN, Dx.parM, Dx.oldM, Dx.newM, Dx.Val.slot, Dx.appM, Dx.plnM, Dx.ifM, Dx.exprM, Dx.skipM, Dx.failM, Dx.brkM, Dx.contM, Dx.con, Dx.callM, Dx.consM, Dx.nilM, Dx.op2, Dx.ts2, Dx.tsB, Dx.tNotM, Dx.tAndM, Dx.tOrM, Dx.andM, Dx.orM, Dx.notM, Dx.iteM, Dx.isiM, Dx.isiD, Dx.tyD, Dx.isaB, Dx.chB, Dx.blM, Dx.lenG, Dx.negM, Dx.negG, Dx.tupM, Dx.lstM, Dx.frzM, Dx.asgM, Dx.asgT, Dx.setAll, Dx.bnd_ret, Dx.bnd_fail, Dx.bnd_bnd, Dx.lift_val, Dx.lift_no, Dx.ev_0, Dx.ev_1, Dx.ev_2, Dx.ev_3, Dx.ev_4, Dx.ev_5, Dx.ev_6, Dx.ev_7, Dx.ev_8, Dx.ev_9, Dx.ev_10, Dx.ev_11, Dx.ev_12, Dx.ev_13, Dx.ev_14, Dx.ev_15, Dx.ev_16, Dx.ev_17, Dx.ev_18, Dx.ev_19, Dx.ev_20, Dx.ev_21, Dx.ev_22, Dx.ev_23, Dx.ev_24, Dx.ev_25, Dx.pk_0, Dx.pk_1, Dx.pk_2, Dx.pk_3, Dx.pk_4, Dx.pk_5, Dx.pk_6, Dx.pk_7, Dx.pk_8, Dx.pk_9, Dx.pk_10, Dx.pk_11, Dx.pk_12, Dx.pk_13, Dx.pk_14, Dx.pk_15, Dx.pk_16, Dx.pk_17, Dx.pk_18, Dx.pk_19, Dx.pk_20, Dx.pk_21, Dx.pk_22, Dx.pk_23, Dx.pk_24, Dx.pk_25, Dx.st_0, Dx.st_1, Dx.st_2, Dx.st_3, Dx.st_4, Dx.st_5, Dx.st_6, Dx.st_7, Dx.st_8, Dx.st_9, Dx.st_10, Dx.st_11, Dx.st_12, Dx.st_13, Dx.st_14, Dx.st_15, Dx.st_16, Dx.st_17, Dx.st_18, Dx.st_19, Dx.st_20, Dx.st_21, Dx.st_22, Dx.st_23, Dx.st_24, Dx.st_25, Dx.ow_0, Dx.ow_1, Dx.ow_2, Dx.ow_3, Dx.ow_4, Dx.ow_5, Dx.ow_6, Dx.ow_7, Dx.ow_8, Dx.ow_9, Dx.ow_10, Dx.ow_11, Dx.ow_12, Dx.ow_13, Dx.ow_14, Dx.ow_15, Dx.ow_16, Dx.ow_17, Dx.ow_18, Dx.ow_19, Dx.ow_20, Dx.ow_21, Dx.ow_22, Dx.ow_23, Dx.ow_24, Dx.ow_25, Dx.pk_o, Dx.gam0, Dx.ixD_t, Dx.ixD_l, Dx.atI_0, Dx.atI_1, Dx.atI_2, Dx.atI_3, Dx.atI_4, Dx.asB_b, Dx.addD_i, Dx.subD_i, Dx.addD_t, Dx.addD_l, Dx.mulD_l, Dx.fdivD_s, Dx.modD_p, Dx.cmpI_i, Dx.absG_i, Dx.szOk_le, Dx.tupG, Dx.yesM, Dx.seqI, Dx.seqG_t, Dx.seqG_l, Dx.seqZ_t, Dx.seqZ_l, Dx.starM, Dx.compL_nil, Dx.compL_cons, Dx.all_2, Dx.any_2, Dx.neD_i, Dx.eqD_i, Dx.neD_b, Dx.cut_from1, Dx.cut_to, Dx.sliceM, Dx.noBd, Dx.someBd, Dx.asI, Dx.sliceD_t, Dx.sliceD_l, Dx.zipL3_ints, Dx.zipL2_ints, Dx.zip3G_t, Dx.zip2G_t, Dx.zip2G_tl, Dx.loopM_map, Dx.biM, Dx.compM, Dx.compL_map, Dx.compI_ret, Dx.wipeG, Dx.rng2_ok, Dx.rng1_ok, Dx.seqRng_ok, Dx.rngG, Dx.any_ok, Dx.all_ok, Dx.filter_yes, Dx.rngI_length, Dx.ite_or, Dx.ite_and, Dx.ite_orB, Dx.ite_andB, Dx.wp_bnd_iff, Dx.wp_ret_iff, Dx.wp_ite_iff, Dx.wp_g0, Dx.wp_g1, Dx.wp_g2, Dx.wp_s0, Dx.wp_s2, Dx.intG_i, Dx.intG_b, Dx.powD_3, revM, revT]
  refine wp_mono (shuffled_ok hq1 (by omega) (by omega)) ?_
  rintro _ q2 ⟨sh, rfl, hsh, hq2⟩
  have al3 : Alike (par s (hi - lo)) a b row sh := ⟨by rw [hsh.length_eq]; omega, fun i hi => rb' i (hsh.mem_iff.mp hi), told_mem fun x => hsh.mem_iff⟩
  simp (config := {maxSteps := 3000000}) (disch := omega) [Dx.fnM_ev', Dx.seqM_ev, Dx.seqK_next, Dx.seqK_ret, Dx.seqK_brk, Dx.seqK_cont, Dx.finM_ret, Dx.finM_next, Dx.retM, Dx.setM, Dx.setN, Dx.parM, Dx.oldM, Dx.newM, Dx.Val.slot, Dx.appM, Dx.plnM, Dx.ifM, Dx.exprM, Dx.skipM, Dx.failM, Dx.brkM, Dx.contM, Dx.con, Dx.callM, Dx.consM, Dx.nilM, Dx.op2, Dx.ts2, Dx.tsB, Dx.tNotM, Dx.tAndM, Dx.tOrM, Dx.andM, Dx.orM, Dx.notM, Dx.iteM, Dx.isiM, Dx.isiD, Dx.tyD, Dx.isaB, Dx.chB, Dx.blM, Dx.lenG, Dx.negM, Dx.negG, Dx.tupM, Dx.lstM, Dx.frzM, Dx.asgM, Dx.asgT, Dx.setAll, Dx.bnd_ret, Dx.bnd_fail, Dx.bnd_bnd, Dx.lift_val, Dx.lift_no, Dx.ev_0, Dx.ev_1, Dx.ev_2, Dx.ev_3, Dx.ev_4, Dx.ev_5, Dx.ev_6, Dx.ev_7, Dx.ev_8, Dx.ev_9, Dx.ev_10, Dx.ev_11, Dx.ev_12, Dx.ev_13, Dx.ev_14, Dx.ev_15, Dx.ev_16, Dx.ev_17, Dx.ev_18, Dx.ev_19, Dx.ev_20, Dx.ev_21, Dx.ev_22, Dx.ev_23, Dx.ev_24, Dx.ev_25, Dx.pk_0, Dx.pk_1, Dx.pk_2, Dx.pk_3, Dx.pk_4, Dx.pk_5, Dx.pk_6, Dx.pk_7, Dx.pk_8, Dx.pk_9, Dx.pk_10, Dx.pk_11, Dx.pk_12, Dx.pk_13, Dx.pk_14, Dx.pk_15, Dx.pk_16, Dx.pk_17, Dx.pk_18, Dx.pk_19, Dx.pk_20, Dx.pk_21, Dx.pk_22, Dx.pk_23, Dx.pk_24, Dx.pk_25, Dx.st_0, Dx.st_1, Dx.st_2, Dx.st_3, Dx.st_4, Dx.st_5, Dx.st_6, Dx.st_7, Dx.st_8, Dx.st_9, Dx.st_10, Dx.st_11, Dx.st_12, Dx.st_13, Dx.st_14, Dx.st_15, Dx.st_16, Dx.st_17, Dx.st_18, Dx.st_19, Dx.st_20, Dx.st_21, Dx.st_22, Dx.st_23, Dx.st_24, Dx.st_25, Dx.ow_0, Dx.ow_1, Dx.ow_2, Dx.ow_3, Dx.ow_4, Dx.ow_5, Dx.ow_6, Dx.ow_7, Dx.ow_8, Dx.ow_9, Dx.ow_10, Dx.ow_11, Dx.ow_12, Dx.ow_13, Dx.ow_14, Dx.ow_15, Dx.ow_16, Dx.ow_17, Dx.ow_18, Dx.ow_19, Dx.ow_20, Dx.ow_21, Dx.ow_22, Dx.ow_23, Dx.ow_24, Dx.ow_25, Dx.pk_o, Dx.gam0, Dx.ixD_t, Dx.ixD_l, Dx.atI_0, Dx.atI_1, Dx.atI_2, Dx.atI_3, Dx.atI_4, Dx.asB_b, Dx.addD_i, Dx.subD_i, Dx.addD_t, Dx.addD_l, Dx.mulD_l, Dx.fdivD_s, Dx.modD_p, Dx.cmpI_i, Dx.absG_i, Dx.szOk_le, Dx.tupG, Dx.yesM, Dx.seqI, Dx.seqG_t, Dx.seqG_l, Dx.seqZ_t, Dx.seqZ_l, Dx.starM, Dx.compL_nil, Dx.compL_cons, Dx.all_2, Dx.any_2, Dx.neD_i, Dx.eqD_i, Dx.neD_b, Dx.cut_from1, Dx.cut_to, Dx.sliceM, Dx.noBd, Dx.someBd, Dx.asI, Dx.sliceD_t, Dx.sliceD_l, Dx.zipL3_ints, Dx.zipL2_ints, Dx.zip3G_t, Dx.zip2G_t, Dx.zip2G_tl, Dx.loopM_map, Dx.biM, Dx.compM, Dx.compL_map, Dx.compI_ret, Dx.wipeG, Dx.rng2_ok, Dx.rng1_ok, Dx.seqRng_ok, Dx.rngG, Dx.any_ok, Dx.all_ok, Dx.filter_yes, Dx.rngI_length, Dx.ite_or, Dx.ite_and, Dx.ite_orB, Dx.ite_andB, Dx.wp_bnd_iff, Dx.wp_ret_iff, Dx.wp_ite_iff, Dx.wp_g0, Dx.wp_g1, Dx.wp_g2, Dx.wp_s0, Dx.wp_s2, Dx.intG_i, Dx.intG_b, Dx.powD_3, mulD_t, c60, c50, c30, sliceM, h30, h50, h60, ha1]
  obtain ⟨Γ', ⟨y7, rfl⟩, e1⟩ := each_ok (t := .nm 7) (fb := lb__law_is_row_right_1) (fun Γ => ∃ x7, Γ = G15 s lo hi a b row (v - 200) x7 .none .none .none .none .none .none .none)
    [.tup (row.map .int), .tup [.int (minI row), .int (maxI row)], .tup [.int (maxI row), .int (minI row)], .tup (sh.map .int), .tup (row.map .int ++ (row.map .int ++ row.map .int)), .tup (row.map .int ++ [.int (minI row), .int (maxI row)])]
    (fun d hd Γ ⟨x7, hΓ⟩ => by
      subst hΓ
      have hl : ∃ l : List Int, d = .tup (l.map .int) ∧ Alike (par s (hi - lo)) a b row l := by
        simp only [List.mem_cons, List.not_mem_nil, or_false] at hd
        rcases hd with rfl | rfl | rfl | rfl | rfl | rfl
        · exact ⟨_, rfl, al0⟩
        · exact ⟨[minI row, maxI row], rfl, al1⟩
        · exact ⟨[maxI row, minI row], rfl, al2⟩
        · exact ⟨_, rfl, al3⟩
        · exact ⟨row ++ (row ++ row), by simp, al4⟩
        · exact ⟨row ++ [minI row, maxI row], by simp, al5⟩
      obtain ⟨l, rfl, al⟩ := hl
      exact ⟨_, _, rfl, ⟨.val (.tup (l.map .int)), rfl⟩, lb1_ok h (by omega) (by omega) al x7 _ _ _ _ _ _ _⟩) _ ⟨.none, rfl⟩
  refine wp_eq e1 ?_
  obtain ⟨Γ', ⟨y8, rfl⟩, e2⟩ := each_ok (t := .nm 8) (fb := lb__law_is_row_right_2) (fun Γ => ∃ x8, Γ = G15 s lo hi a b row (v - 200) y7 x8 .none .none .none .none .none .none)
    [.tup [.int (minI row), .int (maxI row)], .tup [.int (maxI row), .int (minI row)]]
    (fun d hd Γ ⟨x8, hΓ⟩ => by
      subst hΓ
      have hl : ∃ l : List Int, d = .tup (l.map .int) ∧ l.length = 2 ∧ Alike (par s (hi - lo)) a b row l := by
        simp only [List.mem_cons, List.not_mem_nil, or_false] at hd
        rcases hd with rfl | rfl
        · exact ⟨[minI row, maxI row], rfl, rfl, al1⟩
        · exact ⟨[maxI row, minI row], rfl, rfl, al2⟩
      obtain ⟨l, rfl, l2, al⟩ := hl
      exact ⟨_, _, rfl, ⟨.val (.tup (l.map .int)), rfl⟩, lb2_ok h al l2 _ x8 _ _ _ _ _ _⟩) _ ⟨.none, rfl⟩
  unfold G15 at e2
  simp (config := {maxSteps := 3000000}) (disch := omega) [Dx.fnM_ev', Dx.seqM_ev, Dx.seqK_next, Dx.seqK_ret, Dx.seqK_brk, Dx.seqK_cont, Dx.finM_ret, Dx.finM_next, Dx.retM, Dx.setM, Dx.setN, Dx.parM, Dx.oldM, Dx.newM, Dx.Val.slot, Dx.appM, Dx.plnM, Dx.ifM, Dx.exprM, Dx.skipM, Dx.failM, Dx.brkM, Dx.contM, Dx.con, Dx.callM, Dx.consM, Dx.nilM, Dx.op2, Dx.ts2, Dx.tsB, Dx.tNotM, Dx.tAndM, Dx.tOrM, Dx.andM, Dx.orM, Dx.notM, Dx.iteM, Dx.isiM, Dx.isiD, Dx.tyD, Dx.isaB, Dx.chB, Dx.blM, Dx.lenG, Dx.negM, Dx.negG, Dx.tupM, Dx.lstM, Dx.frzM, Dx.asgM, Dx.asgT, Dx.setAll, Dx.bnd_ret, Dx.bnd_fail, Dx.bnd_bnd, Dx.lift_val, Dx.lift_no, Dx.ev_0, Dx.ev_1, Dx.ev_2, Dx.ev_3, Dx.ev_4, Dx.ev_5, Dx.ev_6, Dx.ev_7, Dx.ev_8, Dx.ev_9, Dx.ev_10, Dx.ev_11, Dx.ev_12, Dx.ev_13, Dx.ev_14, Dx.ev_15, Dx.ev_16, Dx.ev_17, Dx.ev_18, Dx.ev_19, Dx.ev_20, Dx.ev_21, Dx.ev_22, Dx.ev_23, Dx.ev_24, Dx.ev_25, Dx.pk_0, Dx.pk_1, Dx.pk_2, Dx.pk_3, Dx.pk_4, Dx.pk_5, Dx.pk_6, Dx.pk_7, Dx.pk_8, Dx.pk_9, Dx.pk_10, Dx.pk_11, Dx.pk_12, Dx.pk_13, Dx.pk_14, Dx.pk_15, Dx.pk_16, Dx.pk_17, Dx.pk_18, Dx.pk_19, Dx.pk_20, Dx.pk_21, Dx.pk_22, Dx.pk_23, Dx.pk_24, Dx.pk_25, Dx.st_0, Dx.st_1, Dx.st_2, Dx.st_3, Dx.st_4, Dx.st_5, Dx.st_6, Dx.st_7, Dx.st_8, Dx.st_9, Dx.st_10, Dx.st_11, Dx.st_12, Dx.st_13, Dx.st_14, Dx.st_15, Dx.st_16, Dx.st_17, Dx.st_18, Dx.st_19, Dx.st_20, Dx.st_21, Dx.st_22, Dx.st_23, Dx.st_24, Dx.st_25, Dx.ow_0, Dx.ow_1, Dx.ow_2, Dx.ow_3, Dx.ow_4, Dx.ow_5, Dx.ow_6, Dx.ow_7, Dx.ow_8, Dx.ow_9, Dx.ow_10, Dx.ow_11, Dx.ow_12, Dx.ow_13, Dx.ow_14, Dx.ow_15, Dx.ow_16, Dx.ow_17, Dx.ow_18, Dx.ow_19, Dx.ow_20, Dx.ow_21, Dx.ow_22, Dx.ow_23, Dx.ow_24, Dx.ow_25, Dx.pk_o, Dx.gam0, Dx.ixD_t, Dx.ixD_l, Dx.atI_0, Dx.atI_1, Dx.atI_2, Dx.atI_3, Dx.atI_4, Dx.asB_b, Dx.addD_i, Dx.subD_i, Dx.addD_t, Dx.addD_l, Dx.mulD_l, Dx.fdivD_s, Dx.modD_p, Dx.cmpI_i, Dx.absG_i, Dx.szOk_le, Dx.tupG, Dx.yesM, Dx.seqI, Dx.seqG_t, Dx.seqG_l, Dx.seqZ_t, Dx.seqZ_l, Dx.starM, Dx.compL_nil, Dx.compL_cons, Dx.all_2, Dx.any_2, Dx.neD_i, Dx.eqD_i, Dx.neD_b, Dx.cut_from1, Dx.cut_to, Dx.sliceM, Dx.noBd, Dx.someBd, Dx.asI, Dx.sliceD_t, Dx.sliceD_l, Dx.zipL3_ints, Dx.zipL2_ints, Dx.zip3G_t, Dx.zip2G_t, Dx.zip2G_tl, Dx.loopM_map, Dx.biM, Dx.compM, Dx.compL_map, Dx.compI_ret, Dx.wipeG, Dx.rng2_ok, Dx.rng1_ok, Dx.seqRng_ok, Dx.rngG, Dx.any_ok, Dx.all_ok, Dx.filter_yes, Dx.rngI_length, Dx.ite_or, Dx.ite_and, Dx.ite_orB, Dx.ite_andB, Dx.wp_bnd_iff, Dx.wp_ret_iff, Dx.wp_ite_iff, Dx.wp_g0, Dx.wp_g1, Dx.wp_g2, Dx.wp_s0, Dx.wp_s2, Dx.intG_i, Dx.intG_b, Dx.powD_3, G15, revM, revT, forM', e2]
  refine wp_mono (take_ok _ q2 5 hq2 (by omega) (by decide) (by decide)) ?_
  rintro _ q3 ⟨k, rfl, k0, k1, hq3⟩
  simp (config := {maxSteps := 3000000}) (disch := omega) [Dx.fnM_ev', Dx.seqM_ev, Dx.seqK_next, Dx.seqK_ret, Dx.seqK_brk, Dx.seqK_cont, Dx.finM_ret, Dx.finM_next, Dx.retM, Dx.setM, Dx.setN, Dx.parM, Dx.oldM, Dx.newM, Dx.Val.slot, Dx.appM, Dx.plnM, Dx.ifM, Dx.exprM, Dx.skipM, Dx.failM, Dx.brkM, Dx.contM, Dx.con, Dx.callM, Dx.consM, Dx.nilM, Dx.op2, Dx.ts2, Dx.tsB, Dx.tNotM, Dx.tAndM, Dx.tOrM, Dx.andM, Dx.orM, Dx.notM, Dx.iteM, Dx.isiM, Dx.isiD, Dx.tyD, Dx.isaB, Dx.chB, Dx.blM, Dx.lenG, Dx.negM, Dx.negG, Dx.tupM, Dx.lstM, Dx.frzM, Dx.asgM, Dx.asgT, Dx.setAll, Dx.bnd_ret, Dx.bnd_fail, Dx.bnd_bnd, Dx.lift_val, Dx.lift_no, Dx.ev_0, Dx.ev_1, Dx.ev_2, Dx.ev_3, Dx.ev_4, Dx.ev_5, Dx.ev_6, Dx.ev_7, Dx.ev_8, Dx.ev_9, Dx.ev_10, Dx.ev_11, Dx.ev_12, Dx.ev_13, Dx.ev_14, Dx.ev_15, Dx.ev_16, Dx.ev_17, Dx.ev_18, Dx.ev_19, Dx.ev_20, Dx.ev_21, Dx.ev_22, Dx.ev_23, Dx.ev_24, Dx.ev_25, Dx.pk_0, Dx.pk_1, Dx.pk_2, Dx.pk_3, Dx.pk_4, Dx.pk_5, Dx.pk_6, Dx.pk_7, Dx.pk_8, Dx.pk_9, Dx.pk_10, Dx.pk_11, Dx.pk_12, Dx.pk_13, Dx.pk_14, Dx.pk_15, Dx.pk_16, Dx.pk_17, Dx.pk_18, Dx.pk_19, Dx.pk_20, Dx.pk_21, Dx.pk_22, Dx.pk_23, Dx.pk_24, Dx.pk_25, Dx.st_0, Dx.st_1, Dx.st_2, Dx.st_3, Dx.st_4, Dx.st_5, Dx.st_6, Dx.st_7, Dx.st_8, Dx.st_9, Dx.st_10, Dx.st_11, Dx.st_12, Dx.st_13, Dx.st_14, Dx.st_15, Dx.st_16, Dx.st_17, Dx.st_18, Dx.st_19, Dx.st_20, Dx.st_21, Dx.st_22, Dx.st_23, Dx.st_24, Dx.st_25, Dx.ow_0, Dx.ow_1, Dx.ow_2, Dx.ow_3, Dx.ow_4, Dx.ow_5, Dx.ow_6, Dx.ow_7, Dx.ow_8, Dx.ow_9, Dx.ow_10, Dx.ow_11, Dx.ow_12, Dx.ow_13, Dx.ow_14, Dx.ow_15, Dx.ow_16, Dx.ow_17, Dx.ow_18, Dx.ow_19, Dx.ow_20, Dx.ow_21, Dx.ow_22, Dx.ow_23, Dx.ow_24, Dx.ow_25, Dx.pk_o, Dx.gam0, Dx.ixD_t, Dx.ixD_l, Dx.atI_0, Dx.atI_1, Dx.atI_2, Dx.atI_3, Dx.atI_4, Dx.asB_b, Dx.addD_i, Dx.subD_i, Dx.addD_t, Dx.addD_l, Dx.mulD_l, Dx.fdivD_s, Dx.modD_p, Dx.cmpI_i, Dx.absG_i, Dx.szOk_le, Dx.tupG, Dx.yesM, Dx.seqI, Dx.seqG_t, Dx.seqG_l, Dx.seqZ_t, Dx.seqZ_l, Dx.starM, Dx.compL_nil, Dx.compL_cons, Dx.all_2, Dx.any_2, Dx.neD_i, Dx.eqD_i, Dx.neD_b, Dx.cut_from1, Dx.cut_to, Dx.sliceM, Dx.noBd, Dx.someBd, Dx.asI, Dx.sliceD_t, Dx.sliceD_l, Dx.zipL3_ints, Dx.zipL2_ints, Dx.zip3G_t, Dx.zip2G_t, Dx.zip2G_tl, Dx.loopM_map, Dx.biM, Dx.compM, Dx.compL_map, Dx.compI_ret, Dx.wipeG, Dx.rng2_ok, Dx.rng1_ok, Dx.seqRng_ok, Dx.rngG, Dx.any_ok, Dx.all_ok, Dx.filter_yes, Dx.rngI_length, Dx.ite_or, Dx.ite_and, Dx.ite_orB, Dx.ite_andB, Dx.wp_bnd_iff, Dx.wp_ret_iff, Dx.wp_ite_iff, Dx.wp_g0, Dx.wp_g1, Dx.wp_g2, Dx.wp_s0, Dx.wp_s2, Dx.intG_i, Dx.intG_b, Dx.powD_3, c50, h50, v0, v1, v2, v3, v4, p0, p1]
  refine wp_mono (wp_ints (fun v => a ≤ v ∧ v ≤ b) (fun i n' q hq hn' => ?_) _ _ _ hq3 (by rw [rngI_length]; omega)) ?_
  · have b1 := hb.a2
    have b2 := h.a1
    have b3 := h.b2
    simp (config := {maxSteps := 3000000}) (disch := omega) [Dx.fnM_ev', Dx.seqM_ev, Dx.seqK_next, Dx.seqK_ret, Dx.seqK_brk, Dx.seqK_cont, Dx.finM_ret, Dx.finM_next, Dx.retM, Dx.setM, Dx.setN, Dx.parM, Dx.oldM, Dx.newM, Dx.Val.slot, Dx.appM, Dx.plnM, Dx.ifM, Dx.exprM, Dx.skipM, Dx.failM, Dx.brkM, Dx.contM, Dx.con, Dx.callM, Dx.consM, Dx.nilM, Dx.op2, Dx.ts2, Dx.tsB, Dx.tNotM, Dx.tAndM, Dx.tOrM, Dx.andM, Dx.orM, Dx.notM, Dx.iteM, Dx.isiM, Dx.isiD, Dx.tyD, Dx.isaB, Dx.chB, Dx.blM, Dx.lenG, Dx.negM, Dx.negG, Dx.tupM, Dx.lstM, Dx.frzM, Dx.asgM, Dx.asgT, Dx.setAll, Dx.bnd_ret, Dx.bnd_fail, Dx.bnd_bnd, Dx.lift_val, Dx.lift_no, Dx.ev_0, Dx.ev_1, Dx.ev_2, Dx.ev_3, Dx.ev_4, Dx.ev_5, Dx.ev_6, Dx.ev_7, Dx.ev_8, Dx.ev_9, Dx.ev_10, Dx.ev_11, Dx.ev_12, Dx.ev_13, Dx.ev_14, Dx.ev_15, Dx.ev_16, Dx.ev_17, Dx.ev_18, Dx.ev_19, Dx.ev_20, Dx.ev_21, Dx.ev_22, Dx.ev_23, Dx.ev_24, Dx.ev_25, Dx.pk_0, Dx.pk_1, Dx.pk_2, Dx.pk_3, Dx.pk_4, Dx.pk_5, Dx.pk_6, Dx.pk_7, Dx.pk_8, Dx.pk_9, Dx.pk_10, Dx.pk_11, Dx.pk_12, Dx.pk_13, Dx.pk_14, Dx.pk_15, Dx.pk_16, Dx.pk_17, Dx.pk_18, Dx.pk_19, Dx.pk_20, Dx.pk_21, Dx.pk_22, Dx.pk_23, Dx.pk_24, Dx.pk_25, Dx.st_0, Dx.st_1, Dx.st_2, Dx.st_3, Dx.st_4, Dx.st_5, Dx.st_6, Dx.st_7, Dx.st_8, Dx.st_9, Dx.st_10, Dx.st_11, Dx.st_12, Dx.st_13, Dx.st_14, Dx.st_15, Dx.st_16, Dx.st_17, Dx.st_18, Dx.st_19, Dx.st_20, Dx.st_21, Dx.st_22, Dx.st_23, Dx.st_24, Dx.st_25, Dx.ow_0, Dx.ow_1, Dx.ow_2, Dx.ow_3, Dx.ow_4, Dx.ow_5, Dx.ow_6, Dx.ow_7, Dx.ow_8, Dx.ow_9, Dx.ow_10, Dx.ow_11, Dx.ow_12, Dx.ow_13, Dx.ow_14, Dx.ow_15, Dx.ow_16, Dx.ow_17, Dx.ow_18, Dx.ow_19, Dx.ow_20, Dx.ow_21, Dx.ow_22, Dx.ow_23, Dx.ow_24, Dx.ow_25, Dx.pk_o, Dx.gam0, Dx.ixD_t, Dx.ixD_l, Dx.atI_0, Dx.atI_1, Dx.atI_2, Dx.atI_3, Dx.atI_4, Dx.asB_b, Dx.addD_i, Dx.subD_i, Dx.addD_t, Dx.addD_l, Dx.mulD_l, Dx.fdivD_s, Dx.modD_p, Dx.cmpI_i, Dx.absG_i, Dx.szOk_le, Dx.tupG, Dx.yesM, Dx.seqI, Dx.seqG_t, Dx.seqG_l, Dx.seqZ_t, Dx.seqZ_l, Dx.starM, Dx.compL_nil, Dx.compL_cons, Dx.all_2, Dx.any_2, Dx.neD_i, Dx.eqD_i, Dx.neD_b, Dx.cut_from1, Dx.cut_to, Dx.sliceM, Dx.noBd, Dx.someBd, Dx.asI, Dx.sliceD_t, Dx.sliceD_l, Dx.zipL3_ints, Dx.zipL2_ints, Dx.zip3G_t, Dx.zip2G_t, Dx.zip2G_tl, Dx.loopM_map, Dx.biM, Dx.compM, Dx.compL_map, Dx.compI_ret, Dx.wipeG, Dx.rng2_ok, Dx.rng1_ok, Dx.seqRng_ok, Dx.rngG, Dx.any_ok, Dx.all_ok, Dx.filter_yes, Dx.rngI_length, Dx.ite_or, Dx.ite_and, Dx.ite_orB, Dx.ite_andB, Dx.wp_bnd_iff, Dx.wp_ret_iff, Dx.wp_ite_iff, Dx.wp_g0, Dx.wp_g1, Dx.wp_g2, Dx.wp_s0, Dx.wp_s2, Dx.intG_i, Dx.intG_b, Dx.powD_3, v0, v1, v2, v3, v4, p0, p1]
    refine wp_mono (take_ok _ q (b - a + 1) hq hn' (by omega) (by omega)) ?_
    rintro _ q' ⟨t, rfl, t0, t1, hq'⟩
    simp (config := {maxSteps := 3000000}) (disch := omega) [Dx.fnM_ev', Dx.seqM_ev, Dx.seqK_next, Dx.seqK_ret, Dx.seqK_brk, Dx.seqK_cont, Dx.finM_ret, Dx.finM_next, Dx.retM, Dx.setM, Dx.setN, Dx.parM, Dx.oldM, Dx.newM, Dx.Val.slot, Dx.appM, Dx.plnM, Dx.ifM, Dx.exprM, Dx.skipM, Dx.failM, Dx.brkM, Dx.contM, Dx.con, Dx.callM, Dx.consM, Dx.nilM, Dx.op2, Dx.ts2, Dx.tsB, Dx.tNotM, Dx.tAndM, Dx.tOrM, Dx.andM, Dx.orM, Dx.notM, Dx.iteM, Dx.isiM, Dx.isiD, Dx.tyD, Dx.isaB, Dx.chB, Dx.blM, Dx.lenG, Dx.negM, Dx.negG, Dx.tupM, Dx.lstM, Dx.frzM, Dx.asgM, Dx.asgT, Dx.setAll, Dx.bnd_ret, Dx.bnd_fail, Dx.bnd_bnd, Dx.lift_val, Dx.lift_no, Dx.ev_0, Dx.ev_1, Dx.ev_2, Dx.ev_3, Dx.ev_4, Dx.ev_5, Dx.ev_6, Dx.ev_7, Dx.ev_8, Dx.ev_9, Dx.ev_10, Dx.ev_11, Dx.ev_12, Dx.ev_13, Dx.ev_14, Dx.ev_15, Dx.ev_16, Dx.ev_17, Dx.ev_18, Dx.ev_19, Dx.ev_20, Dx.ev_21, Dx.ev_22, Dx.ev_23, Dx.ev_24, Dx.ev_25, Dx.pk_0, Dx.pk_1, Dx.pk_2, Dx.pk_3, Dx.pk_4, Dx.pk_5, Dx.pk_6, Dx.pk_7, Dx.pk_8, Dx.pk_9, Dx.pk_10, Dx.pk_11, Dx.pk_12, Dx.pk_13, Dx.pk_14, Dx.pk_15, Dx.pk_16, Dx.pk_17, Dx.pk_18, Dx.pk_19, Dx.pk_20, Dx.pk_21, Dx.pk_22, Dx.pk_23, Dx.pk_24, Dx.pk_25, Dx.st_0, Dx.st_1, Dx.st_2, Dx.st_3, Dx.st_4, Dx.st_5, Dx.st_6, Dx.st_7, Dx.st_8, Dx.st_9, Dx.st_10, Dx.st_11, Dx.st_12, Dx.st_13, Dx.st_14, Dx.st_15, Dx.st_16, Dx.st_17, Dx.st_18, Dx.st_19, Dx.st_20, Dx.st_21, Dx.st_22, Dx.st_23, Dx.st_24, Dx.st_25, Dx.ow_0, Dx.ow_1, Dx.ow_2, Dx.ow_3, Dx.ow_4, Dx.ow_5, Dx.ow_6, Dx.ow_7, Dx.ow_8, Dx.ow_9, Dx.ow_10, Dx.ow_11, Dx.ow_12, Dx.ow_13, Dx.ow_14, Dx.ow_15, Dx.ow_16, Dx.ow_17, Dx.ow_18, Dx.ow_19, Dx.ow_20, Dx.ow_21, Dx.ow_22, Dx.ow_23, Dx.ow_24, Dx.ow_25, Dx.pk_o, Dx.gam0, Dx.ixD_t, Dx.ixD_l, Dx.atI_0, Dx.atI_1, Dx.atI_2, Dx.atI_3, Dx.atI_4, Dx.asB_b, Dx.addD_i, Dx.subD_i, Dx.addD_t, Dx.addD_l, Dx.mulD_l, Dx.fdivD_s, Dx.modD_p, Dx.cmpI_i, Dx.absG_i, Dx.szOk_le, Dx.tupG, Dx.yesM, Dx.seqI, Dx.seqG_t, Dx.seqG_l, Dx.seqZ_t, Dx.seqZ_l, Dx.starM, Dx.compL_nil, Dx.compL_cons, Dx.all_2, Dx.any_2, Dx.neD_i, Dx.eqD_i, Dx.neD_b, Dx.cut_from1, Dx.cut_to, Dx.sliceM, Dx.noBd, Dx.someBd, Dx.asI, Dx.sliceD_t, Dx.sliceD_l, Dx.zipL3_ints, Dx.zipL2_ints, Dx.zip3G_t, Dx.zip2G_t, Dx.zip2G_tl, Dx.loopM_map, Dx.biM, Dx.compM, Dx.compL_map, Dx.compI_ret, Dx.wipeG, Dx.rng2_ok, Dx.rng1_ok, Dx.seqRng_ok, Dx.rngG, Dx.any_ok, Dx.all_ok, Dx.filter_yes, Dx.rngI_length, Dx.ite_or, Dx.ite_and, Dx.ite_orB, Dx.ite_andB, Dx.wp_bnd_iff, Dx.wp_ret_iff, Dx.wp_ite_iff, Dx.wp_g0, Dx.wp_g1, Dx.wp_g2, Dx.wp_s0, Dx.wp_s2, Dx.intG_i, Dx.intG_b, Dx.powD_3]
    exact ⟨⟨by omega, by omega⟩, hq'⟩
  rintro _ q4 ⟨m, rfl, hm, mB, hq4⟩
  rw [rngI_length] at hm hq4
  have bn : row ++ m ≠ [] := by simp [r0]
  have bB : inB a b (row ++ m) := fun i hi => by
    rcases List.mem_append.mp hi with z | z
    · exact rb' i z
    · exact mB i z
  have bl' : (row ++ m).length ≤ 60 := by rw [List.length_append]; omega
  have bm : row.map D.int ++ m.map D.int = (row ++ m).map D.int := List.map_append.symm
  have ha2 : addD (.tup (row.map .int)) (.tup (m.map .int)) = some (.tup (row.map .int ++ m.map .int)) := addD_t (by rw [List.length_map, List.length_map]; omega)
  have hmn2 : minG [.tup (row.map .int ++ m.map .int)] = some (.int (minI (row ++ m))) := by rw [bm]; exact min_tup bn
  have hmx2 : maxG [.tup (row.map .int ++ m.map .int)] = some (.int (maxI (row ++ m))) := by rw [bm]; exact max_tup bn
  have ht2 : m_is_told [vt s lo hi, pr a b, .int (v - 200), .tup (row.map .int ++ m.map .int)] = ret (.bl (told (par s (hi - lo)) a b (row ++ m))) := by
    rw [bm]
    exact is_told_ok hv hb (by omega) (by omega) bl' bB
  have ht3 : m__law_is_told [vt s lo hi, pr a b, .tup [.int (minI (row ++ m)), .int (maxI (row ++ m))]] = ret (.bl (told (par s (hi - lo)) a b (row ++ m))) := by
    rw [told_ends bn]
    exact ltold_ok hv hb (l := [minI (row ++ m), maxI (row ++ m)]) (by simp)
  have ht4 : m__law_is_told [vt s lo hi, pr a b, pr a b] = ret (.bl (told (par s (hi - lo)) a b [a, b])) := ltold_ok hv hb (l := [a, b]) (by simp)
  have lw := lrow_word (par s (hi - lo)) a b
  have lo' := least_ok hv hb
  have wt := lone_told (par s (hi - lo)) a b
  have mono : told (par s (hi - lo)) a b row = true → told (par s (hi - lo)) a b (row ++ m) = true := told_mono fun x hx => List.mem_append_left _ hx
  obtain ⟨Γ', ⟨y7', y13, y14, rfl⟩, e3⟩ := each_ok (t := .nm 13) (fb := lb__law_is_row_right_3) (fun Γ => ∃ x7 x13 x14, Γ = G15 s lo hi a b row (v - 200) x7 y8 (.val (.tup (m.map .int))) .none (.val (.tup (row.map .int ++ m.map .int))) (.val (.str (lrW (par s (hi - lo)) a b))) x13 x14)
    [.int (minI row), .int (maxI row)]
    (fun d hd Γ ⟨x7, x13, x14, hΓ⟩ => by
      subst hΓ
      have hl : ∃ t : Int, d = .int t ∧ a ≤ t ∧ t ≤ b := by
        simp only [List.mem_cons, List.not_mem_nil, or_false] at hd
        rcases hd with rfl | rfl
        · exact ⟨_, rfl, mnB⟩
        · exact ⟨_, rfl, mxB⟩
      obtain ⟨t, rfl, t1, t2⟩ := hl
      obtain ⟨y7, e⟩ := lb3_ok h (v := v - 200) (row := row) t1 t2 x7 y8 (.val (.tup (m.map .int))) .none (.val (.tup (row.map .int ++ m.map .int))) (.val (.str (lrW (par s (hi - lo)) a b))) x14
      exact ⟨_, _, rfl, ⟨y7, .val (.int t), x14, rfl⟩, e⟩) _ ⟨y7, .none, .none, rfl⟩
  unfold G15 at e3
  simp (config := {maxSteps := 3000000}) (disch := omega) [Dx.fnM_ev', Dx.seqM_ev, Dx.seqK_next, Dx.seqK_ret, Dx.seqK_brk, Dx.seqK_cont, Dx.finM_ret, Dx.finM_next, Dx.retM, Dx.setM, Dx.setN, Dx.parM, Dx.oldM, Dx.newM, Dx.Val.slot, Dx.appM, Dx.plnM, Dx.ifM, Dx.exprM, Dx.skipM, Dx.failM, Dx.brkM, Dx.contM, Dx.con, Dx.callM, Dx.consM, Dx.nilM, Dx.op2, Dx.ts2, Dx.tsB, Dx.tNotM, Dx.tAndM, Dx.tOrM, Dx.andM, Dx.orM, Dx.notM, Dx.iteM, Dx.isiM, Dx.isiD, Dx.tyD, Dx.isaB, Dx.chB, Dx.blM, Dx.lenG, Dx.negM, Dx.negG, Dx.tupM, Dx.lstM, Dx.frzM, Dx.asgM, Dx.asgT, Dx.setAll, Dx.bnd_ret, Dx.bnd_fail, Dx.bnd_bnd, Dx.lift_val, Dx.lift_no, Dx.ev_0, Dx.ev_1, Dx.ev_2, Dx.ev_3, Dx.ev_4, Dx.ev_5, Dx.ev_6, Dx.ev_7, Dx.ev_8, Dx.ev_9, Dx.ev_10, Dx.ev_11, Dx.ev_12, Dx.ev_13, Dx.ev_14, Dx.ev_15, Dx.ev_16, Dx.ev_17, Dx.ev_18, Dx.ev_19, Dx.ev_20, Dx.ev_21, Dx.ev_22, Dx.ev_23, Dx.ev_24, Dx.ev_25, Dx.pk_0, Dx.pk_1, Dx.pk_2, Dx.pk_3, Dx.pk_4, Dx.pk_5, Dx.pk_6, Dx.pk_7, Dx.pk_8, Dx.pk_9, Dx.pk_10, Dx.pk_11, Dx.pk_12, Dx.pk_13, Dx.pk_14, Dx.pk_15, Dx.pk_16, Dx.pk_17, Dx.pk_18, Dx.pk_19, Dx.pk_20, Dx.pk_21, Dx.pk_22, Dx.pk_23, Dx.pk_24, Dx.pk_25, Dx.st_0, Dx.st_1, Dx.st_2, Dx.st_3, Dx.st_4, Dx.st_5, Dx.st_6, Dx.st_7, Dx.st_8, Dx.st_9, Dx.st_10, Dx.st_11, Dx.st_12, Dx.st_13, Dx.st_14, Dx.st_15, Dx.st_16, Dx.st_17, Dx.st_18, Dx.st_19, Dx.st_20, Dx.st_21, Dx.st_22, Dx.st_23, Dx.st_24, Dx.st_25, Dx.ow_0, Dx.ow_1, Dx.ow_2, Dx.ow_3, Dx.ow_4, Dx.ow_5, Dx.ow_6, Dx.ow_7, Dx.ow_8, Dx.ow_9, Dx.ow_10, Dx.ow_11, Dx.ow_12, Dx.ow_13, Dx.ow_14, Dx.ow_15, Dx.ow_16, Dx.ow_17, Dx.ow_18, Dx.ow_19, Dx.ow_20, Dx.ow_21, Dx.ow_22, Dx.ow_23, Dx.ow_24, Dx.ow_25, Dx.pk_o, Dx.gam0, Dx.ixD_t, Dx.ixD_l, Dx.atI_0, Dx.atI_1, Dx.atI_2, Dx.atI_3, Dx.atI_4, Dx.asB_b, Dx.addD_i, Dx.subD_i, Dx.addD_t, Dx.addD_l, Dx.mulD_l, Dx.fdivD_s, Dx.modD_p, Dx.cmpI_i, Dx.absG_i, Dx.szOk_le, Dx.tupG, Dx.yesM, Dx.seqI, Dx.seqG_t, Dx.seqG_l, Dx.seqZ_t, Dx.seqZ_l, Dx.starM, Dx.compL_nil, Dx.compL_cons, Dx.all_2, Dx.any_2, Dx.neD_i, Dx.eqD_i, Dx.neD_b, Dx.cut_from1, Dx.cut_to, Dx.sliceM, Dx.noBd, Dx.someBd, Dx.asI, Dx.sliceD_t, Dx.sliceD_l, Dx.zipL3_ints, Dx.zipL2_ints, Dx.zip3G_t, Dx.zip2G_t, Dx.zip2G_tl, Dx.loopM_map, Dx.biM, Dx.compM, Dx.compL_map, Dx.compI_ret, Dx.wipeG, Dx.rng2_ok, Dx.rng1_ok, Dx.seqRng_ok, Dx.rngG, Dx.any_ok, Dx.all_ok, Dx.filter_yes, Dx.rngI_length, Dx.ite_or, Dx.ite_and, Dx.ite_orB, Dx.ite_andB, Dx.wp_bnd_iff, Dx.wp_ret_iff, Dx.wp_ite_iff, Dx.wp_g0, Dx.wp_g1, Dx.wp_g2, Dx.wp_s0, Dx.wp_s2, Dx.intG_i, Dx.intG_b, Dx.powD_3, ha2, ht2, ht3, ht4, hmn2, hmx2, rb, neD_str, eqD_str, lo', lw, wt, isNotD, isD, notR, e3]
  have fin : Okp (n + 100) q4 := hq4.mono (by omega)
  split
  · rename_i q
    exact ⟨mono q, fin⟩
  · exact fin
end K68

set_option Elab.async false
set_option linter.all false
set_option maxRecDepth 100000
set_option maxHeartbeats 4000000
namespace K68
open PySem PySem.Spec PyProof.Rows L2 Dx
/-! ### faults as data -/
def FOk (f : Option Int) : Prop := ∀ n, f = some n → n.natAbs ≤ 50
theorem faults_ok {a b : Int} (g : BOk a b) {f : Option Int} (h : f ∈ faults a b) : FOk f := by
  intro n e
  subst e
  unfold faults at h
  simp only [List.mem_cons, List.mem_map] at h
  rcases h with h | ⟨i, hi, h⟩
  · cases h
  · cases h
    exact rg_abs g hi
theorem nice_f {f : Option Int} (h : FOk f) : Nice 1 200 (fD f) := by
  cases f with
  | none => exact (nice_tup (l := [.str "fine"]) (k := 0) (w := 90) fun d hd => by
      simp at hd
      subst hd
      exact nice_str (by decide +kernel) (by decide +kernel)).mono (by decide) (by decide)
  | some n => exact (nice_tup (l := [.str "stuck", .int n]) (k := 0) (w := 90) fun d hd => by
      simp at hd
      rcases hd with rfl | rfl
      · exact nice_str (by decide +kernel) (by decide +kernel)
      · have := h n rfl
        exact (nice_int (by omega)).mono (by decide) (by decide)).mono (by decide) (by simp)
theorem nice_fs {L : List (Option Int)} (h : ∀ f ∈ L, FOk f) : ∀ d ∈ L.map fD, Nice 1 200 d := fun d hd => by
  obtain ⟨f, hf, rfl⟩ := List.mem_map.mp hd
  exact nice_f (h f hf)
theorem eqv_f (f g : Option Int) : eqvD (fD f) (fD g) = decide (f = g) := by
  cases f with
  | none =>
    cases g with
    | none => rfl
    | some m =>
      show eqvD (.tup [.str "fine"]) (.tup [.str "stuck", .int m]) = _
      rw [eqv_tup]
      simp [eqvL, eqv_str]
  | some n =>
    cases g with
    | none =>
      show eqvD (.tup [.str "stuck", .int n]) (.tup [.str "fine"]) = _
      rw [eqv_tup]
      simp [eqvL, eqv_str]
    | some m =>
      show eqvD (.tup [.str "stuck", .int n]) (.tup [.str "stuck", .int m]) = _
      rw [eqv_tup]
      simp only [eqvL, eqv_str, eqv_int, beq_self_eq_true, Bool.true_and, Bool.and_true, Option.some.injEq]
      rfl
theorem eqvL_f : ∀ L M : List (Option Int), eqvL (L.map fD) (M.map fD) = decide (L = M)
  | [], [] => by simp [eqvL]
  | [], g :: M => by simp [eqvL]
  | f :: L, [] => by simp [eqvL]
  | f :: L, g :: M => by
    simp only [List.map_cons, eqvL, eqv_f, eqvL_f L M, List.cons.injEq, Bool.decide_and]
theorem eq_ff {f g : Option Int} (h : FOk f) (k : FOk g) : eqD (fD f) (fD g) = some (.bl (decide (f = g))) := by
  rw [← eqv_f]
  exact eq_ok (nice_f h) (nice_f k) (by decide) (by decide)
theorem ne_fs {L M : List (Option Int)} (h : ∀ f ∈ L, FOk f) (k : ∀ f ∈ M, FOk f) : neD (.tup (L.map fD)) (.tup (M.map fD)) = some (.bl (!decide (L = M))) := by
  rw [← eqvL_f, ← eqv_tup]
  exact ne_ok (nice_tup (nice_fs h)) (nice_tup (nice_fs k)) (by decide) (by decide)
theorem ne_fl {L M : List (Option Int)} (h : ∀ f ∈ L, FOk f) (k : ∀ f ∈ M, FOk f) : neD (.lst (L.map fD)) (.lst (M.map fD)) = some (.bl (!decide (L = M))) := by
  rw [← eqvL_f, ← eqv_lst]
  exact ne_ok (nice_lst (nice_fs h)) (nice_lst (nice_fs k)) (by decide) (by decide)
theorem mem_f (f : Option Int) (L : List (Option Int)) : memD (fD f) (L.map fD) = decide (f ∈ L) := by
  unfold memD
  rw [Bool.eq_iff_iff, List.any_eq_true, decide_eq_true_eq]
  constructor
  · rintro ⟨d, hd, e⟩
    obtain ⟨g, hg, rfl⟩ := List.mem_map.mp hd
    rw [eqv_f, decide_eq_true_eq] at e
    rw [← e]
    exact hg
  · intro h
    exact ⟨fD f, List.mem_map_of_mem h, by rw [eqv_f]; exact decide_eq_true rfl⟩
theorem in_f {f : Option Int} {L : List (Option Int)} (h : FOk f) (k : ∀ f ∈ L, FOk f) : inD (fD f) (.tup (L.map fD)) = some (.bl (decide (f ∈ L))) := by
  have e : inD (fD f) (.tup (L.map fD)) = if (shp (fD f) && shp (.tup (L.map fD))) = true then some (.bl (memD (fD f) (L.map fD))) else none := by
    cases f <;> rfl
  rw [e, (nice_f h).shp (by decide), (nice_tup (nice_fs k)).shp (by decide), mem_f]
  rfl
theorem notin_f {f : Option Int} {L : List (Option Int)} (h : FOk f) (k : ∀ f ∈ L, FOk f) : notInD (fD f) (.tup (L.map fD)) = some (.bl (!decide (f ∈ L))) := by
  show notR (inD (fD f) (.tup (L.map fD))) = _
  rw [in_f h k]
  rfl
theorem repr_fs {L : List (Option Int)} (k : ∀ f ∈ L, FOk f) (hl : L.length ≤ 1000) : reprG [.tup (L.map fD)] = some (.str (toP (.tup (L.map fD))).shown) := by
  refine repr_ok (nice_tup (nice_fs k)) (by decide) ?_
  rw [List.length_map]
  omega
theorem mayS_ok {s lo hi a b : Int} (g : BOk a b) (row lev : List Int) : ∀ f ∈ mayS s lo hi a b row lev, FOk f := fun f hf => faults_ok g (List.mem_filter.mp hf).1
theorem mayS_len {s lo hi a b : Int} (g : BOk a b) (row lev : List Int) : (mayS s lo hi a b row lev).length ≤ 1000 := by
  have h1 := List.length_filter_le (fun f => (steps row lev).all fun t => fitB s lo hi f t) (faults a b)
  rw [faults_len] at h1
  obtain ⟨g1, g2, g3⟩ := g
  unfold mayS
  omega
/-! ### levels along a row -/
def lvs (s : Int) (f : Option Int) : List (Int × Int) → Int → List Int
  | [], l => [l]
  | (a, w) :: t, l => l :: lvs s f t (l + s * realOf f a + w)
theorem lvs_ne (s : Int) (f : Option Int) (t : List (Int × Int)) (l : Int) : lvs s f t l ≠ [] := by
  cases t with
  | nil => simp [lvs]
  | cons x t => obtain ⟨a, w⟩ := x; simp [lvs]
theorem lvs_len (s : Int) (f : Option Int) : ∀ (t : List (Int × Int)) (l : Int), (lvs s f t l).length = t.length + 1
  | [], l => rfl
  | (a, w) :: t, l => by simp [lvs, lvs_len s f t]
theorem levels_loop {s lo hi : Int} (h : VOk s lo hi) {f : Option Int} (hf : FOk f) (x2 x3 x4 : Slot) : ∀ (t : List (Int × Int)) (acc : List Int) (l : Int) (x6 x7 x8 : Slot), acc.length + t.length ≤ 1000 → ∃ y6 y7 y8 : Slot,
    loopI (fun (t : Int × Int) (Γ : Gam) => lb__law_levels_1 (List.set (List.set Γ 6 (.val (.int t.1))) 7 (.val (.int t.2)))) t [.val (vt s lo hi), .val (fD f), x2, x3, x4, .own (.lst (acc.map .int ++ [.int l])), x6, x7, x8] =
      ret (.next, [.val (vt s lo hi), .val (fD f), x2, x3, x4, .own (.lst (acc.map .int ++ (lvs s f t l).map .int)), y6, y7, y8])
  | [], acc, l, x6, x7, x8, _ => ⟨x6, x7, x8, rfl⟩
  | (a, w) :: t, acc, l, x6, x7, x8, hl => by
    rw [List.length_cons] at hl
    obtain ⟨s1, s2, l1, l2, l3⟩ := h
    have e := eq_ff hf (g := none) (fun n z => nomatch z)
    have la := Dx.atI_last (acc.map D.int) (.int l)
    have hz : (acc.map D.int ++ [D.int l]).length + 1 ≤ 16777216 := by simp; omega
    have e1 : lb__law_levels_1 [.val (vt s lo hi), .val (fD f), x2, x3, x4, .own (.lst (acc.map .int ++ [.int l])), .val (.int a), .val (.int w), x8] =
        ret (.next, [.val (vt s lo hi), .val (fD f), x2, x3, x4, .own (.lst ((acc ++ [l]).map .int ++ [.int (l + s * realOf f a + w)])), .val (.int a), .val (.int w), .val (.int (realOf f a))]) := by
      have hz' := szOk_le hz
      cases f with
      | none =>
        have e' : eqD (fD none) (.tup [.str "fine"]) = some (.bl true) := e
        simp (config := {maxSteps := 3000000}) (disch := omega) [Dx.fnM_ev', Dx.seqM_ev, Dx.seqK_next, Dx.seqK_ret, Dx.seqK_brk, Dx.seqK_cont, Dx.finM_ret, Dx.finM_next, Dx.retM, Dx.setM, Dx.setN, Dx.parM, Dx.oldM, Dx.newM, Dx.Val.slot, Dx.appM, Dx.plnM, Dx.ifM, Dx.exprM, Dx.skipM, Dx.failM, Dx.brkM, Dx.contM, Dx.con, Dx.callM, Dx.consM, Dx.nilM, Dx.op2, Dx.ts2, Dx.tsB, Dx.tNotM, Dx.tAndM, Dx.tOrM, Dx.andM, Dx.orM, Dx.notM, Dx.iteM, Dx.isiM, Dx.isiD, Dx.tyD, Dx.isaB, Dx.chB, Dx.blM, Dx.lenG, Dx.negM, Dx.negG, Dx.tupM, Dx.lstM, Dx.frzM, Dx.asgM, Dx.asgT, Dx.setAll, Dx.bnd_ret, Dx.bnd_fail, Dx.bnd_bnd, Dx.lift_val, Dx.lift_no, Dx.ev_0, Dx.ev_1, Dx.ev_2, Dx.ev_3, Dx.ev_4, Dx.ev_5, Dx.ev_6, Dx.ev_7, Dx.ev_8, Dx.ev_9, Dx.ev_10, Dx.ev_11, Dx.ev_12, Dx.ev_13, Dx.ev_14, Dx.ev_15, Dx.ev_16, Dx.ev_17, Dx.ev_18, Dx.ev_19, Dx.ev_20, Dx.ev_21, Dx.ev_22, Dx.ev_23, Dx.ev_24, Dx.ev_25, Dx.pk_0, Dx.pk_1, Dx.pk_2, Dx.pk_3, Dx.pk_4, Dx.pk_5, Dx.pk_6, Dx.pk_7, Dx.pk_8, Dx.pk_9, Dx.pk_10, Dx.pk_11, Dx.pk_12, Dx.pk_13, Dx.pk_14, Dx.pk_15, Dx.pk_16, Dx.pk_17, Dx.pk_18, Dx.pk_19, Dx.pk_20, Dx.pk_21, Dx.pk_22, Dx.pk_23, Dx.pk_24, Dx.pk_25, Dx.st_0, Dx.st_1, Dx.st_2, Dx.st_3, Dx.st_4, Dx.st_5, Dx.st_6, Dx.st_7, Dx.st_8, Dx.st_9, Dx.st_10, Dx.st_11, Dx.st_12, Dx.st_13, Dx.st_14, Dx.st_15, Dx.st_16, Dx.st_17, Dx.st_18, Dx.st_19, Dx.st_20, Dx.st_21, Dx.st_22, Dx.st_23, Dx.st_24, Dx.st_25, Dx.ow_0, Dx.ow_1, Dx.ow_2, Dx.ow_3, Dx.ow_4, Dx.ow_5, Dx.ow_6, Dx.ow_7, Dx.ow_8, Dx.ow_9, Dx.ow_10, Dx.ow_11, Dx.ow_12, Dx.ow_13, Dx.ow_14, Dx.ow_15, Dx.ow_16, Dx.ow_17, Dx.ow_18, Dx.ow_19, Dx.ow_20, Dx.ow_21, Dx.ow_22, Dx.ow_23, Dx.ow_24, Dx.ow_25, Dx.pk_o, Dx.gam0, Dx.ixD_t, Dx.ixD_l, Dx.atI_0, Dx.atI_1, Dx.atI_2, Dx.atI_3, Dx.atI_4, Dx.asB_b, Dx.addD_i, Dx.subD_i, Dx.addD_t, Dx.addD_l, Dx.mulD_l, Dx.fdivD_s, Dx.modD_p, Dx.cmpI_i, Dx.absG_i, Dx.szOk_le, Dx.tupG, Dx.yesM, Dx.seqI, Dx.seqG_t, Dx.seqG_l, Dx.seqZ_t, Dx.seqZ_l, Dx.starM, Dx.compL_nil, Dx.compL_cons, Dx.all_2, Dx.any_2, Dx.neD_i, Dx.eqD_i, Dx.neD_b, Dx.cut_from1, Dx.cut_to, Dx.sliceM, Dx.noBd, Dx.someBd, Dx.asI, Dx.sliceD_t, Dx.sliceD_l, Dx.zipL3_ints, Dx.zipL2_ints, Dx.zip3G_t, Dx.zip2G_t, Dx.zip2G_tl, Dx.loopM_map, Dx.biM, Dx.compM, Dx.compL_map, Dx.compI_ret, Dx.wipeG, Dx.rng2_ok, Dx.rng1_ok, Dx.seqRng_ok, Dx.rngG, Dx.any_ok, Dx.all_ok, Dx.filter_yes, Dx.rngI_length, Dx.ite_or, Dx.ite_and, Dx.ite_orB, Dx.ite_andB, lb__law_levels_1, v0, v1, v2, v3, v4, p0, p1, e', realOf, la, hz']
      | some m =>
        have e' : eqD (fD (some m)) (.tup [.str "fine"]) = some (.bl false) := e
        have e'' : ixD (fD (some m)) (.int 1) = some (.int m) := atI_1 _ _ _
        simp (config := {maxSteps := 3000000}) (disch := omega) [Dx.fnM_ev', Dx.seqM_ev, Dx.seqK_next, Dx.seqK_ret, Dx.seqK_brk, Dx.seqK_cont, Dx.finM_ret, Dx.finM_next, Dx.retM, Dx.setM, Dx.setN, Dx.parM, Dx.oldM, Dx.newM, Dx.Val.slot, Dx.appM, Dx.plnM, Dx.ifM, Dx.exprM, Dx.skipM, Dx.failM, Dx.brkM, Dx.contM, Dx.con, Dx.callM, Dx.consM, Dx.nilM, Dx.op2, Dx.ts2, Dx.tsB, Dx.tNotM, Dx.tAndM, Dx.tOrM, Dx.andM, Dx.orM, Dx.notM, Dx.iteM, Dx.isiM, Dx.isiD, Dx.tyD, Dx.isaB, Dx.chB, Dx.blM, Dx.lenG, Dx.negM, Dx.negG, Dx.tupM, Dx.lstM, Dx.frzM, Dx.asgM, Dx.asgT, Dx.setAll, Dx.bnd_ret, Dx.bnd_fail, Dx.bnd_bnd, Dx.lift_val, Dx.lift_no, Dx.ev_0, Dx.ev_1, Dx.ev_2, Dx.ev_3, Dx.ev_4, Dx.ev_5, Dx.ev_6, Dx.ev_7, Dx.ev_8, Dx.ev_9, Dx.ev_10, Dx.ev_11, Dx.ev_12, Dx.ev_13, Dx.ev_14, Dx.ev_15, Dx.ev_16, Dx.ev_17, Dx.ev_18, Dx.ev_19, Dx.ev_20, Dx.ev_21, Dx.ev_22, Dx.ev_23, Dx.ev_24, Dx.ev_25, Dx.pk_0, Dx.pk_1, Dx.pk_2, Dx.pk_3, Dx.pk_4, Dx.pk_5, Dx.pk_6, Dx.pk_7, Dx.pk_8, Dx.pk_9, Dx.pk_10, Dx.pk_11, Dx.pk_12, Dx.pk_13, Dx.pk_14, Dx.pk_15, Dx.pk_16, Dx.pk_17, Dx.pk_18, Dx.pk_19, Dx.pk_20, Dx.pk_21, Dx.pk_22, Dx.pk_23, Dx.pk_24, Dx.pk_25, Dx.st_0, Dx.st_1, Dx.st_2, Dx.st_3, Dx.st_4, Dx.st_5, Dx.st_6, Dx.st_7, Dx.st_8, Dx.st_9, Dx.st_10, Dx.st_11, Dx.st_12, Dx.st_13, Dx.st_14, Dx.st_15, Dx.st_16, Dx.st_17, Dx.st_18, Dx.st_19, Dx.st_20, Dx.st_21, Dx.st_22, Dx.st_23, Dx.st_24, Dx.st_25, Dx.ow_0, Dx.ow_1, Dx.ow_2, Dx.ow_3, Dx.ow_4, Dx.ow_5, Dx.ow_6, Dx.ow_7, Dx.ow_8, Dx.ow_9, Dx.ow_10, Dx.ow_11, Dx.ow_12, Dx.ow_13, Dx.ow_14, Dx.ow_15, Dx.ow_16, Dx.ow_17, Dx.ow_18, Dx.ow_19, Dx.ow_20, Dx.ow_21, Dx.ow_22, Dx.ow_23, Dx.ow_24, Dx.ow_25, Dx.pk_o, Dx.gam0, Dx.ixD_t, Dx.ixD_l, Dx.atI_0, Dx.atI_1, Dx.atI_2, Dx.atI_3, Dx.atI_4, Dx.asB_b, Dx.addD_i, Dx.subD_i, Dx.addD_t, Dx.addD_l, Dx.mulD_l, Dx.fdivD_s, Dx.modD_p, Dx.cmpI_i, Dx.absG_i, Dx.szOk_le, Dx.tupG, Dx.yesM, Dx.seqI, Dx.seqG_t, Dx.seqG_l, Dx.seqZ_t, Dx.seqZ_l, Dx.starM, Dx.compL_nil, Dx.compL_cons, Dx.all_2, Dx.any_2, Dx.neD_i, Dx.eqD_i, Dx.neD_b, Dx.cut_from1, Dx.cut_to, Dx.sliceM, Dx.noBd, Dx.someBd, Dx.asI, Dx.sliceD_t, Dx.sliceD_l, Dx.zipL3_ints, Dx.zipL2_ints, Dx.zip3G_t, Dx.zip2G_t, Dx.zip2G_tl, Dx.loopM_map, Dx.biM, Dx.compM, Dx.compL_map, Dx.compI_ret, Dx.wipeG, Dx.rng2_ok, Dx.rng1_ok, Dx.seqRng_ok, Dx.rngG, Dx.any_ok, Dx.all_ok, Dx.filter_yes, Dx.rngI_length, Dx.ite_or, Dx.ite_and, Dx.ite_orB, Dx.ite_andB, lb__law_levels_1, v0, v1, v2, v3, v4, p0, p1, e', e'', realOf, la, hz']
    obtain ⟨y6, y7, y8, ih⟩ := levels_loop ⟨s1, s2, l1, l2, l3⟩ hf x2 x3 x4 t (acc ++ [l]) (l + s * realOf f a + w) (.val (.int a)) (.val (.int w)) (.val (.int (realOf f a))) (by simp; omega)
    refine ⟨y6, y7, y8, ?_⟩
    unfold loopI
    show bnd (lb__law_levels_1 [.val (vt s lo hi), .val (fD f), x2, x3, x4, .own (.lst (acc.map .int ++ [.int l])), .val (.int a), .val (.int w), x8]) _ = _
    rw [e1, bnd_ret]
    simp only [ih, lvs]
    simp
theorem levels_ok {s lo hi : Int} (h : VOk s lo hi) {f : Option Int} (hf : FOk f) {row wea : List Int} (hl : row.length ≤ 100) : m__law_levels [vt s lo hi, fD f, .tup (row.map .int), .lst (wea.map .int), .int 0] = ret (.tup ((lvs s f (row.zip wea) 0).map .int)) := by
  obtain ⟨y6, y7, y8, e⟩ := levels_loop h hf (.val (.tup (row.map .int))) (.val (.lst (wea.map .int))) (.val (.int 0)) (row.zip wea) [] 0 .none .none .none (by simp only [List.length_zip, List.length_nil]; omega)
  simp only [List.map_nil, List.nil_append] at e
  simp (config := {maxSteps := 3000000}) (disch := omega) [Dx.fnM_ev', Dx.seqM_ev, Dx.seqK_next, Dx.seqK_ret, Dx.seqK_brk, Dx.seqK_cont, Dx.finM_ret, Dx.finM_next, Dx.retM, Dx.setM, Dx.setN, Dx.parM, Dx.oldM, Dx.newM, Dx.Val.slot, Dx.appM, Dx.plnM, Dx.ifM, Dx.exprM, Dx.skipM, Dx.failM, Dx.brkM, Dx.contM, Dx.con, Dx.callM, Dx.consM, Dx.nilM, Dx.op2, Dx.ts2, Dx.tsB, Dx.tNotM, Dx.tAndM, Dx.tOrM, Dx.andM, Dx.orM, Dx.notM, Dx.iteM, Dx.isiM, Dx.isiD, Dx.tyD, Dx.isaB, Dx.chB, Dx.blM, Dx.lenG, Dx.negM, Dx.negG, Dx.tupM, Dx.lstM, Dx.frzM, Dx.asgM, Dx.asgT, Dx.setAll, Dx.bnd_ret, Dx.bnd_fail, Dx.bnd_bnd, Dx.lift_val, Dx.lift_no, Dx.ev_0, Dx.ev_1, Dx.ev_2, Dx.ev_3, Dx.ev_4, Dx.ev_5, Dx.ev_6, Dx.ev_7, Dx.ev_8, Dx.ev_9, Dx.ev_10, Dx.ev_11, Dx.ev_12, Dx.ev_13, Dx.ev_14, Dx.ev_15, Dx.ev_16, Dx.ev_17, Dx.ev_18, Dx.ev_19, Dx.ev_20, Dx.ev_21, Dx.ev_22, Dx.ev_23, Dx.ev_24, Dx.ev_25, Dx.pk_0, Dx.pk_1, Dx.pk_2, Dx.pk_3, Dx.pk_4, Dx.pk_5, Dx.pk_6, Dx.pk_7, Dx.pk_8, Dx.pk_9, Dx.pk_10, Dx.pk_11, Dx.pk_12, Dx.pk_13, Dx.pk_14, Dx.pk_15, Dx.pk_16, Dx.pk_17, Dx.pk_18, Dx.pk_19, Dx.pk_20, Dx.pk_21, Dx.pk_22, Dx.pk_23, Dx.pk_24, Dx.pk_25, Dx.st_0, Dx.st_1, Dx.st_2, Dx.st_3, Dx.st_4, Dx.st_5, Dx.st_6, Dx.st_7, Dx.st_8, Dx.st_9, Dx.st_10, Dx.st_11, Dx.st_12, Dx.st_13, Dx.st_14, Dx.st_15, Dx.st_16, Dx.st_17, Dx.st_18, Dx.st_19, Dx.st_20, Dx.st_21, Dx.st_22, Dx.st_23, Dx.st_24, Dx.st_25, Dx.ow_0, Dx.ow_1, Dx.ow_2, Dx.ow_3, Dx.ow_4, Dx.ow_5, Dx.ow_6, Dx.ow_7, Dx.ow_8, Dx.ow_9, Dx.ow_10, Dx.ow_11, Dx.ow_12, Dx.ow_13, Dx.ow_14, Dx.ow_15, Dx.ow_16, Dx.ow_17, Dx.ow_18, Dx.ow_19, Dx.ow_20, Dx.ow_21, Dx.ow_22, Dx.ow_23, Dx.ow_24, Dx.ow_25, Dx.pk_o, Dx.gam0, Dx.ixD_t, Dx.ixD_l, Dx.atI_0, Dx.atI_1, Dx.atI_2, Dx.atI_3, Dx.atI_4, Dx.asB_b, Dx.addD_i, Dx.subD_i, Dx.addD_t, Dx.addD_l, Dx.mulD_l, Dx.fdivD_s, Dx.modD_p, Dx.cmpI_i, Dx.absG_i, Dx.szOk_le, Dx.tupG, Dx.yesM, Dx.seqI, Dx.seqG_t, Dx.seqG_l, Dx.seqZ_t, Dx.seqZ_l, Dx.starM, Dx.compL_nil, Dx.compL_cons, Dx.all_2, Dx.any_2, Dx.neD_i, Dx.eqD_i, Dx.neD_b, Dx.cut_from1, Dx.cut_to, Dx.sliceM, Dx.noBd, Dx.someBd, Dx.asI, Dx.sliceD_t, Dx.sliceD_l, Dx.zipL3_ints, Dx.zipL2_ints, Dx.zip3G_t, Dx.zip2G_t, Dx.zip2G_tl, Dx.loopM_map, Dx.biM, Dx.compM, Dx.compL_map, Dx.compI_ret, Dx.wipeG, Dx.rng2_ok, Dx.rng1_ok, Dx.seqRng_ok, Dx.rngG, Dx.any_ok, Dx.all_ok, Dx.filter_yes, Dx.rngI_length, Dx.ite_or, Dx.ite_and, Dx.ite_orB, Dx.ite_andB, m__law_levels, forM', e]
theorem lets_ok {s lo hi : Int} (h : VOk s lo hi) {f : Option Int} (hf : FOk f) {row lev : List Int} (hl : row.length ≤ 100) : m__law_lets [vt s lo hi, fD f, .tup (row.map .int), .tup (lev.map .int)] = ret (.bl ((steps row lev).all fun t => fitB s lo hi f t)) := by
  have st := steps_eq row lev
  have e := eq_ff hf (g := none) (fun n z => nomatch z)
  obtain ⟨s1, s2, l1, l2, l3⟩ := h
  obtain ⟨Γ', ⟨x4, x5, x6, x7, rfl⟩, key⟩ := loopI_find (g := fun (t : Int × Int × Int) (Γ : Gam) => lb__law_lets_1 (List.set (List.set (List.set Γ 4 (.val (.int t.1))) 5 (.val (.int t.2.1))) 6 (.val (.int t.2.2))))
    (fun Γ => ∃ x4 x5 x6 x7 : Slot, Γ = [.val (vt s lo hi), .val (fD f), .val (.tup (row.map .int)), .val (.tup (lev.map .int)), x4, x5, x6, x7])
    (fun t => if fitB s lo hi f t = true then none else some (.bl false)) (fun t Γ ⟨x4, x5, x6, x7, hΓ⟩ => by
      subst hΓ
      refine ⟨_, ⟨.val (.int t.1), .val (.int t.2.1), .val (.int t.2.2), .val (.int (realOf f t.1)), rfl⟩, ?_⟩
      cases f with
      | none =>
        have e' : eqD (fD none) (.tup [.str "fine"]) = some (.bl true) := e
        simp (config := {maxSteps := 3000000}) (disch := omega) [Dx.fnM_ev', Dx.seqM_ev, Dx.seqK_next, Dx.seqK_ret, Dx.seqK_brk, Dx.seqK_cont, Dx.finM_ret, Dx.finM_next, Dx.retM, Dx.setM, Dx.setN, Dx.parM, Dx.oldM, Dx.newM, Dx.Val.slot, Dx.appM, Dx.plnM, Dx.ifM, Dx.exprM, Dx.skipM, Dx.failM, Dx.brkM, Dx.contM, Dx.con, Dx.callM, Dx.consM, Dx.nilM, Dx.op2, Dx.ts2, Dx.tsB, Dx.tNotM, Dx.tAndM, Dx.tOrM, Dx.andM, Dx.orM, Dx.notM, Dx.iteM, Dx.isiM, Dx.isiD, Dx.tyD, Dx.isaB, Dx.chB, Dx.blM, Dx.lenG, Dx.negM, Dx.negG, Dx.tupM, Dx.lstM, Dx.frzM, Dx.asgM, Dx.asgT, Dx.setAll, Dx.bnd_ret, Dx.bnd_fail, Dx.bnd_bnd, Dx.lift_val, Dx.lift_no, Dx.ev_0, Dx.ev_1, Dx.ev_2, Dx.ev_3, Dx.ev_4, Dx.ev_5, Dx.ev_6, Dx.ev_7, Dx.ev_8, Dx.ev_9, Dx.ev_10, Dx.ev_11, Dx.ev_12, Dx.ev_13, Dx.ev_14, Dx.ev_15, Dx.ev_16, Dx.ev_17, Dx.ev_18, Dx.ev_19, Dx.ev_20, Dx.ev_21, Dx.ev_22, Dx.ev_23, Dx.ev_24, Dx.ev_25, Dx.pk_0, Dx.pk_1, Dx.pk_2, Dx.pk_3, Dx.pk_4, Dx.pk_5, Dx.pk_6, Dx.pk_7, Dx.pk_8, Dx.pk_9, Dx.pk_10, Dx.pk_11, Dx.pk_12, Dx.pk_13, Dx.pk_14, Dx.pk_15, Dx.pk_16, Dx.pk_17, Dx.pk_18, Dx.pk_19, Dx.pk_20, Dx.pk_21, Dx.pk_22, Dx.pk_23, Dx.pk_24, Dx.pk_25, Dx.st_0, Dx.st_1, Dx.st_2, Dx.st_3, Dx.st_4, Dx.st_5, Dx.st_6, Dx.st_7, Dx.st_8, Dx.st_9, Dx.st_10, Dx.st_11, Dx.st_12, Dx.st_13, Dx.st_14, Dx.st_15, Dx.st_16, Dx.st_17, Dx.st_18, Dx.st_19, Dx.st_20, Dx.st_21, Dx.st_22, Dx.st_23, Dx.st_24, Dx.st_25, Dx.ow_0, Dx.ow_1, Dx.ow_2, Dx.ow_3, Dx.ow_4, Dx.ow_5, Dx.ow_6, Dx.ow_7, Dx.ow_8, Dx.ow_9, Dx.ow_10, Dx.ow_11, Dx.ow_12, Dx.ow_13, Dx.ow_14, Dx.ow_15, Dx.ow_16, Dx.ow_17, Dx.ow_18, Dx.ow_19, Dx.ow_20, Dx.ow_21, Dx.ow_22, Dx.ow_23, Dx.ow_24, Dx.ow_25, Dx.pk_o, Dx.gam0, Dx.ixD_t, Dx.ixD_l, Dx.atI_0, Dx.atI_1, Dx.atI_2, Dx.atI_3, Dx.atI_4, Dx.asB_b, Dx.addD_i, Dx.subD_i, Dx.addD_t, Dx.addD_l, Dx.mulD_l, Dx.fdivD_s, Dx.modD_p, Dx.cmpI_i, Dx.absG_i, Dx.szOk_le, Dx.tupG, Dx.yesM, Dx.seqI, Dx.seqG_t, Dx.seqG_l, Dx.seqZ_t, Dx.seqZ_l, Dx.starM, Dx.compL_nil, Dx.compL_cons, Dx.all_2, Dx.any_2, Dx.neD_i, Dx.eqD_i, Dx.neD_b, Dx.cut_from1, Dx.cut_to, Dx.sliceM, Dx.noBd, Dx.someBd, Dx.asI, Dx.sliceD_t, Dx.sliceD_l, Dx.zipL3_ints, Dx.zipL2_ints, Dx.zip3G_t, Dx.zip2G_t, Dx.zip2G_tl, Dx.loopM_map, Dx.biM, Dx.compM, Dx.compL_map, Dx.compI_ret, Dx.wipeG, Dx.rng2_ok, Dx.rng1_ok, Dx.seqRng_ok, Dx.rngG, Dx.any_ok, Dx.all_ok, Dx.filter_yes, Dx.rngI_length, Dx.ite_or, Dx.ite_and, Dx.ite_orB, Dx.ite_andB, lb__law_lets_1, v0, v1, v2, v3, v4, p0, p1, e', realOf, fitB]
        by_cases q : lo ≤ t.2.2 - t.2.1 - s * t.1 <;> by_cases q2 : t.2.2 - t.2.1 - s * t.1 ≤ hi <;> simp [← Int.not_le, q, q2, flO]
      | some m =>
        have e' : eqD (fD (some m)) (.tup [.str "fine"]) = some (.bl false) := e
        have e'' : ixD (fD (some m)) (.int 1) = some (.int m) := atI_1 _ _ _
        simp (config := {maxSteps := 3000000}) (disch := omega) [Dx.fnM_ev', Dx.seqM_ev, Dx.seqK_next, Dx.seqK_ret, Dx.seqK_brk, Dx.seqK_cont, Dx.finM_ret, Dx.finM_next, Dx.retM, Dx.setM, Dx.setN, Dx.parM, Dx.oldM, Dx.newM, Dx.Val.slot, Dx.appM, Dx.plnM, Dx.ifM, Dx.exprM, Dx.skipM, Dx.failM, Dx.brkM, Dx.contM, Dx.con, Dx.callM, Dx.consM, Dx.nilM, Dx.op2, Dx.ts2, Dx.tsB, Dx.tNotM, Dx.tAndM, Dx.tOrM, Dx.andM, Dx.orM, Dx.notM, Dx.iteM, Dx.isiM, Dx.isiD, Dx.tyD, Dx.isaB, Dx.chB, Dx.blM, Dx.lenG, Dx.negM, Dx.negG, Dx.tupM, Dx.lstM, Dx.frzM, Dx.asgM, Dx.asgT, Dx.setAll, Dx.bnd_ret, Dx.bnd_fail, Dx.bnd_bnd, Dx.lift_val, Dx.lift_no, Dx.ev_0, Dx.ev_1, Dx.ev_2, Dx.ev_3, Dx.ev_4, Dx.ev_5, Dx.ev_6, Dx.ev_7, Dx.ev_8, Dx.ev_9, Dx.ev_10, Dx.ev_11, Dx.ev_12, Dx.ev_13, Dx.ev_14, Dx.ev_15, Dx.ev_16, Dx.ev_17, Dx.ev_18, Dx.ev_19, Dx.ev_20, Dx.ev_21, Dx.ev_22, Dx.ev_23, Dx.ev_24, Dx.ev_25, Dx.pk_0, Dx.pk_1, Dx.pk_2, Dx.pk_3, Dx.pk_4, Dx.pk_5, Dx.pk_6, Dx.pk_7, Dx.pk_8, Dx.pk_9, Dx.pk_10, Dx.pk_11, Dx.pk_12, Dx.pk_13, Dx.pk_14, Dx.pk_15, Dx.pk_16, Dx.pk_17, Dx.pk_18, Dx.pk_19, Dx.pk_20, Dx.pk_21, Dx.pk_22, Dx.pk_23, Dx.pk_24, Dx.pk_25, Dx.st_0, Dx.st_1, Dx.st_2, Dx.st_3, Dx.st_4, Dx.st_5, Dx.st_6, Dx.st_7, Dx.st_8, Dx.st_9, Dx.st_10, Dx.st_11, Dx.st_12, Dx.st_13, Dx.st_14, Dx.st_15, Dx.st_16, Dx.st_17, Dx.st_18, Dx.st_19, Dx.st_20, Dx.st_21, Dx.st_22, Dx.st_23, Dx.st_24, Dx.st_25, Dx.ow_0, Dx.ow_1, Dx.ow_2, Dx.ow_3, Dx.ow_4, Dx.ow_5, Dx.ow_6, Dx.ow_7, Dx.ow_8, Dx.ow_9, Dx.ow_10, Dx.ow_11, Dx.ow_12, Dx.ow_13, Dx.ow_14, Dx.ow_15, Dx.ow_16, Dx.ow_17, Dx.ow_18, Dx.ow_19, Dx.ow_20, Dx.ow_21, Dx.ow_22, Dx.ow_23, Dx.ow_24, Dx.ow_25, Dx.pk_o, Dx.gam0, Dx.ixD_t, Dx.ixD_l, Dx.atI_0, Dx.atI_1, Dx.atI_2, Dx.atI_3, Dx.atI_4, Dx.asB_b, Dx.addD_i, Dx.subD_i, Dx.addD_t, Dx.addD_l, Dx.mulD_l, Dx.fdivD_s, Dx.modD_p, Dx.cmpI_i, Dx.absG_i, Dx.szOk_le, Dx.tupG, Dx.yesM, Dx.seqI, Dx.seqG_t, Dx.seqG_l, Dx.seqZ_t, Dx.seqZ_l, Dx.starM, Dx.compL_nil, Dx.compL_cons, Dx.all_2, Dx.any_2, Dx.neD_i, Dx.eqD_i, Dx.neD_b, Dx.cut_from1, Dx.cut_to, Dx.sliceM, Dx.noBd, Dx.someBd, Dx.asI, Dx.sliceD_t, Dx.sliceD_l, Dx.zipL3_ints, Dx.zipL2_ints, Dx.zip3G_t, Dx.zip2G_t, Dx.zip2G_tl, Dx.loopM_map, Dx.biM, Dx.compM, Dx.compL_map, Dx.compI_ret, Dx.wipeG, Dx.rng2_ok, Dx.rng1_ok, Dx.seqRng_ok, Dx.rngG, Dx.any_ok, Dx.all_ok, Dx.filter_yes, Dx.rngI_length, Dx.ite_or, Dx.ite_and, Dx.ite_orB, Dx.ite_andB, lb__law_lets_1, v0, v1, v2, v3, v4, p0, p1, e', e'', realOf, fitB]
        by_cases q : lo ≤ t.2.2 - t.2.1 - s * m <;> by_cases q2 : t.2.2 - t.2.1 - s * m ≤ hi <;> simp [← Int.not_le, q, q2, flO]) (steps row lev) _ ⟨.none, .none, .none, .none, rfl⟩
  simp (config := {maxSteps := 3000000}) (disch := omega) [Dx.fnM_ev', Dx.seqM_ev, Dx.seqK_next, Dx.seqK_ret, Dx.seqK_brk, Dx.seqK_cont, Dx.finM_ret, Dx.finM_next, Dx.retM, Dx.setM, Dx.setN, Dx.parM, Dx.oldM, Dx.newM, Dx.Val.slot, Dx.appM, Dx.plnM, Dx.ifM, Dx.exprM, Dx.skipM, Dx.failM, Dx.brkM, Dx.contM, Dx.con, Dx.callM, Dx.consM, Dx.nilM, Dx.op2, Dx.ts2, Dx.tsB, Dx.tNotM, Dx.tAndM, Dx.tOrM, Dx.andM, Dx.orM, Dx.notM, Dx.iteM, Dx.isiM, Dx.isiD, Dx.tyD, Dx.isaB, Dx.chB, Dx.blM, Dx.lenG, Dx.negM, Dx.negG, Dx.tupM, Dx.lstM, Dx.frzM, Dx.asgM, Dx.asgT, Dx.setAll, Dx.bnd_ret, Dx.bnd_fail, Dx.bnd_bnd, Dx.lift_val, Dx.lift_no, Dx.ev_0, Dx.ev_1, Dx.ev_2, Dx.ev_3, Dx.ev_4, Dx.ev_5, Dx.ev_6, Dx.ev_7, Dx.ev_8, Dx.ev_9, Dx.ev_10, Dx.ev_11, Dx.ev_12, Dx.ev_13, Dx.ev_14, Dx.ev_15, Dx.ev_16, Dx.ev_17, Dx.ev_18, Dx.ev_19, Dx.ev_20, Dx.ev_21, Dx.ev_22, Dx.ev_23, Dx.ev_24, Dx.ev_25, Dx.pk_0, Dx.pk_1, Dx.pk_2, Dx.pk_3, Dx.pk_4, Dx.pk_5, Dx.pk_6, Dx.pk_7, Dx.pk_8, Dx.pk_9, Dx.pk_10, Dx.pk_11, Dx.pk_12, Dx.pk_13, Dx.pk_14, Dx.pk_15, Dx.pk_16, Dx.pk_17, Dx.pk_18, Dx.pk_19, Dx.pk_20, Dx.pk_21, Dx.pk_22, Dx.pk_23, Dx.pk_24, Dx.pk_25, Dx.st_0, Dx.st_1, Dx.st_2, Dx.st_3, Dx.st_4, Dx.st_5, Dx.st_6, Dx.st_7, Dx.st_8, Dx.st_9, Dx.st_10, Dx.st_11, Dx.st_12, Dx.st_13, Dx.st_14, Dx.st_15, Dx.st_16, Dx.st_17, Dx.st_18, Dx.st_19, Dx.st_20, Dx.st_21, Dx.st_22, Dx.st_23, Dx.st_24, Dx.st_25, Dx.ow_0, Dx.ow_1, Dx.ow_2, Dx.ow_3, Dx.ow_4, Dx.ow_5, Dx.ow_6, Dx.ow_7, Dx.ow_8, Dx.ow_9, Dx.ow_10, Dx.ow_11, Dx.ow_12, Dx.ow_13, Dx.ow_14, Dx.ow_15, Dx.ow_16, Dx.ow_17, Dx.ow_18, Dx.ow_19, Dx.ow_20, Dx.ow_21, Dx.ow_22, Dx.ow_23, Dx.ow_24, Dx.ow_25, Dx.pk_o, Dx.gam0, Dx.ixD_t, Dx.ixD_l, Dx.atI_0, Dx.atI_1, Dx.atI_2, Dx.atI_3, Dx.atI_4, Dx.asB_b, Dx.addD_i, Dx.subD_i, Dx.addD_t, Dx.addD_l, Dx.mulD_l, Dx.fdivD_s, Dx.modD_p, Dx.cmpI_i, Dx.absG_i, Dx.szOk_le, Dx.tupG, Dx.yesM, Dx.seqI, Dx.seqG_t, Dx.seqG_l, Dx.seqZ_t, Dx.seqZ_l, Dx.starM, Dx.compL_nil, Dx.compL_cons, Dx.all_2, Dx.any_2, Dx.neD_i, Dx.eqD_i, Dx.neD_b, Dx.cut_from1, Dx.cut_to, Dx.sliceM, Dx.noBd, Dx.someBd, Dx.asI, Dx.sliceD_t, Dx.sliceD_l, Dx.zipL3_ints, Dx.zipL2_ints, Dx.zip3G_t, Dx.zip2G_t, Dx.zip2G_tl, Dx.loopM_map, Dx.biM, Dx.compM, Dx.compL_map, Dx.compI_ret, Dx.wipeG, Dx.rng2_ok, Dx.rng1_ok, Dx.seqRng_ok, Dx.rngG, Dx.any_ok, Dx.all_ok, Dx.filter_yes, Dx.rngI_length, Dx.ite_or, Dx.ite_and, Dx.ite_orB, Dx.ite_andB, m__law_lets, forM', st, key]
  by_cases q : ∀ t ∈ steps row lev, fitB s lo hi f t = true
  · have q1 : (steps row lev).findSome? (fun t => if fitB s lo hi f t = true then none else some (D.bl false)) = none := by
      rw [List.findSome?_eq_none_iff]
      intro t ht
      rw [if_pos (q t ht)]
    have q2 : ((steps row lev).all fun t => fitB s lo hi f t) = true := List.all_eq_true.mpr q
    rw [q1, q2]
    simp (config := {maxSteps := 3000000}) (disch := omega) [Dx.fnM_ev', Dx.seqM_ev, Dx.seqK_next, Dx.seqK_ret, Dx.seqK_brk, Dx.seqK_cont, Dx.finM_ret, Dx.finM_next, Dx.retM, Dx.setM, Dx.setN, Dx.parM, Dx.oldM, Dx.newM, Dx.Val.slot, Dx.appM, Dx.plnM, Dx.ifM, Dx.exprM, Dx.skipM, Dx.failM, Dx.brkM, Dx.contM, Dx.con, Dx.callM, Dx.consM, Dx.nilM, Dx.op2, Dx.ts2, Dx.tsB, Dx.tNotM, Dx.tAndM, Dx.tOrM, Dx.andM, Dx.orM, Dx.notM, Dx.iteM, Dx.isiM, Dx.isiD, Dx.tyD, Dx.isaB, Dx.chB, Dx.blM, Dx.lenG, Dx.negM, Dx.negG, Dx.tupM, Dx.lstM, Dx.frzM, Dx.asgM, Dx.asgT, Dx.setAll, Dx.bnd_ret, Dx.bnd_fail, Dx.bnd_bnd, Dx.lift_val, Dx.lift_no, Dx.ev_0, Dx.ev_1, Dx.ev_2, Dx.ev_3, Dx.ev_4, Dx.ev_5, Dx.ev_6, Dx.ev_7, Dx.ev_8, Dx.ev_9, Dx.ev_10, Dx.ev_11, Dx.ev_12, Dx.ev_13, Dx.ev_14, Dx.ev_15, Dx.ev_16, Dx.ev_17, Dx.ev_18, Dx.ev_19, Dx.ev_20, Dx.ev_21, Dx.ev_22, Dx.ev_23, Dx.ev_24, Dx.ev_25, Dx.pk_0, Dx.pk_1, Dx.pk_2, Dx.pk_3, Dx.pk_4, Dx.pk_5, Dx.pk_6, Dx.pk_7, Dx.pk_8, Dx.pk_9, Dx.pk_10, Dx.pk_11, Dx.pk_12, Dx.pk_13, Dx.pk_14, Dx.pk_15, Dx.pk_16, Dx.pk_17, Dx.pk_18, Dx.pk_19, Dx.pk_20, Dx.pk_21, Dx.pk_22, Dx.pk_23, Dx.pk_24, Dx.pk_25, Dx.st_0, Dx.st_1, Dx.st_2, Dx.st_3, Dx.st_4, Dx.st_5, Dx.st_6, Dx.st_7, Dx.st_8, Dx.st_9, Dx.st_10, Dx.st_11, Dx.st_12, Dx.st_13, Dx.st_14, Dx.st_15, Dx.st_16, Dx.st_17, Dx.st_18, Dx.st_19, Dx.st_20, Dx.st_21, Dx.st_22, Dx.st_23, Dx.st_24, Dx.st_25, Dx.ow_0, Dx.ow_1, Dx.ow_2, Dx.ow_3, Dx.ow_4, Dx.ow_5, Dx.ow_6, Dx.ow_7, Dx.ow_8, Dx.ow_9, Dx.ow_10, Dx.ow_11, Dx.ow_12, Dx.ow_13, Dx.ow_14, Dx.ow_15, Dx.ow_16, Dx.ow_17, Dx.ow_18, Dx.ow_19, Dx.ow_20, Dx.ow_21, Dx.ow_22, Dx.ow_23, Dx.ow_24, Dx.ow_25, Dx.pk_o, Dx.gam0, Dx.ixD_t, Dx.ixD_l, Dx.atI_0, Dx.atI_1, Dx.atI_2, Dx.atI_3, Dx.atI_4, Dx.asB_b, Dx.addD_i, Dx.subD_i, Dx.addD_t, Dx.addD_l, Dx.mulD_l, Dx.fdivD_s, Dx.modD_p, Dx.cmpI_i, Dx.absG_i, Dx.szOk_le, Dx.tupG, Dx.yesM, Dx.seqI, Dx.seqG_t, Dx.seqG_l, Dx.seqZ_t, Dx.seqZ_l, Dx.starM, Dx.compL_nil, Dx.compL_cons, Dx.all_2, Dx.any_2, Dx.neD_i, Dx.eqD_i, Dx.neD_b, Dx.cut_from1, Dx.cut_to, Dx.sliceM, Dx.noBd, Dx.someBd, Dx.asI, Dx.sliceD_t, Dx.sliceD_l, Dx.zipL3_ints, Dx.zipL2_ints, Dx.zip3G_t, Dx.zip2G_t, Dx.zip2G_tl, Dx.loopM_map, Dx.biM, Dx.compM, Dx.compL_map, Dx.compI_ret, Dx.wipeG, Dx.rng2_ok, Dx.rng1_ok, Dx.seqRng_ok, Dx.rngG, Dx.any_ok, Dx.all_ok, Dx.filter_yes, Dx.rngI_length, Dx.ite_or, Dx.ite_and, Dx.ite_orB, Dx.ite_andB, flO]
  · have q2 : ((steps row lev).all fun t => fitB s lo hi f t) = false := by
      rw [← Bool.not_eq_true, List.all_eq_true]
      exact q
    have q1 : (steps row lev).findSome? (fun t => if fitB s lo hi f t = true then none else some (D.bl false)) = some (D.bl false) := by
      cases hh : (steps row lev).findSome? (fun t => if fitB s lo hi f t = true then none else some (D.bl false)) with
      | none =>
        rw [List.findSome?_eq_none_iff] at hh
        exact absurd (fun t ht => by
          have := hh t ht
          by_cases z : fitB s lo hi f t = true
          · exact z
          · rw [if_neg z] at this; cases this) q
      | some d =>
        obtain ⟨t, _, ht⟩ := List.exists_of_findSome?_eq_some hh
        by_cases z : fitB s lo hi f t = true
        · rw [if_pos z] at ht; cases ht
        · rw [if_neg z] at ht
          exact ht.symm
    rw [q1, q2]
    simp (config := {maxSteps := 3000000}) (disch := omega) [Dx.fnM_ev', Dx.seqM_ev, Dx.seqK_next, Dx.seqK_ret, Dx.seqK_brk, Dx.seqK_cont, Dx.finM_ret, Dx.finM_next, Dx.retM, Dx.setM, Dx.setN, Dx.parM, Dx.oldM, Dx.newM, Dx.Val.slot, Dx.appM, Dx.plnM, Dx.ifM, Dx.exprM, Dx.skipM, Dx.failM, Dx.brkM, Dx.contM, Dx.con, Dx.callM, Dx.consM, Dx.nilM, Dx.op2, Dx.ts2, Dx.tsB, Dx.tNotM, Dx.tAndM, Dx.tOrM, Dx.andM, Dx.orM, Dx.notM, Dx.iteM, Dx.isiM, Dx.isiD, Dx.tyD, Dx.isaB, Dx.chB, Dx.blM, Dx.lenG, Dx.negM, Dx.negG, Dx.tupM, Dx.lstM, Dx.frzM, Dx.asgM, Dx.asgT, Dx.setAll, Dx.bnd_ret, Dx.bnd_fail, Dx.bnd_bnd, Dx.lift_val, Dx.lift_no, Dx.ev_0, Dx.ev_1, Dx.ev_2, Dx.ev_3, Dx.ev_4, Dx.ev_5, Dx.ev_6, Dx.ev_7, Dx.ev_8, Dx.ev_9, Dx.ev_10, Dx.ev_11, Dx.ev_12, Dx.ev_13, Dx.ev_14, Dx.ev_15, Dx.ev_16, Dx.ev_17, Dx.ev_18, Dx.ev_19, Dx.ev_20, Dx.ev_21, Dx.ev_22, Dx.ev_23, Dx.ev_24, Dx.ev_25, Dx.pk_0, Dx.pk_1, Dx.pk_2, Dx.pk_3, Dx.pk_4, Dx.pk_5, Dx.pk_6, Dx.pk_7, Dx.pk_8, Dx.pk_9, Dx.pk_10, Dx.pk_11, Dx.pk_12, Dx.pk_13, Dx.pk_14, Dx.pk_15, Dx.pk_16, Dx.pk_17, Dx.pk_18, Dx.pk_19, Dx.pk_20, Dx.pk_21, Dx.pk_22, Dx.pk_23, Dx.pk_24, Dx.pk_25, Dx.st_0, Dx.st_1, Dx.st_2, Dx.st_3, Dx.st_4, Dx.st_5, Dx.st_6, Dx.st_7, Dx.st_8, Dx.st_9, Dx.st_10, Dx.st_11, Dx.st_12, Dx.st_13, Dx.st_14, Dx.st_15, Dx.st_16, Dx.st_17, Dx.st_18, Dx.st_19, Dx.st_20, Dx.st_21, Dx.st_22, Dx.st_23, Dx.st_24, Dx.st_25, Dx.ow_0, Dx.ow_1, Dx.ow_2, Dx.ow_3, Dx.ow_4, Dx.ow_5, Dx.ow_6, Dx.ow_7, Dx.ow_8, Dx.ow_9, Dx.ow_10, Dx.ow_11, Dx.ow_12, Dx.ow_13, Dx.ow_14, Dx.ow_15, Dx.ow_16, Dx.ow_17, Dx.ow_18, Dx.ow_19, Dx.ow_20, Dx.ow_21, Dx.ow_22, Dx.ow_23, Dx.ow_24, Dx.ow_25, Dx.pk_o, Dx.gam0, Dx.ixD_t, Dx.ixD_l, Dx.atI_0, Dx.atI_1, Dx.atI_2, Dx.atI_3, Dx.atI_4, Dx.asB_b, Dx.addD_i, Dx.subD_i, Dx.addD_t, Dx.addD_l, Dx.mulD_l, Dx.fdivD_s, Dx.modD_p, Dx.cmpI_i, Dx.absG_i, Dx.szOk_le, Dx.tupG, Dx.yesM, Dx.seqI, Dx.seqG_t, Dx.seqG_l, Dx.seqZ_t, Dx.seqZ_l, Dx.starM, Dx.compL_nil, Dx.compL_cons, Dx.all_2, Dx.any_2, Dx.neD_i, Dx.eqD_i, Dx.neD_b, Dx.cut_from1, Dx.cut_to, Dx.sliceM, Dx.noBd, Dx.someBd, Dx.asI, Dx.sliceD_t, Dx.sliceD_l, Dx.zipL3_ints, Dx.zipL2_ints, Dx.zip3G_t, Dx.zip2G_t, Dx.zip2G_tl, Dx.loopM_map, Dx.biM, Dx.compM, Dx.compL_map, Dx.compI_ret, Dx.wipeG, Dx.rng2_ok, Dx.rng1_ok, Dx.seqRng_ok, Dx.rngG, Dx.any_ok, Dx.all_ok, Dx.filter_yes, Dx.rngI_length, Dx.ite_or, Dx.ite_and, Dx.ite_orB, Dx.ite_andB, flO]
theorem between_ok {s lo hi : Int} (h : VOk s lo hi) (one t : Int) : m__law_between [vt s lo hi, .int one, .int t] = ret (.int (if lo + s * (t - one) > lo then lo + s * (t - one) else lo)) := by
  obtain ⟨s1, s2, l1, l2, l3⟩ := h
  have mx : ∀ i j : Int, maxG [.int i, .int j] = some (.int (if j > i then j else i)) := fun i j => rfl
  simp (config := {maxSteps := 3000000}) (disch := omega) [Dx.fnM_ev', Dx.seqM_ev, Dx.seqK_next, Dx.seqK_ret, Dx.seqK_brk, Dx.seqK_cont, Dx.finM_ret, Dx.finM_next, Dx.retM, Dx.setM, Dx.setN, Dx.parM, Dx.oldM, Dx.newM, Dx.Val.slot, Dx.appM, Dx.plnM, Dx.ifM, Dx.exprM, Dx.skipM, Dx.failM, Dx.brkM, Dx.contM, Dx.con, Dx.callM, Dx.consM, Dx.nilM, Dx.op2, Dx.ts2, Dx.tsB, Dx.tNotM, Dx.tAndM, Dx.tOrM, Dx.andM, Dx.orM, Dx.notM, Dx.iteM, Dx.isiM, Dx.isiD, Dx.tyD, Dx.isaB, Dx.chB, Dx.blM, Dx.lenG, Dx.negM, Dx.negG, Dx.tupM, Dx.lstM, Dx.frzM, Dx.asgM, Dx.asgT, Dx.setAll, Dx.bnd_ret, Dx.bnd_fail, Dx.bnd_bnd, Dx.lift_val, Dx.lift_no, Dx.ev_0, Dx.ev_1, Dx.ev_2, Dx.ev_3, Dx.ev_4, Dx.ev_5, Dx.ev_6, Dx.ev_7, Dx.ev_8, Dx.ev_9, Dx.ev_10, Dx.ev_11, Dx.ev_12, Dx.ev_13, Dx.ev_14, Dx.ev_15, Dx.ev_16, Dx.ev_17, Dx.ev_18, Dx.ev_19, Dx.ev_20, Dx.ev_21, Dx.ev_22, Dx.ev_23, Dx.ev_24, Dx.ev_25, Dx.pk_0, Dx.pk_1, Dx.pk_2, Dx.pk_3, Dx.pk_4, Dx.pk_5, Dx.pk_6, Dx.pk_7, Dx.pk_8, Dx.pk_9, Dx.pk_10, Dx.pk_11, Dx.pk_12, Dx.pk_13, Dx.pk_14, Dx.pk_15, Dx.pk_16, Dx.pk_17, Dx.pk_18, Dx.pk_19, Dx.pk_20, Dx.pk_21, Dx.pk_22, Dx.pk_23, Dx.pk_24, Dx.pk_25, Dx.st_0, Dx.st_1, Dx.st_2, Dx.st_3, Dx.st_4, Dx.st_5, Dx.st_6, Dx.st_7, Dx.st_8, Dx.st_9, Dx.st_10, Dx.st_11, Dx.st_12, Dx.st_13, Dx.st_14, Dx.st_15, Dx.st_16, Dx.st_17, Dx.st_18, Dx.st_19, Dx.st_20, Dx.st_21, Dx.st_22, Dx.st_23, Dx.st_24, Dx.st_25, Dx.ow_0, Dx.ow_1, Dx.ow_2, Dx.ow_3, Dx.ow_4, Dx.ow_5, Dx.ow_6, Dx.ow_7, Dx.ow_8, Dx.ow_9, Dx.ow_10, Dx.ow_11, Dx.ow_12, Dx.ow_13, Dx.ow_14, Dx.ow_15, Dx.ow_16, Dx.ow_17, Dx.ow_18, Dx.ow_19, Dx.ow_20, Dx.ow_21, Dx.ow_22, Dx.ow_23, Dx.ow_24, Dx.ow_25, Dx.pk_o, Dx.gam0, Dx.ixD_t, Dx.ixD_l, Dx.atI_0, Dx.atI_1, Dx.atI_2, Dx.atI_3, Dx.atI_4, Dx.asB_b, Dx.addD_i, Dx.subD_i, Dx.addD_t, Dx.addD_l, Dx.mulD_l, Dx.fdivD_s, Dx.modD_p, Dx.cmpI_i, Dx.absG_i, Dx.szOk_le, Dx.tupG, Dx.yesM, Dx.seqI, Dx.seqG_t, Dx.seqG_l, Dx.seqZ_t, Dx.seqZ_l, Dx.starM, Dx.compL_nil, Dx.compL_cons, Dx.all_2, Dx.any_2, Dx.neD_i, Dx.eqD_i, Dx.neD_b, Dx.cut_from1, Dx.cut_to, Dx.sliceM, Dx.noBd, Dx.someBd, Dx.asI, Dx.sliceD_t, Dx.sliceD_l, Dx.zipL3_ints, Dx.zipL2_ints, Dx.zip3G_t, Dx.zip2G_t, Dx.zip2G_tl, Dx.loopM_map, Dx.biM, Dx.compM, Dx.compL_map, Dx.compI_ret, Dx.wipeG, Dx.rng2_ok, Dx.rng1_ok, Dx.seqRng_ok, Dx.rngG, Dx.any_ok, Dx.all_ok, Dx.filter_yes, Dx.rngI_length, Dx.ite_or, Dx.ite_and, Dx.ite_orB, Dx.ite_andB, m__law_between, v0, v1, v2, v3, v4, p0, p1, mx]
/-! ### what fits -/
theorem fit_lvs (s lo hi : Int) (f : Option Int) : ∀ (t : List (Int × Int)) (l : Int), (∀ x ∈ t, lo ≤ x.2 ∧ x.2 ≤ hi) → ∀ u ∈ steps (t.map (·.1)) (lvs s f t l), fitB s lo hi f u = true
  | [], l, _, u, hu => by simp [steps, z3] at hu
  | (a, w) :: t, l, h, u, hu => by
    have e : ∃ r, lvs s f t (l + s * realOf f a + w) = (l + s * realOf f a + w) :: r := by
      cases t with
      | nil => exact ⟨[], rfl⟩
      | cons x t => obtain ⟨a', w'⟩ := x; exact ⟨_, rfl⟩
    obtain ⟨r, er⟩ := e
    have hh := h (a, w) (List.mem_cons_self ..)
    have ih := fit_lvs s lo hi f t (l + s * realOf f a + w) fun x hx => h x (List.mem_cons_of_mem _ hx)
    simp only [steps, z3, lvs, List.map_cons, List.tail_cons, er, List.zip_cons_cons, List.mem_cons] at hu
    rcases hu with rfl | hu
    · unfold fitB
      apply decide_eq_true
      simp only
      omega
    · refine ih u ?_
      simp only [steps, z3, er, List.tail_cons]
      exact hu
theorem zip_fst : ∀ (row wea : List Int), row.length = wea.length → (row.zip wea).map (·.1) = row
  | [], _, _ => by simp
  | a :: row, [], h => by simp at h
  | a :: row, w :: wea, h => by simp [zip_fst row wea (by simpa using h)]
/-- where the row tells, no stuck lever fits as well as a fine one -/
theorem told_fine {s lo hi a b : Int} {row lev : List Int} (h : told (par s (hi - lo)) a b row = true) (hl : lev.length = row.length + 1) (hf : none ∈ mayS s lo hi a b row lev) : mayS s lo hi a b row lev = [none] := by
  have f0 := (List.mem_filter.mp hf).2
  rw [List.all_eq_true] at f0
  unfold mayS faults
  rw [List.filter_cons_of_pos (p := fun f => (steps row lev).all fun t => fitB s lo hi f t) (List.all_eq_true.mpr f0)]
  congr 1
  rw [List.filter_eq_nil_iff]
  intro g hg
  obtain ⟨n, hn, rfl⟩ := List.mem_map.mp hg
  unfold told at h
  rw [List.all_eq_true] at h
  obtain ⟨one, ho, hp⟩ := List.any_eq_true.mp (h n hn)
  intro z
  rw [List.all_eq_true] at z
  have ex : ∃ o' o2, (one, o', o2) ∈ steps row lev := by
    clear z f0 hf hp h
    induction row generalizing lev with
    | nil => cases ho
    | cons x row ih =>
      match lev, hl with
      | l1 :: l2 :: lev, hl =>
        rcases List.mem_cons.mp ho with rfl | ho
        · exact ⟨l1, l2, by simp [steps, z3]⟩
        · obtain ⟨p, q, hpq⟩ := ih (lev := l2 :: lev) (by simpa using hl) ho
          refine ⟨p, q, ?_⟩
          simp only [steps, z3, List.tail_cons, List.zip_cons_cons, List.mem_cons] at hpq ⊢
          exact .inr hpq
  obtain ⟨o1, o2, hm⟩ := ex
  have c1 := f0 _ hm
  have c2 := z _ hm
  unfold fitB realOf at c1 c2
  simp only [Option.getD_none, Option.getD_some, decide_eq_true_eq] at c1 c2
  unfold par ab at hp
  have hp' := of_decide_eq_true hp
  have e : s * (one - n) = s * one - s * n := Int.mul_sub ..
  rw [e] at hp'
  split at hp' <;> omega
end K68

set_option Elab.async false
set_option linter.all false
set_option maxRecDepth 100000
set_option maxHeartbeats 4000000
namespace K68
open PySem PySem.Spec PyProof.Rows L2 Dx
theorem fit_two (s lo hi : Int) (f g : Option Int) : ∀ (t : List (Int × Int)) (l : Int), (∀ x ∈ t, lo ≤ s * realOf f x.1 + x.2 - s * realOf g x.1 ∧ s * realOf f x.1 + x.2 - s * realOf g x.1 ≤ hi) → ∀ u ∈ steps (t.map (·.1)) (lvs s f t l), fitB s lo hi g u = true
  | [], l, _, u, hu => by simp [steps, z3] at hu
  | (a, w) :: t, l, h, u, hu => by
    have e : ∃ r, lvs s f t (l + s * realOf f a + w) = (l + s * realOf f a + w) :: r := by
      cases t with
      | nil => exact ⟨[], rfl⟩
      | cons x t => obtain ⟨a', w'⟩ := x; exact ⟨_, rfl⟩
    obtain ⟨r, er⟩ := e
    have hh := h (a, w) (List.mem_cons_self ..)
    have ih := fit_two s lo hi f g t (l + s * realOf f a + w) fun x hx => h x (List.mem_cons_of_mem _ hx)
    simp only [steps, z3, lvs, List.map_cons, List.tail_cons, er, List.zip_cons_cons, List.mem_cons] at hu
    rcases hu with rfl | hu
    · unfold fitB
      apply decide_eq_true
      simp only at hh ⊢
      omega
    · refine ih u ?_
      simp only [steps, z3, er, List.tail_cons]
      exact hu
def G18 (s lo hi a b : Int) (r7 : List Int) (x5 x6 x7 x8 x9 x10 x11 x12 x13 x14 x15 x16 x17 : Slot) : Gam := [.val .pot, .val (vt s lo hi), .val (pr a b), .val (.tup (r7.map .int)), .val (.lst ((faults a b).map fD)), x5, x6, x7, x8, x9, x10, x11, x12, x13, x14, x15, x16, x17]
theorem may_one {s lo hi a b : Int} (t : Int × Int × Int) (f : Option Int) : f ∈ mayS s lo hi a b [t.1] [t.2.1, t.2.2] ↔ f ∈ faults a b ∧ fitB s lo hi f t = true := by
  unfold mayS steps z3
  simp
theorem loop1_ok {s lo hi a b : Int} (hv : VOk s lo hi) (hb : BOk a b) (r7 : List Int) (x6 x7 x8 x10 x11 x12 x16 x17 : Slot) : ∀ (ts : List (Int × Int × Int)) (L : List (Option Int)) (x5 x9 x14 x15 : Slot),
    (∀ t ∈ ts, (a ≤ t.1 ∧ t.1 ≤ b) ∧ (-200 ≤ t.2.1 ∧ t.2.1 ≤ 200) ∧ (-200 ≤ t.2.2 ∧ t.2.2 ≤ 200)) → (∀ f ∈ L, f ∈ faults a b) → L.length ≤ 1000 → ∃ y5 y9 y14 y15 : Slot,
    loopI (fun (t : Int × Int × Int) (Γ : Gam) => lb__law_is_course_right_1 (List.set (List.set (List.set Γ 5 (.val (.int t.1))) 9 (.val (.int t.2.1))) 14 (.val (.int t.2.2)))) ts (G18 s lo hi a b r7 x5 x6 x7 x8 x9 x10 x11 x12 (.val (.lst (L.map fD))) x14 x15 x16 x17) =
      ret (.next, G18 s lo hi a b r7 y5 x6 x7 x8 y9 x10 x11 x12 (.val (.lst ((L.filter fun f => ts.all fun t => fitB s lo hi f t).map fD))) y14 y15 x16 x17)
  | [], L, x5, x9, x14, x15, _, _, _ => ⟨x5, x9, x14, x15, by simp [loopI, filter_yes]⟩
  | t :: ts, L, x5, x9, x14, x15, ht, hL, hl => by
    obtain ⟨t1, t2, t3⟩ := ht t (List.mem_cons_self ..)
    have sok : SOk a b [t.1] [t.2.1, t.2.2] := ⟨by simp, rfl, fun i hi => by simp at hi; rw [hi]; exact t1, fun i hi => by
      simp at hi
      rcases hi with rfl | rfl
      · exact t2
      · exact t3⟩
    have mok : m_may_be [vt s lo hi, pr a b, .tup [.tup [.int t.1], .tup [.int t.2.1, .int t.2.2]]] = ret (.tup ((mayS s lo hi a b [t.1] [t.2.1, t.2.2]).map fD)) := may_be_ok hv hb sok
    have hc : compI (fun g => lift ((inD (fD g) (.tup ((mayS s lo hi a b [t.1] [t.2.1, t.2.2]).map fD))).bind asB)) (fun g => ret (fD g)) L = ret ((L.filter fun g => fitB s lo hi g t).map fD) := by
      rw [compI_congr (t' := fun g => ret (fitB s lo hi g t)) (e' := fun g => ret (fD g)) fun g hg => ⟨?_, rfl⟩, compI_ret]
      rw [in_f (faults_ok hb (hL g hg)) (mayS_ok hb _ _)]
      show ret (decide (g ∈ mayS s lo hi a b [t.1] [t.2.1, t.2.2])) = _
      congr 1
      rw [Bool.eq_iff_iff, decide_eq_true_eq, may_one]
      exact ⟨fun z => z.2, fun z => ⟨hL g hg, z⟩⟩
    have e1 : lb__law_is_course_right_1 (G18 s lo hi a b r7 (.val (.int t.1)) x6 x7 x8 (.val (.int t.2.1)) x10 x11 x12 (.val (.lst (L.map fD))) (.val (.int t.2.2)) x15 x16 x17) =
        ret (.next, G18 s lo hi a b r7 (.val (.int t.1)) x6 x7 x8 (.val (.int t.2.1)) x10 x11 x12 (.val (.lst ((L.filter fun g => fitB s lo hi g t).map fD))) (.val (.int t.2.2)) (.val (.tup ((mayS s lo hi a b [t.1] [t.2.1, t.2.2]).map fD))) x16 x17) := by
      simp (config := {maxSteps := 3000000}) (disch := omega) [Dx.fnM_ev', Dx.seqM_ev, Dx.seqK_next, Dx.seqK_ret, Dx.seqK_brk, Dx.seqK_cont, Dx.finM_ret, Dx.finM_next, Dx.retM, Dx.setM, Dx.setN, Dx.parM, Dx.oldM, Dx.newM, Dx.Val.slot, Dx.appM, Dx.plnM, Dx.ifM, Dx.exprM, Dx.skipM, Dx.failM, Dx.brkM, Dx.contM, Dx.con, Dx.callM, Dx.consM, Dx.nilM, Dx.op2, Dx.ts2, Dx.tsB, Dx.tNotM, Dx.tAndM, Dx.tOrM, Dx.andM, Dx.orM, Dx.notM, Dx.iteM, Dx.isiM, Dx.isiD, Dx.tyD, Dx.isaB, Dx.chB, Dx.blM, Dx.lenG, Dx.negM, Dx.negG, Dx.tupM, Dx.lstM, Dx.frzM, Dx.asgM, Dx.asgT, Dx.setAll, Dx.bnd_ret, Dx.bnd_fail, Dx.bnd_bnd, Dx.lift_val, Dx.lift_no, Dx.ev_0, Dx.ev_1, Dx.ev_2, Dx.ev_3, Dx.ev_4, Dx.ev_5, Dx.ev_6, Dx.ev_7, Dx.ev_8, Dx.ev_9, Dx.ev_10, Dx.ev_11, Dx.ev_12, Dx.ev_13, Dx.ev_14, Dx.ev_15, Dx.ev_16, Dx.ev_17, Dx.ev_18, Dx.ev_19, Dx.ev_20, Dx.ev_21, Dx.ev_22, Dx.ev_23, Dx.ev_24, Dx.ev_25, Dx.pk_0, Dx.pk_1, Dx.pk_2, Dx.pk_3, Dx.pk_4, Dx.pk_5, Dx.pk_6, Dx.pk_7, Dx.pk_8, Dx.pk_9, Dx.pk_10, Dx.pk_11, Dx.pk_12, Dx.pk_13, Dx.pk_14, Dx.pk_15, Dx.pk_16, Dx.pk_17, Dx.pk_18, Dx.pk_19, Dx.pk_20, Dx.pk_21, Dx.pk_22, Dx.pk_23, Dx.pk_24, Dx.pk_25, Dx.st_0, Dx.st_1, Dx.st_2, Dx.st_3, Dx.st_4, Dx.st_5, Dx.st_6, Dx.st_7, Dx.st_8, Dx.st_9, Dx.st_10, Dx.st_11, Dx.st_12, Dx.st_13, Dx.st_14, Dx.st_15, Dx.st_16, Dx.st_17, Dx.st_18, Dx.st_19, Dx.st_20, Dx.st_21, Dx.st_22, Dx.st_23, Dx.st_24, Dx.st_25, Dx.ow_0, Dx.ow_1, Dx.ow_2, Dx.ow_3, Dx.ow_4, Dx.ow_5, Dx.ow_6, Dx.ow_7, Dx.ow_8, Dx.ow_9, Dx.ow_10, Dx.ow_11, Dx.ow_12, Dx.ow_13, Dx.ow_14, Dx.ow_15, Dx.ow_16, Dx.ow_17, Dx.ow_18, Dx.ow_19, Dx.ow_20, Dx.ow_21, Dx.ow_22, Dx.ow_23, Dx.ow_24, Dx.ow_25, Dx.pk_o, Dx.gam0, Dx.ixD_t, Dx.ixD_l, Dx.atI_0, Dx.atI_1, Dx.atI_2, Dx.atI_3, Dx.atI_4, Dx.asB_b, Dx.addD_i, Dx.subD_i, Dx.addD_t, Dx.addD_l, Dx.mulD_l, Dx.fdivD_s, Dx.modD_p, Dx.cmpI_i, Dx.absG_i, Dx.szOk_le, Dx.tupG, Dx.yesM, Dx.seqI, Dx.seqG_t, Dx.seqG_l, Dx.seqZ_t, Dx.seqZ_l, Dx.starM, Dx.compL_nil, Dx.compL_cons, Dx.all_2, Dx.any_2, Dx.neD_i, Dx.eqD_i, Dx.neD_b, Dx.cut_from1, Dx.cut_to, Dx.sliceM, Dx.noBd, Dx.someBd, Dx.asI, Dx.sliceD_t, Dx.sliceD_l, Dx.zipL3_ints, Dx.zipL2_ints, Dx.zip3G_t, Dx.zip2G_t, Dx.zip2G_tl, Dx.loopM_map, Dx.biM, Dx.compM, Dx.compL_map, Dx.compI_ret, Dx.wipeG, Dx.rng2_ok, Dx.rng1_ok, Dx.seqRng_ok, Dx.rngG, Dx.any_ok, Dx.all_ok, Dx.filter_yes, Dx.rngI_length, Dx.ite_or, Dx.ite_and, Dx.ite_orB, Dx.ite_andB, lb__law_is_course_right_1, G18, mok, hc]
    obtain ⟨y5, y9, y14, y15, ih⟩ := loop1_ok hv hb r7 x6 x7 x8 x10 x11 x12 x16 x17 ts (L.filter fun g => fitB s lo hi g t) (.val (.int t.1)) (.val (.int t.2.1)) (.val (.int t.2.2)) (.val (.tup ((mayS s lo hi a b [t.1] [t.2.1, t.2.2]).map fD))) (fun x hx => ht x (List.mem_cons_of_mem _ hx)) (fun g hg => hL g (List.mem_filter.mp hg).1) (Nat.le_trans (List.length_filter_le _ _) hl)
    refine ⟨y5, y9, y14, y15, ?_⟩
    unfold loopI
    show bnd (lb__law_is_course_right_1 (G18 s lo hi a b r7 (.val (.int t.1)) x6 x7 x8 (.val (.int t.2.1)) x10 x11 x12 (.val (.lst (L.map fD))) (.val (.int t.2.2)) x15 x16 x17)) _ = _
    rw [e1, bnd_ret]
    show loopI _ ts _ = _
    rw [ih, List.filter_filter]
    have fe : (L.filter fun g => (ts.all fun t => fitB s lo hi g t) && fitB s lo hi g t) = L.filter fun g => (t :: ts).all fun t => fitB s lo hi g t := List.filter_congr fun g _ => by rw [List.all_cons, Bool.and_comm]
    rw [fe]
theorem zip_map_mem {f : Int → Int} : ∀ {l : List Int} {o w : Int}, (o, w) ∈ l.zip (l.map f) → w = f o
  | [], o, w, h => by simp at h
  | a :: l, o, w, h => by
    simp only [List.map_cons, List.zip_cons_cons, List.mem_cons, Prod.mk.injEq] at h
    rcases h with ⟨rfl, rfl⟩ | h
    · rfl
    · exact zip_map_mem h
def bw (s lo t one : Int) : Int := if lo + s * (t - one) > lo then lo + s * (t - one) else lo
theorem abs_ok {lev : List Int} (h : ¬ 200 < maxI (lev.map ab)) : inB (-200) 200 lev := fun i hi => by
  have z := maxI_le (List.mem_map_of_mem (f := ab) hi)
  unfold ab at z h
  split at z <;> omega
theorem max_abs {lev : List Int} (h : lev ≠ []) : maxG [.lst (lev.map fun i => .int (ab i))] = some (.int (maxI (lev.map ab))) := by
  have e : (lev.map fun i => D.int (ab i)) = (lev.map ab).map D.int := by rw [List.map_map]; rfl
  rw [e]
  exact max_lst (by simpa using h)
theorem mem_may {s lo hi a b : Int} {row lev : List Int} {f : Option Int} (h1 : f ∈ faults a b) (h2 : ∀ u ∈ steps row lev, fitB s lo hi f u = true) : f ∈ mayS s lo hi a b row lev := List.mem_filter.mpr ⟨h1, List.all_eq_true.mpr h2⟩
theorem loop2_ok {s lo hi a b t : Int} (hv : VOk s lo hi) (hb : BOk a b) {r7 : List Int} (rl : r7.length ≤ 7) (rB : inB a b r7) (t1 : a ≤ t) (t2 : t ≤ b) (no : ∀ one ∈ r7, par s (hi - lo) one t = false) (x6 x7 x8 x9 x10 x11 x12 x13 x14 x15 x16 x17 : Slot) : ∃ y8 y9 y15 y17 : Slot,
    lb__law_is_course_right_2 (G18 s lo hi a b r7 (.val (.int t)) x6 x7 x8 x9 x10 x11 x12 x13 x14 x15 x16 x17) = ret (.next, G18 s lo hi a b r7 (.val (.int t)) x6 x7 y8 y9 x10 x11 x12 x13 x14 y15 x16 y17) := by
  have bt : ∀ one : Int, m__law_between [vt s lo hi, .int one, .int t] = ret (.int (bw s lo t one)) := fun one => between_ok hv one t
  have em : (r7.map fun i => D.int (bw s lo t i)) = (r7.map fun i => bw s lo t i).map D.int := by rw [List.map_map]; rfl
  have lok : m__law_levels [vt s lo hi, .tup [.str "fine"], .tup (r7.map .int), .lst (r7.map fun i => .int (bw s lo t i)), .int 0] = ret (.tup ((lvs s none (r7.zip (r7.map fun i => bw s lo t i)) 0).map .int)) := by
    rw [em]
    exact levels_ok hv (f := none) (fun n z => nomatch z) (by omega)
  obtain ⟨lev, hlev⟩ : ∃ l, l = lvs s none (r7.zip (r7.map fun i => bw s lo t i)) 0 := ⟨_, rfl⟩
  rw [← hlev] at lok
  have ll : lev.length = r7.length + 1 := by rw [hlev, lvs_len, List.length_zip, List.length_map]; omega
  have hmx := max_abs (lev := lev) (by rw [hlev]; exact lvs_ne _ _ _ _)
  by_cases big : 200 < maxI (lev.map ab)
  · have big' : ¬ maxI (lev.map ab) ≤ 200 := by omega
    refine ⟨.val (.tup (lev.map .int)), x9, x15, .val (.lst (r7.map fun i => .int (bw s lo t i))), ?_⟩
    simp (config := {maxSteps := 3000000}) (disch := omega) [Dx.fnM_ev', Dx.seqM_ev, Dx.seqK_next, Dx.seqK_ret, Dx.seqK_brk, Dx.seqK_cont, Dx.finM_ret, Dx.finM_next, Dx.retM, Dx.setM, Dx.setN, Dx.parM, Dx.oldM, Dx.newM, Dx.Val.slot, Dx.appM, Dx.plnM, Dx.ifM, Dx.exprM, Dx.skipM, Dx.failM, Dx.brkM, Dx.contM, Dx.con, Dx.callM, Dx.consM, Dx.nilM, Dx.op2, Dx.ts2, Dx.tsB, Dx.tNotM, Dx.tAndM, Dx.tOrM, Dx.andM, Dx.orM, Dx.notM, Dx.iteM, Dx.isiM, Dx.isiD, Dx.tyD, Dx.isaB, Dx.chB, Dx.blM, Dx.lenG, Dx.negM, Dx.negG, Dx.tupM, Dx.lstM, Dx.frzM, Dx.asgM, Dx.asgT, Dx.setAll, Dx.bnd_ret, Dx.bnd_fail, Dx.bnd_bnd, Dx.lift_val, Dx.lift_no, Dx.ev_0, Dx.ev_1, Dx.ev_2, Dx.ev_3, Dx.ev_4, Dx.ev_5, Dx.ev_6, Dx.ev_7, Dx.ev_8, Dx.ev_9, Dx.ev_10, Dx.ev_11, Dx.ev_12, Dx.ev_13, Dx.ev_14, Dx.ev_15, Dx.ev_16, Dx.ev_17, Dx.ev_18, Dx.ev_19, Dx.ev_20, Dx.ev_21, Dx.ev_22, Dx.ev_23, Dx.ev_24, Dx.ev_25, Dx.pk_0, Dx.pk_1, Dx.pk_2, Dx.pk_3, Dx.pk_4, Dx.pk_5, Dx.pk_6, Dx.pk_7, Dx.pk_8, Dx.pk_9, Dx.pk_10, Dx.pk_11, Dx.pk_12, Dx.pk_13, Dx.pk_14, Dx.pk_15, Dx.pk_16, Dx.pk_17, Dx.pk_18, Dx.pk_19, Dx.pk_20, Dx.pk_21, Dx.pk_22, Dx.pk_23, Dx.pk_24, Dx.pk_25, Dx.st_0, Dx.st_1, Dx.st_2, Dx.st_3, Dx.st_4, Dx.st_5, Dx.st_6, Dx.st_7, Dx.st_8, Dx.st_9, Dx.st_10, Dx.st_11, Dx.st_12, Dx.st_13, Dx.st_14, Dx.st_15, Dx.st_16, Dx.st_17, Dx.st_18, Dx.st_19, Dx.st_20, Dx.st_21, Dx.st_22, Dx.st_23, Dx.st_24, Dx.st_25, Dx.ow_0, Dx.ow_1, Dx.ow_2, Dx.ow_3, Dx.ow_4, Dx.ow_5, Dx.ow_6, Dx.ow_7, Dx.ow_8, Dx.ow_9, Dx.ow_10, Dx.ow_11, Dx.ow_12, Dx.ow_13, Dx.ow_14, Dx.ow_15, Dx.ow_16, Dx.ow_17, Dx.ow_18, Dx.ow_19, Dx.ow_20, Dx.ow_21, Dx.ow_22, Dx.ow_23, Dx.ow_24, Dx.ow_25, Dx.pk_o, Dx.gam0, Dx.ixD_t, Dx.ixD_l, Dx.atI_0, Dx.atI_1, Dx.atI_2, Dx.atI_3, Dx.atI_4, Dx.asB_b, Dx.addD_i, Dx.subD_i, Dx.addD_t, Dx.addD_l, Dx.mulD_l, Dx.fdivD_s, Dx.modD_p, Dx.cmpI_i, Dx.absG_i, Dx.szOk_le, Dx.tupG, Dx.yesM, Dx.seqI, Dx.seqG_t, Dx.seqG_l, Dx.seqZ_t, Dx.seqZ_l, Dx.starM, Dx.compL_nil, Dx.compL_cons, Dx.all_2, Dx.any_2, Dx.neD_i, Dx.eqD_i, Dx.neD_b, Dx.cut_from1, Dx.cut_to, Dx.sliceM, Dx.noBd, Dx.someBd, Dx.asI, Dx.sliceD_t, Dx.sliceD_l, Dx.zipL3_ints, Dx.zipL2_ints, Dx.zip3G_t, Dx.zip2G_t, Dx.zip2G_tl, Dx.loopM_map, Dx.biM, Dx.compM, Dx.compL_map, Dx.compI_ret, Dx.wipeG, Dx.rng2_ok, Dx.rng1_ok, Dx.seqRng_ok, Dx.rngG, Dx.any_ok, Dx.all_ok, Dx.filter_yes, Dx.rngI_length, Dx.ite_or, Dx.ite_and, Dx.ite_orB, Dx.ite_andB, lb__law_is_course_right_2, G18, bt, lok, hmx, big']
  · have big' : maxI (lev.map ab) ≤ 200 := by omega
    have mok : m_may_be [vt s lo hi, pr a b, .tup [.tup (r7.map .int), .tup (lev.map .int)]] = ret (.tup ((mayS s lo hi a b r7 lev).map fD)) := may_be_ok hv hb ⟨by omega, ll, rB, abs_ok big⟩
    have zf : (r7.zip (r7.map fun i => bw s lo t i)).map (·.1) = r7 := zip_fst _ _ (by rw [List.length_map])
    have wx : ∀ x ∈ r7.zip (r7.map fun i => bw s lo t i), lo ≤ x.2 ∧ x.2 ≤ hi ∧ lo ≤ s * x.1 + x.2 - s * t ∧ s * x.1 + x.2 - s * t ≤ hi := fun x hx => by
      obtain ⟨o, w⟩ := x
      have ho := (List.of_mem_zip hx).1
      have ew : w = bw s lo t o := zip_map_mem hx
      have np := no o ho
      unfold par ab at np
      have np' := of_decide_eq_false np
      have e1 : s * (o - t) = s * o - s * t := Int.mul_sub ..
      have e2 : s * (t - o) = s * t - s * o := Int.mul_sub ..
      have lh := hv.l2
      rw [e1] at np'
      unfold bw at ew
      rw [e2] at ew
      simp only
      split at np' <;> split at ew <;> omega
    have m1 : none ∈ mayS s lo hi a b r7 lev := mem_may (by simp [faults]) fun u hu => by
      refine fit_two s lo hi none none (r7.zip (r7.map fun i => bw s lo t i)) 0 (fun x hx => ?_) u (by rw [zf, ← hlev]; exact hu)
      have := wx x hx
      simp only [realOf, Option.getD_none]
      omega
    have m2 : some t ∈ mayS s lo hi a b r7 lev := mem_may (by
      unfold faults
      exact List.mem_cons_of_mem _ (List.mem_map_of_mem (rngI_mem.mpr ⟨t1, by omega⟩))) fun u hu => by
      refine fit_two s lo hi none (some t) (r7.zip (r7.map fun i => bw s lo t i)) 0 (fun x hx => ?_) u (by rw [zf, ← hlev]; exact hu)
      have := wx x hx
      simp only [realOf, Option.getD_none, Option.getD_some]
      omega
    have n1 : notInD (.tup [.str "fine"]) (.tup ((mayS s lo hi a b r7 lev).map fD)) = some (.bl false) := by
      have := notin_f (f := none) (fun n z => nomatch z) (mayS_ok (s := s) (lo := lo) (hi := hi) hb r7 lev)
      rw [decide_eq_true m1] at this
      exact this
    have n2 : notInD (.tup [.str "stuck", .int t]) (.tup ((mayS s lo hi a b r7 lev).map fD)) = some (.bl false) := by
      have := notin_f (f := some t) (fun n z => by cases z; obtain ⟨g1, g2, g3⟩ := hb; omega) (mayS_ok (s := s) (lo := lo) (hi := hi) hb r7 lev)
      rw [decide_eq_true m2] at this
      exact this
    refine ⟨.val (.tup (lev.map .int)), x9, .val (.tup ((mayS s lo hi a b r7 lev).map fD)), .val (.lst (r7.map fun i => .int (bw s lo t i))), ?_⟩
    simp (config := {maxSteps := 3000000}) (disch := omega) [Dx.fnM_ev', Dx.seqM_ev, Dx.seqK_next, Dx.seqK_ret, Dx.seqK_brk, Dx.seqK_cont, Dx.finM_ret, Dx.finM_next, Dx.retM, Dx.setM, Dx.setN, Dx.parM, Dx.oldM, Dx.newM, Dx.Val.slot, Dx.appM, Dx.plnM, Dx.ifM, Dx.exprM, Dx.skipM, Dx.failM, Dx.brkM, Dx.contM, Dx.con, Dx.callM, Dx.consM, Dx.nilM, Dx.op2, Dx.ts2, Dx.tsB, Dx.tNotM, Dx.tAndM, Dx.tOrM, Dx.andM, Dx.orM, Dx.notM, Dx.iteM, Dx.isiM, Dx.isiD, Dx.tyD, Dx.isaB, Dx.chB, Dx.blM, Dx.lenG, Dx.negM, Dx.negG, Dx.tupM, Dx.lstM, Dx.frzM, Dx.asgM, Dx.asgT, Dx.setAll, Dx.bnd_ret, Dx.bnd_fail, Dx.bnd_bnd, Dx.lift_val, Dx.lift_no, Dx.ev_0, Dx.ev_1, Dx.ev_2, Dx.ev_3, Dx.ev_4, Dx.ev_5, Dx.ev_6, Dx.ev_7, Dx.ev_8, Dx.ev_9, Dx.ev_10, Dx.ev_11, Dx.ev_12, Dx.ev_13, Dx.ev_14, Dx.ev_15, Dx.ev_16, Dx.ev_17, Dx.ev_18, Dx.ev_19, Dx.ev_20, Dx.ev_21, Dx.ev_22, Dx.ev_23, Dx.ev_24, Dx.ev_25, Dx.pk_0, Dx.pk_1, Dx.pk_2, Dx.pk_3, Dx.pk_4, Dx.pk_5, Dx.pk_6, Dx.pk_7, Dx.pk_8, Dx.pk_9, Dx.pk_10, Dx.pk_11, Dx.pk_12, Dx.pk_13, Dx.pk_14, Dx.pk_15, Dx.pk_16, Dx.pk_17, Dx.pk_18, Dx.pk_19, Dx.pk_20, Dx.pk_21, Dx.pk_22, Dx.pk_23, Dx.pk_24, Dx.pk_25, Dx.st_0, Dx.st_1, Dx.st_2, Dx.st_3, Dx.st_4, Dx.st_5, Dx.st_6, Dx.st_7, Dx.st_8, Dx.st_9, Dx.st_10, Dx.st_11, Dx.st_12, Dx.st_13, Dx.st_14, Dx.st_15, Dx.st_16, Dx.st_17, Dx.st_18, Dx.st_19, Dx.st_20, Dx.st_21, Dx.st_22, Dx.st_23, Dx.st_24, Dx.st_25, Dx.ow_0, Dx.ow_1, Dx.ow_2, Dx.ow_3, Dx.ow_4, Dx.ow_5, Dx.ow_6, Dx.ow_7, Dx.ow_8, Dx.ow_9, Dx.ow_10, Dx.ow_11, Dx.ow_12, Dx.ow_13, Dx.ow_14, Dx.ow_15, Dx.ow_16, Dx.ow_17, Dx.ow_18, Dx.ow_19, Dx.ow_20, Dx.ow_21, Dx.ow_22, Dx.ow_23, Dx.ow_24, Dx.ow_25, Dx.pk_o, Dx.gam0, Dx.ixD_t, Dx.ixD_l, Dx.atI_0, Dx.atI_1, Dx.atI_2, Dx.atI_3, Dx.atI_4, Dx.asB_b, Dx.addD_i, Dx.subD_i, Dx.addD_t, Dx.addD_l, Dx.mulD_l, Dx.fdivD_s, Dx.modD_p, Dx.cmpI_i, Dx.absG_i, Dx.szOk_le, Dx.tupG, Dx.yesM, Dx.seqI, Dx.seqG_t, Dx.seqG_l, Dx.seqZ_t, Dx.seqZ_l, Dx.starM, Dx.compL_nil, Dx.compL_cons, Dx.all_2, Dx.any_2, Dx.neD_i, Dx.eqD_i, Dx.neD_b, Dx.cut_from1, Dx.cut_to, Dx.sliceM, Dx.noBd, Dx.someBd, Dx.asI, Dx.sliceD_t, Dx.sliceD_l, Dx.zipL3_ints, Dx.zipL2_ints, Dx.zip3G_t, Dx.zip2G_t, Dx.zip2G_tl, Dx.loopM_map, Dx.biM, Dx.compM, Dx.compL_map, Dx.compI_ret, Dx.wipeG, Dx.rng2_ok, Dx.rng1_ok, Dx.seqRng_ok, Dx.rngG, Dx.any_ok, Dx.all_ok, Dx.filter_yes, Dx.rngI_length, Dx.ite_or, Dx.ite_and, Dx.ite_orB, Dx.ite_andB, lb__law_is_course_right_2, G18, bt, lok, hmx, big', mok, n1, n2]
theorem course_ok {n : Int} {p : Pt} {s lo hi a b : Int} (h : Dr s lo hi a b) {row : List Int} (hp : Okp n p) (hn : n < 2 ^ 38) (r0 : row ≠ []) (r1 : row.length ≤ 12) (rb' : inB a b row) :
    Wp (m__law_is_course_right [.pot, vt s lo hi, pr a b, .tup (row.map .int)]) p fun d q => d = .bl true ∧ Okp (n + 100) q := by
  have hv := h.v
  have hb := h.b
  have hd := h
  obtain ⟨s1, s2, l1, l2, l3, a1, a2, b2⟩ := h
  have hfs : addD (.lst [.tup [.str "fine"]]) (.lst ((rngI a (b + 1 - a).toNat).map fun i => .tup [.str "stuck", .int i])) = some (.lst ((faults a b).map fD)) := by
    rw [addD_l (by rw [List.length_map, rngI_length]; simp; omega)]
    unfold faults
    simp [fD, Function.comp_def]
  have c7 : ∀ l : List D, cutD l none (some 7) = l.take 7 := fun l => cut_to l 7
  have hf0 : (faults a b).map fD ≠ [] := by simp [faults]
  have hfl : ((faults a b).map fD).length < 2 ^ 30 := by rw [List.length_map, faults_len]; omega
  simp (config := {maxSteps := 3000000}) (disch := omega) [Dx.fnM_ev', Dx.seqM_ev, Dx.seqK_next, Dx.seqK_ret, Dx.seqK_brk, Dx.seqK_cont, Dx.finM_ret, Dx.finM_next, Dx.retM, Dx.setM, Dx.setN, Dx.parM, Dx.oldM, Dx.newM, Dx.Val.slot, Dx.appM, Dx.plnM, Dx.ifM, Dx.exprM, Dx.skipM, Dx.failM, Dx.brkM, Dx.contM, Dx.con, Dx.callM, Dx.consM, Dx.nilM, Dx.op2, Dx.ts2, Dx.tsB, Dx.tNotM, Dx.tAndM, Dx.tOrM, Dx.andM, Dx.orM, Dx.notM, Dx.iteM, Dx.isiM, Dx.isiD, Dx.tyD, Dx.isaB, Dx.chB, Dx.blM, Dx.lenG, Dx.negM, Dx.negG, Dx.tupM, Dx.lstM, Dx.frzM, Dx.asgM, Dx.asgT, Dx.setAll, Dx.bnd_ret, Dx.bnd_fail, Dx.bnd_bnd, Dx.lift_val, Dx.lift_no, Dx.ev_0, Dx.ev_1, Dx.ev_2, Dx.ev_3, Dx.ev_4, Dx.ev_5, Dx.ev_6, Dx.ev_7, Dx.ev_8, Dx.ev_9, Dx.ev_10, Dx.ev_11, Dx.ev_12, Dx.ev_13, Dx.ev_14, Dx.ev_15, Dx.ev_16, Dx.ev_17, Dx.ev_18, Dx.ev_19, Dx.ev_20, Dx.ev_21, Dx.ev_22, Dx.ev_23, Dx.ev_24, Dx.ev_25, Dx.pk_0, Dx.pk_1, Dx.pk_2, Dx.pk_3, Dx.pk_4, Dx.pk_5, Dx.pk_6, Dx.pk_7, Dx.pk_8, Dx.pk_9, Dx.pk_10, Dx.pk_11, Dx.pk_12, Dx.pk_13, Dx.pk_14, Dx.pk_15, Dx.pk_16, Dx.pk_17, Dx.pk_18, Dx.pk_19, Dx.pk_20, Dx.pk_21, Dx.pk_22, Dx.pk_23, Dx.pk_24, Dx.pk_25, Dx.st_0, Dx.st_1, Dx.st_2, Dx.st_3, Dx.st_4, Dx.st_5, Dx.st_6, Dx.st_7, Dx.st_8, Dx.st_9, Dx.st_10, Dx.st_11, Dx.st_12, Dx.st_13, Dx.st_14, Dx.st_15, Dx.st_16, Dx.st_17, Dx.st_18, Dx.st_19, Dx.st_20, Dx.st_21, Dx.st_22, Dx.st_23, Dx.st_24, Dx.st_25, Dx.ow_0, Dx.ow_1, Dx.ow_2, Dx.ow_3, Dx.ow_4, Dx.ow_5, Dx.ow_6, Dx.ow_7, Dx.ow_8, Dx.ow_9, Dx.ow_10, Dx.ow_11, Dx.ow_12, Dx.ow_13, Dx.ow_14, Dx.ow_15, Dx.ow_16, Dx.ow_17, Dx.ow_18, Dx.ow_19, Dx.ow_20, Dx.ow_21, Dx.ow_22, Dx.ow_23, Dx.ow_24, Dx.ow_25, Dx.pk_o, Dx.gam0, Dx.ixD_t, Dx.ixD_l, Dx.atI_0, Dx.atI_1, Dx.atI_2, Dx.atI_3, Dx.atI_4, Dx.asB_b, Dx.addD_i, Dx.subD_i, Dx.addD_t, Dx.addD_l, Dx.mulD_l, Dx.fdivD_s, Dx.modD_p, Dx.cmpI_i, Dx.absG_i, Dx.szOk_le, Dx.tupG, Dx.yesM, Dx.seqI, Dx.seqG_t, Dx.seqG_l, Dx.seqZ_t, Dx.seqZ_l, Dx.starM, Dx.compL_nil, Dx.compL_cons, Dx.all_2, Dx.any_2, Dx.neD_i, Dx.eqD_i, Dx.neD_b, Dx.cut_from1, Dx.cut_to, Dx.sliceM, Dx.noBd, Dx.someBd, Dx.asI, Dx.sliceD_t, Dx.sliceD_l, Dx.zipL3_ints, Dx.zipL2_ints, Dx.zip3G_t, Dx.zip2G_t, Dx.zip2G_tl, Dx.loopM_map, Dx.biM, Dx.compM, Dx.compL_map, Dx.compI_ret, Dx.wipeG, Dx.rng2_ok, Dx.rng1_ok, Dx.seqRng_ok, Dx.rngG, Dx.any_ok, Dx.all_ok, Dx.filter_yes, Dx.rngI_length, Dx.ite_or, Dx.ite_and, Dx.ite_orB, Dx.ite_andB, Dx.wp_bnd_iff, Dx.wp_ret_iff, Dx.wp_ite_iff, Dx.wp_g0, Dx.wp_g1, Dx.wp_g2, Dx.wp_s0, Dx.wp_s2, Dx.intG_i, Dx.intG_b, Dx.powD_3, m__law_is_course_right, v0, v1, v2, v3, v4, p0, p1, hfs]
  refine wp_mono (of_ok n p _ hp (by omega) hf0 hfl) ?_
  rintro d q1 ⟨hd', hq1⟩
  obtain ⟨f', hf', rfl⟩ := List.mem_map.mp hd'
  refine wp_mono (of_ok _ q1 _ hq1 (by omega) (by simp) (by simp)) ?_
  rintro d q2 ⟨hd'', hq2⟩
  have hf : ∃ f ∈ faults a b, d = fD f := by
    simp only [List.mem_cons, List.not_mem_nil, or_false] at hd''
    rcases hd'' with rfl | rfl
    · exact ⟨none, by simp [faults], rfl⟩
    · exact ⟨f', hf', rfl⟩
  obtain ⟨f, hf, rfl⟩ := hf
  have fo := faults_ok hb hf
  obtain ⟨r7, e7⟩ : ∃ r, r = row.take 7 := ⟨_, rfl⟩
  have ht7 : List.take 7 (row.map D.int) = r7.map D.int := by rw [e7]; exact List.map_take.symm
  have rB : inB a b r7 := fun i hi => rb' i (List.mem_of_mem_take (by rw [← e7]; exact hi))
  have rl : r7.length ≤ 7 := by rw [e7, List.length_take]; omega
  have rn : r7 ≠ [] := by
    rw [e7]
    cases row with
    | nil => exact absurd rfl r0
    | cons x r => simp
  simp (config := {maxSteps := 3000000}) (disch := omega) [Dx.fnM_ev', Dx.seqM_ev, Dx.seqK_next, Dx.seqK_ret, Dx.seqK_brk, Dx.seqK_cont, Dx.finM_ret, Dx.finM_next, Dx.retM, Dx.setM, Dx.setN, Dx.parM, Dx.oldM, Dx.newM, Dx.Val.slot, Dx.appM, Dx.plnM, Dx.ifM, Dx.exprM, Dx.skipM, Dx.failM, Dx.brkM, Dx.contM, Dx.con, Dx.callM, Dx.consM, Dx.nilM, Dx.op2, Dx.ts2, Dx.tsB, Dx.tNotM, Dx.tAndM, Dx.tOrM, Dx.andM, Dx.orM, Dx.notM, Dx.iteM, Dx.isiM, Dx.isiD, Dx.tyD, Dx.isaB, Dx.chB, Dx.blM, Dx.lenG, Dx.negM, Dx.negG, Dx.tupM, Dx.lstM, Dx.frzM, Dx.asgM, Dx.asgT, Dx.setAll, Dx.bnd_ret, Dx.bnd_fail, Dx.bnd_bnd, Dx.lift_val, Dx.lift_no, Dx.ev_0, Dx.ev_1, Dx.ev_2, Dx.ev_3, Dx.ev_4, Dx.ev_5, Dx.ev_6, Dx.ev_7, Dx.ev_8, Dx.ev_9, Dx.ev_10, Dx.ev_11, Dx.ev_12, Dx.ev_13, Dx.ev_14, Dx.ev_15, Dx.ev_16, Dx.ev_17, Dx.ev_18, Dx.ev_19, Dx.ev_20, Dx.ev_21, Dx.ev_22, Dx.ev_23, Dx.ev_24, Dx.ev_25, Dx.pk_0, Dx.pk_1, Dx.pk_2, Dx.pk_3, Dx.pk_4, Dx.pk_5, Dx.pk_6, Dx.pk_7, Dx.pk_8, Dx.pk_9, Dx.pk_10, Dx.pk_11, Dx.pk_12, Dx.pk_13, Dx.pk_14, Dx.pk_15, Dx.pk_16, Dx.pk_17, Dx.pk_18, Dx.pk_19, Dx.pk_20, Dx.pk_21, Dx.pk_22, Dx.pk_23, Dx.pk_24, Dx.pk_25, Dx.st_0, Dx.st_1, Dx.st_2, Dx.st_3, Dx.st_4, Dx.st_5, Dx.st_6, Dx.st_7, Dx.st_8, Dx.st_9, Dx.st_10, Dx.st_11, Dx.st_12, Dx.st_13, Dx.st_14, Dx.st_15, Dx.st_16, Dx.st_17, Dx.st_18, Dx.st_19, Dx.st_20, Dx.st_21, Dx.st_22, Dx.st_23, Dx.st_24, Dx.st_25, Dx.ow_0, Dx.ow_1, Dx.ow_2, Dx.ow_3, Dx.ow_4, Dx.ow_5, Dx.ow_6, Dx.ow_7, Dx.ow_8, Dx.ow_9, Dx.ow_10, Dx.ow_11, Dx.ow_12, Dx.ow_13, Dx.ow_14, Dx.ow_15, Dx.ow_16, Dx.ow_17, Dx.ow_18, Dx.ow_19, Dx.ow_20, Dx.ow_21, Dx.ow_22, Dx.ow_23, Dx.ow_24, Dx.ow_25, Dx.pk_o, Dx.gam0, Dx.ixD_t, Dx.ixD_l, Dx.atI_0, Dx.atI_1, Dx.atI_2, Dx.atI_3, Dx.atI_4, Dx.asB_b, Dx.addD_i, Dx.subD_i, Dx.addD_t, Dx.addD_l, Dx.mulD_l, Dx.fdivD_s, Dx.modD_p, Dx.cmpI_i, Dx.absG_i, Dx.szOk_le, Dx.tupG, Dx.yesM, Dx.seqI, Dx.seqG_t, Dx.seqG_l, Dx.seqZ_t, Dx.seqZ_l, Dx.starM, Dx.compL_nil, Dx.compL_cons, Dx.all_2, Dx.any_2, Dx.neD_i, Dx.eqD_i, Dx.neD_b, Dx.cut_from1, Dx.cut_to, Dx.sliceM, Dx.noBd, Dx.someBd, Dx.asI, Dx.sliceD_t, Dx.sliceD_l, Dx.zipL3_ints, Dx.zipL2_ints, Dx.zip3G_t, Dx.zip2G_t, Dx.zip2G_tl, Dx.loopM_map, Dx.biM, Dx.compM, Dx.compL_map, Dx.compI_ret, Dx.wipeG, Dx.rng2_ok, Dx.rng1_ok, Dx.seqRng_ok, Dx.rngG, Dx.any_ok, Dx.all_ok, Dx.filter_yes, Dx.rngI_length, Dx.ite_or, Dx.ite_and, Dx.ite_orB, Dx.ite_andB, Dx.wp_bnd_iff, Dx.wp_ret_iff, Dx.wp_ite_iff, Dx.wp_g0, Dx.wp_g1, Dx.wp_g2, Dx.wp_s0, Dx.wp_s2, Dx.intG_i, Dx.intG_b, Dx.powD_3, c7, ht7]
  refine wp_mono (wp_ints (fun v => lo ≤ v ∧ v ≤ hi) (fun i n' q hq hn' => ?_) _ _ _ hq2 (by omega)) ?_
  · simp (config := {maxSteps := 3000000}) (disch := omega) [Dx.fnM_ev', Dx.seqM_ev, Dx.seqK_next, Dx.seqK_ret, Dx.seqK_brk, Dx.seqK_cont, Dx.finM_ret, Dx.finM_next, Dx.retM, Dx.setM, Dx.setN, Dx.parM, Dx.oldM, Dx.newM, Dx.Val.slot, Dx.appM, Dx.plnM, Dx.ifM, Dx.exprM, Dx.skipM, Dx.failM, Dx.brkM, Dx.contM, Dx.con, Dx.callM, Dx.consM, Dx.nilM, Dx.op2, Dx.ts2, Dx.tsB, Dx.tNotM, Dx.tAndM, Dx.tOrM, Dx.andM, Dx.orM, Dx.notM, Dx.iteM, Dx.isiM, Dx.isiD, Dx.tyD, Dx.isaB, Dx.chB, Dx.blM, Dx.lenG, Dx.negM, Dx.negG, Dx.tupM, Dx.lstM, Dx.frzM, Dx.asgM, Dx.asgT, Dx.setAll, Dx.bnd_ret, Dx.bnd_fail, Dx.bnd_bnd, Dx.lift_val, Dx.lift_no, Dx.ev_0, Dx.ev_1, Dx.ev_2, Dx.ev_3, Dx.ev_4, Dx.ev_5, Dx.ev_6, Dx.ev_7, Dx.ev_8, Dx.ev_9, Dx.ev_10, Dx.ev_11, Dx.ev_12, Dx.ev_13, Dx.ev_14, Dx.ev_15, Dx.ev_16, Dx.ev_17, Dx.ev_18, Dx.ev_19, Dx.ev_20, Dx.ev_21, Dx.ev_22, Dx.ev_23, Dx.ev_24, Dx.ev_25, Dx.pk_0, Dx.pk_1, Dx.pk_2, Dx.pk_3, Dx.pk_4, Dx.pk_5, Dx.pk_6, Dx.pk_7, Dx.pk_8, Dx.pk_9, Dx.pk_10, Dx.pk_11, Dx.pk_12, Dx.pk_13, Dx.pk_14, Dx.pk_15, Dx.pk_16, Dx.pk_17, Dx.pk_18, Dx.pk_19, Dx.pk_20, Dx.pk_21, Dx.pk_22, Dx.pk_23, Dx.pk_24, Dx.pk_25, Dx.st_0, Dx.st_1, Dx.st_2, Dx.st_3, Dx.st_4, Dx.st_5, Dx.st_6, Dx.st_7, Dx.st_8, Dx.st_9, Dx.st_10, Dx.st_11, Dx.st_12, Dx.st_13, Dx.st_14, Dx.st_15, Dx.st_16, Dx.st_17, Dx.st_18, Dx.st_19, Dx.st_20, Dx.st_21, Dx.st_22, Dx.st_23, Dx.st_24, Dx.st_25, Dx.ow_0, Dx.ow_1, Dx.ow_2, Dx.ow_3, Dx.ow_4, Dx.ow_5, Dx.ow_6, Dx.ow_7, Dx.ow_8, Dx.ow_9, Dx.ow_10, Dx.ow_11, Dx.ow_12, Dx.ow_13, Dx.ow_14, Dx.ow_15, Dx.ow_16, Dx.ow_17, Dx.ow_18, Dx.ow_19, Dx.ow_20, Dx.ow_21, Dx.ow_22, Dx.ow_23, Dx.ow_24, Dx.ow_25, Dx.pk_o, Dx.gam0, Dx.ixD_t, Dx.ixD_l, Dx.atI_0, Dx.atI_1, Dx.atI_2, Dx.atI_3, Dx.atI_4, Dx.asB_b, Dx.addD_i, Dx.subD_i, Dx.addD_t, Dx.addD_l, Dx.mulD_l, Dx.fdivD_s, Dx.modD_p, Dx.cmpI_i, Dx.absG_i, Dx.szOk_le, Dx.tupG, Dx.yesM, Dx.seqI, Dx.seqG_t, Dx.seqG_l, Dx.seqZ_t, Dx.seqZ_l, Dx.starM, Dx.compL_nil, Dx.compL_cons, Dx.all_2, Dx.any_2, Dx.neD_i, Dx.eqD_i, Dx.neD_b, Dx.cut_from1, Dx.cut_to, Dx.sliceM, Dx.noBd, Dx.someBd, Dx.asI, Dx.sliceD_t, Dx.sliceD_l, Dx.zipL3_ints, Dx.zipL2_ints, Dx.zip3G_t, Dx.zip2G_t, Dx.zip2G_tl, Dx.loopM_map, Dx.biM, Dx.compM, Dx.compL_map, Dx.compI_ret, Dx.wipeG, Dx.rng2_ok, Dx.rng1_ok, Dx.seqRng_ok, Dx.rngG, Dx.any_ok, Dx.all_ok, Dx.filter_yes, Dx.rngI_length, Dx.ite_or, Dx.ite_and, Dx.ite_orB, Dx.ite_andB, Dx.wp_bnd_iff, Dx.wp_ret_iff, Dx.wp_ite_iff, Dx.wp_g0, Dx.wp_g1, Dx.wp_g2, Dx.wp_s0, Dx.wp_s2, Dx.intG_i, Dx.intG_b, Dx.powD_3, v0, v1, v2, v3, v4, p0, p1]
    refine wp_mono (of_ok n' q _ hq hn' (by simp) (by simp)) ?_
    rintro d q' ⟨hd2, hq'⟩
    simp only [List.mem_cons, List.not_mem_nil, or_false] at hd2
    rcases hd2 with rfl | rfl | rfl
    · exact ⟨_, rfl, ⟨by omega, by omega⟩, hq'⟩
    · exact ⟨_, rfl, ⟨by omega, by omega⟩, hq'⟩
    · exact ⟨_, rfl, ⟨by omega, by omega⟩, hq'⟩
  rintro _ q3 ⟨wea, rfl, hw, wB, hq3⟩
  have lok := levels_ok hv fo (row := r7) (wea := wea) (by omega)
  obtain ⟨lev, hlev⟩ : ∃ l, l = lvs s f (r7.zip wea) 0 := ⟨_, rfl⟩
  rw [← hlev] at lok
  have ll : lev.length = r7.length + 1 := by rw [hlev, lvs_len, List.length_zip]; omega
  have ln : lev ≠ [] := by rw [hlev]; exact lvs_ne _ _ _ _
  have hmx : maxG [.lst (lev.map fun i => .int (ab i))] = some (.int (maxI (lev.map ab))) := by
    have e : (lev.map fun i => D.int (ab i)) = (lev.map ab).map D.int := by rw [List.map_map]; rfl
    rw [e]
    exact max_lst (by simpa using ln)
  simp (config := {maxSteps := 3000000}) (disch := omega) [Dx.fnM_ev', Dx.seqM_ev, Dx.seqK_next, Dx.seqK_ret, Dx.seqK_brk, Dx.seqK_cont, Dx.finM_ret, Dx.finM_next, Dx.retM, Dx.setM, Dx.setN, Dx.parM, Dx.oldM, Dx.newM, Dx.Val.slot, Dx.appM, Dx.plnM, Dx.ifM, Dx.exprM, Dx.skipM, Dx.failM, Dx.brkM, Dx.contM, Dx.con, Dx.callM, Dx.consM, Dx.nilM, Dx.op2, Dx.ts2, Dx.tsB, Dx.tNotM, Dx.tAndM, Dx.tOrM, Dx.andM, Dx.orM, Dx.notM, Dx.iteM, Dx.isiM, Dx.isiD, Dx.tyD, Dx.isaB, Dx.chB, Dx.blM, Dx.lenG, Dx.negM, Dx.negG, Dx.tupM, Dx.lstM, Dx.frzM, Dx.asgM, Dx.asgT, Dx.setAll, Dx.bnd_ret, Dx.bnd_fail, Dx.bnd_bnd, Dx.lift_val, Dx.lift_no, Dx.ev_0, Dx.ev_1, Dx.ev_2, Dx.ev_3, Dx.ev_4, Dx.ev_5, Dx.ev_6, Dx.ev_7, Dx.ev_8, Dx.ev_9, Dx.ev_10, Dx.ev_11, Dx.ev_12, Dx.ev_13, Dx.ev_14, Dx.ev_15, Dx.ev_16, Dx.ev_17, Dx.ev_18, Dx.ev_19, Dx.ev_20, Dx.ev_21, Dx.ev_22, Dx.ev_23, Dx.ev_24, Dx.ev_25, Dx.pk_0, Dx.pk_1, Dx.pk_2, Dx.pk_3, Dx.pk_4, Dx.pk_5, Dx.pk_6, Dx.pk_7, Dx.pk_8, Dx.pk_9, Dx.pk_10, Dx.pk_11, Dx.pk_12, Dx.pk_13, Dx.pk_14, Dx.pk_15, Dx.pk_16, Dx.pk_17, Dx.pk_18, Dx.pk_19, Dx.pk_20, Dx.pk_21, Dx.pk_22, Dx.pk_23, Dx.pk_24, Dx.pk_25, Dx.st_0, Dx.st_1, Dx.st_2, Dx.st_3, Dx.st_4, Dx.st_5, Dx.st_6, Dx.st_7, Dx.st_8, Dx.st_9, Dx.st_10, Dx.st_11, Dx.st_12, Dx.st_13, Dx.st_14, Dx.st_15, Dx.st_16, Dx.st_17, Dx.st_18, Dx.st_19, Dx.st_20, Dx.st_21, Dx.st_22, Dx.st_23, Dx.st_24, Dx.st_25, Dx.ow_0, Dx.ow_1, Dx.ow_2, Dx.ow_3, Dx.ow_4, Dx.ow_5, Dx.ow_6, Dx.ow_7, Dx.ow_8, Dx.ow_9, Dx.ow_10, Dx.ow_11, Dx.ow_12, Dx.ow_13, Dx.ow_14, Dx.ow_15, Dx.ow_16, Dx.ow_17, Dx.ow_18, Dx.ow_19, Dx.ow_20, Dx.ow_21, Dx.ow_22, Dx.ow_23, Dx.ow_24, Dx.ow_25, Dx.pk_o, Dx.gam0, Dx.ixD_t, Dx.ixD_l, Dx.atI_0, Dx.atI_1, Dx.atI_2, Dx.atI_3, Dx.atI_4, Dx.asB_b, Dx.addD_i, Dx.subD_i, Dx.addD_t, Dx.addD_l, Dx.mulD_l, Dx.fdivD_s, Dx.modD_p, Dx.cmpI_i, Dx.absG_i, Dx.szOk_le, Dx.tupG, Dx.yesM, Dx.seqI, Dx.seqG_t, Dx.seqG_l, Dx.seqZ_t, Dx.seqZ_l, Dx.starM, Dx.compL_nil, Dx.compL_cons, Dx.all_2, Dx.any_2, Dx.neD_i, Dx.eqD_i, Dx.neD_b, Dx.cut_from1, Dx.cut_to, Dx.sliceM, Dx.noBd, Dx.someBd, Dx.asI, Dx.sliceD_t, Dx.sliceD_l, Dx.zipL3_ints, Dx.zipL2_ints, Dx.zip3G_t, Dx.zip2G_t, Dx.zip2G_tl, Dx.loopM_map, Dx.biM, Dx.compM, Dx.compL_map, Dx.compI_ret, Dx.wipeG, Dx.rng2_ok, Dx.rng1_ok, Dx.seqRng_ok, Dx.rngG, Dx.any_ok, Dx.all_ok, Dx.filter_yes, Dx.rngI_length, Dx.ite_or, Dx.ite_and, Dx.ite_orB, Dx.ite_andB, Dx.wp_bnd_iff, Dx.wp_ret_iff, Dx.wp_ite_iff, Dx.wp_g0, Dx.wp_g1, Dx.wp_g2, Dx.wp_s0, Dx.wp_s2, Dx.intG_i, Dx.intG_b, Dx.powD_3, v0, v1, v2, v3, v4, p0, p1, lok, hmx]
  by_cases big : 200 < maxI (lev.map ab)
  · simp (config := {maxSteps := 3000000}) (disch := omega) [Dx.fnM_ev', Dx.seqM_ev, Dx.seqK_next, Dx.seqK_ret, Dx.seqK_brk, Dx.seqK_cont, Dx.finM_ret, Dx.finM_next, Dx.retM, Dx.setM, Dx.setN, Dx.parM, Dx.oldM, Dx.newM, Dx.Val.slot, Dx.appM, Dx.plnM, Dx.ifM, Dx.exprM, Dx.skipM, Dx.failM, Dx.brkM, Dx.contM, Dx.con, Dx.callM, Dx.consM, Dx.nilM, Dx.op2, Dx.ts2, Dx.tsB, Dx.tNotM, Dx.tAndM, Dx.tOrM, Dx.andM, Dx.orM, Dx.notM, Dx.iteM, Dx.isiM, Dx.isiD, Dx.tyD, Dx.isaB, Dx.chB, Dx.blM, Dx.lenG, Dx.negM, Dx.negG, Dx.tupM, Dx.lstM, Dx.frzM, Dx.asgM, Dx.asgT, Dx.setAll, Dx.bnd_ret, Dx.bnd_fail, Dx.bnd_bnd, Dx.lift_val, Dx.lift_no, Dx.ev_0, Dx.ev_1, Dx.ev_2, Dx.ev_3, Dx.ev_4, Dx.ev_5, Dx.ev_6, Dx.ev_7, Dx.ev_8, Dx.ev_9, Dx.ev_10, Dx.ev_11, Dx.ev_12, Dx.ev_13, Dx.ev_14, Dx.ev_15, Dx.ev_16, Dx.ev_17, Dx.ev_18, Dx.ev_19, Dx.ev_20, Dx.ev_21, Dx.ev_22, Dx.ev_23, Dx.ev_24, Dx.ev_25, Dx.pk_0, Dx.pk_1, Dx.pk_2, Dx.pk_3, Dx.pk_4, Dx.pk_5, Dx.pk_6, Dx.pk_7, Dx.pk_8, Dx.pk_9, Dx.pk_10, Dx.pk_11, Dx.pk_12, Dx.pk_13, Dx.pk_14, Dx.pk_15, Dx.pk_16, Dx.pk_17, Dx.pk_18, Dx.pk_19, Dx.pk_20, Dx.pk_21, Dx.pk_22, Dx.pk_23, Dx.pk_24, Dx.pk_25, Dx.st_0, Dx.st_1, Dx.st_2, Dx.st_3, Dx.st_4, Dx.st_5, Dx.st_6, Dx.st_7, Dx.st_8, Dx.st_9, Dx.st_10, Dx.st_11, Dx.st_12, Dx.st_13, Dx.st_14, Dx.st_15, Dx.st_16, Dx.st_17, Dx.st_18, Dx.st_19, Dx.st_20, Dx.st_21, Dx.st_22, Dx.st_23, Dx.st_24, Dx.st_25, Dx.ow_0, Dx.ow_1, Dx.ow_2, Dx.ow_3, Dx.ow_4, Dx.ow_5, Dx.ow_6, Dx.ow_7, Dx.ow_8, Dx.ow_9, Dx.ow_10, Dx.ow_11, Dx.ow_12, Dx.ow_13, Dx.ow_14, Dx.ow_15, Dx.ow_16, Dx.ow_17, Dx.ow_18, Dx.ow_19, Dx.ow_20, Dx.ow_21, Dx.ow_22, Dx.ow_23, Dx.ow_24, Dx.ow_25, Dx.pk_o, Dx.gam0, Dx.ixD_t, Dx.ixD_l, Dx.atI_0, Dx.atI_1, Dx.atI_2, Dx.atI_3, Dx.atI_4, Dx.asB_b, Dx.addD_i, Dx.subD_i, Dx.addD_t, Dx.addD_l, Dx.mulD_l, Dx.fdivD_s, Dx.modD_p, Dx.cmpI_i, Dx.absG_i, Dx.szOk_le, Dx.tupG, Dx.yesM, Dx.seqI, Dx.seqG_t, Dx.seqG_l, Dx.seqZ_t, Dx.seqZ_l, Dx.starM, Dx.compL_nil, Dx.compL_cons, Dx.all_2, Dx.any_2, Dx.neD_i, Dx.eqD_i, Dx.neD_b, Dx.cut_from1, Dx.cut_to, Dx.sliceM, Dx.noBd, Dx.someBd, Dx.asI, Dx.sliceD_t, Dx.sliceD_l, Dx.zipL3_ints, Dx.zipL2_ints, Dx.zip3G_t, Dx.zip2G_t, Dx.zip2G_tl, Dx.loopM_map, Dx.biM, Dx.compM, Dx.compL_map, Dx.compI_ret, Dx.wipeG, Dx.rng2_ok, Dx.rng1_ok, Dx.seqRng_ok, Dx.rngG, Dx.any_ok, Dx.all_ok, Dx.filter_yes, Dx.rngI_length, Dx.ite_or, Dx.ite_and, Dx.ite_orB, Dx.ite_andB, Dx.wp_bnd_iff, Dx.wp_ret_iff, Dx.wp_ite_iff, Dx.wp_g0, Dx.wp_g1, Dx.wp_g2, Dx.wp_s0, Dx.wp_s2, Dx.intG_i, Dx.intG_b, Dx.powD_3, big]
    exact hq3.mono (by omega)
  have lB : inB (-200) 200 lev := fun i hi => by
    have z := maxI_le (List.mem_map_of_mem (f := ab) hi)
    unfold ab at z big
    split at z <;> omega
  have hdue : compI (fun g => bnd (m__law_lets [vt s lo hi, fD g, .tup (r7.map .int), .tup (lev.map .int)]) fun d => lift (asB d)) (fun g => ret (fD g)) (faults a b) = ret ((mayS s lo hi a b r7 lev).map fD) := by
    rw [compI_congr (t' := fun g => ret ((steps r7 lev).all fun t => fitB s lo hi g t)) (e' := fun g => ret (fD g)) fun g hg => ⟨by rw [lets_ok hv (faults_ok hb hg) (by omega), bnd_ret, asB_b, lift_val], rfl⟩, compI_ret]
    rfl
  have sok : SOk a b r7 lev := ⟨by omega, ll, rB, lB⟩
  have mok := may_be_ok hv hb sok
  unfold sn at mok
  simp (config := {maxSteps := 3000000}) (disch := omega) [Dx.fnM_ev', Dx.seqM_ev, Dx.seqK_next, Dx.seqK_ret, Dx.seqK_brk, Dx.seqK_cont, Dx.finM_ret, Dx.finM_next, Dx.retM, Dx.setM, Dx.setN, Dx.parM, Dx.oldM, Dx.newM, Dx.Val.slot, Dx.appM, Dx.plnM, Dx.ifM, Dx.exprM, Dx.skipM, Dx.failM, Dx.brkM, Dx.contM, Dx.con, Dx.callM, Dx.consM, Dx.nilM, Dx.op2, Dx.ts2, Dx.tsB, Dx.tNotM, Dx.tAndM, Dx.tOrM, Dx.andM, Dx.orM, Dx.notM, Dx.iteM, Dx.isiM, Dx.isiD, Dx.tyD, Dx.isaB, Dx.chB, Dx.blM, Dx.lenG, Dx.negM, Dx.negG, Dx.tupM, Dx.lstM, Dx.frzM, Dx.asgM, Dx.asgT, Dx.setAll, Dx.bnd_ret, Dx.bnd_fail, Dx.bnd_bnd, Dx.lift_val, Dx.lift_no, Dx.ev_0, Dx.ev_1, Dx.ev_2, Dx.ev_3, Dx.ev_4, Dx.ev_5, Dx.ev_6, Dx.ev_7, Dx.ev_8, Dx.ev_9, Dx.ev_10, Dx.ev_11, Dx.ev_12, Dx.ev_13, Dx.ev_14, Dx.ev_15, Dx.ev_16, Dx.ev_17, Dx.ev_18, Dx.ev_19, Dx.ev_20, Dx.ev_21, Dx.ev_22, Dx.ev_23, Dx.ev_24, Dx.ev_25, Dx.pk_0, Dx.pk_1, Dx.pk_2, Dx.pk_3, Dx.pk_4, Dx.pk_5, Dx.pk_6, Dx.pk_7, Dx.pk_8, Dx.pk_9, Dx.pk_10, Dx.pk_11, Dx.pk_12, Dx.pk_13, Dx.pk_14, Dx.pk_15, Dx.pk_16, Dx.pk_17, Dx.pk_18, Dx.pk_19, Dx.pk_20, Dx.pk_21, Dx.pk_22, Dx.pk_23, Dx.pk_24, Dx.pk_25, Dx.st_0, Dx.st_1, Dx.st_2, Dx.st_3, Dx.st_4, Dx.st_5, Dx.st_6, Dx.st_7, Dx.st_8, Dx.st_9, Dx.st_10, Dx.st_11, Dx.st_12, Dx.st_13, Dx.st_14, Dx.st_15, Dx.st_16, Dx.st_17, Dx.st_18, Dx.st_19, Dx.st_20, Dx.st_21, Dx.st_22, Dx.st_23, Dx.st_24, Dx.st_25, Dx.ow_0, Dx.ow_1, Dx.ow_2, Dx.ow_3, Dx.ow_4, Dx.ow_5, Dx.ow_6, Dx.ow_7, Dx.ow_8, Dx.ow_9, Dx.ow_10, Dx.ow_11, Dx.ow_12, Dx.ow_13, Dx.ow_14, Dx.ow_15, Dx.ow_16, Dx.ow_17, Dx.ow_18, Dx.ow_19, Dx.ow_20, Dx.ow_21, Dx.ow_22, Dx.ow_23, Dx.ow_24, Dx.ow_25, Dx.pk_o, Dx.gam0, Dx.ixD_t, Dx.ixD_l, Dx.atI_0, Dx.atI_1, Dx.atI_2, Dx.atI_3, Dx.atI_4, Dx.asB_b, Dx.addD_i, Dx.subD_i, Dx.addD_t, Dx.addD_l, Dx.mulD_l, Dx.fdivD_s, Dx.modD_p, Dx.cmpI_i, Dx.absG_i, Dx.szOk_le, Dx.tupG, Dx.yesM, Dx.seqI, Dx.seqG_t, Dx.seqG_l, Dx.seqZ_t, Dx.seqZ_l, Dx.starM, Dx.compL_nil, Dx.compL_cons, Dx.all_2, Dx.any_2, Dx.neD_i, Dx.eqD_i, Dx.neD_b, Dx.cut_from1, Dx.cut_to, Dx.sliceM, Dx.noBd, Dx.someBd, Dx.asI, Dx.sliceD_t, Dx.sliceD_l, Dx.zipL3_ints, Dx.zipL2_ints, Dx.zip3G_t, Dx.zip2G_t, Dx.zip2G_tl, Dx.loopM_map, Dx.biM, Dx.compM, Dx.compL_map, Dx.compI_ret, Dx.wipeG, Dx.rng2_ok, Dx.rng1_ok, Dx.seqRng_ok, Dx.rngG, Dx.any_ok, Dx.all_ok, Dx.filter_yes, Dx.rngI_length, Dx.ite_or, Dx.ite_and, Dx.ite_orB, Dx.ite_andB, Dx.wp_bnd_iff, Dx.wp_ret_iff, Dx.wp_ite_iff, Dx.wp_g0, Dx.wp_g1, Dx.wp_g2, Dx.wp_s0, Dx.wp_s2, Dx.intG_i, Dx.intG_b, Dx.powD_3, big, hdue, mok]
  have fz : szOk (faults a b).length = true := szOk_le (by rw [faults_len]; omega)
  have st := steps_eq r7 lev
  have mo := mayS_ok (s := s) (lo := lo) (hi := hi) hb r7 lev
  have rp := repr_fs mo (mayS_len hb r7 lev)
  have zf : (r7.zip wea).map (·.1) = r7 := zip_fst _ _ (by omega)
  have wz : ∀ x ∈ r7.zip wea, lo ≤ x.2 ∧ x.2 ≤ hi := fun x hx => by
    obtain ⟨o, w⟩ := x
    exact wB _ (List.of_mem_zip hx).2
  have fm : f ∈ mayS s lo hi a b r7 lev := mem_may hf fun u hu => fit_lvs s lo hi f (r7.zip wea) 0 wz u (by rw [zf, ← hlev]; exact hu)
  have ni : notInD (fD f) (.tup ((mayS s lo hi a b r7 lev).map fD)) = some (.bl false) := by
    rw [notin_f fo mo, decide_eq_true fm]
    rfl
  have lt7 := ltold_ok hv hb (l := r7) (by omega)
  have hin : inD (.tup [.str "fine"]) (.tup ((mayS s lo hi a b r7 lev).map fD)) = some (.bl (decide (none ∈ mayS s lo hi a b r7 lev))) := in_f (f := none) (fun n z => nomatch z) mo
  have nef : neD (.tup ((mayS s lo hi a b r7 lev).map fD)) (.tup [.tup [.str "fine"]]) = some (.bl (!decide (mayS s lo hi a b r7 lev = [none]))) := ne_fs (M := [none]) mo (fun f hf n z => by
    simp at hf
    rw [hf] at z
    cases z)
  have key1 : told (par s (hi - lo)) a b r7 = true → none ∈ mayS s lo hi a b r7 lev → mayS s lo hi a b r7 lev = [none] := fun h1 h2 => told_fine h1 ll h2
  have neq : neD (.lst ((mayS s lo hi a b r7 lev).map fD)) (.lst ((mayS s lo hi a b r7 lev).map fD)) = some (.bl false) := by
    rw [ne_fl mo mo, decide_eq_true rfl]
    rfl
  have stB : ∀ t ∈ steps r7 lev, (a ≤ t.1 ∧ t.1 ≤ b) ∧ (-200 ≤ t.2.1 ∧ t.2.1 ≤ 200) ∧ (-200 ≤ t.2.2 ∧ t.2.2 ≤ 200) := fun t ht => by
    obtain ⟨t1, t2, t3⟩ := t
    unfold steps z3 at ht
    have h1 := List.of_mem_zip ht
    have h2 := List.of_mem_zip h1.2
    exact ⟨rB _ h1.1, lB _ h2.1, lB _ (List.mem_of_mem_tail h2.2)⟩
  obtain ⟨y5, y9, y14, y15, lp1⟩ := loop1_ok hv hb r7 (.val (fD f)) (.val (.lst (wea.map .int))) (.val (.tup (lev.map .int))) (.val (.lst ((mayS s lo hi a b r7 lev).map fD))) .none (.val (.tup ((mayS s lo hi a b r7 lev).map fD))) .none .none (steps r7 lev) (faults a b) .none .none .none .none stB (fun g hg => hg) (by rw [faults_len]; omega)
  have me : ((faults a b).filter fun g => (steps r7 lev).all fun t => fitB s lo hi g t) = mayS s lo hi a b r7 lev := rfl
  rw [me] at lp1
  unfold G18 at lp1
  have c2 : ∀ l : List D, cutD l none (some 2) = l.take 2 := fun l => cut_to l 2
  have pk := fun x y => lparts_ok hv x y
  obtain ⟨ln2, eln⟩ : ∃ l, l = ((rngI a (b + 1 - a).toNat).filter fun t => !(r7.any fun one => par s (hi - lo) one t)).take 2 := ⟨_, rfl⟩
  have lnm : ∀ t ∈ ln2, (a ≤ t ∧ t ≤ b) ∧ ∀ one ∈ r7, par s (hi - lo) one t = false := fun t ht => by
    rw [eln] at ht
    obtain ⟨h1, h2⟩ := List.mem_filter.mp (List.mem_of_mem_take ht)
    have h3 := rngI_mem.mp h1
    refine ⟨by omega, fun one ho => ?_⟩
    cases z : par s (hi - lo) one t with
    | false => rfl
    | true =>
      rw [List.any_eq_true.mpr ⟨one, ho, z⟩] at h2
      cases h2
  have t2 : List.take 2 (((rngI a (b + 1 - a).toNat).filter fun t => !(r7.any fun one => par s (hi - lo) one t)).map D.int) = ln2.map D.int := by rw [eln]; exact List.map_take.symm
  have lnr : ((rngI a (b + 1 - a).toNat).filter fun t => !(r7.any fun one => par s (hi - lo) one t)).length ≤ 16777216 := by
    have := List.length_filter_le (fun t => !(r7.any fun one => par s (hi - lo) one t)) (rngI a (b + 1 - a).toNat)
    rw [rngI_length] at this
    omega
  obtain ⟨Γ', ⟨z5, z8, z9, z15, z17, rfl⟩, lp2⟩ := loopI_each (g := fun (t : Int) (Γ : Gam) => lb__law_is_course_right_2 (List.set Γ 5 (.val (.int t))))
    (fun Γ => ∃ x5 x8 x9 x15 x17 : Slot, Γ = G18 s lo hi a b r7 x5 (.val (fD f)) (.val (.lst (wea.map .int))) x8 x9 (.val (.lst ((mayS s lo hi a b r7 lev).map fD))) .none (.val (.tup ((mayS s lo hi a b r7 lev).map fD))) (.val (.lst ((mayS s lo hi a b r7 lev).map fD))) y14 x15
      (.val (.lst (((rngI a (b + 1 - a).toNat).filter fun t => !(r7.any fun one => par s (hi - lo) one t)).map .int))) x17) ln2
    (fun t ht Γ ⟨x5, x8, x9, x15, x17, hΓ⟩ => by
      subst hΓ
      obtain ⟨⟨t1, t2⟩, t3⟩ := lnm t ht
      obtain ⟨y8, y9, y15, y17, e⟩ := loop2_ok hv hb rl rB t1 t2 t3 (.val (fD f)) (.val (.lst (wea.map .int))) x8 x9 (.val (.lst ((mayS s lo hi a b r7 lev).map fD))) .none (.val (.tup ((mayS s lo hi a b r7 lev).map fD))) (.val (.lst ((mayS s lo hi a b r7 lev).map fD))) y14 x15
        (.val (.lst (((rngI a (b + 1 - a).toNat).filter fun t => !(r7.any fun one => par s (hi - lo) one t)).map .int))) x17
      exact ⟨_, ⟨.val (.int t), y8, y9, y15, y17, rfl⟩, e⟩) _ ⟨y5, .val (.tup (lev.map .int)), y9, y15, .none, rfl⟩
  unfold G18 at lp2
  have fin : Okp (n + 100) q3 := hq3.mono (by omega)
  simp (config := {maxSteps := 3000000}) (disch := omega) [Dx.fnM_ev', Dx.seqM_ev, Dx.seqK_next, Dx.seqK_ret, Dx.seqK_brk, Dx.seqK_cont, Dx.finM_ret, Dx.finM_next, Dx.retM, Dx.setM, Dx.setN, Dx.parM, Dx.oldM, Dx.newM, Dx.Val.slot, Dx.appM, Dx.plnM, Dx.ifM, Dx.exprM, Dx.skipM, Dx.failM, Dx.brkM, Dx.contM, Dx.con, Dx.callM, Dx.consM, Dx.nilM, Dx.op2, Dx.ts2, Dx.tsB, Dx.tNotM, Dx.tAndM, Dx.tOrM, Dx.andM, Dx.orM, Dx.notM, Dx.iteM, Dx.isiM, Dx.isiD, Dx.tyD, Dx.isaB, Dx.chB, Dx.blM, Dx.lenG, Dx.negM, Dx.negG, Dx.tupM, Dx.lstM, Dx.frzM, Dx.asgM, Dx.asgT, Dx.setAll, Dx.bnd_ret, Dx.bnd_fail, Dx.bnd_bnd, Dx.lift_val, Dx.lift_no, Dx.ev_0, Dx.ev_1, Dx.ev_2, Dx.ev_3, Dx.ev_4, Dx.ev_5, Dx.ev_6, Dx.ev_7, Dx.ev_8, Dx.ev_9, Dx.ev_10, Dx.ev_11, Dx.ev_12, Dx.ev_13, Dx.ev_14, Dx.ev_15, Dx.ev_16, Dx.ev_17, Dx.ev_18, Dx.ev_19, Dx.ev_20, Dx.ev_21, Dx.ev_22, Dx.ev_23, Dx.ev_24, Dx.ev_25, Dx.pk_0, Dx.pk_1, Dx.pk_2, Dx.pk_3, Dx.pk_4, Dx.pk_5, Dx.pk_6, Dx.pk_7, Dx.pk_8, Dx.pk_9, Dx.pk_10, Dx.pk_11, Dx.pk_12, Dx.pk_13, Dx.pk_14, Dx.pk_15, Dx.pk_16, Dx.pk_17, Dx.pk_18, Dx.pk_19, Dx.pk_20, Dx.pk_21, Dx.pk_22, Dx.pk_23, Dx.pk_24, Dx.pk_25, Dx.st_0, Dx.st_1, Dx.st_2, Dx.st_3, Dx.st_4, Dx.st_5, Dx.st_6, Dx.st_7, Dx.st_8, Dx.st_9, Dx.st_10, Dx.st_11, Dx.st_12, Dx.st_13, Dx.st_14, Dx.st_15, Dx.st_16, Dx.st_17, Dx.st_18, Dx.st_19, Dx.st_20, Dx.st_21, Dx.st_22, Dx.st_23, Dx.st_24, Dx.st_25, Dx.ow_0, Dx.ow_1, Dx.ow_2, Dx.ow_3, Dx.ow_4, Dx.ow_5, Dx.ow_6, Dx.ow_7, Dx.ow_8, Dx.ow_9, Dx.ow_10, Dx.ow_11, Dx.ow_12, Dx.ow_13, Dx.ow_14, Dx.ow_15, Dx.ow_16, Dx.ow_17, Dx.ow_18, Dx.ow_19, Dx.ow_20, Dx.ow_21, Dx.ow_22, Dx.ow_23, Dx.ow_24, Dx.ow_25, Dx.pk_o, Dx.gam0, Dx.ixD_t, Dx.ixD_l, Dx.atI_0, Dx.atI_1, Dx.atI_2, Dx.atI_3, Dx.atI_4, Dx.asB_b, Dx.addD_i, Dx.subD_i, Dx.addD_t, Dx.addD_l, Dx.mulD_l, Dx.fdivD_s, Dx.modD_p, Dx.cmpI_i, Dx.absG_i, Dx.szOk_le, Dx.tupG, Dx.yesM, Dx.seqI, Dx.seqG_t, Dx.seqG_l, Dx.seqZ_t, Dx.seqZ_l, Dx.starM, Dx.compL_nil, Dx.compL_cons, Dx.all_2, Dx.any_2, Dx.neD_i, Dx.eqD_i, Dx.neD_b, Dx.cut_from1, Dx.cut_to, Dx.sliceM, Dx.noBd, Dx.someBd, Dx.asI, Dx.sliceD_t, Dx.sliceD_l, Dx.zipL3_ints, Dx.zipL2_ints, Dx.zip3G_t, Dx.zip2G_t, Dx.zip2G_tl, Dx.loopM_map, Dx.biM, Dx.compM, Dx.compL_map, Dx.compI_ret, Dx.wipeG, Dx.rng2_ok, Dx.rng1_ok, Dx.seqRng_ok, Dx.rngG, Dx.any_ok, Dx.all_ok, Dx.filter_yes, Dx.rngI_length, Dx.ite_or, Dx.ite_and, Dx.ite_orB, Dx.ite_andB, Dx.wp_bnd_iff, Dx.wp_ret_iff, Dx.wp_ite_iff, Dx.wp_g0, Dx.wp_g1, Dx.wp_g2, Dx.wp_s0, Dx.wp_s2, Dx.intG_i, Dx.intG_b, Dx.powD_3, v0, v1, v2, v3, v4, p0, p1, fz, rp, neD_str, ni, lt7, hin, nef, forM', st, lp1, neq, pk, c2, t2, lp2]
  trace_state
  split
  · rename_i h1
    split
    · rename_i h2
      exact ⟨key1 h1 h2, fin⟩
    · exact fin
  · exact fin
end K68

set_option Elab.async false
set_option linter.all false
set_option maxRecDepth 100000
set_option maxHeartbeats 4000000
namespace K68
open PySem PySem.Spec PyProof.Rows L2 Dx
theorem fnd_in {P : Int → Int → Bool} {a b : Int} {d : D} (h : fnd P a b = some d) : ∃ x ∈ rg a b, ∃ y ∈ rg a b, d = rowD x y := by
  unfold fnd at h
  obtain ⟨x, mx, hx⟩ := List.exists_of_findSome?_eq_some h
  unfold fndIn at hx
  obtain ⟨y, my, hy⟩ := List.exists_of_findSome?_eq_some hx
  by_cases q : ((rg a b).all fun t => P x t || P y t) = true
  · rw [if_pos q] at hy
    exact ⟨x, mx, y, my, (Option.some.inj hy).symm⟩
  · rw [if_neg q] at hy
    cases hy
theorem nice_row {x y : Int} (hx : x.natAbs ≤ 50) (hy : y.natAbs ≤ 50) : Nice 2 1000 (rowD x y) := (nice_tup (l := [.str "row", pr x y]) (k := 1) (w := 200) fun d hd => by
  simp at hd
  rcases hd with rfl | rfl
  · exact (nice_str (w := 100) (by decide +kernel) (by decide +kernel)).mono (by decide) (by decide)
  · exact (nice_tup (l := [.int x, .int y]) (nice_ints (l := [x, y]) (k := 50) (by decide) fun i hi => by
      simp at hi
      rcases hi with rfl | rfl <;> assumption)).mono (by decide) (by simp)).mono (by decide) (by simp)
theorem nice_lrow {P : Int → Int → Bool} {a b : Int} (g : BOk a b) : Nice 2 1000 (lrow P a b) := by
  unfold lrow
  cases hl : lone P a b with
  | cons n t =>
    have hn := lone_abs g (show n ∈ lone P a b by rw [hl]; exact List.mem_cons_self ..)
    exact (nice_tup (l := [.str "never", .int n]) (k := 0) (w := 90) fun d hd => by
      simp at hd
      rcases hd with rfl | rfl
      · exact nice_str (by decide +kernel) (by decide +kernel)
      · exact (nice_int (by omega)).mono (by decide) (by decide)).mono (by decide) (by simp)
  | nil =>
    cases hf : fnd P a b with
    | some d =>
      obtain ⟨x, mx, y, my, rfl⟩ := fnd_in hf
      exact nice_row (rg_abs g mx) (rg_abs g my)
    | none =>
      obtain ⟨g1, g2, g3⟩ := g
      exact nice_row (by omega) (by omega)
theorem par_scale {s lo hi t : Int} (ht : t = 2 ∨ t = 3) : par (t * s) (t * hi - t * lo) = par s (hi - lo) := by
  funext x y
  unfold par ab
  rw [decide_eq_decide]
  have e : t * s * (x - y) = t * (s * (x - y)) := Int.mul_assoc ..
  rw [e]
  generalize s * (x - y) = z
  rcases ht with rfl | rfl <;> split <;> split <;> omega
theorem right_ok {n : Int} {p : Pt} (hp : Okp n p) (hn : n < 2 ^ 37) : Wp (m__law_is_right [.pot]) p fun d q => d = .bl true ∧ Okp (n + 300) q := by
  simp (config := {maxSteps := 3000000}) (disch := omega) [Dx.fnM_ev', Dx.seqM_ev, Dx.seqK_next, Dx.seqK_ret, Dx.seqK_brk, Dx.seqK_cont, Dx.finM_ret, Dx.finM_next, Dx.retM, Dx.setM, Dx.setN, Dx.parM, Dx.oldM, Dx.newM, Dx.Val.slot, Dx.appM, Dx.plnM, Dx.ifM, Dx.exprM, Dx.skipM, Dx.failM, Dx.brkM, Dx.contM, Dx.con, Dx.callM, Dx.consM, Dx.nilM, Dx.op2, Dx.ts2, Dx.tsB, Dx.tNotM, Dx.tAndM, Dx.tOrM, Dx.andM, Dx.orM, Dx.notM, Dx.iteM, Dx.isiM, Dx.isiD, Dx.tyD, Dx.isaB, Dx.chB, Dx.blM, Dx.lenG, Dx.negM, Dx.negG, Dx.tupM, Dx.lstM, Dx.frzM, Dx.asgM, Dx.asgT, Dx.setAll, Dx.bnd_ret, Dx.bnd_fail, Dx.bnd_bnd, Dx.lift_val, Dx.lift_no, Dx.ev_0, Dx.ev_1, Dx.ev_2, Dx.ev_3, Dx.ev_4, Dx.ev_5, Dx.ev_6, Dx.ev_7, Dx.ev_8, Dx.ev_9, Dx.ev_10, Dx.ev_11, Dx.ev_12, Dx.ev_13, Dx.ev_14, Dx.ev_15, Dx.ev_16, Dx.ev_17, Dx.ev_18, Dx.ev_19, Dx.ev_20, Dx.ev_21, Dx.ev_22, Dx.ev_23, Dx.ev_24, Dx.ev_25, Dx.pk_0, Dx.pk_1, Dx.pk_2, Dx.pk_3, Dx.pk_4, Dx.pk_5, Dx.pk_6, Dx.pk_7, Dx.pk_8, Dx.pk_9, Dx.pk_10, Dx.pk_11, Dx.pk_12, Dx.pk_13, Dx.pk_14, Dx.pk_15, Dx.pk_16, Dx.pk_17, Dx.pk_18, Dx.pk_19, Dx.pk_20, Dx.pk_21, Dx.pk_22, Dx.pk_23, Dx.pk_24, Dx.pk_25, Dx.st_0, Dx.st_1, Dx.st_2, Dx.st_3, Dx.st_4, Dx.st_5, Dx.st_6, Dx.st_7, Dx.st_8, Dx.st_9, Dx.st_10, Dx.st_11, Dx.st_12, Dx.st_13, Dx.st_14, Dx.st_15, Dx.st_16, Dx.st_17, Dx.st_18, Dx.st_19, Dx.st_20, Dx.st_21, Dx.st_22, Dx.st_23, Dx.st_24, Dx.st_25, Dx.ow_0, Dx.ow_1, Dx.ow_2, Dx.ow_3, Dx.ow_4, Dx.ow_5, Dx.ow_6, Dx.ow_7, Dx.ow_8, Dx.ow_9, Dx.ow_10, Dx.ow_11, Dx.ow_12, Dx.ow_13, Dx.ow_14, Dx.ow_15, Dx.ow_16, Dx.ow_17, Dx.ow_18, Dx.ow_19, Dx.ow_20, Dx.ow_21, Dx.ow_22, Dx.ow_23, Dx.ow_24, Dx.ow_25, Dx.pk_o, Dx.gam0, Dx.ixD_t, Dx.ixD_l, Dx.atI_0, Dx.atI_1, Dx.atI_2, Dx.atI_3, Dx.atI_4, Dx.asB_b, Dx.addD_i, Dx.subD_i, Dx.addD_t, Dx.addD_l, Dx.mulD_l, Dx.fdivD_s, Dx.modD_p, Dx.cmpI_i, Dx.absG_i, Dx.szOk_le, Dx.tupG, Dx.yesM, Dx.seqI, Dx.seqG_t, Dx.seqG_l, Dx.seqZ_t, Dx.seqZ_l, Dx.starM, Dx.compL_nil, Dx.compL_cons, Dx.all_2, Dx.any_2, Dx.neD_i, Dx.eqD_i, Dx.neD_b, Dx.cut_from1, Dx.cut_to, Dx.sliceM, Dx.noBd, Dx.someBd, Dx.asI, Dx.sliceD_t, Dx.sliceD_l, Dx.zipL3_ints, Dx.zipL2_ints, Dx.zip3G_t, Dx.zip2G_t, Dx.zip2G_tl, Dx.loopM_map, Dx.biM, Dx.compM, Dx.compL_map, Dx.compI_ret, Dx.wipeG, Dx.rng2_ok, Dx.rng1_ok, Dx.seqRng_ok, Dx.rngG, Dx.any_ok, Dx.all_ok, Dx.filter_yes, Dx.rngI_length, Dx.ite_or, Dx.ite_and, Dx.ite_orB, Dx.ite_andB, Dx.wp_bnd_iff, Dx.wp_ret_iff, Dx.wp_ite_iff, Dx.wp_g0, Dx.wp_g1, Dx.wp_g2, Dx.wp_s0, Dx.wp_s2, Dx.intG_i, Dx.intG_b, Dx.powD_3, m__law_is_right]
  refine wp_mono (drawn_ok hp (by omega)) ?_
  rintro _ q1 ⟨s, lo, hi, a, b, rfl, h, hq1⟩
  try simp (config := {maxSteps := 3000000}) (disch := omega) [Dx.fnM_ev', Dx.seqM_ev, Dx.seqK_next, Dx.seqK_ret, Dx.seqK_brk, Dx.seqK_cont, Dx.finM_ret, Dx.finM_next, Dx.retM, Dx.setM, Dx.setN, Dx.parM, Dx.oldM, Dx.newM, Dx.Val.slot, Dx.appM, Dx.plnM, Dx.ifM, Dx.exprM, Dx.skipM, Dx.failM, Dx.brkM, Dx.contM, Dx.con, Dx.callM, Dx.consM, Dx.nilM, Dx.op2, Dx.ts2, Dx.tsB, Dx.tNotM, Dx.tAndM, Dx.tOrM, Dx.andM, Dx.orM, Dx.notM, Dx.iteM, Dx.isiM, Dx.isiD, Dx.tyD, Dx.isaB, Dx.chB, Dx.blM, Dx.lenG, Dx.negM, Dx.negG, Dx.tupM, Dx.lstM, Dx.frzM, Dx.asgM, Dx.asgT, Dx.setAll, Dx.bnd_ret, Dx.bnd_fail, Dx.bnd_bnd, Dx.lift_val, Dx.lift_no, Dx.ev_0, Dx.ev_1, Dx.ev_2, Dx.ev_3, Dx.ev_4, Dx.ev_5, Dx.ev_6, Dx.ev_7, Dx.ev_8, Dx.ev_9, Dx.ev_10, Dx.ev_11, Dx.ev_12, Dx.ev_13, Dx.ev_14, Dx.ev_15, Dx.ev_16, Dx.ev_17, Dx.ev_18, Dx.ev_19, Dx.ev_20, Dx.ev_21, Dx.ev_22, Dx.ev_23, Dx.ev_24, Dx.ev_25, Dx.pk_0, Dx.pk_1, Dx.pk_2, Dx.pk_3, Dx.pk_4, Dx.pk_5, Dx.pk_6, Dx.pk_7, Dx.pk_8, Dx.pk_9, Dx.pk_10, Dx.pk_11, Dx.pk_12, Dx.pk_13, Dx.pk_14, Dx.pk_15, Dx.pk_16, Dx.pk_17, Dx.pk_18, Dx.pk_19, Dx.pk_20, Dx.pk_21, Dx.pk_22, Dx.pk_23, Dx.pk_24, Dx.pk_25, Dx.st_0, Dx.st_1, Dx.st_2, Dx.st_3, Dx.st_4, Dx.st_5, Dx.st_6, Dx.st_7, Dx.st_8, Dx.st_9, Dx.st_10, Dx.st_11, Dx.st_12, Dx.st_13, Dx.st_14, Dx.st_15, Dx.st_16, Dx.st_17, Dx.st_18, Dx.st_19, Dx.st_20, Dx.st_21, Dx.st_22, Dx.st_23, Dx.st_24, Dx.st_25, Dx.ow_0, Dx.ow_1, Dx.ow_2, Dx.ow_3, Dx.ow_4, Dx.ow_5, Dx.ow_6, Dx.ow_7, Dx.ow_8, Dx.ow_9, Dx.ow_10, Dx.ow_11, Dx.ow_12, Dx.ow_13, Dx.ow_14, Dx.ow_15, Dx.ow_16, Dx.ow_17, Dx.ow_18, Dx.ow_19, Dx.ow_20, Dx.ow_21, Dx.ow_22, Dx.ow_23, Dx.ow_24, Dx.ow_25, Dx.pk_o, Dx.gam0, Dx.ixD_t, Dx.ixD_l, Dx.atI_0, Dx.atI_1, Dx.atI_2, Dx.atI_3, Dx.atI_4, Dx.asB_b, Dx.addD_i, Dx.subD_i, Dx.addD_t, Dx.addD_l, Dx.mulD_l, Dx.fdivD_s, Dx.modD_p, Dx.cmpI_i, Dx.absG_i, Dx.szOk_le, Dx.tupG, Dx.yesM, Dx.seqI, Dx.seqG_t, Dx.seqG_l, Dx.seqZ_t, Dx.seqZ_l, Dx.starM, Dx.compL_nil, Dx.compL_cons, Dx.all_2, Dx.any_2, Dx.neD_i, Dx.eqD_i, Dx.neD_b, Dx.cut_from1, Dx.cut_to, Dx.sliceM, Dx.noBd, Dx.someBd, Dx.asI, Dx.sliceD_t, Dx.sliceD_l, Dx.zipL3_ints, Dx.zipL2_ints, Dx.zip3G_t, Dx.zip2G_t, Dx.zip2G_tl, Dx.loopM_map, Dx.biM, Dx.compM, Dx.compL_map, Dx.compI_ret, Dx.wipeG, Dx.rng2_ok, Dx.rng1_ok, Dx.seqRng_ok, Dx.rngG, Dx.any_ok, Dx.all_ok, Dx.filter_yes, Dx.rngI_length, Dx.ite_or, Dx.ite_and, Dx.ite_orB, Dx.ite_andB, Dx.wp_bnd_iff, Dx.wp_ret_iff, Dx.wp_ite_iff, Dx.wp_g0, Dx.wp_g1, Dx.wp_g2, Dx.wp_s0, Dx.wp_s2, Dx.intG_i, Dx.intG_b, Dx.powD_3]
  refine wp_mono (take_ok _ q1 12 hq1 (by omega) (by decide) (by decide)) ?_
  rintro _ q2 ⟨k, rfl, k0, k1, hq2⟩
  simp (config := {maxSteps := 3000000}) (disch := omega) [Dx.fnM_ev', Dx.seqM_ev, Dx.seqK_next, Dx.seqK_ret, Dx.seqK_brk, Dx.seqK_cont, Dx.finM_ret, Dx.finM_next, Dx.retM, Dx.setM, Dx.setN, Dx.parM, Dx.oldM, Dx.newM, Dx.Val.slot, Dx.appM, Dx.plnM, Dx.ifM, Dx.exprM, Dx.skipM, Dx.failM, Dx.brkM, Dx.contM, Dx.con, Dx.callM, Dx.consM, Dx.nilM, Dx.op2, Dx.ts2, Dx.tsB, Dx.tNotM, Dx.tAndM, Dx.tOrM, Dx.andM, Dx.orM, Dx.notM, Dx.iteM, Dx.isiM, Dx.isiD, Dx.tyD, Dx.isaB, Dx.chB, Dx.blM, Dx.lenG, Dx.negM, Dx.negG, Dx.tupM, Dx.lstM, Dx.frzM, Dx.asgM, Dx.asgT, Dx.setAll, Dx.bnd_ret, Dx.bnd_fail, Dx.bnd_bnd, Dx.lift_val, Dx.lift_no, Dx.ev_0, Dx.ev_1, Dx.ev_2, Dx.ev_3, Dx.ev_4, Dx.ev_5, Dx.ev_6, Dx.ev_7, Dx.ev_8, Dx.ev_9, Dx.ev_10, Dx.ev_11, Dx.ev_12, Dx.ev_13, Dx.ev_14, Dx.ev_15, Dx.ev_16, Dx.ev_17, Dx.ev_18, Dx.ev_19, Dx.ev_20, Dx.ev_21, Dx.ev_22, Dx.ev_23, Dx.ev_24, Dx.ev_25, Dx.pk_0, Dx.pk_1, Dx.pk_2, Dx.pk_3, Dx.pk_4, Dx.pk_5, Dx.pk_6, Dx.pk_7, Dx.pk_8, Dx.pk_9, Dx.pk_10, Dx.pk_11, Dx.pk_12, Dx.pk_13, Dx.pk_14, Dx.pk_15, Dx.pk_16, Dx.pk_17, Dx.pk_18, Dx.pk_19, Dx.pk_20, Dx.pk_21, Dx.pk_22, Dx.pk_23, Dx.pk_24, Dx.pk_25, Dx.st_0, Dx.st_1, Dx.st_2, Dx.st_3, Dx.st_4, Dx.st_5, Dx.st_6, Dx.st_7, Dx.st_8, Dx.st_9, Dx.st_10, Dx.st_11, Dx.st_12, Dx.st_13, Dx.st_14, Dx.st_15, Dx.st_16, Dx.st_17, Dx.st_18, Dx.st_19, Dx.st_20, Dx.st_21, Dx.st_22, Dx.st_23, Dx.st_24, Dx.st_25, Dx.ow_0, Dx.ow_1, Dx.ow_2, Dx.ow_3, Dx.ow_4, Dx.ow_5, Dx.ow_6, Dx.ow_7, Dx.ow_8, Dx.ow_9, Dx.ow_10, Dx.ow_11, Dx.ow_12, Dx.ow_13, Dx.ow_14, Dx.ow_15, Dx.ow_16, Dx.ow_17, Dx.ow_18, Dx.ow_19, Dx.ow_20, Dx.ow_21, Dx.ow_22, Dx.ow_23, Dx.ow_24, Dx.ow_25, Dx.pk_o, Dx.gam0, Dx.ixD_t, Dx.ixD_l, Dx.atI_0, Dx.atI_1, Dx.atI_2, Dx.atI_3, Dx.atI_4, Dx.asB_b, Dx.addD_i, Dx.subD_i, Dx.addD_t, Dx.addD_l, Dx.mulD_l, Dx.fdivD_s, Dx.modD_p, Dx.cmpI_i, Dx.absG_i, Dx.szOk_le, Dx.tupG, Dx.yesM, Dx.seqI, Dx.seqG_t, Dx.seqG_l, Dx.seqZ_t, Dx.seqZ_l, Dx.starM, Dx.compL_nil, Dx.compL_cons, Dx.all_2, Dx.any_2, Dx.neD_i, Dx.eqD_i, Dx.neD_b, Dx.cut_from1, Dx.cut_to, Dx.sliceM, Dx.noBd, Dx.someBd, Dx.asI, Dx.sliceD_t, Dx.sliceD_l, Dx.zipL3_ints, Dx.zipL2_ints, Dx.zip3G_t, Dx.zip2G_t, Dx.zip2G_tl, Dx.loopM_map, Dx.biM, Dx.compM, Dx.compL_map, Dx.compI_ret, Dx.wipeG, Dx.rng2_ok, Dx.rng1_ok, Dx.seqRng_ok, Dx.rngG, Dx.any_ok, Dx.all_ok, Dx.filter_yes, Dx.rngI_length, Dx.ite_or, Dx.ite_and, Dx.ite_orB, Dx.ite_andB, Dx.wp_bnd_iff, Dx.wp_ret_iff, Dx.wp_ite_iff, Dx.wp_g0, Dx.wp_g1, Dx.wp_g2, Dx.wp_s0, Dx.wp_s2, Dx.intG_i, Dx.intG_b, Dx.powD_3, v0, v1, v2, v3, v4, p0, p1]
  refine wp_mono (wp_ints (fun v => a ≤ v ∧ v ≤ b) (fun i n' q hq hn' => ?_) _ _ _ hq2 (by rw [rngI_length]; omega)) ?_
  · have b1 := h.a2
    have b2 := h.a1
    have b3 := h.b2
    simp (config := {maxSteps := 3000000}) (disch := omega) [Dx.fnM_ev', Dx.seqM_ev, Dx.seqK_next, Dx.seqK_ret, Dx.seqK_brk, Dx.seqK_cont, Dx.finM_ret, Dx.finM_next, Dx.retM, Dx.setM, Dx.setN, Dx.parM, Dx.oldM, Dx.newM, Dx.Val.slot, Dx.appM, Dx.plnM, Dx.ifM, Dx.exprM, Dx.skipM, Dx.failM, Dx.brkM, Dx.contM, Dx.con, Dx.callM, Dx.consM, Dx.nilM, Dx.op2, Dx.ts2, Dx.tsB, Dx.tNotM, Dx.tAndM, Dx.tOrM, Dx.andM, Dx.orM, Dx.notM, Dx.iteM, Dx.isiM, Dx.isiD, Dx.tyD, Dx.isaB, Dx.chB, Dx.blM, Dx.lenG, Dx.negM, Dx.negG, Dx.tupM, Dx.lstM, Dx.frzM, Dx.asgM, Dx.asgT, Dx.setAll, Dx.bnd_ret, Dx.bnd_fail, Dx.bnd_bnd, Dx.lift_val, Dx.lift_no, Dx.ev_0, Dx.ev_1, Dx.ev_2, Dx.ev_3, Dx.ev_4, Dx.ev_5, Dx.ev_6, Dx.ev_7, Dx.ev_8, Dx.ev_9, Dx.ev_10, Dx.ev_11, Dx.ev_12, Dx.ev_13, Dx.ev_14, Dx.ev_15, Dx.ev_16, Dx.ev_17, Dx.ev_18, Dx.ev_19, Dx.ev_20, Dx.ev_21, Dx.ev_22, Dx.ev_23, Dx.ev_24, Dx.ev_25, Dx.pk_0, Dx.pk_1, Dx.pk_2, Dx.pk_3, Dx.pk_4, Dx.pk_5, Dx.pk_6, Dx.pk_7, Dx.pk_8, Dx.pk_9, Dx.pk_10, Dx.pk_11, Dx.pk_12, Dx.pk_13, Dx.pk_14, Dx.pk_15, Dx.pk_16, Dx.pk_17, Dx.pk_18, Dx.pk_19, Dx.pk_20, Dx.pk_21, Dx.pk_22, Dx.pk_23, Dx.pk_24, Dx.pk_25, Dx.st_0, Dx.st_1, Dx.st_2, Dx.st_3, Dx.st_4, Dx.st_5, Dx.st_6, Dx.st_7, Dx.st_8, Dx.st_9, Dx.st_10, Dx.st_11, Dx.st_12, Dx.st_13, Dx.st_14, Dx.st_15, Dx.st_16, Dx.st_17, Dx.st_18, Dx.st_19, Dx.st_20, Dx.st_21, Dx.st_22, Dx.st_23, Dx.st_24, Dx.st_25, Dx.ow_0, Dx.ow_1, Dx.ow_2, Dx.ow_3, Dx.ow_4, Dx.ow_5, Dx.ow_6, Dx.ow_7, Dx.ow_8, Dx.ow_9, Dx.ow_10, Dx.ow_11, Dx.ow_12, Dx.ow_13, Dx.ow_14, Dx.ow_15, Dx.ow_16, Dx.ow_17, Dx.ow_18, Dx.ow_19, Dx.ow_20, Dx.ow_21, Dx.ow_22, Dx.ow_23, Dx.ow_24, Dx.ow_25, Dx.pk_o, Dx.gam0, Dx.ixD_t, Dx.ixD_l, Dx.atI_0, Dx.atI_1, Dx.atI_2, Dx.atI_3, Dx.atI_4, Dx.asB_b, Dx.addD_i, Dx.subD_i, Dx.addD_t, Dx.addD_l, Dx.mulD_l, Dx.fdivD_s, Dx.modD_p, Dx.cmpI_i, Dx.absG_i, Dx.szOk_le, Dx.tupG, Dx.yesM, Dx.seqI, Dx.seqG_t, Dx.seqG_l, Dx.seqZ_t, Dx.seqZ_l, Dx.starM, Dx.compL_nil, Dx.compL_cons, Dx.all_2, Dx.any_2, Dx.neD_i, Dx.eqD_i, Dx.neD_b, Dx.cut_from1, Dx.cut_to, Dx.sliceM, Dx.noBd, Dx.someBd, Dx.asI, Dx.sliceD_t, Dx.sliceD_l, Dx.zipL3_ints, Dx.zipL2_ints, Dx.zip3G_t, Dx.zip2G_t, Dx.zip2G_tl, Dx.loopM_map, Dx.biM, Dx.compM, Dx.compL_map, Dx.compI_ret, Dx.wipeG, Dx.rng2_ok, Dx.rng1_ok, Dx.seqRng_ok, Dx.rngG, Dx.any_ok, Dx.all_ok, Dx.filter_yes, Dx.rngI_length, Dx.ite_or, Dx.ite_and, Dx.ite_orB, Dx.ite_andB, Dx.wp_bnd_iff, Dx.wp_ret_iff, Dx.wp_ite_iff, Dx.wp_g0, Dx.wp_g1, Dx.wp_g2, Dx.wp_s0, Dx.wp_s2, Dx.intG_i, Dx.intG_b, Dx.powD_3, v0, v1, v2, v3, v4, p0, p1]
    refine wp_mono (take_ok _ q (b - a + 1) hq hn' (by omega) (by omega)) ?_
    rintro _ q' ⟨t, rfl, t0, t1, hq'⟩
    try simp (config := {maxSteps := 3000000}) (disch := omega) [Dx.fnM_ev', Dx.seqM_ev, Dx.seqK_next, Dx.seqK_ret, Dx.seqK_brk, Dx.seqK_cont, Dx.finM_ret, Dx.finM_next, Dx.retM, Dx.setM, Dx.setN, Dx.parM, Dx.oldM, Dx.newM, Dx.Val.slot, Dx.appM, Dx.plnM, Dx.ifM, Dx.exprM, Dx.skipM, Dx.failM, Dx.brkM, Dx.contM, Dx.con, Dx.callM, Dx.consM, Dx.nilM, Dx.op2, Dx.ts2, Dx.tsB, Dx.tNotM, Dx.tAndM, Dx.tOrM, Dx.andM, Dx.orM, Dx.notM, Dx.iteM, Dx.isiM, Dx.isiD, Dx.tyD, Dx.isaB, Dx.chB, Dx.blM, Dx.lenG, Dx.negM, Dx.negG, Dx.tupM, Dx.lstM, Dx.frzM, Dx.asgM, Dx.asgT, Dx.setAll, Dx.bnd_ret, Dx.bnd_fail, Dx.bnd_bnd, Dx.lift_val, Dx.lift_no, Dx.ev_0, Dx.ev_1, Dx.ev_2, Dx.ev_3, Dx.ev_4, Dx.ev_5, Dx.ev_6, Dx.ev_7, Dx.ev_8, Dx.ev_9, Dx.ev_10, Dx.ev_11, Dx.ev_12, Dx.ev_13, Dx.ev_14, Dx.ev_15, Dx.ev_16, Dx.ev_17, Dx.ev_18, Dx.ev_19, Dx.ev_20, Dx.ev_21, Dx.ev_22, Dx.ev_23, Dx.ev_24, Dx.ev_25, Dx.pk_0, Dx.pk_1, Dx.pk_2, Dx.pk_3, Dx.pk_4, Dx.pk_5, Dx.pk_6, Dx.pk_7, Dx.pk_8, Dx.pk_9, Dx.pk_10, Dx.pk_11, Dx.pk_12, Dx.pk_13, Dx.pk_14, Dx.pk_15, Dx.pk_16, Dx.pk_17, Dx.pk_18, Dx.pk_19, Dx.pk_20, Dx.pk_21, Dx.pk_22, Dx.pk_23, Dx.pk_24, Dx.pk_25, Dx.st_0, Dx.st_1, Dx.st_2, Dx.st_3, Dx.st_4, Dx.st_5, Dx.st_6, Dx.st_7, Dx.st_8, Dx.st_9, Dx.st_10, Dx.st_11, Dx.st_12, Dx.st_13, Dx.st_14, Dx.st_15, Dx.st_16, Dx.st_17, Dx.st_18, Dx.st_19, Dx.st_20, Dx.st_21, Dx.st_22, Dx.st_23, Dx.st_24, Dx.st_25, Dx.ow_0, Dx.ow_1, Dx.ow_2, Dx.ow_3, Dx.ow_4, Dx.ow_5, Dx.ow_6, Dx.ow_7, Dx.ow_8, Dx.ow_9, Dx.ow_10, Dx.ow_11, Dx.ow_12, Dx.ow_13, Dx.ow_14, Dx.ow_15, Dx.ow_16, Dx.ow_17, Dx.ow_18, Dx.ow_19, Dx.ow_20, Dx.ow_21, Dx.ow_22, Dx.ow_23, Dx.ow_24, Dx.ow_25, Dx.pk_o, Dx.gam0, Dx.ixD_t, Dx.ixD_l, Dx.atI_0, Dx.atI_1, Dx.atI_2, Dx.atI_3, Dx.atI_4, Dx.asB_b, Dx.addD_i, Dx.subD_i, Dx.addD_t, Dx.addD_l, Dx.mulD_l, Dx.fdivD_s, Dx.modD_p, Dx.cmpI_i, Dx.absG_i, Dx.szOk_le, Dx.tupG, Dx.yesM, Dx.seqI, Dx.seqG_t, Dx.seqG_l, Dx.seqZ_t, Dx.seqZ_l, Dx.starM, Dx.compL_nil, Dx.compL_cons, Dx.all_2, Dx.any_2, Dx.neD_i, Dx.eqD_i, Dx.neD_b, Dx.cut_from1, Dx.cut_to, Dx.sliceM, Dx.noBd, Dx.someBd, Dx.asI, Dx.sliceD_t, Dx.sliceD_l, Dx.zipL3_ints, Dx.zipL2_ints, Dx.zip3G_t, Dx.zip2G_t, Dx.zip2G_tl, Dx.loopM_map, Dx.biM, Dx.compM, Dx.compL_map, Dx.compI_ret, Dx.wipeG, Dx.rng2_ok, Dx.rng1_ok, Dx.seqRng_ok, Dx.rngG, Dx.any_ok, Dx.all_ok, Dx.filter_yes, Dx.rngI_length, Dx.ite_or, Dx.ite_and, Dx.ite_orB, Dx.ite_andB, Dx.wp_bnd_iff, Dx.wp_ret_iff, Dx.wp_ite_iff, Dx.wp_g0, Dx.wp_g1, Dx.wp_g2, Dx.wp_s0, Dx.wp_s2, Dx.intG_i, Dx.intG_b, Dx.powD_3]
    exact ⟨⟨by omega, by omega⟩, hq'⟩
  rintro _ q3 ⟨row, rfl, hr, rB, hq3⟩
  rw [rngI_length] at hr hq3
  have r0 : row ≠ [] := by
    intro z
    rw [z] at hr
    simp at hr
    omega
  try simp (config := {maxSteps := 3000000}) (disch := omega) [Dx.fnM_ev', Dx.seqM_ev, Dx.seqK_next, Dx.seqK_ret, Dx.seqK_brk, Dx.seqK_cont, Dx.finM_ret, Dx.finM_next, Dx.retM, Dx.setM, Dx.setN, Dx.parM, Dx.oldM, Dx.newM, Dx.Val.slot, Dx.appM, Dx.plnM, Dx.ifM, Dx.exprM, Dx.skipM, Dx.failM, Dx.brkM, Dx.contM, Dx.con, Dx.callM, Dx.consM, Dx.nilM, Dx.op2, Dx.ts2, Dx.tsB, Dx.tNotM, Dx.tAndM, Dx.tOrM, Dx.andM, Dx.orM, Dx.notM, Dx.iteM, Dx.isiM, Dx.isiD, Dx.tyD, Dx.isaB, Dx.chB, Dx.blM, Dx.lenG, Dx.negM, Dx.negG, Dx.tupM, Dx.lstM, Dx.frzM, Dx.asgM, Dx.asgT, Dx.setAll, Dx.bnd_ret, Dx.bnd_fail, Dx.bnd_bnd, Dx.lift_val, Dx.lift_no, Dx.ev_0, Dx.ev_1, Dx.ev_2, Dx.ev_3, Dx.ev_4, Dx.ev_5, Dx.ev_6, Dx.ev_7, Dx.ev_8, Dx.ev_9, Dx.ev_10, Dx.ev_11, Dx.ev_12, Dx.ev_13, Dx.ev_14, Dx.ev_15, Dx.ev_16, Dx.ev_17, Dx.ev_18, Dx.ev_19, Dx.ev_20, Dx.ev_21, Dx.ev_22, Dx.ev_23, Dx.ev_24, Dx.ev_25, Dx.pk_0, Dx.pk_1, Dx.pk_2, Dx.pk_3, Dx.pk_4, Dx.pk_5, Dx.pk_6, Dx.pk_7, Dx.pk_8, Dx.pk_9, Dx.pk_10, Dx.pk_11, Dx.pk_12, Dx.pk_13, Dx.pk_14, Dx.pk_15, Dx.pk_16, Dx.pk_17, Dx.pk_18, Dx.pk_19, Dx.pk_20, Dx.pk_21, Dx.pk_22, Dx.pk_23, Dx.pk_24, Dx.pk_25, Dx.st_0, Dx.st_1, Dx.st_2, Dx.st_3, Dx.st_4, Dx.st_5, Dx.st_6, Dx.st_7, Dx.st_8, Dx.st_9, Dx.st_10, Dx.st_11, Dx.st_12, Dx.st_13, Dx.st_14, Dx.st_15, Dx.st_16, Dx.st_17, Dx.st_18, Dx.st_19, Dx.st_20, Dx.st_21, Dx.st_22, Dx.st_23, Dx.st_24, Dx.st_25, Dx.ow_0, Dx.ow_1, Dx.ow_2, Dx.ow_3, Dx.ow_4, Dx.ow_5, Dx.ow_6, Dx.ow_7, Dx.ow_8, Dx.ow_9, Dx.ow_10, Dx.ow_11, Dx.ow_12, Dx.ow_13, Dx.ow_14, Dx.ow_15, Dx.ow_16, Dx.ow_17, Dx.ow_18, Dx.ow_19, Dx.ow_20, Dx.ow_21, Dx.ow_22, Dx.ow_23, Dx.ow_24, Dx.ow_25, Dx.pk_o, Dx.gam0, Dx.ixD_t, Dx.ixD_l, Dx.atI_0, Dx.atI_1, Dx.atI_2, Dx.atI_3, Dx.atI_4, Dx.asB_b, Dx.addD_i, Dx.subD_i, Dx.addD_t, Dx.addD_l, Dx.mulD_l, Dx.fdivD_s, Dx.modD_p, Dx.cmpI_i, Dx.absG_i, Dx.szOk_le, Dx.tupG, Dx.yesM, Dx.seqI, Dx.seqG_t, Dx.seqG_l, Dx.seqZ_t, Dx.seqZ_l, Dx.starM, Dx.compL_nil, Dx.compL_cons, Dx.all_2, Dx.any_2, Dx.neD_i, Dx.eqD_i, Dx.neD_b, Dx.cut_from1, Dx.cut_to, Dx.sliceM, Dx.noBd, Dx.someBd, Dx.asI, Dx.sliceD_t, Dx.sliceD_l, Dx.zipL3_ints, Dx.zipL2_ints, Dx.zip3G_t, Dx.zip2G_t, Dx.zip2G_tl, Dx.loopM_map, Dx.biM, Dx.compM, Dx.compL_map, Dx.compI_ret, Dx.wipeG, Dx.rng2_ok, Dx.rng1_ok, Dx.seqRng_ok, Dx.rngG, Dx.any_ok, Dx.all_ok, Dx.filter_yes, Dx.rngI_length, Dx.ite_or, Dx.ite_and, Dx.ite_orB, Dx.ite_andB, Dx.wp_bnd_iff, Dx.wp_ret_iff, Dx.wp_ite_iff, Dx.wp_g0, Dx.wp_g1, Dx.wp_g2, Dx.wp_s0, Dx.wp_s2, Dx.intG_i, Dx.intG_b, Dx.powD_3]
  refine wp_mono (row_ok h hq3 (by omega) r0 (by omega) rB) ?_
  rintro _ q4 ⟨rfl, hq4⟩
  try simp (config := {maxSteps := 3000000}) (disch := omega) [Dx.fnM_ev', Dx.seqM_ev, Dx.seqK_next, Dx.seqK_ret, Dx.seqK_brk, Dx.seqK_cont, Dx.finM_ret, Dx.finM_next, Dx.retM, Dx.setM, Dx.setN, Dx.parM, Dx.oldM, Dx.newM, Dx.Val.slot, Dx.appM, Dx.plnM, Dx.ifM, Dx.exprM, Dx.skipM, Dx.failM, Dx.brkM, Dx.contM, Dx.con, Dx.callM, Dx.consM, Dx.nilM, Dx.op2, Dx.ts2, Dx.tsB, Dx.tNotM, Dx.tAndM, Dx.tOrM, Dx.andM, Dx.orM, Dx.notM, Dx.iteM, Dx.isiM, Dx.isiD, Dx.tyD, Dx.isaB, Dx.chB, Dx.blM, Dx.lenG, Dx.negM, Dx.negG, Dx.tupM, Dx.lstM, Dx.frzM, Dx.asgM, Dx.asgT, Dx.setAll, Dx.bnd_ret, Dx.bnd_fail, Dx.bnd_bnd, Dx.lift_val, Dx.lift_no, Dx.ev_0, Dx.ev_1, Dx.ev_2, Dx.ev_3, Dx.ev_4, Dx.ev_5, Dx.ev_6, Dx.ev_7, Dx.ev_8, Dx.ev_9, Dx.ev_10, Dx.ev_11, Dx.ev_12, Dx.ev_13, Dx.ev_14, Dx.ev_15, Dx.ev_16, Dx.ev_17, Dx.ev_18, Dx.ev_19, Dx.ev_20, Dx.ev_21, Dx.ev_22, Dx.ev_23, Dx.ev_24, Dx.ev_25, Dx.pk_0, Dx.pk_1, Dx.pk_2, Dx.pk_3, Dx.pk_4, Dx.pk_5, Dx.pk_6, Dx.pk_7, Dx.pk_8, Dx.pk_9, Dx.pk_10, Dx.pk_11, Dx.pk_12, Dx.pk_13, Dx.pk_14, Dx.pk_15, Dx.pk_16, Dx.pk_17, Dx.pk_18, Dx.pk_19, Dx.pk_20, Dx.pk_21, Dx.pk_22, Dx.pk_23, Dx.pk_24, Dx.pk_25, Dx.st_0, Dx.st_1, Dx.st_2, Dx.st_3, Dx.st_4, Dx.st_5, Dx.st_6, Dx.st_7, Dx.st_8, Dx.st_9, Dx.st_10, Dx.st_11, Dx.st_12, Dx.st_13, Dx.st_14, Dx.st_15, Dx.st_16, Dx.st_17, Dx.st_18, Dx.st_19, Dx.st_20, Dx.st_21, Dx.st_22, Dx.st_23, Dx.st_24, Dx.st_25, Dx.ow_0, Dx.ow_1, Dx.ow_2, Dx.ow_3, Dx.ow_4, Dx.ow_5, Dx.ow_6, Dx.ow_7, Dx.ow_8, Dx.ow_9, Dx.ow_10, Dx.ow_11, Dx.ow_12, Dx.ow_13, Dx.ow_14, Dx.ow_15, Dx.ow_16, Dx.ow_17, Dx.ow_18, Dx.ow_19, Dx.ow_20, Dx.ow_21, Dx.ow_22, Dx.ow_23, Dx.ow_24, Dx.ow_25, Dx.pk_o, Dx.gam0, Dx.ixD_t, Dx.ixD_l, Dx.atI_0, Dx.atI_1, Dx.atI_2, Dx.atI_3, Dx.atI_4, Dx.asB_b, Dx.addD_i, Dx.subD_i, Dx.addD_t, Dx.addD_l, Dx.mulD_l, Dx.fdivD_s, Dx.modD_p, Dx.cmpI_i, Dx.absG_i, Dx.szOk_le, Dx.tupG, Dx.yesM, Dx.seqI, Dx.seqG_t, Dx.seqG_l, Dx.seqZ_t, Dx.seqZ_l, Dx.starM, Dx.compL_nil, Dx.compL_cons, Dx.all_2, Dx.any_2, Dx.neD_i, Dx.eqD_i, Dx.neD_b, Dx.cut_from1, Dx.cut_to, Dx.sliceM, Dx.noBd, Dx.someBd, Dx.asI, Dx.sliceD_t, Dx.sliceD_l, Dx.zipL3_ints, Dx.zipL2_ints, Dx.zip3G_t, Dx.zip2G_t, Dx.zip2G_tl, Dx.loopM_map, Dx.biM, Dx.compM, Dx.compL_map, Dx.compI_ret, Dx.wipeG, Dx.rng2_ok, Dx.rng1_ok, Dx.seqRng_ok, Dx.rngG, Dx.any_ok, Dx.all_ok, Dx.filter_yes, Dx.rngI_length, Dx.ite_or, Dx.ite_and, Dx.ite_orB, Dx.ite_andB, Dx.wp_bnd_iff, Dx.wp_ret_iff, Dx.wp_ite_iff, Dx.wp_g0, Dx.wp_g1, Dx.wp_g2, Dx.wp_s0, Dx.wp_s2, Dx.intG_i, Dx.intG_b, Dx.powD_3]
  refine wp_mono (course_ok h hq4 (by omega) r0 (by omega) rB) ?_
  rintro _ q5 ⟨rfl, hq5⟩
  try simp (config := {maxSteps := 3000000}) (disch := omega) [Dx.fnM_ev', Dx.seqM_ev, Dx.seqK_next, Dx.seqK_ret, Dx.seqK_brk, Dx.seqK_cont, Dx.finM_ret, Dx.finM_next, Dx.retM, Dx.setM, Dx.setN, Dx.parM, Dx.oldM, Dx.newM, Dx.Val.slot, Dx.appM, Dx.plnM, Dx.ifM, Dx.exprM, Dx.skipM, Dx.failM, Dx.brkM, Dx.contM, Dx.con, Dx.callM, Dx.consM, Dx.nilM, Dx.op2, Dx.ts2, Dx.tsB, Dx.tNotM, Dx.tAndM, Dx.tOrM, Dx.andM, Dx.orM, Dx.notM, Dx.iteM, Dx.isiM, Dx.isiD, Dx.tyD, Dx.isaB, Dx.chB, Dx.blM, Dx.lenG, Dx.negM, Dx.negG, Dx.tupM, Dx.lstM, Dx.frzM, Dx.asgM, Dx.asgT, Dx.setAll, Dx.bnd_ret, Dx.bnd_fail, Dx.bnd_bnd, Dx.lift_val, Dx.lift_no, Dx.ev_0, Dx.ev_1, Dx.ev_2, Dx.ev_3, Dx.ev_4, Dx.ev_5, Dx.ev_6, Dx.ev_7, Dx.ev_8, Dx.ev_9, Dx.ev_10, Dx.ev_11, Dx.ev_12, Dx.ev_13, Dx.ev_14, Dx.ev_15, Dx.ev_16, Dx.ev_17, Dx.ev_18, Dx.ev_19, Dx.ev_20, Dx.ev_21, Dx.ev_22, Dx.ev_23, Dx.ev_24, Dx.ev_25, Dx.pk_0, Dx.pk_1, Dx.pk_2, Dx.pk_3, Dx.pk_4, Dx.pk_5, Dx.pk_6, Dx.pk_7, Dx.pk_8, Dx.pk_9, Dx.pk_10, Dx.pk_11, Dx.pk_12, Dx.pk_13, Dx.pk_14, Dx.pk_15, Dx.pk_16, Dx.pk_17, Dx.pk_18, Dx.pk_19, Dx.pk_20, Dx.pk_21, Dx.pk_22, Dx.pk_23, Dx.pk_24, Dx.pk_25, Dx.st_0, Dx.st_1, Dx.st_2, Dx.st_3, Dx.st_4, Dx.st_5, Dx.st_6, Dx.st_7, Dx.st_8, Dx.st_9, Dx.st_10, Dx.st_11, Dx.st_12, Dx.st_13, Dx.st_14, Dx.st_15, Dx.st_16, Dx.st_17, Dx.st_18, Dx.st_19, Dx.st_20, Dx.st_21, Dx.st_22, Dx.st_23, Dx.st_24, Dx.st_25, Dx.ow_0, Dx.ow_1, Dx.ow_2, Dx.ow_3, Dx.ow_4, Dx.ow_5, Dx.ow_6, Dx.ow_7, Dx.ow_8, Dx.ow_9, Dx.ow_10, Dx.ow_11, Dx.ow_12, Dx.ow_13, Dx.ow_14, Dx.ow_15, Dx.ow_16, Dx.ow_17, Dx.ow_18, Dx.ow_19, Dx.ow_20, Dx.ow_21, Dx.ow_22, Dx.ow_23, Dx.ow_24, Dx.ow_25, Dx.pk_o, Dx.gam0, Dx.ixD_t, Dx.ixD_l, Dx.atI_0, Dx.atI_1, Dx.atI_2, Dx.atI_3, Dx.atI_4, Dx.asB_b, Dx.addD_i, Dx.subD_i, Dx.addD_t, Dx.addD_l, Dx.mulD_l, Dx.fdivD_s, Dx.modD_p, Dx.cmpI_i, Dx.absG_i, Dx.szOk_le, Dx.tupG, Dx.yesM, Dx.seqI, Dx.seqG_t, Dx.seqG_l, Dx.seqZ_t, Dx.seqZ_l, Dx.starM, Dx.compL_nil, Dx.compL_cons, Dx.all_2, Dx.any_2, Dx.neD_i, Dx.eqD_i, Dx.neD_b, Dx.cut_from1, Dx.cut_to, Dx.sliceM, Dx.noBd, Dx.someBd, Dx.asI, Dx.sliceD_t, Dx.sliceD_l, Dx.zipL3_ints, Dx.zipL2_ints, Dx.zip3G_t, Dx.zip2G_t, Dx.zip2G_tl, Dx.loopM_map, Dx.biM, Dx.compM, Dx.compL_map, Dx.compI_ret, Dx.wipeG, Dx.rng2_ok, Dx.rng1_ok, Dx.seqRng_ok, Dx.rngG, Dx.any_ok, Dx.all_ok, Dx.filter_yes, Dx.rngI_length, Dx.ite_or, Dx.ite_and, Dx.ite_orB, Dx.ite_andB, Dx.wp_bnd_iff, Dx.wp_ret_iff, Dx.wp_ite_iff, Dx.wp_g0, Dx.wp_g1, Dx.wp_g2, Dx.wp_s0, Dx.wp_s2, Dx.intG_i, Dx.intG_b, Dx.powD_3]
  refine wp_mono (take_ok _ q5 2 hq5 (by omega) (by decide) (by decide)) ?_
  rintro _ q6 ⟨u, rfl, u0, u1, hq6⟩
  obtain ⟨t, et⟩ : ∃ t, t = 2 + u := ⟨_, rfl⟩
  have ht : t = 2 ∨ t = 3 := by omega
  simp (config := {maxSteps := 3000000}) (disch := omega) [Dx.fnM_ev', Dx.seqM_ev, Dx.seqK_next, Dx.seqK_ret, Dx.seqK_brk, Dx.seqK_cont, Dx.finM_ret, Dx.finM_next, Dx.retM, Dx.setM, Dx.setN, Dx.parM, Dx.oldM, Dx.newM, Dx.Val.slot, Dx.appM, Dx.plnM, Dx.ifM, Dx.exprM, Dx.skipM, Dx.failM, Dx.brkM, Dx.contM, Dx.con, Dx.callM, Dx.consM, Dx.nilM, Dx.op2, Dx.ts2, Dx.tsB, Dx.tNotM, Dx.tAndM, Dx.tOrM, Dx.andM, Dx.orM, Dx.notM, Dx.iteM, Dx.isiM, Dx.isiD, Dx.tyD, Dx.isaB, Dx.chB, Dx.blM, Dx.lenG, Dx.negM, Dx.negG, Dx.tupM, Dx.lstM, Dx.frzM, Dx.asgM, Dx.asgT, Dx.setAll, Dx.bnd_ret, Dx.bnd_fail, Dx.bnd_bnd, Dx.lift_val, Dx.lift_no, Dx.ev_0, Dx.ev_1, Dx.ev_2, Dx.ev_3, Dx.ev_4, Dx.ev_5, Dx.ev_6, Dx.ev_7, Dx.ev_8, Dx.ev_9, Dx.ev_10, Dx.ev_11, Dx.ev_12, Dx.ev_13, Dx.ev_14, Dx.ev_15, Dx.ev_16, Dx.ev_17, Dx.ev_18, Dx.ev_19, Dx.ev_20, Dx.ev_21, Dx.ev_22, Dx.ev_23, Dx.ev_24, Dx.ev_25, Dx.pk_0, Dx.pk_1, Dx.pk_2, Dx.pk_3, Dx.pk_4, Dx.pk_5, Dx.pk_6, Dx.pk_7, Dx.pk_8, Dx.pk_9, Dx.pk_10, Dx.pk_11, Dx.pk_12, Dx.pk_13, Dx.pk_14, Dx.pk_15, Dx.pk_16, Dx.pk_17, Dx.pk_18, Dx.pk_19, Dx.pk_20, Dx.pk_21, Dx.pk_22, Dx.pk_23, Dx.pk_24, Dx.pk_25, Dx.st_0, Dx.st_1, Dx.st_2, Dx.st_3, Dx.st_4, Dx.st_5, Dx.st_6, Dx.st_7, Dx.st_8, Dx.st_9, Dx.st_10, Dx.st_11, Dx.st_12, Dx.st_13, Dx.st_14, Dx.st_15, Dx.st_16, Dx.st_17, Dx.st_18, Dx.st_19, Dx.st_20, Dx.st_21, Dx.st_22, Dx.st_23, Dx.st_24, Dx.st_25, Dx.ow_0, Dx.ow_1, Dx.ow_2, Dx.ow_3, Dx.ow_4, Dx.ow_5, Dx.ow_6, Dx.ow_7, Dx.ow_8, Dx.ow_9, Dx.ow_10, Dx.ow_11, Dx.ow_12, Dx.ow_13, Dx.ow_14, Dx.ow_15, Dx.ow_16, Dx.ow_17, Dx.ow_18, Dx.ow_19, Dx.ow_20, Dx.ow_21, Dx.ow_22, Dx.ow_23, Dx.ow_24, Dx.ow_25, Dx.pk_o, Dx.gam0, Dx.ixD_t, Dx.ixD_l, Dx.atI_0, Dx.atI_1, Dx.atI_2, Dx.atI_3, Dx.atI_4, Dx.asB_b, Dx.addD_i, Dx.subD_i, Dx.addD_t, Dx.addD_l, Dx.mulD_l, Dx.fdivD_s, Dx.modD_p, Dx.cmpI_i, Dx.absG_i, Dx.szOk_le, Dx.tupG, Dx.yesM, Dx.seqI, Dx.seqG_t, Dx.seqG_l, Dx.seqZ_t, Dx.seqZ_l, Dx.starM, Dx.compL_nil, Dx.compL_cons, Dx.all_2, Dx.any_2, Dx.neD_i, Dx.eqD_i, Dx.neD_b, Dx.cut_from1, Dx.cut_to, Dx.sliceM, Dx.noBd, Dx.someBd, Dx.asI, Dx.sliceD_t, Dx.sliceD_l, Dx.zipL3_ints, Dx.zipL2_ints, Dx.zip3G_t, Dx.zip2G_t, Dx.zip2G_tl, Dx.loopM_map, Dx.biM, Dx.compM, Dx.compL_map, Dx.compI_ret, Dx.wipeG, Dx.rng2_ok, Dx.rng1_ok, Dx.seqRng_ok, Dx.rngG, Dx.any_ok, Dx.all_ok, Dx.filter_yes, Dx.rngI_length, Dx.ite_or, Dx.ite_and, Dx.ite_orB, Dx.ite_andB, Dx.wp_bnd_iff, Dx.wp_ret_iff, Dx.wp_ite_iff, Dx.wp_g0, Dx.wp_g1, Dx.wp_g2, Dx.wp_s0, Dx.wp_s2, Dx.intG_i, Dx.intG_b, Dx.powD_3, v0, v1, v2, v3, v4, p0, p1]
  have fin : Okp (n + 300) q6 := hq6.mono (by omega)
  obtain ⟨s1, s2, l1, l2, l3, a1, a2, b2⟩ := id h
  have hw : VOk ((2 + u) * s) ((2 + u) * lo) ((2 + u) * hi) := by
    rw [← et]
    rcases ht with rfl | rfl <;> exact ⟨by omega, by omega, by omega, by omega, by omega⟩
  have big : ¬ 20 < ab ((2 + u) * s) := by
    rw [← et]
    unfold ab
    rcases ht with rfl | rfl <;> split <;> omega
  have ps : par ((2 + u) * s) ((2 + u) * hi - (2 + u) * lo) = par s (hi - lo) := by
    rw [← et]
    exact par_scale ht
  have lt := ltold_ok h.v h.b (l := row) (by omega)
  have it : m_is_told [.tup [.int 1, .int 1, .int ((2 + u) * s), pr (-200) 200, .tup [.int ((2 + u) * lo), .int ((2 + u) * hi)]], pr a b, .int 0, .tup (row.map .int)] = ret (.bl (told (par s (hi - lo)) a b row)) := by
    have z := is_told_ok (v := 0) hw h.b (by decide) (by decide) (l := row) (by omega) rB
    rw [ps] at z
    exact z
  have lr1 : m_least_row [.tup [.int 1, .int 1, .int ((2 + u) * s), pr (-200) 200, .tup [.int ((2 + u) * lo), .int ((2 + u) * hi)]], pr a b] = ret (lrow (par s (hi - lo)) a b) := by
    have z := least_ok hw h.b
    rw [ps] at z
    exact z
  have lr2 := least_ok h.v h.b
  have rl := repr_ok (nice_lrow (P := par s (hi - lo)) h.b) (by decide) (by decide)
  simp (config := {maxSteps := 3000000}) (disch := omega) [Dx.fnM_ev', Dx.seqM_ev, Dx.seqK_next, Dx.seqK_ret, Dx.seqK_brk, Dx.seqK_cont, Dx.finM_ret, Dx.finM_next, Dx.retM, Dx.setM, Dx.setN, Dx.parM, Dx.oldM, Dx.newM, Dx.Val.slot, Dx.appM, Dx.plnM, Dx.ifM, Dx.exprM, Dx.skipM, Dx.failM, Dx.brkM, Dx.contM, Dx.con, Dx.callM, Dx.consM, Dx.nilM, Dx.op2, Dx.ts2, Dx.tsB, Dx.tNotM, Dx.tAndM, Dx.tOrM, Dx.andM, Dx.orM, Dx.notM, Dx.iteM, Dx.isiM, Dx.isiD, Dx.tyD, Dx.isaB, Dx.chB, Dx.blM, Dx.lenG, Dx.negM, Dx.negG, Dx.tupM, Dx.lstM, Dx.frzM, Dx.asgM, Dx.asgT, Dx.setAll, Dx.bnd_ret, Dx.bnd_fail, Dx.bnd_bnd, Dx.lift_val, Dx.lift_no, Dx.ev_0, Dx.ev_1, Dx.ev_2, Dx.ev_3, Dx.ev_4, Dx.ev_5, Dx.ev_6, Dx.ev_7, Dx.ev_8, Dx.ev_9, Dx.ev_10, Dx.ev_11, Dx.ev_12, Dx.ev_13, Dx.ev_14, Dx.ev_15, Dx.ev_16, Dx.ev_17, Dx.ev_18, Dx.ev_19, Dx.ev_20, Dx.ev_21, Dx.ev_22, Dx.ev_23, Dx.ev_24, Dx.ev_25, Dx.pk_0, Dx.pk_1, Dx.pk_2, Dx.pk_3, Dx.pk_4, Dx.pk_5, Dx.pk_6, Dx.pk_7, Dx.pk_8, Dx.pk_9, Dx.pk_10, Dx.pk_11, Dx.pk_12, Dx.pk_13, Dx.pk_14, Dx.pk_15, Dx.pk_16, Dx.pk_17, Dx.pk_18, Dx.pk_19, Dx.pk_20, Dx.pk_21, Dx.pk_22, Dx.pk_23, Dx.pk_24, Dx.pk_25, Dx.st_0, Dx.st_1, Dx.st_2, Dx.st_3, Dx.st_4, Dx.st_5, Dx.st_6, Dx.st_7, Dx.st_8, Dx.st_9, Dx.st_10, Dx.st_11, Dx.st_12, Dx.st_13, Dx.st_14, Dx.st_15, Dx.st_16, Dx.st_17, Dx.st_18, Dx.st_19, Dx.st_20, Dx.st_21, Dx.st_22, Dx.st_23, Dx.st_24, Dx.st_25, Dx.ow_0, Dx.ow_1, Dx.ow_2, Dx.ow_3, Dx.ow_4, Dx.ow_5, Dx.ow_6, Dx.ow_7, Dx.ow_8, Dx.ow_9, Dx.ow_10, Dx.ow_11, Dx.ow_12, Dx.ow_13, Dx.ow_14, Dx.ow_15, Dx.ow_16, Dx.ow_17, Dx.ow_18, Dx.ow_19, Dx.ow_20, Dx.ow_21, Dx.ow_22, Dx.ow_23, Dx.ow_24, Dx.ow_25, Dx.pk_o, Dx.gam0, Dx.ixD_t, Dx.ixD_l, Dx.atI_0, Dx.atI_1, Dx.atI_2, Dx.atI_3, Dx.atI_4, Dx.asB_b, Dx.addD_i, Dx.subD_i, Dx.addD_t, Dx.addD_l, Dx.mulD_l, Dx.fdivD_s, Dx.modD_p, Dx.cmpI_i, Dx.absG_i, Dx.szOk_le, Dx.tupG, Dx.yesM, Dx.seqI, Dx.seqG_t, Dx.seqG_l, Dx.seqZ_t, Dx.seqZ_l, Dx.starM, Dx.compL_nil, Dx.compL_cons, Dx.all_2, Dx.any_2, Dx.neD_i, Dx.eqD_i, Dx.neD_b, Dx.cut_from1, Dx.cut_to, Dx.sliceM, Dx.noBd, Dx.someBd, Dx.asI, Dx.sliceD_t, Dx.sliceD_l, Dx.zipL3_ints, Dx.zipL2_ints, Dx.zip3G_t, Dx.zip2G_t, Dx.zip2G_tl, Dx.loopM_map, Dx.biM, Dx.compM, Dx.compL_map, Dx.compI_ret, Dx.wipeG, Dx.rng2_ok, Dx.rng1_ok, Dx.seqRng_ok, Dx.rngG, Dx.any_ok, Dx.all_ok, Dx.filter_yes, Dx.rngI_length, Dx.ite_or, Dx.ite_and, Dx.ite_orB, Dx.ite_andB, Dx.wp_bnd_iff, Dx.wp_ret_iff, Dx.wp_ite_iff, Dx.wp_g0, Dx.wp_g1, Dx.wp_g2, Dx.wp_s0, Dx.wp_s2, Dx.intG_i, Dx.intG_b, Dx.powD_3, big, lt, it, lr1, lr2, rb, rl, eqD_str]
  exact fin
/-! ### the law -/
theorem places_ok (ns : List Int) (h : ns.length ≤ 63) : ∃ k : Nat, m__law_places [.scr ns, .int 2] = ret (.lst ((rngI 0 k).map .int)) ∧ k ≤ 2 ∧ (k ≤ ns.length ∨ k = 1) := by
  have mn : minG [.int 2, .int ns.length] = some (.int (if (ns.length : Int) < 2 then ns.length else 2)) := rfl
  have mx : ∀ j : Int, maxG [.int 1, .int j] = some (.int (if j > 1 then j else 1)) := fun j => rfl
  obtain ⟨j, hj⟩ : ∃ j : Int, j = if (ns.length : Int) < 2 then (ns.length : Int) else 2 := ⟨_, rfl⟩
  obtain ⟨i, hi⟩ : ∃ i : Int, i = if j > 1 then j else 1 := ⟨_, rfl⟩
  rw [← hj] at mn
  have mx' := mx j
  rw [← hi] at mx'
  have hj2 : j ≤ 2 ∧ (j ≤ ns.length) := by split at hj <;> omega
  have hi2 : 1 ≤ i ∧ i ≤ 2 ∧ (i ≤ ns.length ∨ i = 1) := by split at hi <;> omega
  have rg1 := rg1_ok (hi := i) (by omega) (by omega)
  refine ⟨i.toNat, ?_, by omega, by omega⟩
  simp (config := {maxSteps := 3000000}) (disch := omega) [Dx.fnM_ev', Dx.seqM_ev, Dx.seqK_next, Dx.seqK_ret, Dx.seqK_brk, Dx.seqK_cont, Dx.finM_ret, Dx.finM_next, Dx.retM, Dx.setM, Dx.setN, Dx.parM, Dx.oldM, Dx.newM, Dx.Val.slot, Dx.appM, Dx.plnM, Dx.ifM, Dx.exprM, Dx.skipM, Dx.failM, Dx.brkM, Dx.contM, Dx.con, Dx.callM, Dx.consM, Dx.nilM, Dx.op2, Dx.ts2, Dx.tsB, Dx.tNotM, Dx.tAndM, Dx.tOrM, Dx.andM, Dx.orM, Dx.notM, Dx.iteM, Dx.isiM, Dx.isiD, Dx.tyD, Dx.isaB, Dx.chB, Dx.blM, Dx.lenG, Dx.negM, Dx.negG, Dx.tupM, Dx.lstM, Dx.frzM, Dx.asgM, Dx.asgT, Dx.setAll, Dx.bnd_ret, Dx.bnd_fail, Dx.bnd_bnd, Dx.lift_val, Dx.lift_no, Dx.ev_0, Dx.ev_1, Dx.ev_2, Dx.ev_3, Dx.ev_4, Dx.ev_5, Dx.ev_6, Dx.ev_7, Dx.ev_8, Dx.ev_9, Dx.ev_10, Dx.ev_11, Dx.ev_12, Dx.ev_13, Dx.ev_14, Dx.ev_15, Dx.ev_16, Dx.ev_17, Dx.ev_18, Dx.ev_19, Dx.ev_20, Dx.ev_21, Dx.ev_22, Dx.ev_23, Dx.ev_24, Dx.ev_25, Dx.pk_0, Dx.pk_1, Dx.pk_2, Dx.pk_3, Dx.pk_4, Dx.pk_5, Dx.pk_6, Dx.pk_7, Dx.pk_8, Dx.pk_9, Dx.pk_10, Dx.pk_11, Dx.pk_12, Dx.pk_13, Dx.pk_14, Dx.pk_15, Dx.pk_16, Dx.pk_17, Dx.pk_18, Dx.pk_19, Dx.pk_20, Dx.pk_21, Dx.pk_22, Dx.pk_23, Dx.pk_24, Dx.pk_25, Dx.st_0, Dx.st_1, Dx.st_2, Dx.st_3, Dx.st_4, Dx.st_5, Dx.st_6, Dx.st_7, Dx.st_8, Dx.st_9, Dx.st_10, Dx.st_11, Dx.st_12, Dx.st_13, Dx.st_14, Dx.st_15, Dx.st_16, Dx.st_17, Dx.st_18, Dx.st_19, Dx.st_20, Dx.st_21, Dx.st_22, Dx.st_23, Dx.st_24, Dx.st_25, Dx.ow_0, Dx.ow_1, Dx.ow_2, Dx.ow_3, Dx.ow_4, Dx.ow_5, Dx.ow_6, Dx.ow_7, Dx.ow_8, Dx.ow_9, Dx.ow_10, Dx.ow_11, Dx.ow_12, Dx.ow_13, Dx.ow_14, Dx.ow_15, Dx.ow_16, Dx.ow_17, Dx.ow_18, Dx.ow_19, Dx.ow_20, Dx.ow_21, Dx.ow_22, Dx.ow_23, Dx.ow_24, Dx.ow_25, Dx.pk_o, Dx.gam0, Dx.ixD_t, Dx.ixD_l, Dx.atI_0, Dx.atI_1, Dx.atI_2, Dx.atI_3, Dx.atI_4, Dx.asB_b, Dx.addD_i, Dx.subD_i, Dx.addD_t, Dx.addD_l, Dx.mulD_l, Dx.fdivD_s, Dx.modD_p, Dx.cmpI_i, Dx.absG_i, Dx.szOk_le, Dx.tupG, Dx.yesM, Dx.seqI, Dx.seqG_t, Dx.seqG_l, Dx.seqZ_t, Dx.seqZ_l, Dx.starM, Dx.compL_nil, Dx.compL_cons, Dx.all_2, Dx.any_2, Dx.neD_i, Dx.eqD_i, Dx.neD_b, Dx.cut_from1, Dx.cut_to, Dx.sliceM, Dx.noBd, Dx.someBd, Dx.asI, Dx.sliceD_t, Dx.sliceD_l, Dx.zipL3_ints, Dx.zipL2_ints, Dx.zip3G_t, Dx.zip2G_t, Dx.zip2G_tl, Dx.loopM_map, Dx.biM, Dx.compM, Dx.compL_map, Dx.compI_ret, Dx.wipeG, Dx.rng2_ok, Dx.rng1_ok, Dx.seqRng_ok, Dx.rngG, Dx.any_ok, Dx.all_ok, Dx.filter_yes, Dx.rngI_length, Dx.ite_or, Dx.ite_and, Dx.ite_orB, Dx.ite_andB, m__law_places, mn, mx', rg1]
theorem pot_ok (ns : List Int) (i : Int) (h0 : 0 ≤ i) (h1 : i ≤ 1) : ∃ l : List Int, m__law_pot [.scr ns, .int i] = ret (l.map .int) ∧ Okp 0 l := by
  obtain ⟨T, hT, p1, U, hU, p2⟩ := pow_60
  have fin : ∀ c : Int, ∃ l : List Int, [D.int (ab c % U * if 1000000000000000000 ≤ ab c then 1 else 0), .int ((c % 2305843009213693951 * 330643 + 11687 * i * i + 165) % 2305843009213693921), .int 0] = l.map .int ∧ Okp 0 l := fun c =>
    ⟨[ab c % U * if 1000000000000000000 ≤ ab c then 1 else 0, (c % 2305843009213693951 * 330643 + 11687 * i * i + 165) % 2305843009213693921, 0], rfl, _, _, _, rfl, by omega, by omega, by decide, by decide⟩
  by_cases h : i < ns.length
  · obtain ⟨c, e, _⟩ := atI_mem (l := ns) h0 h
    obtain ⟨l, hl, ol⟩ := fin c
    refine ⟨l, ?_, ol⟩
    rw [← hl]
    unfold m__law_pot
    rw [fnN_ev (n := 2) rfl]
    simp (config := {maxSteps := 3000000}) (disch := omega) [Dx.fnM_ev', Dx.seqM_ev, Dx.seqK_next, Dx.seqK_ret, Dx.seqK_brk, Dx.seqK_cont, Dx.finM_ret, Dx.finM_next, Dx.retM, Dx.setM, Dx.setN, Dx.parM, Dx.oldM, Dx.newM, Dx.Val.slot, Dx.appM, Dx.plnM, Dx.ifM, Dx.exprM, Dx.skipM, Dx.failM, Dx.brkM, Dx.contM, Dx.con, Dx.callM, Dx.consM, Dx.nilM, Dx.op2, Dx.ts2, Dx.tsB, Dx.tNotM, Dx.tAndM, Dx.tOrM, Dx.andM, Dx.orM, Dx.notM, Dx.iteM, Dx.isiM, Dx.isiD, Dx.tyD, Dx.isaB, Dx.chB, Dx.blM, Dx.lenG, Dx.negM, Dx.negG, Dx.tupM, Dx.lstM, Dx.frzM, Dx.asgM, Dx.asgT, Dx.setAll, Dx.bnd_ret, Dx.bnd_fail, Dx.bnd_bnd, Dx.lift_val, Dx.lift_no, Dx.ev_0, Dx.ev_1, Dx.ev_2, Dx.ev_3, Dx.ev_4, Dx.ev_5, Dx.ev_6, Dx.ev_7, Dx.ev_8, Dx.ev_9, Dx.ev_10, Dx.ev_11, Dx.ev_12, Dx.ev_13, Dx.ev_14, Dx.ev_15, Dx.ev_16, Dx.ev_17, Dx.ev_18, Dx.ev_19, Dx.ev_20, Dx.ev_21, Dx.ev_22, Dx.ev_23, Dx.ev_24, Dx.ev_25, Dx.pk_0, Dx.pk_1, Dx.pk_2, Dx.pk_3, Dx.pk_4, Dx.pk_5, Dx.pk_6, Dx.pk_7, Dx.pk_8, Dx.pk_9, Dx.pk_10, Dx.pk_11, Dx.pk_12, Dx.pk_13, Dx.pk_14, Dx.pk_15, Dx.pk_16, Dx.pk_17, Dx.pk_18, Dx.pk_19, Dx.pk_20, Dx.pk_21, Dx.pk_22, Dx.pk_23, Dx.pk_24, Dx.pk_25, Dx.st_0, Dx.st_1, Dx.st_2, Dx.st_3, Dx.st_4, Dx.st_5, Dx.st_6, Dx.st_7, Dx.st_8, Dx.st_9, Dx.st_10, Dx.st_11, Dx.st_12, Dx.st_13, Dx.st_14, Dx.st_15, Dx.st_16, Dx.st_17, Dx.st_18, Dx.st_19, Dx.st_20, Dx.st_21, Dx.st_22, Dx.st_23, Dx.st_24, Dx.st_25, Dx.ow_0, Dx.ow_1, Dx.ow_2, Dx.ow_3, Dx.ow_4, Dx.ow_5, Dx.ow_6, Dx.ow_7, Dx.ow_8, Dx.ow_9, Dx.ow_10, Dx.ow_11, Dx.ow_12, Dx.ow_13, Dx.ow_14, Dx.ow_15, Dx.ow_16, Dx.ow_17, Dx.ow_18, Dx.ow_19, Dx.ow_20, Dx.ow_21, Dx.ow_22, Dx.ow_23, Dx.ow_24, Dx.ow_25, Dx.pk_o, Dx.gam0, Dx.ixD_t, Dx.ixD_l, Dx.atI_0, Dx.atI_1, Dx.atI_2, Dx.atI_3, Dx.atI_4, Dx.asB_b, Dx.addD_i, Dx.subD_i, Dx.addD_t, Dx.addD_l, Dx.mulD_l, Dx.fdivD_s, Dx.modD_p, Dx.cmpI_i, Dx.absG_i, Dx.szOk_le, Dx.tupG, Dx.yesM, Dx.seqI, Dx.seqG_t, Dx.seqG_l, Dx.seqZ_t, Dx.seqZ_l, Dx.starM, Dx.compL_nil, Dx.compL_cons, Dx.all_2, Dx.any_2, Dx.neD_i, Dx.eqD_i, Dx.neD_b, Dx.cut_from1, Dx.cut_to, Dx.sliceM, Dx.noBd, Dx.someBd, Dx.asI, Dx.sliceD_t, Dx.sliceD_l, Dx.zipL3_ints, Dx.zipL2_ints, Dx.zip3G_t, Dx.zip2G_t, Dx.zip2G_tl, Dx.loopM_map, Dx.biM, Dx.compM, Dx.compL_map, Dx.compI_ret, Dx.wipeG, Dx.rng2_ok, Dx.rng1_ok, Dx.seqRng_ok, Dx.rngG, Dx.any_ok, Dx.all_ok, Dx.filter_yes, Dx.rngI_length, Dx.ite_or, Dx.ite_and, Dx.ite_orB, Dx.ite_andB, seqN_ev, seqNK_next, ixD_s, h, e, p1, p2, pow_18, mulD_p, mulD_r, intG_i, intG_b]
  · obtain ⟨l, hl, ol⟩ := fin ((cutD ns none (some 1)).sum % 1000003 + 8131 * i + 841)
    refine ⟨l, ?_, ol⟩
    rw [← hl]
    unfold m__law_pot
    rw [fnN_ev (n := 2) rfl]
    simp (config := {maxSteps := 3000000}) (disch := omega) [Dx.fnM_ev', Dx.seqM_ev, Dx.seqK_next, Dx.seqK_ret, Dx.seqK_brk, Dx.seqK_cont, Dx.finM_ret, Dx.finM_next, Dx.retM, Dx.setM, Dx.setN, Dx.parM, Dx.oldM, Dx.newM, Dx.Val.slot, Dx.appM, Dx.plnM, Dx.ifM, Dx.exprM, Dx.skipM, Dx.failM, Dx.brkM, Dx.contM, Dx.con, Dx.callM, Dx.consM, Dx.nilM, Dx.op2, Dx.ts2, Dx.tsB, Dx.tNotM, Dx.tAndM, Dx.tOrM, Dx.andM, Dx.orM, Dx.notM, Dx.iteM, Dx.isiM, Dx.isiD, Dx.tyD, Dx.isaB, Dx.chB, Dx.blM, Dx.lenG, Dx.negM, Dx.negG, Dx.tupM, Dx.lstM, Dx.frzM, Dx.asgM, Dx.asgT, Dx.setAll, Dx.bnd_ret, Dx.bnd_fail, Dx.bnd_bnd, Dx.lift_val, Dx.lift_no, Dx.ev_0, Dx.ev_1, Dx.ev_2, Dx.ev_3, Dx.ev_4, Dx.ev_5, Dx.ev_6, Dx.ev_7, Dx.ev_8, Dx.ev_9, Dx.ev_10, Dx.ev_11, Dx.ev_12, Dx.ev_13, Dx.ev_14, Dx.ev_15, Dx.ev_16, Dx.ev_17, Dx.ev_18, Dx.ev_19, Dx.ev_20, Dx.ev_21, Dx.ev_22, Dx.ev_23, Dx.ev_24, Dx.ev_25, Dx.pk_0, Dx.pk_1, Dx.pk_2, Dx.pk_3, Dx.pk_4, Dx.pk_5, Dx.pk_6, Dx.pk_7, Dx.pk_8, Dx.pk_9, Dx.pk_10, Dx.pk_11, Dx.pk_12, Dx.pk_13, Dx.pk_14, Dx.pk_15, Dx.pk_16, Dx.pk_17, Dx.pk_18, Dx.pk_19, Dx.pk_20, Dx.pk_21, Dx.pk_22, Dx.pk_23, Dx.pk_24, Dx.pk_25, Dx.st_0, Dx.st_1, Dx.st_2, Dx.st_3, Dx.st_4, Dx.st_5, Dx.st_6, Dx.st_7, Dx.st_8, Dx.st_9, Dx.st_10, Dx.st_11, Dx.st_12, Dx.st_13, Dx.st_14, Dx.st_15, Dx.st_16, Dx.st_17, Dx.st_18, Dx.st_19, Dx.st_20, Dx.st_21, Dx.st_22, Dx.st_23, Dx.st_24, Dx.st_25, Dx.ow_0, Dx.ow_1, Dx.ow_2, Dx.ow_3, Dx.ow_4, Dx.ow_5, Dx.ow_6, Dx.ow_7, Dx.ow_8, Dx.ow_9, Dx.ow_10, Dx.ow_11, Dx.ow_12, Dx.ow_13, Dx.ow_14, Dx.ow_15, Dx.ow_16, Dx.ow_17, Dx.ow_18, Dx.ow_19, Dx.ow_20, Dx.ow_21, Dx.ow_22, Dx.ow_23, Dx.ow_24, Dx.ow_25, Dx.pk_o, Dx.gam0, Dx.ixD_t, Dx.ixD_l, Dx.atI_0, Dx.atI_1, Dx.atI_2, Dx.atI_3, Dx.atI_4, Dx.asB_b, Dx.addD_i, Dx.subD_i, Dx.addD_t, Dx.addD_l, Dx.mulD_l, Dx.fdivD_s, Dx.modD_p, Dx.cmpI_i, Dx.absG_i, Dx.szOk_le, Dx.tupG, Dx.yesM, Dx.seqI, Dx.seqG_t, Dx.seqG_l, Dx.seqZ_t, Dx.seqZ_l, Dx.starM, Dx.compL_nil, Dx.compL_cons, Dx.all_2, Dx.any_2, Dx.neD_i, Dx.eqD_i, Dx.neD_b, Dx.cut_from1, Dx.cut_to, Dx.sliceM, Dx.noBd, Dx.someBd, Dx.asI, Dx.sliceD_t, Dx.sliceD_l, Dx.zipL3_ints, Dx.zipL2_ints, Dx.zip3G_t, Dx.zip2G_t, Dx.zip2G_tl, Dx.loopM_map, Dx.biM, Dx.compM, Dx.compL_map, Dx.compI_ret, Dx.wipeG, Dx.rng2_ok, Dx.rng1_ok, Dx.seqRng_ok, Dx.rngG, Dx.any_ok, Dx.all_ok, Dx.filter_yes, Dx.rngI_length, Dx.ite_or, Dx.ite_and, Dx.ite_orB, Dx.ite_andB, seqN_ev, seqNK_next, ixD_s, sliceD_s, sum_ints, h, p1, p2, pow_18, mulD_p, mulD_r, intG_i, intG_b]
theorem law_ok (ns : List Int) (h : ns.length ≤ 63) : okLaw ns := by
  obtain ⟨k, e1, k2, k3⟩ := places_ok ns h
  refine ⟨(rngI 0 k).map .int, ?_, ?_⟩
  · have e : fi_law (gam0 [.scr ns] 3) = ret ((rngI 0 k).map .int) := by
      simp (config := {maxSteps := 3000000}) (disch := omega) [Dx.fnM_ev', Dx.seqM_ev, Dx.seqK_next, Dx.seqK_ret, Dx.seqK_brk, Dx.seqK_cont, Dx.finM_ret, Dx.finM_next, Dx.retM, Dx.setM, Dx.setN, Dx.parM, Dx.oldM, Dx.newM, Dx.Val.slot, Dx.appM, Dx.plnM, Dx.ifM, Dx.exprM, Dx.skipM, Dx.failM, Dx.brkM, Dx.contM, Dx.con, Dx.callM, Dx.consM, Dx.nilM, Dx.op2, Dx.ts2, Dx.tsB, Dx.tNotM, Dx.tAndM, Dx.tOrM, Dx.andM, Dx.orM, Dx.notM, Dx.iteM, Dx.isiM, Dx.isiD, Dx.tyD, Dx.isaB, Dx.chB, Dx.blM, Dx.lenG, Dx.negM, Dx.negG, Dx.tupM, Dx.lstM, Dx.frzM, Dx.asgM, Dx.asgT, Dx.setAll, Dx.bnd_ret, Dx.bnd_fail, Dx.bnd_bnd, Dx.lift_val, Dx.lift_no, Dx.ev_0, Dx.ev_1, Dx.ev_2, Dx.ev_3, Dx.ev_4, Dx.ev_5, Dx.ev_6, Dx.ev_7, Dx.ev_8, Dx.ev_9, Dx.ev_10, Dx.ev_11, Dx.ev_12, Dx.ev_13, Dx.ev_14, Dx.ev_15, Dx.ev_16, Dx.ev_17, Dx.ev_18, Dx.ev_19, Dx.ev_20, Dx.ev_21, Dx.ev_22, Dx.ev_23, Dx.ev_24, Dx.ev_25, Dx.pk_0, Dx.pk_1, Dx.pk_2, Dx.pk_3, Dx.pk_4, Dx.pk_5, Dx.pk_6, Dx.pk_7, Dx.pk_8, Dx.pk_9, Dx.pk_10, Dx.pk_11, Dx.pk_12, Dx.pk_13, Dx.pk_14, Dx.pk_15, Dx.pk_16, Dx.pk_17, Dx.pk_18, Dx.pk_19, Dx.pk_20, Dx.pk_21, Dx.pk_22, Dx.pk_23, Dx.pk_24, Dx.pk_25, Dx.st_0, Dx.st_1, Dx.st_2, Dx.st_3, Dx.st_4, Dx.st_5, Dx.st_6, Dx.st_7, Dx.st_8, Dx.st_9, Dx.st_10, Dx.st_11, Dx.st_12, Dx.st_13, Dx.st_14, Dx.st_15, Dx.st_16, Dx.st_17, Dx.st_18, Dx.st_19, Dx.st_20, Dx.st_21, Dx.st_22, Dx.st_23, Dx.st_24, Dx.st_25, Dx.ow_0, Dx.ow_1, Dx.ow_2, Dx.ow_3, Dx.ow_4, Dx.ow_5, Dx.ow_6, Dx.ow_7, Dx.ow_8, Dx.ow_9, Dx.ow_10, Dx.ow_11, Dx.ow_12, Dx.ow_13, Dx.ow_14, Dx.ow_15, Dx.ow_16, Dx.ow_17, Dx.ow_18, Dx.ow_19, Dx.ow_20, Dx.ow_21, Dx.ow_22, Dx.ow_23, Dx.ow_24, Dx.ow_25, Dx.pk_o, Dx.gam0, Dx.ixD_t, Dx.ixD_l, Dx.atI_0, Dx.atI_1, Dx.atI_2, Dx.atI_3, Dx.atI_4, Dx.asB_b, Dx.addD_i, Dx.subD_i, Dx.addD_t, Dx.addD_l, Dx.mulD_l, Dx.fdivD_s, Dx.modD_p, Dx.cmpI_i, Dx.absG_i, Dx.szOk_le, Dx.tupG, Dx.yesM, Dx.seqI, Dx.seqG_t, Dx.seqG_l, Dx.seqZ_t, Dx.seqZ_l, Dx.starM, Dx.compL_nil, Dx.compL_cons, Dx.all_2, Dx.any_2, Dx.neD_i, Dx.eqD_i, Dx.neD_b, Dx.cut_from1, Dx.cut_to, Dx.sliceM, Dx.noBd, Dx.someBd, Dx.asI, Dx.sliceD_t, Dx.sliceD_l, Dx.zipL3_ints, Dx.zipL2_ints, Dx.zip3G_t, Dx.zip2G_t, Dx.zip2G_tl, Dx.loopM_map, Dx.biM, Dx.compM, Dx.compL_map, Dx.compI_ret, Dx.wipeG, Dx.rng2_ok, Dx.rng1_ok, Dx.seqRng_ok, Dx.rngG, Dx.any_ok, Dx.all_ok, Dx.filter_yes, Dx.rngI_length, Dx.ite_or, Dx.ite_and, Dx.ite_orB, Dx.ite_andB, fi_law, e1]
    rw [e]
    rfl
  · intro d hd
    obtain ⟨i, hi, rfl⟩ := List.mem_map.mp hd
    have hi2 := rngI_mem.mp hi
    obtain ⟨l, e2, ol⟩ := pot_ok ns i (by omega) (by omega)
    refine ⟨i, rfl, l, ?_⟩
    have ef : fp_law ((gam0 [.scr ns] 3).set 1 (.val (.int i))) = ret (l.map .int) := by
      simp (config := {maxSteps := 3000000}) (disch := omega) [Dx.fnM_ev', Dx.seqM_ev, Dx.seqK_next, Dx.seqK_ret, Dx.seqK_brk, Dx.seqK_cont, Dx.finM_ret, Dx.finM_next, Dx.retM, Dx.setM, Dx.setN, Dx.parM, Dx.oldM, Dx.newM, Dx.Val.slot, Dx.appM, Dx.plnM, Dx.ifM, Dx.exprM, Dx.skipM, Dx.failM, Dx.brkM, Dx.contM, Dx.con, Dx.callM, Dx.consM, Dx.nilM, Dx.op2, Dx.ts2, Dx.tsB, Dx.tNotM, Dx.tAndM, Dx.tOrM, Dx.andM, Dx.orM, Dx.notM, Dx.iteM, Dx.isiM, Dx.isiD, Dx.tyD, Dx.isaB, Dx.chB, Dx.blM, Dx.lenG, Dx.negM, Dx.negG, Dx.tupM, Dx.lstM, Dx.frzM, Dx.asgM, Dx.asgT, Dx.setAll, Dx.bnd_ret, Dx.bnd_fail, Dx.bnd_bnd, Dx.lift_val, Dx.lift_no, Dx.ev_0, Dx.ev_1, Dx.ev_2, Dx.ev_3, Dx.ev_4, Dx.ev_5, Dx.ev_6, Dx.ev_7, Dx.ev_8, Dx.ev_9, Dx.ev_10, Dx.ev_11, Dx.ev_12, Dx.ev_13, Dx.ev_14, Dx.ev_15, Dx.ev_16, Dx.ev_17, Dx.ev_18, Dx.ev_19, Dx.ev_20, Dx.ev_21, Dx.ev_22, Dx.ev_23, Dx.ev_24, Dx.ev_25, Dx.pk_0, Dx.pk_1, Dx.pk_2, Dx.pk_3, Dx.pk_4, Dx.pk_5, Dx.pk_6, Dx.pk_7, Dx.pk_8, Dx.pk_9, Dx.pk_10, Dx.pk_11, Dx.pk_12, Dx.pk_13, Dx.pk_14, Dx.pk_15, Dx.pk_16, Dx.pk_17, Dx.pk_18, Dx.pk_19, Dx.pk_20, Dx.pk_21, Dx.pk_22, Dx.pk_23, Dx.pk_24, Dx.pk_25, Dx.st_0, Dx.st_1, Dx.st_2, Dx.st_3, Dx.st_4, Dx.st_5, Dx.st_6, Dx.st_7, Dx.st_8, Dx.st_9, Dx.st_10, Dx.st_11, Dx.st_12, Dx.st_13, Dx.st_14, Dx.st_15, Dx.st_16, Dx.st_17, Dx.st_18, Dx.st_19, Dx.st_20, Dx.st_21, Dx.st_22, Dx.st_23, Dx.st_24, Dx.st_25, Dx.ow_0, Dx.ow_1, Dx.ow_2, Dx.ow_3, Dx.ow_4, Dx.ow_5, Dx.ow_6, Dx.ow_7, Dx.ow_8, Dx.ow_9, Dx.ow_10, Dx.ow_11, Dx.ow_12, Dx.ow_13, Dx.ow_14, Dx.ow_15, Dx.ow_16, Dx.ow_17, Dx.ow_18, Dx.ow_19, Dx.ow_20, Dx.ow_21, Dx.ow_22, Dx.ow_23, Dx.ow_24, Dx.ow_25, Dx.pk_o, Dx.gam0, Dx.ixD_t, Dx.ixD_l, Dx.atI_0, Dx.atI_1, Dx.atI_2, Dx.atI_3, Dx.atI_4, Dx.asB_b, Dx.addD_i, Dx.subD_i, Dx.addD_t, Dx.addD_l, Dx.mulD_l, Dx.fdivD_s, Dx.modD_p, Dx.cmpI_i, Dx.absG_i, Dx.szOk_le, Dx.tupG, Dx.yesM, Dx.seqI, Dx.seqG_t, Dx.seqG_l, Dx.seqZ_t, Dx.seqZ_l, Dx.starM, Dx.compL_nil, Dx.compL_cons, Dx.all_2, Dx.any_2, Dx.neD_i, Dx.eqD_i, Dx.neD_b, Dx.cut_from1, Dx.cut_to, Dx.sliceM, Dx.noBd, Dx.someBd, Dx.asI, Dx.sliceD_t, Dx.sliceD_l, Dx.zipL3_ints, Dx.zipL2_ints, Dx.zip3G_t, Dx.zip2G_t, Dx.zip2G_tl, Dx.loopM_map, Dx.biM, Dx.compM, Dx.compL_map, Dx.compI_ret, Dx.wipeG, Dx.rng2_ok, Dx.rng1_ok, Dx.seqRng_ok, Dx.rngG, Dx.any_ok, Dx.all_ok, Dx.filter_yes, Dx.rngI_length, Dx.ite_or, Dx.ite_and, Dx.ite_orB, Dx.ite_andB, fp_law, callN, e2]
    have w : Wp (fr_law (((gam0 [.scr ns] 3).set 1 (.val (.int i))).set 2 (.val .pot))) l fun r q => r = (.next, [.val (.scr ns), .val (.int i), .val .pot, .none]) := by
      simp (config := {maxSteps := 3000000}) (disch := omega) [Dx.fnM_ev', Dx.seqM_ev, Dx.seqK_next, Dx.seqK_ret, Dx.seqK_brk, Dx.seqK_cont, Dx.finM_ret, Dx.finM_next, Dx.retM, Dx.setM, Dx.setN, Dx.parM, Dx.oldM, Dx.newM, Dx.Val.slot, Dx.appM, Dx.plnM, Dx.ifM, Dx.exprM, Dx.skipM, Dx.failM, Dx.brkM, Dx.contM, Dx.con, Dx.callM, Dx.consM, Dx.nilM, Dx.op2, Dx.ts2, Dx.tsB, Dx.tNotM, Dx.tAndM, Dx.tOrM, Dx.andM, Dx.orM, Dx.notM, Dx.iteM, Dx.isiM, Dx.isiD, Dx.tyD, Dx.isaB, Dx.chB, Dx.blM, Dx.lenG, Dx.negM, Dx.negG, Dx.tupM, Dx.lstM, Dx.frzM, Dx.asgM, Dx.asgT, Dx.setAll, Dx.bnd_ret, Dx.bnd_fail, Dx.bnd_bnd, Dx.lift_val, Dx.lift_no, Dx.ev_0, Dx.ev_1, Dx.ev_2, Dx.ev_3, Dx.ev_4, Dx.ev_5, Dx.ev_6, Dx.ev_7, Dx.ev_8, Dx.ev_9, Dx.ev_10, Dx.ev_11, Dx.ev_12, Dx.ev_13, Dx.ev_14, Dx.ev_15, Dx.ev_16, Dx.ev_17, Dx.ev_18, Dx.ev_19, Dx.ev_20, Dx.ev_21, Dx.ev_22, Dx.ev_23, Dx.ev_24, Dx.ev_25, Dx.pk_0, Dx.pk_1, Dx.pk_2, Dx.pk_3, Dx.pk_4, Dx.pk_5, Dx.pk_6, Dx.pk_7, Dx.pk_8, Dx.pk_9, Dx.pk_10, Dx.pk_11, Dx.pk_12, Dx.pk_13, Dx.pk_14, Dx.pk_15, Dx.pk_16, Dx.pk_17, Dx.pk_18, Dx.pk_19, Dx.pk_20, Dx.pk_21, Dx.pk_22, Dx.pk_23, Dx.pk_24, Dx.pk_25, Dx.st_0, Dx.st_1, Dx.st_2, Dx.st_3, Dx.st_4, Dx.st_5, Dx.st_6, Dx.st_7, Dx.st_8, Dx.st_9, Dx.st_10, Dx.st_11, Dx.st_12, Dx.st_13, Dx.st_14, Dx.st_15, Dx.st_16, Dx.st_17, Dx.st_18, Dx.st_19, Dx.st_20, Dx.st_21, Dx.st_22, Dx.st_23, Dx.st_24, Dx.st_25, Dx.ow_0, Dx.ow_1, Dx.ow_2, Dx.ow_3, Dx.ow_4, Dx.ow_5, Dx.ow_6, Dx.ow_7, Dx.ow_8, Dx.ow_9, Dx.ow_10, Dx.ow_11, Dx.ow_12, Dx.ow_13, Dx.ow_14, Dx.ow_15, Dx.ow_16, Dx.ow_17, Dx.ow_18, Dx.ow_19, Dx.ow_20, Dx.ow_21, Dx.ow_22, Dx.ow_23, Dx.ow_24, Dx.ow_25, Dx.pk_o, Dx.gam0, Dx.ixD_t, Dx.ixD_l, Dx.atI_0, Dx.atI_1, Dx.atI_2, Dx.atI_3, Dx.atI_4, Dx.asB_b, Dx.addD_i, Dx.subD_i, Dx.addD_t, Dx.addD_l, Dx.mulD_l, Dx.fdivD_s, Dx.modD_p, Dx.cmpI_i, Dx.absG_i, Dx.szOk_le, Dx.tupG, Dx.yesM, Dx.seqI, Dx.seqG_t, Dx.seqG_l, Dx.seqZ_t, Dx.seqZ_l, Dx.starM, Dx.compL_nil, Dx.compL_cons, Dx.all_2, Dx.any_2, Dx.neD_i, Dx.eqD_i, Dx.neD_b, Dx.cut_from1, Dx.cut_to, Dx.sliceM, Dx.noBd, Dx.someBd, Dx.asI, Dx.sliceD_t, Dx.sliceD_l, Dx.zipL3_ints, Dx.zipL2_ints, Dx.zip3G_t, Dx.zip2G_t, Dx.zip2G_tl, Dx.loopM_map, Dx.biM, Dx.compM, Dx.compL_map, Dx.compI_ret, Dx.wipeG, Dx.rng2_ok, Dx.rng1_ok, Dx.seqRng_ok, Dx.rngG, Dx.any_ok, Dx.all_ok, Dx.filter_yes, Dx.rngI_length, Dx.ite_or, Dx.ite_and, Dx.ite_orB, Dx.ite_andB, Dx.wp_bnd_iff, Dx.wp_ret_iff, Dx.wp_ite_iff, Dx.wp_g0, Dx.wp_g1, Dx.wp_g2, Dx.wp_s0, Dx.wp_s2, Dx.intG_i, Dx.intG_b, Dx.powD_3, fr_law]
      refine wp_mono (wp_trues (c := 300) (fun a n q hq hn => right_ok hq hn) (by decide) _ 0 l ol (by rw [rngI_length]; decide)) ?_
      rintro _ q rfl
      have at_ := all_true (rngI 0 2)
      simp (config := {maxSteps := 3000000}) (disch := omega) [Dx.fnM_ev', Dx.seqM_ev, Dx.seqK_next, Dx.seqK_ret, Dx.seqK_brk, Dx.seqK_cont, Dx.finM_ret, Dx.finM_next, Dx.retM, Dx.setM, Dx.setN, Dx.parM, Dx.oldM, Dx.newM, Dx.Val.slot, Dx.appM, Dx.plnM, Dx.ifM, Dx.exprM, Dx.skipM, Dx.failM, Dx.brkM, Dx.contM, Dx.con, Dx.callM, Dx.consM, Dx.nilM, Dx.op2, Dx.ts2, Dx.tsB, Dx.tNotM, Dx.tAndM, Dx.tOrM, Dx.andM, Dx.orM, Dx.notM, Dx.iteM, Dx.isiM, Dx.isiD, Dx.tyD, Dx.isaB, Dx.chB, Dx.blM, Dx.lenG, Dx.negM, Dx.negG, Dx.tupM, Dx.lstM, Dx.frzM, Dx.asgM, Dx.asgT, Dx.setAll, Dx.bnd_ret, Dx.bnd_fail, Dx.bnd_bnd, Dx.lift_val, Dx.lift_no, Dx.ev_0, Dx.ev_1, Dx.ev_2, Dx.ev_3, Dx.ev_4, Dx.ev_5, Dx.ev_6, Dx.ev_7, Dx.ev_8, Dx.ev_9, Dx.ev_10, Dx.ev_11, Dx.ev_12, Dx.ev_13, Dx.ev_14, Dx.ev_15, Dx.ev_16, Dx.ev_17, Dx.ev_18, Dx.ev_19, Dx.ev_20, Dx.ev_21, Dx.ev_22, Dx.ev_23, Dx.ev_24, Dx.ev_25, Dx.pk_0, Dx.pk_1, Dx.pk_2, Dx.pk_3, Dx.pk_4, Dx.pk_5, Dx.pk_6, Dx.pk_7, Dx.pk_8, Dx.pk_9, Dx.pk_10, Dx.pk_11, Dx.pk_12, Dx.pk_13, Dx.pk_14, Dx.pk_15, Dx.pk_16, Dx.pk_17, Dx.pk_18, Dx.pk_19, Dx.pk_20, Dx.pk_21, Dx.pk_22, Dx.pk_23, Dx.pk_24, Dx.pk_25, Dx.st_0, Dx.st_1, Dx.st_2, Dx.st_3, Dx.st_4, Dx.st_5, Dx.st_6, Dx.st_7, Dx.st_8, Dx.st_9, Dx.st_10, Dx.st_11, Dx.st_12, Dx.st_13, Dx.st_14, Dx.st_15, Dx.st_16, Dx.st_17, Dx.st_18, Dx.st_19, Dx.st_20, Dx.st_21, Dx.st_22, Dx.st_23, Dx.st_24, Dx.st_25, Dx.ow_0, Dx.ow_1, Dx.ow_2, Dx.ow_3, Dx.ow_4, Dx.ow_5, Dx.ow_6, Dx.ow_7, Dx.ow_8, Dx.ow_9, Dx.ow_10, Dx.ow_11, Dx.ow_12, Dx.ow_13, Dx.ow_14, Dx.ow_15, Dx.ow_16, Dx.ow_17, Dx.ow_18, Dx.ow_19, Dx.ow_20, Dx.ow_21, Dx.ow_22, Dx.ow_23, Dx.ow_24, Dx.ow_25, Dx.pk_o, Dx.gam0, Dx.ixD_t, Dx.ixD_l, Dx.atI_0, Dx.atI_1, Dx.atI_2, Dx.atI_3, Dx.atI_4, Dx.asB_b, Dx.addD_i, Dx.subD_i, Dx.addD_t, Dx.addD_l, Dx.mulD_l, Dx.fdivD_s, Dx.modD_p, Dx.cmpI_i, Dx.absG_i, Dx.szOk_le, Dx.tupG, Dx.yesM, Dx.seqI, Dx.seqG_t, Dx.seqG_l, Dx.seqZ_t, Dx.seqZ_l, Dx.starM, Dx.compL_nil, Dx.compL_cons, Dx.all_2, Dx.any_2, Dx.neD_i, Dx.eqD_i, Dx.neD_b, Dx.cut_from1, Dx.cut_to, Dx.sliceM, Dx.noBd, Dx.someBd, Dx.asI, Dx.sliceD_t, Dx.sliceD_l, Dx.zipL3_ints, Dx.zipL2_ints, Dx.zip3G_t, Dx.zip2G_t, Dx.zip2G_tl, Dx.loopM_map, Dx.biM, Dx.compM, Dx.compL_map, Dx.compI_ret, Dx.wipeG, Dx.rng2_ok, Dx.rng1_ok, Dx.seqRng_ok, Dx.rngG, Dx.any_ok, Dx.all_ok, Dx.filter_yes, Dx.rngI_length, Dx.ite_or, Dx.ite_and, Dx.ite_orB, Dx.ite_andB, Dx.wp_bnd_iff, Dx.wp_ret_iff, Dx.wp_ite_iff, Dx.wp_g0, Dx.wp_g1, Dx.wp_g2, Dx.wp_s0, Dx.wp_s2, Dx.intG_i, Dx.intG_b, Dx.powD_3, at_]
    obtain ⟨r, q, e3, rfl⟩ := w
    refine ⟨_, q, ?_, e3, rfl, by simp⟩
    rw [ef]
    rfl
end K68

set_option Elab.async false
set_option linter.all false
set_option maxRecDepth 100000
set_option maxHeartbeats 0
namespace K68
open PySem PySem.Spec PyProof.Rows L2 Dx
open Evl (Ex)
theorem facts {P : Program} {w : World} {K : PySem.W.Frag} {h : Heap} {mg : Str → Option Value} {f : Addr} (X : K.In h) (G : h.Ns mainGlobals mg) (hfa : mg ("law" : Str) = some (.ref f)) (c : He.SaysD fa fn K) :
    ∃ fd : FuncData, (∀ (s : Shared) (v : Value), BindsTo s fd ⟨[v], []⟩ [("script", v)]) ∧ ∀ base : Heap, K.In base → base.Ns mainGlobals mg → FnS P w K mg base 10 f fd ["script"] (spLaw K okLaw) := by
  have b_abs : mg "abs" = none := He.free_ok X G (c.fact 34 (f := .free "abs") rfl)
  have b_all : mg "all" = none := He.free_ok X G (c.fact 35 (f := .free "all") rfl)
  have b_any : mg "any" = none := He.free_ok X G (c.fact 36 (f := .free "any") rfl)
  have b_bool : mg "bool" = none := He.free_ok X G (c.fact 37 (f := .free "bool") rfl)
  have b_int : mg "int" = none := He.free_ok X G (c.fact 38 (f := .free "int") rfl)
  have b_isinstance : mg "isinstance" = none := He.free_ok X G (c.fact 39 (f := .free "isinstance") rfl)
  have b_len : mg "len" = none := He.free_ok X G (c.fact 40 (f := .free "len") rfl)
  have b_list : mg "list" = none := He.free_ok X G (c.fact 41 (f := .free "list") rfl)
  have b_max : mg "max" = none := He.free_ok X G (c.fact 42 (f := .free "max") rfl)
  have b_min : mg "min" = none := He.free_ok X G (c.fact 43 (f := .free "min") rfl)
  have b_range : mg "range" = none := He.free_ok X G (c.fact 44 (f := .free "range") rfl)
  have b_repr : mg "repr" = none := He.free_ok X G (c.fact 45 (f := .free "repr") rfl)
  have b_str : mg "str" = none := He.free_ok X G (c.fact 46 (f := .free "str") rfl)
  have b_sum : mg "sum" = none := He.free_ok X G (c.fact 47 (f := .free "sum") rfl)
  have b_tuple : mg "tuple" = none := He.free_ok X G (c.fact 48 (f := .free "tuple") rfl)
  have b_zip : mg "zip" = none := He.free_ok X G (c.fact 49 (f := .free "zip") rfl)
  have g_FINE : ∃ t, mg "FINE" = some (.str "fine" t) := He.str_ok X G (c.fact 62 (f := .str "FINE" "fine") rfl)
  have g_FIVE : ∃ t, mg "FIVE" = some (.int 5 t) := He.int_ok X G (c.fact 58 (f := .int "FIVE" 5) rfl)
  have g_MOST_KEEPS : ∃ t, mg "MOST_KEEPS" = some (.int 20 t) := He.int_ok X G (c.fact 50 (f := .int "MOST_KEEPS" 20) rfl)
  have g_MOST_LEVEL : ∃ t, mg "MOST_LEVEL" = some (.int 200 t) := He.int_ok X G (c.fact 53 (f := .int "MOST_LEVEL" 200) rfl)
  have g_MOST_LEVER : ∃ t, mg "MOST_LEVER" = some (.int 50 t) := He.int_ok X G (c.fact 55 (f := .int "MOST_LEVER" 50) rfl)
  have g_MOST_SEEN : ∃ t, mg "MOST_SEEN" = some (.int 60 t) := He.int_ok X G (c.fact 59 (f := .int "MOST_SEEN" 60) rfl)
  have g_MOST_STRENGTH : ∃ t, mg "MOST_STRENGTH" = some (.int 20 t) := He.int_ok X G (c.fact 52 (f := .int "MOST_STRENGTH" 20) rfl)
  have g_MOST_UNDER : ∃ t, mg "MOST_UNDER" = some (.int 20 t) := He.int_ok X G (c.fact 51 (f := .int "MOST_UNDER" 20) rfl)
  have g_MOST_WEATHER : ∃ t, mg "MOST_WEATHER" = some (.int 50 t) := He.int_ok X G (c.fact 54 (f := .int "MOST_WEATHER" 50) rfl)
  have g_NEVER : ∃ t, mg "NEVER" = some (.str "never" t) := He.str_ok X G (c.fact 65 (f := .str "NEVER" "never") rfl)
  have g_PAIR_stuck : ∃ t, mg "PAIR_stuck" = some (.int 2 t) := He.int_ok X G (c.fact 60 (f := .int "PAIR_stuck" 2) rfl)
  have g_PAIR_vats : ∃ t, mg "PAIR_vats" = some (.int 2 t) := He.int_ok X G (c.fact 56 (f := .int "PAIR_vats" 2) rfl)
  have g_ROW : ∃ t, mg "ROW" = some (.str "row" t) := He.str_ok X G (c.fact 64 (f := .str "ROW" "row") rfl)
  have g_STUCK : ∃ t, mg "STUCK" = some (.str "stuck" t) := He.str_ok X G (c.fact 63 (f := .str "STUCK" "stuck") rfl)
  have g_TRIPLE_stuck : ∃ t, mg "TRIPLE_stuck" = some (.int 3 t) := He.int_ok X G (c.fact 61 (f := .int "TRIPLE_stuck" 3) rfl)
  have g_TRIPLE_vats : ∃ t, mg "TRIPLE_vats" = some (.int 3 t) := He.int_ok X G (c.fact 57 (f := .int "TRIPLE_vats" 3) rfl)
  obtain ⟨fd_is_tuple, F_is_tuple⟩ := c.def_ 0 (d := d_is_tuple) rfl
  obtain ⟨fd_is_whole, F_is_whole⟩ := c.def_ 1 (d := d_is_whole) rfl
  obtain ⟨fd_is_integer, F_is_integer⟩ := c.def_ 2 (d := d_is_integer) rfl
  obtain ⟨fd_is_between, F_is_between⟩ := c.def_ 3 (d := d_is_between) rfl
  obtain ⟨fd_is_vat, F_is_vat⟩ := c.def_ 4 (d := d_is_vat) rfl
  obtain ⟨fd_check_vat, F_check_vat⟩ := c.def_ 5 (d := d_check_vat) rfl
  obtain ⟨fd_check_level, F_check_level⟩ := c.def_ 6 (d := d_check_level) rfl
  obtain ⟨fd_level_by, F_level_by⟩ := c.def_ 7 (d := d_level_by) rfl
  obtain ⟨fd_check_bounds, F_check_bounds⟩ := c.def_ 8 (d := d_check_bounds) rfl
  obtain ⟨fd_all_faults, F_all_faults⟩ := c.def_ 9 (d := d_all_faults) rfl
  obtain ⟨fd_is_seen, F_is_seen⟩ := c.def_ 10 (d := d_is_seen) rfl
  obtain ⟨fd_fits, F_fits⟩ := c.def_ 11 (d := d_fits) rfl
  obtain ⟨fd_may_be, F_may_be⟩ := c.def_ 12 (d := d_may_be) rfl
  obtain ⟨fd_width_of, F_width_of⟩ := c.def_ 13 (d := d_width_of) rfl
  obtain ⟨fd_parts, F_parts⟩ := c.def_ 14 (d := d_parts) rfl
  obtain ⟨fd_telling, F_telling⟩ := c.def_ 15 (d := d_telling) rfl
  obtain ⟨fd_least_row, F_least_row⟩ := c.def_ 16 (d := d_least_row) rfl
  obtain ⟨fd_shows_row, F_shows_row⟩ := c.def_ 17 (d := d_shows_row) rfl
  obtain ⟨fd_is_told, F_is_told⟩ := c.def_ 18 (d := d_is_told) rfl
  obtain ⟨fd__law_pot, F__law_pot⟩ := c.def_ 19 (d := d__law_pot) rfl
  obtain ⟨fd__law_take, F__law_take⟩ := c.def_ 20 (d := d__law_take) rfl
  obtain ⟨fd__law_of, F__law_of⟩ := c.def_ 21 (d := d__law_of) rfl
  obtain ⟨fd__law_places, F__law_places⟩ := c.def_ 22 (d := d__law_places) rfl
  obtain ⟨fd__law_drawn, F__law_drawn⟩ := c.def_ 23 (d := d__law_drawn) rfl
  obtain ⟨fd__law_parts, F__law_parts⟩ := c.def_ 24 (d := d__law_parts) rfl
  obtain ⟨fd__law_is_told, F__law_is_told⟩ := c.def_ 25 (d := d__law_is_told) rfl
  obtain ⟨fd__law_shuffled, F__law_shuffled⟩ := c.def_ 26 (d := d__law_shuffled) rfl
  obtain ⟨fd__law_is_row_right, F__law_is_row_right⟩ := c.def_ 27 (d := d__law_is_row_right) rfl
  obtain ⟨fd__law_levels, F__law_levels⟩ := c.def_ 28 (d := d__law_levels) rfl
  obtain ⟨fd__law_lets, F__law_lets⟩ := c.def_ 29 (d := d__law_lets) rfl
  obtain ⟨fd__law_between, F__law_between⟩ := c.def_ 31 (d := d__law_between) rfl
  obtain ⟨fd__law_is_course_right, F__law_is_course_right⟩ := c.def_ 30 (d := d__law_is_course_right) rfl
  obtain ⟨fd__law_is_right, F__law_is_right⟩ := c.def_ 32 (d := d__law_is_right) rfl
  obtain ⟨fd, F⟩ := c.def_ 33 (d := d_law) rfl
  have e := hfa.symm.trans (He.glo_ok X G (c.fact 33 (f := .glo "law") rfl))
  cases e
  have b := FunD.bindsA (ps := ["script"]) F fun _ _ _ _ _ _ us hl => match us, hl with | [_], _ => rfl
  refine ⟨fd, fun s v => b s [v] rfl, fun base _ _ => ?_⟩
  have c_is_tuple : OwnFn P w K mg base 1 "is_tuple" m_is_tuple := o_is_tuple F_is_tuple (He.glo_ok X G (c.fact 0 (f := .glo "is_tuple") rfl)) b_isinstance b_len b_tuple
  have c_is_whole : OwnFn P w K mg base 1 "is_whole" m_is_whole := o_is_whole F_is_whole (He.glo_ok X G (c.fact 1 (f := .glo "is_whole") rfl)) b_bool b_int b_isinstance
  have c_is_integer : OwnFn P w K mg base 2 "is_integer" m_is_integer := o_is_integer F_is_integer (He.glo_ok X G (c.fact 2 (f := .glo "is_integer") rfl)) c_is_whole
  have c_is_between : OwnFn P w K mg base 3 "is_between" m_is_between := o_is_between F_is_between (He.glo_ok X G (c.fact 3 (f := .glo "is_between") rfl)) g_PAIR_vats (c_is_tuple.up (by decide)) c_is_integer
  have c_is_vat : OwnFn P w K mg base 4 "is_vat" m_is_vat := o_is_vat F_is_vat (He.glo_ok X G (c.fact 4 (f := .glo "is_vat") rfl)) g_FIVE g_MOST_KEEPS g_MOST_LEVEL g_MOST_STRENGTH g_MOST_UNDER g_MOST_WEATHER g_PAIR_vats g_TRIPLE_vats (c_is_tuple.up (by decide)) (c_is_integer.up (by decide)) c_is_between
  have c_check_vat : OwnFn P w K mg base 5 "check_vat" m_check_vat := o_check_vat F_check_vat (He.glo_ok X G (c.fact 5 (f := .glo "check_vat") rfl)) c_is_vat
  have c_check_level : OwnFn P w K mg base 6 "check_level" m_check_level := o_check_level F_check_level (He.glo_ok X G (c.fact 6 (f := .glo "check_level") rfl)) g_TRIPLE_vats c_check_vat (c_is_integer.up (by decide))
  have c_level_by : OwnFn P w K mg base 1 "level_by" m_level_by := o_level_by F_level_by (He.glo_ok X G (c.fact 7 (f := .glo "level_by") rfl)) g_PAIR_vats
  have c_check_bounds : OwnFn P w K mg base 6 "check_bounds" m_check_bounds := o_check_bounds F_check_bounds (He.glo_ok X G (c.fact 8 (f := .glo "check_bounds") rfl)) g_MOST_LEVER c_check_vat (c_is_between.up (by decide))
  have c_all_faults : OwnFn P w K mg base 1 "all_faults" m_all_faults := o_all_faults F_all_faults (He.glo_ok X G (c.fact 9 (f := .glo "all_faults") rfl)) b_range g_FINE g_STUCK
  have c_is_seen : OwnFn P w K mg base 3 "is_seen" m_is_seen := o_is_seen F_is_seen (He.glo_ok X G (c.fact 10 (f := .glo "is_seen") rfl)) b_all b_len g_MOST_SEEN g_PAIR_stuck g_TRIPLE_stuck (c_is_tuple.up (by decide)) c_is_integer
  have c_fits : OwnFn P w K mg base 2 "fits" m_fits := o_fits F_fits (He.glo_ok X G (c.fact 11 (f := .glo "fits") rfl)) g_FINE g_TRIPLE_stuck c_level_by
  have c_may_be : OwnFn P w K mg base 7 "may_be" m_may_be := o_may_be F_may_be (He.glo_ok X G (c.fact 12 (f := .glo "may_be") rfl)) b_all b_tuple b_zip c_check_bounds (c_is_seen.up (by decide)) (c_all_faults.up (by decide)) (c_fits.up (by decide))
  have c_width_of : OwnFn P w K mg base 1 "width_of" m_width_of := o_width_of F_width_of (He.glo_ok X G (c.fact 13 (f := .glo "width_of") rfl)) g_TRIPLE_stuck
  have c_parts : OwnFn P w K mg base 2 "parts" m_parts := o_parts F_parts (He.glo_ok X G (c.fact 14 (f := .glo "parts") rfl)) b_abs g_PAIR_stuck c_width_of
  have c_telling : OwnFn P w K mg base 7 "telling" m_telling := o_telling F_telling (He.glo_ok X G (c.fact 15 (f := .glo "telling") rfl)) b_range b_tuple c_check_bounds (c_is_integer.up (by decide)) (c_parts.up (by decide))
  have c_least_row : OwnFn P w K mg base 7 "least_row" m_least_row := o_least_row F_least_row (He.glo_ok X G (c.fact 16 (f := .glo "least_row") rfl)) b_all b_range g_NEVER g_ROW c_check_bounds (c_parts.up (by decide))
  have c_shows_row : OwnFn P w K mg base 7 "shows_row" m_shows_row := o_shows_row F_shows_row (He.glo_ok X G (c.fact 17 (f := .glo "shows_row") rfl)) b_all b_any b_isinstance b_range b_str g_NEVER g_PAIR_stuck g_ROW c_check_bounds (c_is_tuple.up (by decide)) (c_is_integer.up (by decide)) (c_parts.up (by decide))
  have c_is_told : OwnFn P w K mg base 7 "is_told" m_is_told := o_is_told F_is_told (He.glo_ok X G (c.fact 18 (f := .glo "is_told") rfl)) b_all b_any b_range g_MOST_SEEN c_check_bounds c_check_level (c_is_tuple.up (by decide)) (c_is_integer.up (by decide)) (c_parts.up (by decide))
  have c__law_pot : OwnFnN P w K mg base 1 "_law_pot" m__law_pot := o__law_pot F__law_pot (He.glo_ok X G (c.fact 19 (f := .glo "_law_pot") rfl)) b_abs b_int b_len b_sum
  have c__law_take : OwnFn P w K mg base 1 "_law_take" m__law_take := o__law_take F__law_take (He.glo_ok X G (c.fact 20 (f := .glo "_law_take") rfl)) b_int
  have c__law_of : OwnFn P w K mg base 2 "_law_of" m__law_of := o__law_of F__law_of (He.glo_ok X G (c.fact 21 (f := .glo "_law_of") rfl)) b_len c__law_take
  have c__law_places : OwnFn P w K mg base 1 "_law_places" m__law_places := o__law_places F__law_places (He.glo_ok X G (c.fact 22 (f := .glo "_law_places") rfl)) b_len b_list b_max b_min b_range
  have c__law_drawn : OwnFn P w K mg base 3 "_law_drawn" m__law_drawn := o__law_drawn F__law_drawn (He.glo_ok X G (c.fact 23 (f := .glo "_law_drawn") rfl)) c__law_of (c__law_take.up (by decide))
  have c__law_parts : OwnFn P w K mg base 1 "_law_parts" m__law_parts := o__law_parts F__law_parts (He.glo_ok X G (c.fact 24 (f := .glo "_law_parts") rfl)) b_abs
  have c__law_is_told : OwnFn P w K mg base 2 "_law_is_told" m__law_is_told := o__law_is_told F__law_is_told (He.glo_ok X G (c.fact 25 (f := .glo "_law_is_told") rfl)) b_all b_any b_range c__law_parts
  have c__law_shuffled : OwnFn P w K mg base 2 "_law_shuffled" m__law_shuffled := o__law_shuffled F__law_shuffled (He.glo_ok X G (c.fact 26 (f := .glo "_law_shuffled") rfl)) b_len b_list b_range b_tuple c__law_take
  have c__law_is_row_right : OwnFn P w K mg base 8 "_law_is_row_right" m__law_is_row_right := o__law_is_row_right F__law_is_row_right (He.glo_ok X G (c.fact 27 (f := .glo "_law_is_row_right") rfl)) b_max b_min b_range b_repr b_tuple (c__law_take.up (by decide)) (c__law_is_told.up (by decide)) (c__law_shuffled.up (by decide)) c_is_told c_shows_row c_least_row (c__law_parts.up (by decide)) c_telling
  have c__law_levels : OwnFn P w K mg base 1 "_law_levels" m__law_levels := o__law_levels F__law_levels (He.glo_ok X G (c.fact 28 (f := .glo "_law_levels") rfl)) b_tuple b_zip
  have c__law_lets : OwnFn P w K mg base 1 "_law_lets" m__law_lets := o__law_lets F__law_lets (He.glo_ok X G (c.fact 29 (f := .glo "_law_lets") rfl)) b_zip
  have c__law_between : OwnFn P w K mg base 1 "_law_between" m__law_between := o__law_between F__law_between (He.glo_ok X G (c.fact 31 (f := .glo "_law_between") rfl)) b_max
  have c__law_is_course_right : OwnFn P w K mg base 8 "_law_is_course_right" m__law_is_course_right := o__law_is_course_right F__law_is_course_right (He.glo_ok X G (c.fact 30 (f := .glo "_law_is_course_right") rfl)) b_abs b_any b_max b_range b_repr b_tuple b_zip (c__law_of.up (by decide)) (c__law_levels.up (by decide)) (c__law_lets.up (by decide)) c_may_be (c__law_is_told.up (by decide)) (c__law_parts.up (by decide)) (c__law_between.up (by decide))
  have c__law_is_right : OwnFn P w K mg base 9 "_law_is_right" m__law_is_right := o__law_is_right F__law_is_right (He.glo_ok X G (c.fact 32 (f := .glo "_law_is_right") rfl)) b_abs b_range b_repr b_tuple (c__law_drawn.up (by decide)) (c__law_take.up (by decide)) c__law_is_row_right c__law_is_course_right (c__law_is_told.up (by decide)) (c_is_told.up (by decide)) (c_least_row.up (by decide))
  exact o_law F b_all b_range (c__law_places.up (by decide)) (c__law_pot.up (by decide)) c__law_is_right
end K68
open PySem PySem.W PySem.Calls PyProof.Rows
theorem PySem.Challenge.cw_steeredback_k68_whole_rows_of_settings_t_holds : PySem.Challenge.rw_steeredback_k68_whole_rows_of_settings_t.Holds := by
  w_on; o_law
  refine HandSHeadRun.head_any (r := OpenLaw.row PySem.Challenge.rw_steeredback_k68_whole_rows_of_settings_t) (q := view (OpenLaw.row PySem.Challenge.rw_steeredback_k68_whole_rows_of_settings_t).prog [59]) (H := K68.hk) (ob := K68.ob) (M := 20000) (loose := K68.names) (d := HandSHeadRun.topDef (OpenLaw.row PySem.Challenge.rw_steeredback_k68_whole_rows_of_settings_t).prog 59) (kwd := []) K68.ob_eq
    (by kernel_rfl) (fun s => by kernel_rfl) K68.run (by kernel_rfl) (by kernel_rfl) (by kernel_rfl) (by rfl) (by first | assumption | decide +kernel) (by decide +kernel) ⟨rfl, rfl, rfl, rfl, rfl, by decide +kernel⟩ ?hw ?hc
  case hw => w_witness2
  case hc =>
    refine Dx.walk_end (l := PySem.Challenge.rw_steeredback_k68_whole_rows_of_settings_t) (n := 63) (k := 10) (x := "script") rfl (by decide) (by kernel_rfl) ⟨rfl, by decide, by decide⟩ ?F
    intro w mg fa h Y G hmg0
    obtain ⟨K, KX, c⟩ := Y
    have hmg : mg ("law" : PySem.Str) = some (.ref fa) := by
      have e : (HandSHeadRun.topDef (OpenLaw.row PySem.Challenge.rw_steeredback_k68_whole_rows_of_settings_t).prog 59).name = ("law" : PySem.Str) := by kernel_rfl
      rw [← e]
      exact hmg0
    obtain ⟨fd, hb, hF⟩ := K68.facts (P := (PySem.Challenge.rw_steeredback_k68_whole_rows_of_settings_t).prog) (w := w) KX G hmg c
    exact ⟨K, fd, Dx.spLaw K K68.okLaw, KX, hb, fun H a ns hl hS => ⟨a, ns, rfl, hS, K68.law_ok ns hl, fun _ => rfl⟩, hF⟩

