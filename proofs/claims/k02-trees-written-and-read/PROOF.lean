import PyProof.Rows.All
import Wide.All
import OpenK.AllK
import Wide.FinOn
import HandS.ForMost
import HandS.Exc
import HandS.ExcOwn
import HandS.TryOnly
import HandS.CallSlots
import HandS.WordsExc
import HandS.IsInst
import HandS.Deep
import HandS.TupAny
import HandS.Style
import HandS.Conv
import HandS.SortInts
import HandS.Zip
import KE.SortKeyHeap
import HandS.ExcValue
import HandS.ExcIs
import KE.SortData
import KE.DataCmp
import PyProof.EnumMake
import PyProof.Draws
import HandS.Text
import HandS.StrMore
import HandS.More
import PySem.Challenge.RW_sidebyside_k02_trees_written_and_read
set_option Elab.async false
set_option linter.all false
set_option maxRecDepth 100000
set_option maxHeartbeats 1000000
/-! A layer over HandS: values as plain data (PyData), a def as a plain function on data. -/
namespace DL
open PySem L2

abbrev D := PyData

/-! ### a value stands for a datum -/
mutual
inductive Rp (H : Hp) : V → D → Prop
  | non : Rp H .non .none
  | bl (b : Bool) : Rp H (.bl b) (.bool b)
  | int (i : Int) : Rp H (.int i) (.int i)
  | str (x : Str) : Rp H (.str x) (.str x)
  | lst {a : Addr} {xs : List V} {ds : List D} : H a = some (.lst xs) → RpA H xs ds → Rp H (.ref a) (.list ds)
  | tup {a : Addr} {xs : List V} {ds : List D} : H a = some (.tup xs) → RpA H xs ds → Rp H (.ref a) (.tuple ds)
  | dct {a : Addr} : H a = some (.dK []) → Rp H (.ref a) (.dict [])
inductive RpA (H : Hp) : List V → List D → Prop
  | nil : RpA H [] []
  | cons {v : V} {vs : List V} {d : D} {ds : List D} : Rp H v d → RpA H vs ds → RpA H (v :: vs) (d :: ds)
end

mutual
theorem Rp.mono {H H' : Hp} (s : Same H H') : ∀ {v : V} {d : D}, Rp H v d → Rp H' v d
  | _, _, .non => .non
  | _, _, .bl b => .bl b
  | _, _, .int i => .int i
  | _, _, .str x => .str x
  | _, _, .lst h a => .lst (s _ _ h) (RpA.mono s a)
  | _, _, .tup h a => .tup (s _ _ h) (RpA.mono s a)
  | _, _, .dct h => .dct (s _ _ h)
theorem RpA.mono {H H' : Hp} (s : Same H H') : ∀ {vs : List V} {ds : List D}, RpA H vs ds → RpA H' vs ds
  | _, _, .nil => .nil
  | _, _, .cons a b => .cons (Rp.mono s a) (RpA.mono s b)
end
theorem RpA.length {H : Hp} : ∀ {vs : List V} {ds : List D}, RpA H vs ds → vs.length = ds.length
  | _, _, .nil => rfl
  | _, _, .cons _ b => by rw [List.length_cons, List.length_cons, b.length]
theorem RpA.get {H : Hp} : ∀ {vs : List V} {ds : List D} {i : Nat} {d : D}, RpA H vs ds → ds[i]? = some d → ∃ v, vs[i]? = some v ∧ Rp H v d
  | _, _, _, _, .nil, e => by simp at e
  | _, _, 0, _, .cons a _, e => by simp at e; subst e; exact ⟨_, rfl, a⟩
  | _, _, i + 1, d, .cons _ b, e => by
    obtain ⟨v, h1, h2⟩ := RpA.get (i := i) (d := d) b (by simpa using e)
    exact ⟨v, by simpa using h1, h2⟩
theorem RpA.getV {H : Hp} : ∀ {vs : List V} {ds : List D} {i : Nat} {v : V}, RpA H vs ds → vs[i]? = some v → ∃ d, ds[i]? = some d ∧ Rp H v d
  | _, _, _, _, .nil, e => by simp at e
  | _, _, 0, _, .cons a _, e => by simp at e; subst e; exact ⟨_, rfl, a⟩
  | _, _, i + 1, v, .cons _ b, e => by
    obtain ⟨d, h1, h2⟩ := RpA.getV (i := i) (v := v) b (by simpa using e)
    exact ⟨d, by simpa using h1, h2⟩
theorem RpA.append {H : Hp} : ∀ {vs ws : List V} {ds es : List D}, RpA H vs ds → RpA H ws es → RpA H (vs ++ ws) (ds ++ es)
  | _, _, _, _, .nil, s => s
  | _, _, _, _, .cons a b, s => .cons a (b.append s)
theorem RpA.take {H : Hp} : ∀ {vs : List V} {ds : List D} (n : Nat), RpA H vs ds → RpA H (vs.take n) (ds.take n)
  | _, _, 0, _ => .nil
  | _, _, _ + 1, .nil => .nil
  | _, _, n + 1, .cons a b => .cons a (b.take n)
theorem RpA.drop {H : Hp} : ∀ {vs : List V} {ds : List D} (n : Nat), RpA H vs ds → RpA H (vs.drop n) (ds.drop n)
  | _, _, 0, h => h
  | _, _, _ + 1, .nil => .nil
  | _, _, n + 1, .cons _ b => b.drop n
theorem RpA.reverse {H : Hp} {vs : List V} {ds : List D} (h : RpA H vs ds) : RpA H vs.reverse ds.reverse := by
  induction vs generalizing ds with
  | nil => cases h; exact .nil
  | cons v vs ih =>
    cases h with
    | cons a b =>
      rw [List.reverse_cons, List.reverse_cons]
      exact (ih b).append (.cons a .nil)
mutual
theorem Rp.inj {H : Hp} : ∀ {v : V} {d e : D}, Rp H v d → Rp H v e → d = e
  | _, _, _, .non, h => by cases h; rfl
  | _, _, _, .bl b, h => by cases h; rfl
  | _, _, _, .int b, h => by cases h; rfl
  | _, _, _, .str b, h => by cases h; rfl
  | _, _, _, .lst h a, h' => by
    cases h' with
    | lst g b => rw [h] at g; cases g; rw [RpA.inj a b]
    | tup g b => rw [h] at g; cases g
    | dct g => rw [h] at g; cases g
  | _, _, _, .tup h a, h' => by
    cases h' with
    | lst g b => rw [h] at g; cases g
    | tup g b => rw [h] at g; cases g; rw [RpA.inj a b]
    | dct g => rw [h] at g; cases g
  | _, _, _, .dct h, h' => by
    cases h' with
    | lst g b => rw [h] at g; cases g
    | tup g b => rw [h] at g; cases g
    | dct g => rfl
theorem RpA.inj {H : Hp} : ∀ {vs : List V} {ds es : List D}, RpA H vs ds → RpA H vs es → ds = es
  | _, _, _, .nil, h => by cases h; rfl
  | _, _, _, .cons a b, h => by
    cases h with
    | cons a' b' => rw [Rp.inj a a', RpA.inj b b']
end

/-! no dict within -/
mutual
def noDict : D → Bool
  | .dict _ => false
  | .list ds => noDictA ds
  | .tuple ds => noDictA ds
  | _ => true
def noDictA : List D → Bool
  | [] => true
  | d :: ds => noDict d && noDictA ds
end
mutual
theorem Rp.dp {K : PySem.W.Frag} {H : Hp} : ∀ {d : D} {v : V}, noDict d = true → Rp H v d → Dp K H v d
  | _, _, _, .non => .non
  | _, _, _, .bl b => .bl b
  | _, _, _, .int i => .int i
  | _, _, _, .str x => .str x
  | .list ds, _, n, .lst h a => .lst (SqL.of h) (RpA.dp (by simpa [noDict] using n) a)
  | .tuple ds, _, n, .tup h a => .tup (SqT.of h) (RpA.dp (by simpa [noDict] using n) a)
  | _, _, n, .dct _ => by simp [noDict] at n
theorem RpA.dp {K : PySem.W.Frag} {H : Hp} : ∀ {ds : List D} {vs : List V}, noDictA ds = true → RpA H vs ds → DpAll K H vs ds
  | _, _, _, .nil => .nil
  | d :: ds, _, n, .cons a b => by
    have n' : noDict d = true ∧ noDictA ds = true := by simpa [noDictA] using n
    exact .cons (Rp.dp n'.1 a) (RpA.dp n'.2 b)
end
mutual
theorem noDict_of_lay : ∀ d : D, PyData.canLay0 d = true → noDict d = true
  | .none, _ => rfl
  | .bool _, _ => rfl
  | .int _, _ => rfl
  | .str _, _ => rfl
  | .list ds, h => by
    have h' : PyData.canLayAll0 ds = true := by simpa [PyData.canLay0] using h
    simpa [noDict] using noDictA_of_lay ds h'
  | .tuple ds, h => by
    have h' : PyData.canLayAll0 ds = true := by simpa [PyData.canLay0] using h
    simpa [noDict] using noDictA_of_lay ds h'
  | .dict _, h => by simp [PyData.canLay0] at h
theorem noDictA_of_lay : ∀ ds : List D, PyData.canLayAll0 ds = true → noDictA ds = true
  | [], _ => rfl
  | d :: ds, h => by
    have h' : PyData.canLay0 d = true ∧ PyData.canLayAll0 ds = true := by simpa [PyData.canLayAll0] using h
    simp [noDictA, noDict_of_lay d h'.1, noDictA_of_lay ds h'.2]
end
theorem Rp.dpS {K : PySem.W.Frag} {H : Hp} {d : D} {v : V} (s : SeqAt.shaped d = true) (r : Rp H v d) : Dp K H v d := r.dp (noDict_of_lay d (SeqAt.canLay_of_shaped s))

/-! ### outcomes -/
inductive R (α : Type) where
  | bad
  | ok (a : α)
  | exc (c : Str)
namespace R
variable {α β γ : Type}
def bind (r : R α) (f : α → R β) : R β := match r with
  | .bad => .bad
  | .ok a => f a
  | .exc c => .exc c
theorem nr {α : Type} {a b : α} (h : a = b) : a = b := h
@[simp] theorem bind_ok (a : α) (f : α → R β) : (R.ok a).bind f = f a := nr rfl
@[simp] theorem bind_bad (f : α → R β) : (R.bad : R α).bind f = .bad := nr rfl
@[simp] theorem bind_exc (c : Str) (f : α → R β) : (R.exc c : R α).bind f = .exc c := nr rfl
end R

/-! ### the state: slots that hold data, and slots that own a list -/
/-- an exception object of the class at C -/
def ExK (C : Addr) (a : Addr) : HO := .ext fun h => ∃ (oe : Obj) (vs : Array Value), h.get? a = some oe ∧ Zc (.ref C) none oe ∧ oe.data = .fields vs
inductive Sl where
  | no
  | dat (d : D)
  | own (ds : List D)
  | scr (ns : List Int)
  /-- a list of lists, owned, and so is its last item -/
  | own1 (ds : List D) (last : List D)
  /-- an exception of the class at C -/
  | exn (c : Str) (C : Addr)
  /-- a dict, owned: its keys are tuples of ints -/
  | dct (kvs : List (List Int × D))
abbrev Env := List Sl
/-- a dict's entries -/
inductive DRel (B : Hp) : List (List L2.Key × V) → List (List Int × D) → Prop
  | nil : DRel B [] []
  | cons {k : List Int} {v : V} {d : D} {xs : List (List L2.Key × V)} {kvs : List (List Int × D)} : Rp B v d → DRel B xs kvs → DRel B ((k.map Sum.inl, v) :: xs) ((k, d) :: kvs)
theorem DRel.mono {B B' : Hp} {xs : List (List L2.Key × V)} {kvs : List (List Int × D)} (s : Same B B') (h : DRel B xs kvs) : DRel B' xs kvs := by
  induction h with
  | nil => exact .nil
  | cons r _ ih => exact .cons (r.mono s) ih

def SlOk (K : PySem.W.Frag) (H0 B H : Hp) (o : Option (Option V)) : Sl → Prop
  | .no => True
  | .dat d => ∃ v, o = some (some v) ∧ Rp B v d
  | .own ds => ∃ a vs, o = some (some (.ref a)) ∧ H a = some (.lst vs) ∧ B a = none ∧ H0 a = none ∧ RpA B vs ds
  | .scr ns => ∃ a, o = some (some (.ref a)) ∧ SqL K B a (ns.map V.int)
  | .own1 ds last => ∃ a b vs ws, o = some (some (.ref a)) ∧ H a = some (.lst (vs ++ [.ref b])) ∧ B a = none ∧ H0 a = none ∧ RpA B vs ds ∧ H b = some (.lst ws) ∧ B b = none ∧ H0 b = none ∧ RpA B ws last ∧ a ≠ b
  | .exn _ C => ∃ a, o = some (some (.ref a)) ∧ B a = some (ExK C a)
  | .dct kvs => ∃ a xs, o = some (some (.ref a)) ∧ H a = some (.dT xs) ∧ B a = none ∧ H0 a = none ∧ DRel B xs kvs
/-- what a slot owns -/
def Owns (H : Hp) (o : Option (Option V)) (a : Addr) : Sl → Prop
  | .own _ => o = some (some (.ref a))
  | .own1 _ _ => o = some (some (.ref a)) ∨ ∃ p vs, o = some (some (.ref p)) ∧ H p = some (.lst (vs ++ [.ref a]))
  | .dct _ => o = some (some (.ref a))
  | _ => False
theorem Owns.back {K : PySem.W.Frag} {H0 B H H' : Hp} {o : Option (Option V)} {s : Sl} {a : Addr} (k : SlOk K H0 B H o s) (e : Same H H') (h : Owns H' o a s) : Owns H o a s := by
  cases s with
  | own ds => exact h
  | own1 ds l =>
    rcases h with h | ⟨p, vs, h1, h2⟩
    · exact .inl h
    · obtain ⟨a', b, vs', ws, k1, k2, _⟩ := k
      rw [h1] at k1; cases k1
      rw [e _ _ k2] at h2
      exact .inr ⟨p, vs, h1, by rw [k2]; exact h2⟩
  | no => exact h
  | dat d => exact h
  | scr ns => exact h
  | exn c C => exact h
  | dct kvs => exact h
theorem Owns.there {K : PySem.W.Frag} {H0 B H : Hp} {o : Option (Option V)} {s : Sl} {a : Addr} (k : SlOk K H0 B H o s) (h : Owns H o a s) : ∃ u, H a = some u ∧ B a = none ∧ H0 a = none := by
  cases s with
  | own ds =>
    obtain ⟨a', vs, k1, k2, k3, k4, _⟩ := k
    have h : o = some (some (.ref a)) := h
    rw [h] at k1; cases k1
    exact ⟨_, k2, k3, k4⟩
  | own1 ds l =>
    obtain ⟨a', b, vs', ws, k1, k2, k3, k4, _, k6, k7, k8, _⟩ := k
    rcases h with h | ⟨p, vs, h1, h2⟩
    · rw [h] at k1; cases k1
      exact ⟨_, k2, k3, k4⟩
    · rw [h1] at k1; cases k1
      rw [k2] at h2
      have e := HO.lst.inj (Option.some.inj h2)
      have e2 : [V.ref b] = [V.ref a] := (List.append_inj' e rfl).2
      cases e2
      exact ⟨_, k6, k7, k8⟩
  | no => exact h.elim
  | dat d => exact h.elim
  | scr ns => exact h.elim
  | exn c C => exact h.elim
  | dct kvs =>
    obtain ⟨a', xs, k1, k2, k3, k4, _⟩ := k
    have h : o = some (some (.ref a)) := h
    rw [h] at k1; cases k1
    exact ⟨_, k2, k3, k4⟩

/-- B0 within H0: the entry; B within H: now. B is what stands still -/
structure Gd (K : PySem.W.Frag) (B0 H0 B H : Hp) (σ : St) (ρ : Env) : Prop where
  sub0 : Same B0 H0
  sub : Same B H
  old : Same H0 H
  oldB : ∀ (a : Addr) (o : HO), H0 a = some o → B a = B0 a
  len : σ.length = ρ.length
  slots : ∀ (i : Nat) (s : Sl), ρ[i]? = some s → SlOk K H0 B H σ[i]? s
  apart : ∀ (i j : Nat) (s t : Sl) (a : Addr), ρ[i]? = some s → ρ[j]? = some t → Owns H σ[i]? a s → Owns H σ[j]? a t → i = j

/-- what may have come: new objects alone -/
structure Gr (B H B' H' : Hp) : Prop where
  b : Same B B'
  s : Same B' H'
  h : Same H H'
  n : ∀ a o, H a = some o → B' a = B a
theorem Gr.refl {B H : Hp} (s : Same B H) : Gr B H B H := ⟨Same.refl _, s, Same.refl _, fun _ _ _ => rfl⟩
theorem Gr.trans {B H B1 H1 B2 H2 : Hp} (a : Gr B H B1 H1) (b : Gr B1 H1 B2 H2) : Gr B H B2 H2 :=
  ⟨a.b.trans b.b, b.s, a.h.trans b.h, fun x o e => (b.n x o (a.h x o e)).trans (a.n x o e)⟩
theorem Gr.new {B H : Hp} {p : Addr} {o : HO} (s : Same B H) (h : H p = none) : Gr B H (upd B p o) (upd H p o) := by
  have hb : B p = none := s.free h
  refine ⟨fun x u e => ?_, fun x u e => ?_, fun x u e => ?_, fun x u e => ?_⟩
  · rw [upd_ne (ne_of_none e hb)]; exact e
  · by_cases hx : x = p
    · subst hx; rw [upd_same] at e ⊢; exact e
    · rw [upd_ne hx] at e ⊢; exact s x u e
  · rw [upd_ne (ne_of_none e h)]; exact e
  · rw [upd_ne (ne_of_none e h)]
theorem SqL.mono {K : PySem.W.Frag} {H H' : Hp} {a : Addr} {xs : List V} (e : Same H H') (h : SqL K H a xs) : SqL K H' a xs := e.seq h
theorem Gd.grow {K : PySem.W.Frag} {B0 H0 B H B' H' : Hp} {σ : St} {ρ : Env} (g : Gd K B0 H0 B H σ ρ) (r : Gr B H B' H') : Gd K B0 H0 B' H' σ ρ where
  sub0 := g.sub0
  sub := r.s
  old := g.old.trans r.h
  oldB := fun a o e => (r.n a o (g.old a o e)).trans (g.oldB a o e)
  len := g.len
  slots := fun i s e => by
    have h := g.slots i s e
    cases s with
    | no => exact True.intro
    | dat d => obtain ⟨v, h1, h2⟩ := h; exact ⟨v, h1, h2.mono r.b⟩
    | own ds =>
      obtain ⟨a, vs, h1, h2, h3, h4, h5⟩ := h
      exact ⟨a, vs, h1, r.h a _ h2, (r.n a _ h2).trans h3, h4, h5.mono r.b⟩
    | scr ns => obtain ⟨a, h1, h2⟩ := h; exact ⟨a, h1, r.b.seq h2⟩
    | exn c C => obtain ⟨a, h1, h2⟩ := h; exact ⟨a, h1, r.b _ _ h2⟩
    | dct kvs =>
      obtain ⟨a, xs, h1, h2, h3, h4, h5⟩ := h
      exact ⟨a, xs, h1, r.h a _ h2, (r.n a _ h2).trans h3, h4, h5.mono r.b⟩
    | own1 ds l =>
      obtain ⟨a, b, vs, ws, h1, h2, h3, h4, h5, h6, h7, h8, h9, h10⟩ := h
      exact ⟨a, b, vs, ws, h1, r.h a _ h2, (r.n a _ h2).trans h3, h4, h5.mono r.b, r.h b _ h6, (r.n b _ h6).trans h7, h8, h9.mono r.b, h10⟩
  apart := fun i j s t a e1 e2 o1 o2 => g.apart i j s t a e1 e2 (o1.back (g.slots i s e1) r.h) (o2.back (g.slots j t e2) r.h)
theorem Gd.dat {K : PySem.W.Frag} {B0 H0 B H : Hp} {σ : St} {ρ : Env} {i : Nat} {d : D} (g : Gd K B0 H0 B H σ ρ) (e : ρ[i]? = some (.dat d)) : ∃ v, σ[i]? = some (some v) ∧ Rp B v d := g.slots i _ e

/-! ### readings and functions on data -/
section
variable (K : PySem.W.Frag) (mg : Str → Option Value) (W : WX)
/-- what is wanted where no datum comes out -/
def Wx {α : Type} (H0 : Hp) (σ : St) : R α → Prop
  | .bad => False
  | .ok _ => True
  | .exc c => ∀ (H' : Hp) (C : Addr), Same H0 H' → mg c = some (.ref C) → W (.ref C) none σ H'
def Ev (t : TE) (f : Env → R D) : Prop := ∀ (B0 H0 B H : Hp) (σ : St) (ρ : Env) (Q : VK), Gd K B0 H0 B H σ ρ → Wx mg W H0 σ (f ρ) → (∀ d B' H' v, f ρ = .ok d → Gr B H B' H' → Rp B' v d → Q v H') → t σ H Q
def EvT (t : TT) (f : Env → R Bool) : Prop := ∀ (B0 H0 B H : Hp) (σ : St) (ρ : Env) (Q : Bool → Hp → Prop), Gd K B0 H0 B H σ ρ → Wx mg W H0 σ (f ρ) → (∀ b B' H', f ρ = .ok b → Gr B H B' H' → Q b H') → t σ H Q
def EvA (t : TA) (f : Env → R (List D)) : Prop := ∀ (B0 H0 B H : Hp) (σ : St) (ρ : Env) (Q : List V → Hp → Prop), Gd K B0 H0 B H σ ρ → Wx mg W H0 σ (f ρ) → (∀ ds B' H' vs, f ρ = .ok ds → Gr B H B' H' → RpA B' vs ds → Q vs H') → t σ H Q
/-- a new list: its items stand still, the list itself is not yet among what does -/
def EvL (t : TE) (f : Env → R (List D)) : Prop := ∀ (B0 H0 B H : Hp) (σ : St) (ρ : Env) (Q : VK), Gd K B0 H0 B H σ ρ → Wx mg W H0 σ (f ρ) →
  (∀ ds B' H' p vs, f ρ = .ok ds → Gr B H B' H' → H p = none → B' p = none → H' p = some (.lst vs) → RpA B' vs ds → Q (.ref p) H') → t σ H Q
end
section
variable {K : PySem.W.Frag} {mg : Str → Option Value} {W : WX} {α β : Type} {H0 : Hp} {σ : St}
theorem Wx.of_bind {r : R α} {g : α → R β} (h : Wx mg W H0 σ (r.bind g)) : Wx mg W H0 σ r := by
  cases r with
  | bad => exact h
  | ok a => exact True.intro
  | exc c => exact h
theorem Wx.then {r : R α} {g : α → R β} {a : α} (h : Wx mg W H0 σ (r.bind g)) (e : r = .ok a) : Wx mg W H0 σ (g a) := by rw [e] at h; exact h
theorem bind_eq {r : R α} {g : α → R β} {a : α} (e : r = .ok a) : r.bind g = g a := by rw [e]; rfl
theorem Gr.push {B H B' H' : Hp} {p : Addr} {o : HO} (r : Gr B H B' H') (h : H' p = none) : Gr B H (upd B' p o) (upd H' p o) := r.trans (Gr.new r.s h)
theorem Gr.none {B H B' H' : Hp} {p : Addr} (r : Gr B H B' H') (h : H' p = Option.none) : H p = Option.none := r.h.free h
end

/-! ### what a rule of two values does on data -/
def Op2 (r : R2) (g : D → D → R D) : Prop := ∀ (B H : Hp) (x y : V) (dx dy d : D) (Q : VK), Same B H → Rp B x dx → Rp B y dy → g dx dy = .ok d → (∀ B' H' v, Gr B H B' H' → Rp B' v d → Q v H') → r x y H Q
/-- an operation never raises: it may only be one that is not told -/
def Pure2 (g : D → D → R D) : Prop := ∀ x y c, g x y ≠ .exc c
section
variable {K : PySem.W.Frag} {mg : Str → Option Value} {W : WX}
theorem ev_op {r : R2} {g : D → D → R D} {ta tb : TE} {fa fb : Env → R D} (hr : Op2 r g) (hp : Pure2 g) (ha : Ev K mg W ta fa) (hb : Ev K mg W tb fb) :
    Ev K mg W (tOp r ta tb) (fun ρ => (fa ρ).bind fun x => (fb ρ).bind fun y => g x y) := by
  intro B0 H0 B H σ ρ Q gd w k
  refine ha B0 H0 B H σ ρ _ gd w.of_bind fun dx B1 H1 x e1 g1 r1 => ?_
  have w1 := w.then e1
  refine hb B0 H0 B1 H1 σ ρ _ (gd.grow g1) w1.of_bind fun dy B2 H2 y e2 g2 r2 => ?_
  have w2 := w1.then e2
  cases e3 : g dx dy with
  | bad => simp only [e3] at w2; exact w2.elim
  | exc c => exact (hp _ _ _ e3).elim
  | ok d =>
    refine hr B2 H2 x y dx dy d Q g2.s (r1.mono g2.b) r2 e3 fun B3 H3 v g3 r3 => k d B3 H3 v ?_ ((g1.trans g2).trans g3) r3
    exact (bind_eq e1).trans ((bind_eq e2).trans e3)
end
end DL
set_option maxRecDepth 100000
set_option maxHeartbeats 1000000
namespace DL
open PySem L2

/-! ### operations on data -/
def fits (n : Nat) : Bool := decide (n ≤ 16777216)
theorem fits_line {n : Nat} (h : fits n = true) : n ≤ sizeLine := by
  rw [sizeLine_eq]; exact of_decide_eq_true h
theorem fits_of {n : Nat} (h : n ≤ 16777216) : fits n = true := decide_eq_true h

def addD : D → D → R D
  | .int i, .int j => .ok (.int (i + j))
  | .str x, .str y => if fits (x.length + y.length) then .ok (.str (x ++ y)) else .bad
  | .list xs, .list ys => if fits (xs.length + ys.length) then .ok (.list (xs ++ ys)) else .bad
  | .tuple xs, .tuple ys => if fits (xs.length + ys.length) then .ok (.tuple (xs ++ ys)) else .bad
  | _, _ => .bad
def subD : D → D → R D
  | .int i, .int j => .ok (.int (i - j))
  | _, _ => .bad
def mulD : D → D → R D
  | .int i, .int j => if (-(2 ^ 64) < i ∧ i < 2 ^ 64) ∨ (-(2 ^ 64) < j ∧ j < 2 ^ 64) then .ok (.int (i * j)) else .bad
  | .list xs, .int k => if 0 ≤ k ∧ k ≤ 1000000 ∧ fits (xs.length * k.toNat) = true then .ok (.list (List.replicate k.toNat xs).flatten) else .bad
  | _, _ => .bad
def divD : D → D → R D
  | .int i, .int j => if 0 < j ∧ j < 1073741824 then .ok (.int (i / j)) else .bad
  | _, _ => .bad
def modD : D → D → R D
  | .int i, .int j => if 0 < j then .ok (.int (i % j)) else .bad
  | _, _ => .bad
def cmpD (p : Int → Int → Bool) : D → D → R D
  | .int i, .int j => .ok (.bool (p i j))
  | _, _ => .bad
def eqD (x y : D) : R D := if SeqAt.shaped x = true ∧ SeqAt.shaped y = true then .ok (.bool (PyData.eqv x y)) else .bad
def neD (x y : D) : R D := if SeqAt.shaped x = true ∧ SeqAt.shaped y = true then .ok (.bool (!PyData.eqv x y)) else .bad
def isNoneD : D → Bool
  | .none => true
  | _ => false

theorem RpA.nth {B : Hp} {vs : List V} {ds : List D} (r : RpA B vs ds) : vs.length = ds.length := r.length

section
variable {X : Cx} {K : PySem.W.Frag}
def rAdds (K : PySem.W.Frag) : R2 := fun x y H Q => (∃ i j, x = .int i ∧ y = .int j ∧ Q (.int (i + j)) H) ∨ (∃ i j, x = .str i ∧ y = .str j ∧ i.length + j.length ≤ sizeLine ∧ Q (.str (i ++ j)) H) ∨ rCat x y H Q ∨ rCatA K x y H Q
theorem op_adds : OpR X (binaryOp .Add) (rAdds X.K) := op_add.or (op_add_str.or (op_cat.or op_catA))
theorem o2_add : Op2 (rAdds K) addD := by
  intro B H x y dx dy d Q s rx ry e k
  cases rx with
  | int i =>
    cases ry with
    | int j => cases e; exact .inl ⟨i, j, rfl, rfl, k B H _ (Gr.refl s) (.int _)⟩
    | _ => cases e
  | str i =>
    cases ry with
    | str j =>
      simp only [addD] at e
      split at e
      · rename_i hf; cases e; exact .inr (.inl ⟨i, j, rfl, rfl, fits_line hf, k B H _ (Gr.refl s) (.str _)⟩)
      · cases e
    | _ => cases e
  | @lst a xs ds hx ax =>
    cases ry with
    | @lst b ys es hy ay =>
      simp only [addD] at e
      split at e
      · rename_i hf; cases e
        refine .inr (.inr (.inl ⟨a, b, xs, ys, rfl, rfl, s _ _ hx, s _ _ hy, fits_line (by rw [ax.length, ay.length]; exact hf), fun p hp => ?_⟩))
        have g := Gr.new (o := .lst (xs ++ ys)) s hp
        exact k _ _ _ g (.lst upd_same ((ax.append ay).mono g.b))
      · cases e
    | _ => cases e
  | @tup a xs ds hx ax =>
    cases ry with
    | @tup b ys es hy ay =>
      simp only [addD] at e
      split at e
      · rename_i hf; cases e
        refine .inr (.inr (.inr ⟨a, b, xs, ys, rfl, rfl, SqT.of (s _ _ hx), SqT.of (s _ _ hy), fits_line (by rw [ax.length, ay.length]; exact hf), ?_⟩))
        refine ⟨fun h0 => ?_, fun h0 h1 => ?_, fun h0 h1 p hp => ?_⟩
        · subst h0
          have e0 : ds = [] := by cases ax; rfl
          subst e0
          exact k B H _ (Gr.refl s) (.tup hy ay)
        · subst h1
          have e0 : es = [] := by cases ay; rfl
          subst e0
          rw [List.append_nil] at k
          exact k B H _ (Gr.refl s) (.tup hx ax)
        · have g := Gr.new (o := .tup (xs ++ ys)) s hp
          exact k _ _ _ g (.tup upd_same ((ax.append ay).mono g.b))
      · cases e
    | _ => cases e
  | _ => cases e
theorem o2_I {C : Int → Int → Prop} [∀ i j, Decidable (C i j)] {g : Int → Int → Int} {f : D → D → R D} (hf : ∀ x y d, f x y = .ok d → ∃ i j, x = .int i ∧ y = .int j ∧ C i j ∧ d = .int (g i j)) : Op2 (rI C fun i j => .int (g i j)) f := by
  intro B H x y dx dy d Q s rx ry e k
  obtain ⟨i, j, rfl, rfl, hc, rfl⟩ := hf _ _ _ e
  cases rx
  cases ry
  exact ⟨i, j, rfl, rfl, hc, k B H _ (Gr.refl s) (.int _)⟩
theorem o2_sub : Op2 (rI0 fun i j => .int (i - j)) subD := by
  intro B H x y dx dy d Q s rx ry e k
  cases dx <;> cases dy <;> first | (cases e; done) | skip
  cases e; cases rx; cases ry
  exact ⟨_, _, rfl, rfl, k B H _ (Gr.refl s) (.int _)⟩
theorem o2_div : Op2 (rI CDiv fun i j => .int (i / j)) divD := by
  intro B H x y dx dy d Q s rx ry e k
  cases dx <;> cases dy <;> first | (cases e; done) | skip
  simp only [divD] at e
  split at e
  · rename_i hc; cases e; cases rx; cases ry
    exact ⟨_, _, rfl, rfl, hc, k B H _ (Gr.refl s) (.int _)⟩
  · cases e
theorem o2_mod : Op2 (rI (fun _ j => 0 < j) fun i j => .int (i % j)) modD := by
  intro B H x y dx dy d Q s rx ry e k
  cases dx <;> cases dy <;> first | (cases e; done) | skip
  simp only [modD] at e
  split at e
  · rename_i hc; cases e; cases rx; cases ry
    exact ⟨_, _, rfl, rfl, hc, k B H _ (Gr.refl s) (.int _)⟩
  · cases e
def rMuls : R2 := fun x y H Q => (∃ i j, x = .int i ∧ y = .int j ∧ CMul i j ∧ Q (.int (i * j)) H) ∨ rRep x y H Q
theorem op_muls : OpR X (binaryOp .Mult) rMuls := op_mul.or op_rep
theorem RpA.rep {B : Hp} {xs : List V} {ds : List D} (h : RpA B xs ds) : ∀ k : Nat, RpA B (List.replicate k xs).flatten (List.replicate k ds).flatten
  | 0 => .nil
  | k + 1 => by rw [List.replicate_succ, List.replicate_succ, List.flatten_cons, List.flatten_cons]; exact h.append (RpA.rep h k)
theorem o2_mul : Op2 rMuls mulD := by
  intro B H x y dx dy d Q s rx ry e k
  cases rx with
  | int i =>
    cases ry with
    | int j =>
      simp only [mulD] at e
      split at e
      · rename_i hc; cases e; exact .inl ⟨i, j, rfl, rfl, hc, k B H _ (Gr.refl s) (.int _)⟩
      · cases e
    | _ => cases e
  | @lst a xs ds hx ax =>
    cases ry with
    | int j =>
      simp only [mulD] at e
      split at e
      · rename_i hc; cases e
        refine .inr ⟨a, j, xs, rfl, rfl, s _ _ hx, by omega, by omega, fits_line (by rw [ax.length]; exact hc.2.2), fun p hp => ?_⟩
        have g := Gr.new (o := .lst (List.replicate j.toNat xs).flatten) s hp
        exact k _ _ _ g (.lst upd_same ((ax.rep _).mono g.b))
      · cases e
    | _ => cases e
  | _ => cases e
theorem o2_cmp {p : Int → Int → Bool} : Op2 (rI0 fun i j => .bl (p i j)) (cmpD p) := by
  intro B H x y dx dy d Q s rx ry e k
  cases dx <;> cases dy <;> first | (cases e; done) | skip
  cases e; cases rx; cases ry
  exact ⟨_, _, rfl, rfl, k B H _ (Gr.refl s) (.bl _)⟩
theorem o2_eq : Op2 (rEqD K) eqD := by
  intro B H x y dx dy d Q s rx ry e k
  unfold eqD at e
  split at e
  · rename_i hc; cases e
    exact ⟨dx, dy, (rx.mono s).dpS hc.1, (ry.mono s).dpS hc.2, hc.1, hc.2, k B H _ (Gr.refl s) (.bl _)⟩
  · cases e
theorem o2_ne : Op2 (rNeD K) neD := by
  intro B H x y dx dy d Q s rx ry e k
  unfold neD at e
  split at e
  · rename_i hc; cases e
    exact ⟨dx, dy, (rx.mono s).dpS hc.1, (ry.mono s).dpS hc.2, hc.1, hc.2, k B H _ (Gr.refl s) (.bl _)⟩
  · cases e
def pIs (neg : Bool) (x y : D) : R D := match y with
  | .none => .ok (.bool (if neg then !isNoneD x else isNoneD x))
  | _ => .bad
theorem Rp.isNon {B : Hp} {x : V} {d : D} (r : Rp B x d) : decide (x = .non) = isNoneD d := by cases r <;> simp [isNoneD]
theorem o2_isN : Op2 (fun x y H Q => y = .non ∧ Q (.bl (decide (x = .non))) H) (pIs false) := by
  intro B H x y dx dy d Q s rx ry e k
  cases dy <;> first | (cases e; done) | skip
  cases e; cases ry
  refine ⟨rfl, ?_⟩
  rw [rx.isNon]
  exact k B H _ (Gr.refl s) (.bl _)
theorem o2_notN : Op2 (fun x y H Q => y = .non ∧ Q (.bl (!decide (x = .non))) H) (pIs true) := by
  intro B H x y dx dy d Q s rx ry e k
  cases dy <;> first | (cases e; done) | skip
  cases e; cases ry
  refine ⟨rfl, ?_⟩
  rw [rx.isNon]
  exact k B H _ (Gr.refl s) (.bl _)
/-! in, not in -/
def flatD : D → Bool
  | .list _ => false
  | .tuple _ => false
  | .dict _ => false
  | _ => true
def inD (neg : Bool) (x y : D) : R D := match y with
  | .list ds => if SeqAt.shaped x = true ∧ SeqAt.shaped y = true then .ok (.bool (if neg then !ds.any fun z => PyData.eqv z x else ds.any fun z => PyData.eqv z x)) else .bad
  | .tuple ds => if flatD x = true ∧ ds.all flatD = true then .ok (.bool (if neg then !ds.any fun z => PyData.eqv z x else ds.any fun z => PyData.eqv z x)) else .bad
  | .str t => match x with
    | .str z => if z.cps.size = 1 then .ok (.bool (if neg then !decide (z.cps.getD 0 0 ∈ t.cps.toList) else decide (z.cps.getD 0 0 ∈ t.cps.toList))) else .bad
    | _ => .bad
  | _ => .bad
theorem Rp.flat {B : Hp} {x : V} {d : D} (r : Rp B x d) (f : flatD d = true) : flatV x = true := by
  cases r <;> first | rfl | (simp [flatD] at f)
theorem RpA.flat {B : Hp} : ∀ {xs : List V} {ds : List D}, RpA B xs ds → ds.all flatD = true → xs.all flatV = true
  | _, _, .nil, _ => rfl
  | _, _, .cons a b, f => by
    rw [List.all_cons, Bool.and_eq_true] at f ⊢
    exact ⟨a.flat f.1, b.flat f.2⟩
theorem Rp.eqV {B : Hp} {x y : V} {d e : D} (r : Rp B x d) (q : Rp B y e) (f : flatD d = true) (g : flatD e = true) : eqV x y = PyData.eqv d e := by
  cases r <;> first | (simp [flatD] at f; done) | skip
  all_goals cases q <;> first | (simp [flatD] at g; done) | skip
  all_goals simp [L2.eqV, PyData.eqv]
theorem RpA.inV {B : Hp} {x : V} {d : D} (r : Rp B x d) (f : flatD d = true) : ∀ {xs : List V} {ds : List D}, RpA B xs ds → ds.all flatD = true → L2.inV x xs = ds.any fun z => PyData.eqv z d
  | _, _, .nil, _ => rfl
  | _, _, .cons a b, g => by
    rw [List.all_cons, Bool.and_eq_true] at g
    have ih := RpA.inV r f b g.2
    unfold L2.inV at ih ⊢
    rw [List.any_cons, List.any_cons, ih, a.eqV r g.1 f]
end
end DL
set_option maxRecDepth 100000
set_option maxHeartbeats 1000000
namespace DL
open PySem L2

/-! ### the contexts in which a piece of text is read -/
structure Cxs (C : Cx → Prop) (P : Program) (w : World) (K : PySem.W.Frag) (mg : Str → Option Value) (base : Heap) (k : Nat) (W : WX) (N : List Str) (sc : Scope) : Prop where
  hP : ∀ X, C X → X.prog = P
  hw : ∀ X, C X → X.w = w
  hK : ∀ X, C X → X.K = K
  hmg : ∀ X, C X → X.mg = mg
  hbase : ∀ X, C X → X.base = base
  calm : ∀ X, C X → X.calm = true
  room : ∀ X, C X → Room k X.A
  takes : ∀ X, C X → Takes X W
  own : ∀ X, C X → PassesOwn (model X.prog X.w) X.A X.env X.xe
  hN : ∀ X, C X → X.N = N
  hsc : ∀ X, C X → X.env.scope = sc
  nd : N.Nodup
/-- slot i is the name x -/
structure Nm (N : List Str) (sc : Scope) (i : Nat) (x : Str) : Prop where
  at_ : N[i]? = some x
  vis : Vis sc x
  d1 : (x == ("__debug__" : Str)) = false
  d2 : (x == ("__classdict__" : Str)) = false
/-- .. and may be stored to -/
structure Lm (C : Cx → Prop) (N : List Str) (sc : Scope) (i : Nat) (x : Str) : Prop where
  at_ : N[i]? = some x
  loc : Loc sc x
  fn : sc.names.lookup x = some .local ∨ ∀ X, C X → X.fn x = true
/-- a global name -/
structure Gm (sc : Scope) (x : Str) : Prop where
  g : sc.names.lookup x = some .globalImplicit
  d : (x == ("__debug__" : Str)) = false
theorem Gm.gl {C : Cx → Prop} {P : Program} {w : World} {K : PySem.W.Frag} {mg : Str → Option Value} {base : Heap} {k : Nat} {W : WX} {N : List Str} {sc : Scope} {x : Str} (c : Cxs C P w K mg base k W N sc) (g : Gm sc x) (X : Cx) (h : C X) : Gl X x := by
  show X.env.scope.names.lookup x = some .globalImplicit
  rw [c.hsc X h]
  exact g.g

section
variable (C : Cx → Prop) (K : PySem.W.Frag) (mg : Str → Option Value) (W : WX)
def DE (e : Expr) (f : Env → R D) : Prop := ∃ t, (∀ X, C X → PE X e t) ∧ Ev K mg W t f
def DT (e : Expr) (f : Env → R Bool) : Prop := ∃ t, (∀ X, C X → PT X e t) ∧ EvT K mg W t f
def DW (e : Expr) (f : Env → R Bool) : Prop := ∃ t, (∀ X, C X → PW X e t) ∧ EvT K mg W t f
def DA (es : List Expr) (f : Env → R (List D)) : Prop := ∃ t, (∀ X, C X → PA X es t) ∧ EvA K mg W t f
def DN (e : Expr) (f : Env → R (List D)) : Prop := ∃ t, (∀ X, C X → PE X e t) ∧ EvL K mg W t f
end
def rdD (i : Nat) (ρ : Env) : R D := match ρ[i]? with
  | some (.dat d) => .ok d
  | _ => .bad

section
variable {C : Cx → Prop} {P : Program} {w : World} {K : PySem.W.Frag} {mg : Str → Option Value} {base : Heap} {k : Nat} {W : WX} {N : List Str} {sc : Scope}
variable {a b e : Expr} {fa fb fc : Env → R D} {pos : Pos} {x : Str} {i : Nat}

theorem de_name (c : Cxs C P w K mg base k W N sc) (n : Nm N sc i x) : DE C K mg W (.Name x pos) (rdD i) := by
  refine ⟨tVar i, fun X h => pe_var (by rw [c.hN X h]; exact n.at_) (by rw [c.hsc X h]; exact n.vis) n.d1 n.d2, fun B0 H0 B H σ ρ Q gd wx q => ?_⟩
  have e : ∃ d, rdD i ρ = .ok d ∧ ρ[i]? = some (.dat d) := by
    unfold rdD at wx ⊢
    split at wx
    · rename_i d h; exact ⟨d, rfl, h⟩
    · exact wx.elim
  obtain ⟨d, e1, e2⟩ := e
  obtain ⟨v, h1, h2⟩ := gd.dat e2
  exact ⟨v, h1, q d B H v e1 (Gr.refl gd.sub) h2⟩
theorem ev_c {v : V} {d : D} (r : ∀ H, Rp H v d) : Ev K mg W (tC v) (fun _ => .ok d) := fun B0 H0 B H σ ρ Q gd _ q => q d B H v rfl (Gr.refl gd.sub) (r B)
theorem de_int {n : Int} {j : Nat} : DE C K mg W (.Constant (.int n) j pos) (fun _ => .ok (.int n)) := ⟨_, fun _ _ => pe_int, ev_c fun _ => .int n⟩
theorem de_bl {n : Bool} {j : Nat} : DE C K mg W (.Constant (.bool n) j pos) (fun _ => .ok (.bool n)) := ⟨_, fun _ _ => pe_bl, ev_c fun _ => .bl n⟩
theorem de_non {j : Nat} : DE C K mg W (.Constant .none j pos) (fun _ => .ok .none) := ⟨_, fun _ _ => pe_non, ev_c fun _ => .non⟩
theorem de_str {n : Str} {j : Nat} : DE C K mg W (.Constant (.str n) j pos) (fun _ => .ok (.str n)) := ⟨_, fun _ _ => pe_str, ev_c fun _ => .str n⟩
/-- a module's constant -/
theorem de_globI {n : Int} {t : Tok} (c : Cxs C P w K mg base k W N sc) (g : Gm sc x) (m : mg x = some (.int n t)) : DE C K mg W (.Name x pos) (fun _ => .ok (.int n)) :=
  ⟨_, fun X h => pe_glob (g.gl c X h) (by rw [c.hmg X h]; exact m) (v := .int n) ⟨t, rfl⟩ g.d, ev_c fun _ => .int n⟩
theorem de_globS {n : Str} {t : Tok} (c : Cxs C P w K mg base k W N sc) (g : Gm sc x) (m : mg x = some (.str n t)) : DE C K mg W (.Name x pos) (fun _ => .ok (.str n)) :=
  ⟨_, fun X h => pe_glob (g.gl c X h) (by rw [c.hmg X h]; exact m) (v := .str n) ⟨t, rfl⟩ g.d, ev_c fun _ => .str n⟩

def opR (g : D → D → R D) (fa fb : Env → R D) : Env → R D := fun ρ => (fa ρ).bind fun x => (fb ρ).bind fun y => g x y
theorem pu_add : Pure2 addD := by intro x y c; cases x <;> cases y <;> simp only [addD] <;> (try split) <;> simp
theorem pu_sub : Pure2 subD := by intro x y c; cases x <;> cases y <;> simp [subD]
theorem pu_mul : Pure2 mulD := by intro x y c; cases x <;> cases y <;> simp only [mulD] <;> (try split) <;> simp
theorem pu_div : Pure2 divD := by intro x y c; cases x <;> cases y <;> simp only [divD] <;> (try split) <;> simp
theorem pu_mod : Pure2 modD := by intro x y c; cases x <;> cases y <;> simp only [modD] <;> (try split) <;> simp
theorem pu_cmp {p : Int → Int → Bool} : Pure2 (cmpD p) := by intro x y c; cases x <;> cases y <;> simp [cmpD]
theorem pu_eq : Pure2 eqD := by intro x y c; unfold eqD; split <;> simp
theorem pu_ne : Pure2 neD := by intro x y c; unfold neD; split <;> simp
theorem pu_is {n : Bool} : Pure2 (pIs n) := by intro x y c; cases y <;> simp [pIs]
theorem pu_in {n : Bool} : Pure2 (inD n) := by
  intro x y c
  unfold inD
  split <;> (try split) <;> (try split) <;> simp

theorem de_add (c : Cxs C P w K mg base k W N sc) (ha : DE C K mg W a fa) (hb : DE C K mg W b fb) : DE C K mg W (.BinOp a .Add b pos) (opR addD fa fb) :=
  let ⟨ta, pa, va⟩ := ha; let ⟨tb, pb, vb⟩ := hb
  ⟨_, fun X h => pe_op (r := rAdds K) (by have := c.hK X h; subst this; exact op_adds) (pa X h) (pb X h), ev_op o2_add pu_add va vb⟩
theorem de_sub (ha : DE C K mg W a fa) (hb : DE C K mg W b fb) : DE C K mg W (.BinOp a .Sub b pos) (opR subD fa fb) :=
  let ⟨ta, pa, va⟩ := ha; let ⟨tb, pb, vb⟩ := hb
  ⟨_, fun X h => pe_op op_sub (pa X h) (pb X h), ev_op o2_sub pu_sub va vb⟩
theorem de_mul (ha : DE C K mg W a fa) (hb : DE C K mg W b fb) : DE C K mg W (.BinOp a .Mult b pos) (opR mulD fa fb) :=
  let ⟨ta, pa, va⟩ := ha; let ⟨tb, pb, vb⟩ := hb
  ⟨_, fun X h => pe_op op_muls (pa X h) (pb X h), ev_op o2_mul pu_mul va vb⟩
theorem de_div (ha : DE C K mg W a fa) (hb : DE C K mg W b fb) : DE C K mg W (.BinOp a .FloorDiv b pos) (opR divD fa fb) :=
  let ⟨ta, pa, va⟩ := ha; let ⟨tb, pb, vb⟩ := hb
  ⟨_, fun X h => pe_op op_fdiv (pa X h) (pb X h), ev_op o2_div pu_div va vb⟩
theorem de_mod (ha : DE C K mg W a fa) (hb : DE C K mg W b fb) : DE C K mg W (.BinOp a .Mod b pos) (opR modD fa fb) :=
  let ⟨ta, pa, va⟩ := ha; let ⟨tb, pb, vb⟩ := hb
  ⟨_, fun X h => pe_op op_mod (pa X h) (pb X h), ev_op o2_mod pu_mod va vb⟩
/-- a negative constant -/
theorem de_neg {n : Int} {j : Nat} {p2 : Pos} : DE C K mg W (.UnaryOp .USub (.Constant (.int n) j p2) pos) (fun _ => .ok (.int (-n))) :=
  ⟨_, fun X h => pe_un un_neg pe_int, fun B0 H0 B H σ ρ Q gd _ q => ⟨n, rfl, q _ B H _ rfl (Gr.refl gd.sub) (.int _)⟩⟩
/-! comparisons -/
abbrev ltD := cmpD fun i j => decide (i < j)
abbrev leD := cmpD fun i j => decide (i ≤ j)
abbrev gtD := cmpD fun i j => decide (j < i)
abbrev geD := cmpD fun i j => decide (j ≤ i)
theorem de_cmp {op : CmpOp} {r : Cx → R2} {r' : R2} {g : D → D → R D} (ho : ∀ X, C X → OpR X (compareOp op) (r X)) (hr : ∀ X, C X → r X = r') (h2 : Op2 r' g) (hp : Pure2 g) (ha : DE C K mg W a fa) (hb : DE C K mg W b fb) (hm : behindInMarks op b = false) :
    DE C K mg W (.Compare a [op] [b] pos) (opR g fa fb) :=
  let ⟨ta, pa, va⟩ := ha; let ⟨tb, pb, vb⟩ := hb
  ⟨_, fun X h => pe_cmpR (r := r') (by rw [← hr X h]; exact ho X h) (pa X h) (pb X h) hm, ev_op h2 hp va vb⟩
theorem de_lt (ha : DE C K mg W a fa) (hb : DE C K mg W b fb) : DE C K mg W (.Compare a [.Lt] [b] pos) (opR ltD fa fb) := de_cmp (r := fun _ => _) (fun _ _ => op_lt) (fun _ _ => rfl) o2_cmp pu_cmp ha hb (nomark _)
theorem de_le (ha : DE C K mg W a fa) (hb : DE C K mg W b fb) : DE C K mg W (.Compare a [.LtE] [b] pos) (opR leD fa fb) := de_cmp (r := fun _ => _) (fun _ _ => op_le) (fun _ _ => rfl) o2_cmp pu_cmp ha hb (nomark _)
theorem de_gt (ha : DE C K mg W a fa) (hb : DE C K mg W b fb) : DE C K mg W (.Compare a [.Gt] [b] pos) (opR gtD fa fb) := de_cmp (r := fun _ => _) (fun _ _ => op_gt) (fun _ _ => rfl) o2_cmp pu_cmp ha hb (nomark _)
theorem de_ge (ha : DE C K mg W a fa) (hb : DE C K mg W b fb) : DE C K mg W (.Compare a [.GtE] [b] pos) (opR geD fa fb) := de_cmp (r := fun _ => _) (fun _ _ => op_ge) (fun _ _ => rfl) o2_cmp pu_cmp ha hb (nomark _)
theorem de_eq (c : Cxs C P w K mg base k W N sc) (ha : DE C K mg W a fa) (hb : DE C K mg W b fb) : DE C K mg W (.Compare a [.Eq] [b] pos) (opR eqD fa fb) :=
  de_cmp (r := fun X => rEqD X.K) (fun X h => op_eqD (c.room X h).units) (fun X h => by rw [c.hK X h]) o2_eq pu_eq ha hb (nomark _)
theorem de_ne (c : Cxs C P w K mg base k W N sc) (ha : DE C K mg W a fa) (hb : DE C K mg W b fb) : DE C K mg W (.Compare a [.NotEq] [b] pos) (opR neD fa fb) :=
  de_cmp (r := fun X => rNeD X.K) (fun X h => op_neD (c.room X h).units) (fun X h => by rw [c.hK X h]) o2_ne pu_ne ha hb (nomark _)
theorem de_isN (ha : DE C K mg W a fa) (hb : DE C K mg W b fb) : DE C K mg W (.Compare a [.Is] [b] pos) (opR (pIs false) fa fb) := de_cmp (r := fun _ => _) (fun _ _ => op_isN) (fun _ _ => rfl) o2_isN pu_is ha hb (nomark _)
theorem de_notN (ha : DE C K mg W a fa) (hb : DE C K mg W b fb) : DE C K mg W (.Compare a [.IsNot] [b] pos) (opR (pIs true) fa fb) := de_cmp (r := fun _ => _) (fun _ _ => op_notN) (fun _ _ => rfl) o2_notN pu_is ha hb (nomark _)
def rIns (K : PySem.W.Frag) : R2 := fun x y H Q => rInD K x y H Q ∨ rIn K false x y H Q ∨ (∃ (c : Nat) (z : Str), x = .str ⟨#[c]⟩ ∧ y = .str z ∧ Q (.bl (decide (c ∈ z.cps.toList))) H)
def rNotIns (K : PySem.W.Frag) : R2 := fun x y H Q => rNotInD K x y H Q ∨ rIn K true x y H Q ∨ (∃ (c : Nat) (z : Str), x = .str ⟨#[c]⟩ ∧ y = .str z ∧ Q (.bl (!decide (c ∈ z.cps.toList))) H)
theorem one_sign {z : Str} (h : z.cps.size = 1) : z = ⟨#[z.cps.getD 0 0]⟩ := by
  obtain ⟨a⟩ := z
  obtain ⟨l⟩ := a
  match l, h with
  | [y], _ => rfl
theorem o2_in : Op2 (rIns K) (inD false) := by
  intro B H x y dx dy d Q s rx ry e q
  unfold inD at e
  split at e
  · split at e
    · rename_i ds hc; cases e
      exact .inl ⟨dx, ds, (rx.mono s).dpS hc.1, (ry.mono s).dpS hc.2, hc.1, hc.2, q B H _ (Gr.refl s) (.bl _)⟩
    · cases e
  · split at e
    · rename_i ds hc; cases e
      cases ry with
      | @tup p ys es hy ay =>
        refine .inr (.inl ⟨p, ys, rfl, .inr (SqT.of (s _ _ hy)), rx.flat hc.1, ay.flat hc.2, ?_⟩)
        rw [RpA.inV rx hc.1 ay hc.2]
        exact q B H _ (Gr.refl s) (.bl _)
    · cases e
  · split at e
    · rename_i z
      split at e
      · rename_i hs; cases e; cases rx; cases ry
        exact .inr (.inr ⟨_, _, congrArg V.str (one_sign hs), rfl, q B H _ (Gr.refl s) (.bl _)⟩)
      · cases e
    · cases e
  · cases e
theorem o2_notin : Op2 (rNotIns K) (inD true) := by
  intro B H x y dx dy d Q s rx ry e q
  unfold inD at e
  split at e
  · split at e
    · rename_i ds hc; cases e
      exact .inl ⟨dx, ds, (rx.mono s).dpS hc.1, (ry.mono s).dpS hc.2, hc.1, hc.2, q B H _ (Gr.refl s) (.bl _)⟩
    · cases e
  · split at e
    · rename_i ds hc; cases e
      cases ry with
      | @tup p ys es hy ay =>
        refine .inr (.inl ⟨p, ys, rfl, .inr (SqT.of (s _ _ hy)), rx.flat hc.1, ay.flat hc.2, ?_⟩)
        rw [RpA.inV rx hc.1 ay hc.2]
        exact q B H _ (Gr.refl s) (.bl _)
    · cases e
  · split at e
    · rename_i z
      split at e
      · rename_i hs; cases e; cases rx; cases ry
        exact .inr (.inr ⟨_, _, congrArg V.str (one_sign hs), rfl, q B H _ (Gr.refl s) (.bl _)⟩)
      · cases e
    · cases e
  · cases e
theorem Room.u65 {k : Nat} {A : Around} (r : Room k A) : A.units + 65 < cLine := by have := r.un; omega
theorem de_in (c : Cxs C P w K mg base k W N sc) (ha : DE C K mg W a fa) (hb : DE C K mg W b fb) (hm : behindInMarks .In b = false := by rfl) : DE C K mg W (.Compare a [.In] [b] pos) (opR (inD false) fa fb) :=
  de_cmp (r := fun X => rIns X.K) (fun X h => (op_inD (Room.u65 (c.room X h))).or (op_in_seq.or op_in_sign)) (fun X h => by rw [c.hK X h]) o2_in pu_in ha hb hm
theorem de_notin (c : Cxs C P w K mg base k W N sc) (ha : DE C K mg W a fa) (hb : DE C K mg W b fb) (hm : behindInMarks .NotIn b = false := by rfl) : DE C K mg W (.Compare a [.NotIn] [b] pos) (opR (inD true) fa fb) :=
  de_cmp (r := fun X => rNotIns X.K) (fun X h => (op_notInD (Room.u65 (c.room X h))).or (op_notIn_seq.or op_notIn_sign)) (fun X h => by rw [c.hK X h]) o2_notin pu_in ha hb hm
/-! chains of two -/
def chainR (g g' : D → D → R D) (fa fb fc : Env → R D) : Env → R D := fun ρ => (fa ρ).bind fun x => (fb ρ).bind fun y => (g x y).bind fun z => match z with
  | .bool true => (fc ρ).bind fun v => g' y v
  | .bool false => .ok (.bool false)
  | _ => .bad
theorem ev_chain {r r' : R2} {g g' : D → D → R D} {ta tb tc : TE} (h1 : Op2 r g) (h2 : Op2 r' g') (p1 : Pure2 g) (p2 : Pure2 g') (ha : Ev K mg W ta fa) (hb : Ev K mg W tb fb) (hc : Ev K mg W tc fc) : Ev K mg W (tChain r r' ta tb tc) (chainR g g' fa fb fc) := by
  intro B0 H0 B H σ ρ Q gd wx q
  unfold chainR at wx
  refine ha B0 H0 B H σ ρ _ gd wx.of_bind fun dx B1 H1 x e1 g1 r1 => ?_
  have w1 := wx.then e1
  refine hb B0 H0 B1 H1 σ ρ _ (gd.grow g1) w1.of_bind fun dy B2 H2 y e2 g2 r2 => ?_
  have w2 := w1.then e2
  cases e3 : g dx dy with
  | bad => rw [e3] at w2; exact w2.elim
  | exc c => exact (p1 _ _ _ e3).elim
  | ok d =>
    have w3 := w2.then e3
    refine h1 B2 H2 x y dx dy d _ g2.s (r1.mono g2.b) r2 e3 fun B3 H3 v g3 r3 => ?_
    have e0 : chainR g g' fa fb fc ρ = _ := (bind_eq e1).trans ((bind_eq e2).trans (bind_eq e3))
    cases r3 with
    | bl b =>
      refine ⟨b, rfl, ?_⟩
      cases b with
      | false => exact iteF (q _ B3 H3 _ e0 ((g1.trans g2).trans g3) (.bl _))
      | true =>
        refine iteT ?_
        have w4 : Wx mg W H0 σ ((fc ρ).bind fun v => g' dy v) := w3
        refine hc B0 H0 B3 H3 σ ρ _ (((gd.grow g1).grow g2).grow g3) w4.of_bind fun dz B4 H4 z e4 g4 r4 => ?_
        have w5 := w4.then e4
        cases e5 : g' dy dz with
        | bad => rw [e5] at w5; exact w5.elim
        | exc c => exact (p2 _ _ _ e5).elim
        | ok d5 =>
          exact h2 B4 H4 y z dy dz d5 _ g4.s ((r2.mono g3.b).mono g4.b) r4 e5 fun B5 H5 v5 g5 r5 => q d5 B5 H5 v5 (e0.trans ((bind_eq e4).trans e5)) ((((g1.trans g2).trans g3).trans g4).trans g5) r5
    | _ => exact w3.elim
theorem de_chain {op op' : CmpOp} {r r' : R2} {g g' : D → D → R D} (h1 : Op2 r g) (h2 : Op2 r' g') (p1 : Pure2 g) (p2 : Pure2 g') (o1 : ∀ X, OpR X (compareOp op) r) (o2 : ∀ X, OpR X (compareOp op') r')
    (ha : DE C K mg W a fa) (hb : DE C K mg W b fb) (hc : DE C K mg W e fc) (hm : lastMarks [op, op'] [b, e] = false) : DE C K mg W (.Compare a [op, op'] [b, e] pos) (chainR g g' fa fb fc) :=
  let ⟨ta, pa, va⟩ := ha; let ⟨tb, pb, vb⟩ := hb; let ⟨tc, pc, vc⟩ := hc
  ⟨_, fun X h => pe_chain (o1 X) (o2 X) (pa X h) (pb X h) (pc X h) hm, ev_chain h1 h2 p1 p2 va vb vc⟩
theorem de_lele (ha : DE C K mg W a fa) (hb : DE C K mg W b fb) (hc : DE C K mg W e fc) (hm : lastMarks [.LtE, .LtE] [b, e] = false := by with_unfolding_all rfl) : DE C K mg W (.Compare a [.LtE, .LtE] [b, e] pos) (chainR leD leD fa fb fc) :=
  de_chain o2_cmp o2_cmp pu_cmp pu_cmp (fun _ => op_le) (fun _ => op_le) ha hb hc hm
theorem de_lelt (ha : DE C K mg W a fa) (hb : DE C K mg W b fb) (hc : DE C K mg W e fc) (hm : lastMarks [.LtE, .Lt] [b, e] = false := by with_unfolding_all rfl) : DE C K mg W (.Compare a [.LtE, .Lt] [b, e] pos) (chainR leD ltD fa fb fc) :=
  de_chain o2_cmp o2_cmp pu_cmp pu_cmp (fun _ => op_le) (fun _ => op_lt) ha hb hc hm
theorem de_ltlt (ha : DE C K mg W a fa) (hb : DE C K mg W b fb) (hc : DE C K mg W e fc) (hm : lastMarks [.Lt, .Lt] [b, e] = false := by with_unfolding_all rfl) : DE C K mg W (.Compare a [.Lt, .Lt] [b, e] pos) (chainR ltD ltD fa fb fc) :=
  de_chain o2_cmp o2_cmp pu_cmp pu_cmp (fun _ => op_lt) (fun _ => op_lt) ha hb hc hm
end
end DL
set_option maxRecDepth 100000
set_option maxHeartbeats 1000000
namespace DL
open PySem L2

section
variable {C : Cx → Prop} {P : Program} {w : World} {K : PySem.W.Frag} {mg : Str → Option Value} {base : Heap} {k : Nat} {W : WX} {N : List Str} {sc : Scope}
variable {a b e : Expr} {es rest : List Expr} {fa fb fc : Env → R D} {pos : Pos} {x : Str} {i : Nat} {ta tb : TE} {tt tu : TT}

/-! ### and, or, not as values -/
def andR (fa fb : Env → R D) : Env → R D := fun ρ => (fa ρ).bind fun x => match x with
  | .bool true => fb ρ
  | .bool false => .ok (.bool false)
  | _ => .bad
def orR (fa fb : Env → R D) : Env → R D := fun ρ => (fa ρ).bind fun x => match x with
  | .bool false => fb ρ
  | .bool true => .ok (.bool true)
  | _ => .bad
def notR (fa : Env → R D) : Env → R D := fun ρ => (fa ρ).bind fun x => match x with
  | .bool b => .ok (.bool !b)
  | _ => .bad
theorem ev_andV (ha : Ev K mg W ta fa) (hb : Ev K mg W tb fb) : Ev K mg W (tAndV ta tb) (andR fa fb) := by
  intro B0 H0 B H σ ρ Q gd wx q
  unfold andR at wx
  refine ha B0 H0 B H σ ρ _ gd wx.of_bind fun dx B1 H1 x e1 g1 r1 => ?_
  have w1 := wx.then e1
  have e0 : andR fa fb ρ = _ := bind_eq e1
  cases r1 with
  | bl c =>
    refine ⟨c, rfl, ?_⟩
    cases c with
    | false => exact iteF (q _ B1 H1 _ e0 g1 (.bl _))
    | true => exact iteT (hb B0 H0 B1 H1 σ ρ _ (gd.grow g1) w1 fun d B2 H2 v e2 g2 r2 => q d B2 H2 v (e0.trans e2) (g1.trans g2) r2)
  | _ => exact w1.elim
theorem ev_orV (ha : Ev K mg W ta fa) (hb : Ev K mg W tb fb) : Ev K mg W (tOrV ta tb) (orR fa fb) := by
  intro B0 H0 B H σ ρ Q gd wx q
  unfold orR at wx
  refine ha B0 H0 B H σ ρ _ gd wx.of_bind fun dx B1 H1 x e1 g1 r1 => ?_
  have w1 := wx.then e1
  have e0 : orR fa fb ρ = _ := bind_eq e1
  cases r1 with
  | bl c =>
    refine ⟨c, rfl, ?_⟩
    cases c with
    | true => exact iteT (q _ B1 H1 _ e0 g1 (.bl _))
    | false => exact iteF (hb B0 H0 B1 H1 σ ρ _ (gd.grow g1) w1 fun d B2 H2 v e2 g2 r2 => q d B2 H2 v (e0.trans e2) (g1.trans g2) r2)
  | _ => exact w1.elim
theorem ev_notV (ha : Ev K mg W ta fa) : Ev K mg W (tNotV ta) (notR fa) := by
  intro B0 H0 B H σ ρ Q gd wx q
  unfold notR at wx
  refine ha B0 H0 B H σ ρ _ gd wx.of_bind fun dx B1 H1 x e1 g1 r1 => ?_
  have w1 := wx.then e1
  have e0 : notR fa ρ = _ := bind_eq e1
  cases r1 with
  | bl c => exact ⟨c, rfl, q _ B1 H1 _ e0 g1 (.bl _)⟩
  | _ => exact w1.elim
theorem de_and (ha : DE C K mg W a fa) (hb : DE C K mg W (.BoolOp .And (b :: rest) pos) fb) : DE C K mg W (.BoolOp .And (a :: b :: rest) pos) (andR fa fb) :=
  let ⟨ta, pa, va⟩ := ha; let ⟨tb, pb, vb⟩ := hb
  ⟨_, fun X h => pe_and (pa X h) (pb X h), ev_andV va vb⟩
theorem de_or (ha : DE C K mg W a fa) (hb : DE C K mg W (.BoolOp .Or (b :: rest) pos) fb) : DE C K mg W (.BoolOp .Or (a :: b :: rest) pos) (orR fa fb) :=
  let ⟨ta, pa, va⟩ := ha; let ⟨tb, pb, vb⟩ := hb
  ⟨_, fun X h => pe_or (pa X h) (pb X h), ev_orV va vb⟩
theorem de_one {op : BoolOp} (ha : DE C K mg W a fa) : DE C K mg W (.BoolOp op [a] pos) fa :=
  let ⟨ta, pa, va⟩ := ha
  ⟨_, fun X h => pe_one (pa X h), va⟩
theorem de_not (ha : DE C K mg W a fa) : DE C K mg W (.UnaryOp .Not a pos) (notR fa) :=
  let ⟨ta, pa, va⟩ := ha
  ⟨_, fun X h => pe_not (pa X h), ev_notV va⟩

/-! ### tests -/
def boolR : D → R Bool
  | .bool b => .ok b
  | _ => .bad
def toB (f : Env → R D) : Env → R Bool := fun ρ => (f ρ).bind boolR
theorem evt_test (ha : Ev K mg W ta fa) : EvT K mg W (tTest ta) (toB fa) := by
  intro B0 H0 B H σ ρ Q gd wx q
  unfold toB at wx
  refine ha B0 H0 B H σ ρ _ gd wx.of_bind fun dx B1 H1 x e1 g1 r1 => ?_
  have w1 := wx.then e1
  have e0 : toB fa ρ = _ := bind_eq e1
  cases r1 with
  | bl c => exact ⟨c, rfl, q _ B1 H1 e0 g1⟩
  | _ => exact w1.elim
def truD : D → R Bool
  | .none => .ok false
  | .bool b => .ok b
  | .int i => .ok (i != 0)
  | .str s => if fits s.length then .ok ((s.length : Int) != 0) else .bad
  | .list ds => .ok (!ds.isEmpty)
  | .tuple ds => .ok (!ds.isEmpty)
  | .dict [] => .ok false
  | .dict (_ :: _) => .bad
def toT (f : Env → R D) : Env → R Bool := fun ρ => (f ρ).bind truD
theorem RpA.emp {B : Hp} {xs : List V} {ds : List D} (r : RpA B xs ds) : (!ds.isEmpty) = !xs.isEmpty := by cases r <;> rfl
theorem evt_truth (ha : Ev K mg W ta fa) : EvT K mg W (fun σ H Q => ta σ H fun x H' => ∃ k, TruV K x H' k ∧ Q k H') (toT fa) := by
  intro B0 H0 B H σ ρ Q gd wx q
  unfold toT at wx
  refine ha B0 H0 B H σ ρ _ gd wx.of_bind fun dx B1 H1 x e1 g1 r1 => ?_
  have w1 := wx.then e1
  have e0 : toT fa ρ = _ := bind_eq e1
  cases r1 with
  | non => exact ⟨false, rfl, q _ B1 H1 e0 g1⟩
  | bl c => exact ⟨c, rfl, q _ B1 H1 e0 g1⟩
  | int c => exact ⟨_, rfl, q _ B1 H1 e0 g1⟩
  | str s =>
    simp only [truD] at w1 e0
    by_cases hf : fits s.length = true
    · rw [if_pos hf] at e0
      exact ⟨_, ⟨fits_line hf, rfl⟩, q _ B1 H1 e0 g1⟩
    · rw [if_neg hf] at w1; exact w1.elim
  | @lst p xs ds h ax => exact ⟨_, .inl ⟨xs, SqL.of (g1.s _ _ h), ax.emp⟩, q _ B1 H1 e0 g1⟩
  | @tup p xs ds h ax => exact ⟨_, .inr (.inl ⟨xs, SqT.of (g1.s _ _ h), ax.emp⟩), q _ B1 H1 e0 g1⟩
  | @dct p h => exact ⟨false, .inr (.inr ⟨[], g1.s _ _ h, rfl⟩), q _ B1 H1 e0 g1⟩
/-- names, calls, constants, subscripts: by their truth -/
theorem dt_tru (c : Cxs C P w K mg base k W N sc) (ha : DE C K mg W a fa) (he : ∀ X, C X → ∀ whole, isTrue a X.env whole = (do let v ← whole; standAt a.pos; holding [v] (truthy v)) := by intro _ _ _; rfl) : DT C K mg W a (toT fa) :=
  let ⟨ta, pa, va⟩ := ha
  ⟨_, fun X h => by have e := c.hK X h; subst e; exact pt_truth (pa X h) (he X h), evt_truth va⟩
theorem dt_cmp {op : CmpOp} {r : Cx → R2} {r' : R2} {g : D → D → R D} (ho : ∀ X, C X → OpR X (compareOp op) (r X)) (hr : ∀ X, C X → r X = r') (h2 : Op2 r' g) (hp : Pure2 g) (ha : DE C K mg W a fa) (hb : DE C K mg W b fb) (hm : behindInMarks op b = false) :
    DT C K mg W (.Compare a [op] [b] pos) (toB (opR g fa fb)) :=
  let ⟨ta, pa, va⟩ := ha; let ⟨tb, pb, vb⟩ := hb
  ⟨_, fun X h => pt_cmpR (r := r') (by rw [← hr X h]; exact ho X h) (pa X h) (pb X h) hm, evt_test (ev_op h2 hp va vb)⟩
theorem dt_lt (ha : DE C K mg W a fa) (hb : DE C K mg W b fb) : DT C K mg W (.Compare a [.Lt] [b] pos) (toB (opR ltD fa fb)) := dt_cmp (r := fun _ => _) (fun _ _ => op_lt) (fun _ _ => rfl) o2_cmp pu_cmp ha hb (nomark _)
theorem dt_le (ha : DE C K mg W a fa) (hb : DE C K mg W b fb) : DT C K mg W (.Compare a [.LtE] [b] pos) (toB (opR leD fa fb)) := dt_cmp (r := fun _ => _) (fun _ _ => op_le) (fun _ _ => rfl) o2_cmp pu_cmp ha hb (nomark _)
theorem dt_gt (ha : DE C K mg W a fa) (hb : DE C K mg W b fb) : DT C K mg W (.Compare a [.Gt] [b] pos) (toB (opR gtD fa fb)) := dt_cmp (r := fun _ => _) (fun _ _ => op_gt) (fun _ _ => rfl) o2_cmp pu_cmp ha hb (nomark _)
theorem dt_ge (ha : DE C K mg W a fa) (hb : DE C K mg W b fb) : DT C K mg W (.Compare a [.GtE] [b] pos) (toB (opR geD fa fb)) := dt_cmp (r := fun _ => _) (fun _ _ => op_ge) (fun _ _ => rfl) o2_cmp pu_cmp ha hb (nomark _)
theorem dt_eq (c : Cxs C P w K mg base k W N sc) (ha : DE C K mg W a fa) (hb : DE C K mg W b fb) : DT C K mg W (.Compare a [.Eq] [b] pos) (toB (opR eqD fa fb)) :=
  dt_cmp (r := fun X => rEqD X.K) (fun X h => op_eqD (c.room X h).units) (fun X h => by rw [c.hK X h]) o2_eq pu_eq ha hb (nomark _)
theorem dt_ne (c : Cxs C P w K mg base k W N sc) (ha : DE C K mg W a fa) (hb : DE C K mg W b fb) : DT C K mg W (.Compare a [.NotEq] [b] pos) (toB (opR neD fa fb)) :=
  dt_cmp (r := fun X => rNeD X.K) (fun X h => op_neD (c.room X h).units) (fun X h => by rw [c.hK X h]) o2_ne pu_ne ha hb (nomark _)
theorem dt_isN (ha : DE C K mg W a fa) (hb : DE C K mg W b fb) : DT C K mg W (.Compare a [.Is] [b] pos) (toB (opR (pIs false) fa fb)) := dt_cmp (r := fun _ => _) (fun _ _ => op_isN) (fun _ _ => rfl) o2_isN pu_is ha hb (nomark _)
theorem dt_notN (ha : DE C K mg W a fa) (hb : DE C K mg W b fb) : DT C K mg W (.Compare a [.IsNot] [b] pos) (toB (opR (pIs true) fa fb)) := dt_cmp (r := fun _ => _) (fun _ _ => op_notN) (fun _ _ => rfl) o2_notN pu_is ha hb (nomark _)
theorem dt_in (c : Cxs C P w K mg base k W N sc) (ha : DE C K mg W a fa) (hb : DE C K mg W b fb) (hm : behindInMarks .In b = false := by rfl) : DT C K mg W (.Compare a [.In] [b] pos) (toB (opR (inD false) fa fb)) :=
  dt_cmp (r := fun X => rIns X.K) (fun X h => (op_inD (Room.u65 (c.room X h))).or (op_in_seq.or op_in_sign)) (fun X h => by rw [c.hK X h]) o2_in pu_in ha hb hm
theorem dt_notin (c : Cxs C P w K mg base k W N sc) (ha : DE C K mg W a fa) (hb : DE C K mg W b fb) (hm : behindInMarks .NotIn b = false := by rfl) : DT C K mg W (.Compare a [.NotIn] [b] pos) (toB (opR (inD true) fa fb)) :=
  dt_cmp (r := fun X => rNotIns X.K) (fun X h => (op_notInD (Room.u65 (c.room X h))).or (op_notIn_seq.or op_notIn_sign)) (fun X h => by rw [c.hK X h]) o2_notin pu_in ha hb hm
theorem dt_chain {op op' : CmpOp} {r r' : R2} {g g' : D → D → R D} (h1 : Op2 r g) (h2 : Op2 r' g') (p1 : Pure2 g) (p2 : Pure2 g') (o1 : ∀ X, OpR X (compareOp op) r) (o2 : ∀ X, OpR X (compareOp op') r')
    (ha : DE C K mg W a fa) (hb : DE C K mg W b fb) (hc : DE C K mg W e fc) (hm : lastMarks [op, op'] [b, e] = false) : DT C K mg W (.Compare a [op, op'] [b, e] pos) (toB (chainR g g' fa fb fc)) :=
  let ⟨ta, pa, va⟩ := ha; let ⟨tb, pb, vb⟩ := hb; let ⟨tc, pc, vc⟩ := hc
  ⟨_, fun X h => pt_chain (o1 X) (o2 X) (pa X h) (pb X h) (pc X h) hm, evt_test (ev_chain h1 h2 p1 p2 va vb vc)⟩
theorem dt_lele (ha : DE C K mg W a fa) (hb : DE C K mg W b fb) (hc : DE C K mg W e fc) (hm : lastMarks [.LtE, .LtE] [b, e] = false := by with_unfolding_all rfl) : DT C K mg W (.Compare a [.LtE, .LtE] [b, e] pos) (toB (chainR leD leD fa fb fc)) :=
  dt_chain o2_cmp o2_cmp pu_cmp pu_cmp (fun _ => op_le) (fun _ => op_le) ha hb hc hm
theorem dt_lelt (ha : DE C K mg W a fa) (hb : DE C K mg W b fb) (hc : DE C K mg W e fc) (hm : lastMarks [.LtE, .Lt] [b, e] = false := by with_unfolding_all rfl) : DT C K mg W (.Compare a [.LtE, .Lt] [b, e] pos) (toB (chainR leD ltD fa fb fc)) :=
  dt_chain o2_cmp o2_cmp pu_cmp pu_cmp (fun _ => op_le) (fun _ => op_lt) ha hb hc hm
theorem dt_ltlt (ha : DE C K mg W a fa) (hb : DE C K mg W b fb) (hc : DE C K mg W e fc) (hm : lastMarks [.Lt, .Lt] [b, e] = false := by with_unfolding_all rfl) : DT C K mg W (.Compare a [.Lt, .Lt] [b, e] pos) (toB (chainR ltD ltD fa fb fc)) :=
  dt_chain o2_cmp o2_cmp pu_cmp pu_cmp (fun _ => op_lt) (fun _ => op_lt) ha hb hc hm
/-! and, or, not as tests -/
def andT (f g : Env → R Bool) : Env → R Bool := fun ρ => (f ρ).bind fun b => if b = true then g ρ else .ok false
def orT (f g : Env → R Bool) : Env → R Bool := fun ρ => (f ρ).bind fun b => if b = true then .ok true else g ρ
def notT (f : Env → R Bool) : Env → R Bool := fun ρ => (f ρ).bind fun b => .ok !b
variable {ga gb : Env → R Bool}
theorem evt_and (ha : EvT K mg W tt ga) (hb : EvT K mg W tu gb) : EvT K mg W (tAnd tt tu) (andT ga gb) := by
  intro B0 H0 B H σ ρ Q gd wx q
  unfold andT at wx
  refine ha B0 H0 B H σ ρ _ gd wx.of_bind fun c B1 H1 e1 g1 => ?_
  have w1 := wx.then e1
  have e0 : andT ga gb ρ = _ := bind_eq e1
  cases c with
  | false => exact iteF (q _ B1 H1 e0 g1)
  | true => exact iteT (hb B0 H0 B1 H1 σ ρ _ (gd.grow g1) w1 fun d B2 H2 e2 g2 => q d B2 H2 (e0.trans e2) (g1.trans g2))
theorem evt_or (ha : EvT K mg W tt ga) (hb : EvT K mg W tu gb) : EvT K mg W (tOr tt tu) (orT ga gb) := by
  intro B0 H0 B H σ ρ Q gd wx q
  unfold orT at wx
  refine ha B0 H0 B H σ ρ _ gd wx.of_bind fun c B1 H1 e1 g1 => ?_
  have w1 := wx.then e1
  have e0 : orT ga gb ρ = _ := bind_eq e1
  cases c with
  | true => exact iteT (q _ B1 H1 e0 g1)
  | false => exact iteF (hb B0 H0 B1 H1 σ ρ _ (gd.grow g1) w1 fun d B2 H2 e2 g2 => q d B2 H2 (e0.trans e2) (g1.trans g2))
theorem evt_not (ha : EvT K mg W tt ga) : EvT K mg W (tNot tt) (notT ga) := by
  intro B0 H0 B H σ ρ Q gd wx q
  unfold notT at wx
  exact ha B0 H0 B H σ ρ _ gd wx.of_bind fun c B1 H1 e1 g1 => q _ B1 H1 (bind_eq e1) g1
theorem dw_and1 (ha : DT C K mg W a ga) : DW C K mg W (.BoolOp .And [a] pos) ga :=
  let ⟨ta, pa, va⟩ := ha
  ⟨_, fun X h => pw_and1 (pa X h), va⟩
theorem dw_or1 (ha : DT C K mg W a ga) : DW C K mg W (.BoolOp .Or [a] pos) ga :=
  let ⟨ta, pa, va⟩ := ha
  ⟨_, fun X h => pw_or1 (pa X h), va⟩
theorem dw_and (ha : DT C K mg W a ga) (hb : DW C K mg W (.BoolOp .And (b :: rest) pos) gb) : DW C K mg W (.BoolOp .And (a :: b :: rest) pos) (andT ga gb) :=
  let ⟨ta, pa, va⟩ := ha; let ⟨tb, pb, vb⟩ := hb
  ⟨_, fun X h => pw_and (pa X h) (pb X h), evt_and va vb⟩
theorem dw_or (ha : DT C K mg W a ga) (hb : DW C K mg W (.BoolOp .Or (b :: rest) pos) gb) : DW C K mg W (.BoolOp .Or (a :: b :: rest) pos) (orT ga gb) :=
  let ⟨ta, pa, va⟩ := ha; let ⟨tb, pb, vb⟩ := hb
  ⟨_, fun X h => pw_or (pa X h) (pb X h), evt_or va vb⟩
theorem dt_w (h : DW C K mg W a ga) : DT C K mg W a ga :=
  let ⟨ta, pa, va⟩ := h
  ⟨_, fun X h => (pa X h).pt, va⟩
theorem dt_not (ha : DT C K mg W a ga) : DT C K mg W (.UnaryOp .Not a pos) (notT ga) :=
  let ⟨ta, pa, va⟩ := ha
  ⟨_, fun X h => pt_not (pa X h), evt_not va⟩
/-! x if t else y -/
def ifR (g : Env → R Bool) (fa fb : Env → R D) : Env → R D := fun ρ => (g ρ).bind fun b => if b = true then fa ρ else fb ρ
theorem ev_if (hc : EvT K mg W tt ga) (ha : Ev K mg W ta fa) (hb : Ev K mg W tb fb) : Ev K mg W (tIf tt ta tb) (ifR ga fa fb) := by
  intro B0 H0 B H σ ρ Q gd wx q
  unfold ifR at wx
  refine hc B0 H0 B H σ ρ _ gd wx.of_bind fun c B1 H1 e1 g1 => ?_
  have w1 := wx.then e1
  have e0 : ifR ga fa fb ρ = _ := bind_eq e1
  cases c with
  | true => exact iteT (ha B0 H0 B1 H1 σ ρ _ (gd.grow g1) w1 fun d B2 H2 v e2 g2 r2 => q d B2 H2 v (e0.trans e2) (g1.trans g2) r2)
  | false => exact iteF (hb B0 H0 B1 H1 σ ρ _ (gd.grow g1) w1 fun d B2 H2 v e2 g2 r2 => q d B2 H2 v (e0.trans e2) (g1.trans g2) r2)
theorem de_if (hc : DT C K mg W e ga) (ha : DE C K mg W a fa) (hb : DE C K mg W b fb) : DE C K mg W (.IfExp e a b pos) (ifR ga fa fb) :=
  let ⟨tc, pc, vc⟩ := hc; let ⟨ta, pa, va⟩ := ha; let ⟨tb, pb, vb⟩ := hb
  ⟨_, fun X h => pe_ifExp (pc X h) (pa X h) (pb X h), ev_if vc va vb⟩

/-! ### arguments, displays -/
variable {fs : Env → R (List D)} {tr : TA}
def consR (fa : Env → R D) (fs : Env → R (List D)) : Env → R (List D) := fun ρ => (fa ρ).bind fun x => (fs ρ).bind fun xs => .ok (x :: xs)
theorem ea_cons (ha : Ev K mg W ta fa) (hs : EvA K mg W tr fs) : EvA K mg W (tCons ta tr) (consR fa fs) := by
  intro B0 H0 B H σ ρ Q gd wx q
  unfold consR at wx
  refine ha B0 H0 B H σ ρ _ gd wx.of_bind fun dx B1 H1 x e1 g1 r1 => ?_
  have w1 := wx.then e1
  refine hs B0 H0 B1 H1 σ ρ _ (gd.grow g1) w1.of_bind fun ds B2 H2 vs e2 g2 r2 => ?_
  exact q (dx :: ds) B2 H2 (x :: vs) ((bind_eq e1).trans (bind_eq e2)) (g1.trans g2) (.cons (r1.mono g2.b) r2)
theorem da_nil : DA C K mg W [] (fun _ => .ok []) := ⟨tNil, fun _ _ => pa_nil, fun B0 H0 B H σ ρ Q gd _ q => q [] B H [] rfl (Gr.refl gd.sub) .nil⟩
theorem da_cons (ha : DE C K mg W a fa) (hs : DA C K mg W es fs) (he : ∀ X, C X → starEach (a :: es) X.env = (false, eval a X.env) :: starEach es X.env := by intro _ _; rfl) : DA C K mg W (a :: es) (consR fa fs) :=
  let ⟨ta, pa, va⟩ := ha; let ⟨tb, pb, vb⟩ := hs
  ⟨_, fun X h => pa_cons (pa X h) (pb X h) (he X h), ea_cons va vb⟩
def tupR (fs : Env → R (List D)) : Env → R D := fun ρ => (fs ρ).bind fun xs => if fits xs.length then .ok (.tuple xs) else .bad
theorem ev_tup (hs : EvA K mg W tr fs) : Ev K mg W (tTup tr) (tupR fs) := by
  intro B0 H0 B H σ ρ Q gd wx q
  unfold tupR at wx
  refine hs B0 H0 B H σ ρ _ gd wx.of_bind fun ds B1 H1 vs e1 g1 r1 => ?_
  have w1 := wx.then e1
  have e0 : tupR fs ρ = _ := bind_eq e1
  by_cases hf : fits ds.length = true
  · rw [if_pos hf] at e0
    refine ⟨fits_line (by rw [r1.length]; exact hf), fun p hp => ?_⟩
    have g := Gr.new (o := .tup vs) g1.s hp
    exact q _ _ _ _ e0 (g1.trans g) (.tup upd_same (r1.mono g.b))
  · rw [if_neg hf] at w1; exact w1.elim
theorem de_tup (hs : DA C K mg W es fs) {x1 : Nat} : DE C K mg W (.Tuple es x1 pos) (tupR fs) :=
  let ⟨tb, pb, vb⟩ := hs
  ⟨_, fun X h => pe_tup (pb X h), ev_tup vb⟩
def lstR (fs : Env → R (List D)) : Env → R (List D) := fun ρ => (fs ρ).bind fun xs => if fits xs.length then .ok xs else .bad
theorem el_lst (hs : EvA K mg W tr fs) : EvL K mg W (tLst tr) (lstR fs) := by
  intro B0 H0 B H σ ρ Q gd wx q
  unfold lstR at wx
  refine hs B0 H0 B H σ ρ _ gd wx.of_bind fun ds B1 H1 vs e1 g1 r1 => ?_
  have w1 := wx.then e1
  have e0 : lstR fs ρ = _ := bind_eq e1
  by_cases hf : fits ds.length = true
  · rw [if_pos hf] at e0
    refine ⟨fits_line (by rw [r1.length]; exact hf), fun p hp => ?_⟩
    have hb : B1 p = none := g1.s.free hp
    exact q _ B1 _ p vs e0 ⟨g1.b, fun x u e => by rw [upd_ne (ne_of_none e hb)]; exact g1.s _ _ e, fun x u e => by rw [upd_ne (ne_of_none (g1.h _ _ e) hp)]; exact g1.h _ _ e, g1.n⟩ (g1.none hp) hb upd_same r1
  · rw [if_neg hf] at w1; exact w1.elim
theorem dn_lst (hs : DA C K mg W es fs) : DN C K mg W (.List es pos) (lstR fs) :=
  let ⟨tb, pb, vb⟩ := hs
  ⟨_, fun X h => pe_lst (pb X h), el_lst vb⟩
/-- a new list as a datum -/
def asL (fs : Env → R (List D)) : Env → R D := fun ρ => (fs ρ).bind fun xs => .ok (.list xs)
theorem Gr.own {B H B' H' : Hp} {p : Addr} {o : HO} (g : Gr B H B' H') (h0 : H p = Option.none) (h1 : B' p = Option.none) (h2 : H' p = some o) : Gr B H (upd B' p o) H' := by
  refine ⟨fun x u e => ?_, fun x u e => ?_, g.h, fun x u e => ?_⟩
  · rw [upd_ne (ne_of_none (g.b _ _ e) h1)]; exact g.b _ _ e
  · by_cases hx : x = p
    · subst hx; rw [upd_same] at e; cases e; exact h2
    · rw [upd_ne hx] at e; exact g.s _ _ e
  · rw [upd_ne (ne_of_none e h0)]; exact g.n _ _ e
theorem Same.upd {B : Hp} {p : Addr} {o : HO} (h : B p = Option.none) : Same B (L2.upd B p o) := fun x u e => by rw [upd_ne (ne_of_none e h)]; exact e
theorem ev_asL {te : TE} (h : EvL K mg W te fs) : Ev K mg W te (asL fs) := by
  intro B0 H0 B H σ ρ Q gd wx q
  unfold asL at wx
  refine h B0 H0 B H σ ρ _ gd wx.of_bind fun ds B1 H1 p vs e1 g1 h0 h1 h2 r1 => ?_
  have e0 : asL fs ρ = _ := bind_eq e1
  exact q _ _ _ _ e0 (g1.own h0 h1 h2) (.lst upd_same (r1.mono (Same.upd h1)))
theorem de_l (h : DN C K mg W a fs) : DE C K mg W a (asL fs) :=
  let ⟨tb, pb, vb⟩ := h
  ⟨_, pb, ev_asL vb⟩
end
end DL
set_option maxRecDepth 100000
set_option maxHeartbeats 1000000
namespace DL
open PySem L2

/-! ### a def as a function on data -/
/-- the promise: g's datum, or the exception that g names -/
def spD (mg : Str → Option Value) (n : Nat) (g : List D → R D) : Sp := fun vs H Q E => vs.length = n ∧ ∃ (B : Hp) (ds : List D), Same B H ∧ RpA B vs ds ∧
  (match g ds with
    | .bad => False
    | .ok _ => True
    | .exc c => ∀ (H' : Hp) (C : Addr), Same H H' → mg c = some (.ref C) → E (.ref C) none H') ∧
  ∀ d B' H' v, g ds = .ok d → Gr B H B' H' → Rp B' v d → Q v H'
/-- a def of the text at the name x that keeps it, by level k -/
structure Fn (P : Program) (w : World) (K : PySem.W.Frag) (mg : Str → Option Value) (base : Heap) (k : Nat) (x : Str) (n : Nat) (g : List D → R D) : Prop where
  ex : ∃ (f : Addr) (fd : FuncData) (ps : List Str), FnOk P w K mg base (L2.CX P w) k f fd ps (spD mg n g) ∧ mg x = some (.ref f) ∧ PySem.W.keepIn K (.ref f) = true ∧ Binds K fd ps []
  len : ∀ ds, g ds ≠ .bad → ds.length = n
theorem Fn.mono {P : Program} {w : World} {K : PySem.W.Frag} {mg : Str → Option Value} {base : Heap} {j k : Nat} {x : Str} {n : Nat} {g : List D → R D} (F : Fn P w K mg base j x n g) (h : j ≤ k) : Fn P w K mg base k x n g :=
  let ⟨f, fd, ps, h1, h2⟩ := F.ex
  ⟨⟨f, fd, ps, h1.mono h, h2⟩, F.len⟩
/-- another function that tells no more -/
theorem Fn.imp {P : Program} {w : World} {K : PySem.W.Frag} {mg : Str → Option Value} {base : Heap} {k : Nat} {x : Str} {n : Nat} {g g' : List D → R D} (F : Fn P w K mg base k x n g) (h : ∀ ds, g' ds ≠ .bad → g ds = g' ds) : Fn P w K mg base k x n g' := by
  obtain ⟨f, fd, ps, h1, h2⟩ := F.ex
  have e : ∀ ds, g' ds ≠ .bad → g ds = g' ds := h
  refine ⟨⟨f, fd, ps, h1.imp fun vs H Q E q => ?_, h2⟩, fun ds z => F.len ds (by rw [h ds z]; exact z)⟩
  obtain ⟨q0, B, ds, q1, q2, q3, q4⟩ := q
  have nb : g' ds ≠ .bad := fun z => by rw [z] at q3; exact q3
  refine ⟨q0, B, ds, q1, q2, ?_, ?_⟩
  · rw [h ds nb]; exact q3
  · rw [h ds nb]; exact q4

section
variable {C : Cx → Prop} {P : Program} {w : World} {K : PySem.W.Frag} {mg : Str → Option Value} {base : Heap} {k : Nat} {W : WX} {N : List Str} {sc : Scope}
variable {a b e : Expr} {es rest : List Expr} {fa fb fc : Env → R D} {fs : Env → R (List D)} {pos p : Pos} {x : Str} {i : Nat} {ta tb : TE} {tt tu : TT} {tr : TA}

def callR (g : List D → R D) (fs : Env → R (List D)) : Env → R D := fun ρ => (fs ρ).bind g
theorem ev_call {g : List D → R D} {n : Nat} (hlen : ∀ ds, g ds ≠ .bad → ds.length = n) (hs : EvA K mg W tr fs) : Ev K mg W (tCallS (spD mg n g) (WE W) tr) (callR g fs) := by
  intro B0 H0 B H σ ρ Q gd wx q
  unfold callR at wx
  refine hs B0 H0 B H σ ρ _ gd wx.of_bind fun ds B1 H1 vs e1 g1 r1 => ?_
  have w1 := wx.then e1
  have e0 : callR g fs ρ = g ds := bind_eq e1
  have nb : g ds ≠ .bad := fun z => by rw [z] at w1; exact w1
  refine ⟨r1.length.trans (hlen ds nb), B1, ds, g1.s, r1, ?_, fun d B2 H2 v e2 g2 r2 => q d B2 H2 v (e0.trans e2) (g1.trans g2) r2⟩
  cases e3 : g ds with
  | bad => exact nb e3
  | ok d => exact True.intro
  | exc c => rw [e3] at w1; exact fun H2 C s2 m => w1 H2 C ((gd.old.trans g1.h).trans s2) m
theorem de_call {j n : Nat} {g : List D → R D} (c : Cxs C P w K mg base k W N sc) (F : Fn P w K mg base j x n g) (hj : j ≤ k) (gx : Gm sc x) (ha : DA C K mg W (e :: es) fs)
    (he : ∀ X, C X → starEach (e :: es) X.env = (false, eval e X.env) :: starEach es X.env := by intro _ _; rfl) (hpl : ∀ X, C X → (backTo pos (starEach es X.env)).any (·.1) = false := by intro _ _; rfl) :
    DE C K mg W (.Call (.Name x p) (e :: es) [] pos) (callR g fs) := by
  obtain ⟨tr, pa, va⟩ := ha
  obtain ⟨f, fd, ps, h1, h2, h3, h4⟩ := F.ex
  refine ⟨_, fun X h => ?_, ev_call F.len va⟩
  have c1 := c.hP X h; have c2 := c.hw X h; have c3 := c.hK X h; have c4 := c.hmg X h; have c5 := c.hbase X h
  subst c1 c2 c3 c4 c5
  exact pe_callS h1 ((c.room X h).mono hj) (gx.gl c X h) h2 h3 h4 (fun σ => passAt (c.takes X h) σ) (pa X h) gx.d (he X h) (hpl X h)

/-! ### built-ins by name -/
def CR1 (r : List V → Hp → VK → Prop) (g : List D → R D) : Prop := ∀ (B H : Hp) (xs : List V) (ds : List D) (d : D) (Q : VK), Same B H → RpA B xs ds → g ds = .ok d → (∀ B' H' v, Gr B H B' H' → Rp B' v d → Q v H') → r xs H Q
def Pure1 (g : List D → R D) : Prop := ∀ ds c, g ds ≠ .exc c
theorem ev_cb {r : List V → Hp → VK → Prop} {g : List D → R D} (hr : CR1 r g) (hp : Pure1 g) (hs : EvA K mg W tr fs) : Ev K mg W (tCB r tr) (callR g fs) := by
  intro B0 H0 B H σ ρ Q gd wx q
  unfold callR at wx
  refine hs B0 H0 B H σ ρ _ gd wx.of_bind fun ds B1 H1 vs e1 g1 r1 => ?_
  have w1 := wx.then e1
  have e0 : callR g fs ρ = g ds := bind_eq e1
  cases e3 : g ds with
  | bad => rw [e3] at w1; exact w1.elim
  | exc c => exact (hp _ _ e3).elim
  | ok d => exact hr B1 H1 vs ds d Q g1.s r1 e3 fun B2 H2 v g2 r2 => q d B2 H2 v (e0.trans e3) (g1.trans g2) r2
theorem de_blt {id : String} {r : Cx → List V → Hp → VK → Prop} {r' : List V → Hp → VK → Prop} {g : List D → R D} (c : Cxs C P w K mg base k W N sc) (gx : Gm sc x) (m : mg x = none) (hv : bootBuiltins x = some (.builtin id)) (hn : x ≠ "__name__")
    (ho : ∀ X, C X → CallR X (.builtin id) (r X)) (hr : ∀ X, C X → r X = r') (h1 : CR1 r' g) (hp : Pure1 g) (ha : DA C K mg W (e :: es) fs)
    (he : ∀ X, C X → starEach (e :: es) X.env = (false, eval e X.env) :: starEach es X.env) (hpl : ∀ X, C X → (backTo pos (starEach es X.env)).any (·.1) = false) :
    DE C K mg W (.Call (.Name x p) (e :: es) [] pos) (callR g fs) := by
  obtain ⟨tr, pa, va⟩ := ha
  exact ⟨_, fun X h => pe_callB (r := r') (by rw [← hr X h]; exact ho X h) (gx.gl c X h) (by rw [c.hmg X h]; exact m) hv (pa X h) hn gx.d (he X h) (hpl X h), ev_cb h1 hp va⟩
theorem de_bty {T : String} {r : Cx → List V → Hp → VK → Prop} {r' : List V → Hp → VK → Prop} {g : List D → R D} (c : Cxs C P w K mg base k W N sc) (gx : Gm sc x) (m : mg x = none) (hv : bootBuiltins x = some (.type T)) (hn : x ≠ "__name__")
    (ho : ∀ X, C X → CallR X (.type T) (r X)) (hr : ∀ X, C X → r X = r') (h1 : CR1 r' g) (hp : Pure1 g) (ha : DA C K mg W (e :: es) fs)
    (he : ∀ X, C X → starEach (e :: es) X.env = (false, eval e X.env) :: starEach es X.env) (hpl : ∀ X, C X → (backTo pos (starEach es X.env)).any (·.1) = false) :
    DE C K mg W (.Call (.Name x p) (e :: es) [] pos) (callR g fs) := by
  obtain ⟨tr, pa, va⟩ := ha
  exact ⟨_, fun X h => pe_callTy (r := r') (by rw [← hr X h]; exact ho X h) (gx.gl c X h) (by rw [c.hmg X h]; exact m) hv (pa X h) hn gx.d (he X h) (hpl X h), ev_cb h1 hp va⟩
/-! len -/
def lenD : List D → R D
  | [.str s] => if fits s.length then .ok (.int s.length) else .bad
  | [.list ds] => .ok (.int ds.length)
  | [.tuple ds] => .ok (.int ds.length)
  | _ => .bad
theorem RpA.one {B : Hp} {xs : List V} {d : D} (r : RpA B xs [d]) : ∃ v, xs = [v] ∧ Rp B v d := by
  cases r with
  | cons r1 r2 => cases r2; exact ⟨_, rfl, r1⟩
theorem RpA.two {B : Hp} {xs : List V} {d e : D} (r : RpA B xs [d, e]) : ∃ v u, xs = [v, u] ∧ Rp B v d ∧ Rp B u e := by
  cases r with
  | cons r1 r2 =>
    cases r2 with
    | cons r3 r4 => cases r4; exact ⟨_, _, rfl, r1, r3⟩
def rLenK (K : PySem.W.Frag) : List V → Hp → VK → Prop := fun xs H Q => ∃ x n, xs = [x] ∧ LenV K x H n ∧ Q (.int n) H
theorem cr_len : CR1 (rLenK K) lenD := by
  intro B H xs ds d Q s ra e q
  unfold lenD at e
  split at e
  · split at e
    · rename_i hf; cases e
      obtain ⟨v, rfl, r⟩ := ra.one
      cases r
      exact ⟨_, _, rfl, ⟨fits_line hf, rfl⟩, q B H _ (Gr.refl s) (.int _)⟩
    · cases e
  · cases e
    obtain ⟨v, rfl, r⟩ := ra.one
    cases r with
    | @lst p ys es h ay => exact ⟨_, _, rfl, .inl ⟨ys, SqL.of (s _ _ h), rfl⟩, by rw [ay.length]; exact q B H _ (Gr.refl s) (.int _)⟩
  · cases e
    obtain ⟨v, rfl, r⟩ := ra.one
    cases r with
    | @tup p ys es h ay => exact ⟨_, _, rfl, .inr ⟨ys, SqT.of (s _ _ h), rfl⟩, by rw [ay.length]; exact q B H _ (Gr.refl s) (.int _)⟩
  · cases e
theorem pu_len : Pure1 lenD := by intro ds c; unfold lenD; split <;> (try split) <;> simp
theorem de_len (c : Cxs C P w K mg base k W N sc) (g : Gm sc "len") (m : mg "len" = none) (ha : DA C K mg W [a] fs)
    (he : ∀ X, C X → starEach [a] X.env = (false, eval a X.env) :: starEach [] X.env := by intro _ _; rfl) (hpl : ∀ X, C X → (backTo pos (starEach [] X.env)).any (·.1) = false := by intro _ _; rfl) :
    DE C K mg W (.Call (.Name "len" p) [a] [] pos) (callR lenD fs) :=
  de_blt (r := fun X => rLenK X.K) c g m boot_len (by decide) (fun X _ => call_len) (fun X h => by rw [c.hK X h]) cr_len pu_len ha he hpl
/-! isinstance(x, T), T a built-in type -/
def tyD : D → String
  | .none => "NoneType"
  | .bool _ => "bool"
  | .int _ => "int"
  | .str _ => "str"
  | .list _ => "list"
  | .tuple _ => "tuple"
  | .dict _ => "dict"
theorem Rp.ty {B H : Hp} {v : V} {d : D} (r : Rp B v d) (s : Same B H) : TyX K H v (.type (tyD d)) := by
  cases r with
  | non => exact .base .non
  | bl b => exact .base (.bl b)
  | int i => exact .base (.int i)
  | str x => exact .base (.str x)
  | lst h _ => exact .base (.lst (s _ _ h))
  | tup h _ => exact .base (.tup (s _ _ h))
  | dct h => exact .base (.dK (s _ _ h))
/-- by the built-in types' own order -/
def isiD (T : String) (d : D) : R D := match kitB (tyD d) T with
  | some b => .ok (.bool b)
  | none => .bad
theorem de_isi {T : String} {q : Pos} {y : Str} (c : Cxs C P w K mg base k W N sc) (g : Gm sc "isinstance") (m : mg "isinstance" = none) (ha : DE C K mg W a fa) (gT : Gm sc y) (mT : mg y = none) (hv : bootBuiltins y = some (.type T)) (hn : y ≠ "__name__")
    (he : ∀ X, C X → starEach [a, .Name y q] X.env = (false, eval a X.env) :: starEach [.Name y q] X.env := by intro _ _; rfl) (he2 : ∀ X, C X → starEach [.Name y q] X.env = (false, eval (.Name y q) X.env) :: starEach [] X.env := by intro _ _; rfl)
    (hpl : ∀ X, C X → (backTo pos (starEach [.Name y q] X.env)).any (·.1) = false := by intro _ _; rfl) :
    DE C K mg W (.Call (.Name "isinstance" p) [a, .Name y q] [] pos) (fun ρ => (fa ρ).bind (isiD T)) := by
  obtain ⟨ta, pa, va⟩ := ha
  refine ⟨tCB (rIsi K) (tCons ta (tCons (tC (.ty T)) tNil)), fun X h => ?_, ?_⟩
  · have e := c.hK X h
    subst e
    exact pe_callB call_isi (g.gl c X h) (by rw [c.hmg X h]; exact m) (by decide +kernel) (pa_cons (pa X h) (pa_cons (pe_bltn (gT.gl c X h) (by rw [c.hmg X h]; exact mT) hv rfl hn gT.d) pa_nil (he2 X h)) (he X h)) (by decide) g.d (he X h) (hpl X h)
  · intro B0 H0 B H σ ρ Q gd wx q
    refine va B0 H0 B H σ ρ _ gd wx.of_bind fun d B1 H1 v e1 g1 r1 => ?_
    have w1 := wx.then e1
    have e0 : (fa ρ).bind (isiD T) = _ := bind_eq e1
    cases e2 : kitB (tyD d) T with
    | none => unfold isiD at w1; rw [e2] at w1; exact w1.elim
    | some b =>
      have e3 : isiD T d = .ok (.bool b) := by unfold isiD; rw [e2]
      exact ⟨v, .ty T, .type (tyD d), .type T, b, rfl, .ty T, r1.ty g1.s, kit_ty e2, q _ B1 H1 _ (e0.trans e3) g1 (.bl b)⟩
/-! all, any -/
def blsD : List D → Option (List Bool)
  | [] => some []
  | .bool b :: r => (blsD r).map (b :: ·)
  | _ :: _ => none
theorem bls_rp {B : Hp} : ∀ {ds : List D} {xs : List V} {bs : List Bool}, RpA B xs ds → blsD ds = some bs → xs = bs.map V.bl
  | [], _, _, .nil, e => by cases e; rfl
  | .bool b :: r, _, bs, .cons h t, e => by
    cases h
    simp only [blsD, Option.map_eq_some_iff] at e
    obtain ⟨bs', e1, rfl⟩ := e
    rw [List.map_cons, bls_rp t e1]
  | .none :: _, _, _, _, e => by cases e
  | .int _ :: _, _, _, _, e => by cases e
  | .str _ :: _, _, _, _, e => by cases e
  | .list _ :: _, _, _, _, e => by cases e
  | .tuple _ :: _, _, _, _, e => by cases e
  | .dict _ :: _, _, _, _, e => by cases e
def allD : List D → R D
  | [.list ds] => match blsD ds with
    | some bs => .ok (.bool (bs.all id))
    | none => .bad
  | _ => .bad
def anyD : List D → R D
  | [.list ds] => match blsD ds with
    | some bs => .ok (.bool (bs.any id))
    | none => .bad
  | _ => .bad
theorem pu_all : Pure1 allD := by intro ds c; unfold allD; split <;> (try split) <;> simp
theorem pu_any : Pure1 anyD := by intro ds c; unfold anyD; split <;> (try split) <;> simp
theorem cr_allD : CR1 (rAll K) allD := by
  intro B H xs ds d Q s ra e q
  unfold allD at e
  split at e
  · split at e
    · rename_i bs hb; cases e
      obtain ⟨v, rfl, r⟩ := ra.one
      cases r with
      | @lst p ys es h ay =>
        have := bls_rp ay hb
        subst this
        exact ⟨p, bs, rfl, SqL.of (s _ _ h), q B H _ (Gr.refl s) (.bl _)⟩
    · cases e
  · cases e
theorem cr_anyD : CR1 (rAny K) anyD := by
  intro B H xs ds d Q s ra e q
  unfold anyD at e
  split at e
  · split at e
    · rename_i bs hb; cases e
      obtain ⟨v, rfl, r⟩ := ra.one
      cases r with
      | @lst p ys es h ay =>
        have := bls_rp ay hb
        subst this
        exact ⟨p, bs, rfl, SqL.of (s _ _ h), q B H _ (Gr.refl s) (.bl _)⟩
    · cases e
  · cases e
theorem de_all (c : Cxs C P w K mg base k W N sc) (g : Gm sc "all") (m : mg "all" = none) (ha : DA C K mg W [a] fs)
    (he : ∀ X, C X → starEach [a] X.env = (false, eval a X.env) :: starEach [] X.env := by intro _ _; rfl) (hpl : ∀ X, C X → (backTo pos (starEach [] X.env)).any (·.1) = false := by intro _ _; rfl) :
    DE C K mg W (.Call (.Name "all" p) [a] [] pos) (callR allD fs) :=
  de_blt (r := fun X => rAll X.K) c g m (by decide +kernel) (by decide) (fun X h => cr_all (c.calm X h)) (fun X h => by rw [c.hK X h]) cr_allD pu_all ha he hpl
theorem de_any (c : Cxs C P w K mg base k W N sc) (g : Gm sc "any") (m : mg "any" = none) (ha : DA C K mg W [a] fs)
    (he : ∀ X, C X → starEach [a] X.env = (false, eval a X.env) :: starEach [] X.env := by intro _ _; rfl) (hpl : ∀ X, C X → (backTo pos (starEach [] X.env)).any (·.1) = false := by intro _ _; rfl) :
    DE C K mg W (.Call (.Name "any" p) [a] [] pos) (callR anyD fs) :=
  de_blt (r := fun X => rAny X.K) c g m (by decide +kernel) (by decide) (fun X h => cr_any (c.calm X h)) (fun X h => by rw [c.hK X h]) cr_anyD pu_any ha he hpl
/-! lists of ints: sum, min, max -/
def intsD : List D → Option (List Int)
  | [] => some []
  | .int i :: r => (intsD r).map (i :: ·)
  | _ :: _ => none
theorem intsD_map (ns : List Int) : intsD (ns.map .int) = some ns := by
  induction ns with
  | nil => rfl
  | cons n r ih => rw [List.map_cons, intsD, ih]; rfl
theorem intsD_eq : ∀ {ds : List D} {ns : List Int}, intsD ds = some ns → ds = ns.map .int
  | [], _, e => by cases e; rfl
  | .int i :: r, ns, e => by
    simp only [intsD, Option.map_eq_some_iff] at e
    obtain ⟨ns', e1, rfl⟩ := e
    rw [List.map_cons, ← intsD_eq e1]
  | .none :: _, _, e => by cases e
  | .bool _ :: _, _, e => by cases e
  | .str _ :: _, _, e => by cases e
  | .list _ :: _, _, e => by cases e
  | .tuple _ :: _, _, e => by cases e
  | .dict _ :: _, _, e => by cases e
theorem RpA.ints {B : Hp} : ∀ {ns : List Int} {xs : List V}, RpA B xs (ns.map .int) → xs = ns.map V.int
  | [], _, .nil => rfl
  | n :: r, _, .cons h t => by cases h; rw [List.map_cons, RpA.ints t]
theorem RpA.ofInts {B : Hp} : ∀ (ns : List Int), RpA B (ns.map V.int) (ns.map .int)
  | [] => .nil
  | n :: r => .cons (.int n) (RpA.ofInts r)
def minD : List D → R D
  | [.list ds] => match intsD ds with
    | some (n :: r) => .ok (.int (r.foldl min n))
    | _ => .bad
  | _ => .bad
def maxD : List D → R D
  | [.list ds] => match intsD ds with
    | some (n :: r) => .ok (.int (r.foldl max n))
    | _ => .bad
  | _ => .bad
def sumD : List D → R D
  | [.list ds] => match intsD ds with
    | some ns => .ok (.int ns.sum)
    | _ => .bad
  | _ => .bad
theorem foldl_min_spec : ∀ (r : List Int) (n : Int), (r.foldl min n ∈ n :: r) ∧ ∀ y ∈ n :: r, r.foldl min n ≤ y
  | [], n => by simp
  | m :: r, n => by
    obtain ⟨h1, h2⟩ := foldl_min_spec r (min n m)
    rw [List.foldl_cons]
    refine ⟨?_, fun y hy => ?_⟩
    · rcases List.mem_cons.mp h1 with e | e
      · rw [e]
        rcases Int.le_total n m with z | z
        · rw [Int.min_eq_left z]; exact List.mem_cons_self
        · rw [Int.min_eq_right z]; exact List.mem_cons_of_mem _ List.mem_cons_self
      · exact List.mem_cons_of_mem _ (List.mem_cons_of_mem _ e)
    · have h3 := h2 (min n m) List.mem_cons_self
      rcases List.mem_cons.mp hy with e | e
      · subst e; omega
      · rcases List.mem_cons.mp e with e | e
        · subst e; omega
        · exact h2 y (List.mem_cons_of_mem _ e)
theorem foldl_max_spec : ∀ (r : List Int) (n : Int), (r.foldl max n ∈ n :: r) ∧ ∀ y ∈ n :: r, y ≤ r.foldl max n
  | [], n => by simp
  | m :: r, n => by
    obtain ⟨h1, h2⟩ := foldl_max_spec r (max n m)
    rw [List.foldl_cons]
    refine ⟨?_, fun y hy => ?_⟩
    · rcases List.mem_cons.mp h1 with e | e
      · rw [e]
        rcases Int.le_total n m with z | z
        · rw [Int.max_eq_right z]; exact List.mem_cons_of_mem _ List.mem_cons_self
        · rw [Int.max_eq_left z]; exact List.mem_cons_self
      · exact List.mem_cons_of_mem _ (List.mem_cons_of_mem _ e)
    · have h3 := h2 (max n m) List.mem_cons_self
      rcases List.mem_cons.mp hy with e | e
      · subst e; omega
      · rcases List.mem_cons.mp e with e | e
        · subst e; omega
        · exact h2 y (List.mem_cons_of_mem _ e)
theorem pu_min : Pure1 minD := by intro ds c; unfold minD; split <;> (try split) <;> simp
theorem pu_max : Pure1 maxD := by intro ds c; unfold maxD; split <;> (try split) <;> simp
theorem pu_sum : Pure1 sumD := by intro ds c; unfold sumD; split <;> (try split) <;> simp
theorem cr_minD : CR1 (rMin K) minD := by
  intro B H xs ds d Q s ra e q
  unfold minD at e
  split at e
  · split at e
    · rename_i n r hb; cases e
      obtain ⟨v, rfl, rr⟩ := ra.one
      have := intsD_eq hb
      subst this
      cases rr with
      | @lst p ys es h ay =>
        have := ay.ints
        subst this
        refine ⟨p, n :: r, rfl, SqL.of (s _ _ h), Nat.succ_pos _, fun m hm hle => ?_⟩
        obtain ⟨h1, h2⟩ := foldl_min_spec r n
        have e : m = r.foldl min n := by have a := hle _ h1; have b := h2 _ hm; omega
        rw [e]
        exact q B H _ (Gr.refl s) (.int _)
    · cases e
  · cases e
theorem cr_maxD : CR1 (rMax K) maxD := by
  intro B H xs ds d Q s ra e q
  unfold maxD at e
  split at e
  · split at e
    · rename_i n r hb; cases e
      obtain ⟨v, rfl, rr⟩ := ra.one
      have := intsD_eq hb
      subst this
      cases rr with
      | @lst p ys es h ay =>
        have := ay.ints
        subst this
        refine ⟨p, n :: r, rfl, SqL.of (s _ _ h), Nat.succ_pos _, fun m hm hle => ?_⟩
        obtain ⟨h1, h2⟩ := foldl_max_spec r n
        have e : m = r.foldl max n := by have a := hle _ h1; have b := h2 _ hm; omega
        rw [e]
        exact q B H _ (Gr.refl s) (.int _)
    · cases e
  · cases e
theorem cr_sumD : CR1 (rSum K) sumD := by
  intro B H xs ds d Q s ra e q
  unfold sumD at e
  split at e
  · split at e
    · rename_i ns hb; cases e
      obtain ⟨v, rfl, rr⟩ := ra.one
      have := intsD_eq hb
      subst this
      cases rr with
      | @lst p ys es h ay =>
        have := ay.ints
        subst this
        exact ⟨p, ns, rfl, SqL.of (s _ _ h), q B H _ (Gr.refl s) (.int _)⟩
    · cases e
  · cases e
theorem de_min (c : Cxs C P w K mg base k W N sc) (g : Gm sc "min") (m : mg "min" = none) (ha : DA C K mg W [a] fs)
    (he : ∀ X, C X → starEach [a] X.env = (false, eval a X.env) :: starEach [] X.env := by intro _ _; rfl) (hpl : ∀ X, C X → (backTo pos (starEach [] X.env)).any (·.1) = false := by intro _ _; rfl) :
    DE C K mg W (.Call (.Name "min" p) [a] [] pos) (callR minD fs) :=
  de_blt (r := fun X => rMin X.K) c g m (by decide +kernel) (by decide) (fun X h => cr_min (c.calm X h)) (fun X h => by rw [c.hK X h]) cr_minD pu_min ha he hpl
theorem de_max (c : Cxs C P w K mg base k W N sc) (g : Gm sc "max") (m : mg "max" = none) (ha : DA C K mg W [a] fs)
    (he : ∀ X, C X → starEach [a] X.env = (false, eval a X.env) :: starEach [] X.env := by intro _ _; rfl) (hpl : ∀ X, C X → (backTo pos (starEach [] X.env)).any (·.1) = false := by intro _ _; rfl) :
    DE C K mg W (.Call (.Name "max" p) [a] [] pos) (callR maxD fs) :=
  de_blt (r := fun X => rMax X.K) c g m (by decide +kernel) (by decide) (fun X h => cr_max (c.calm X h)) (fun X h => by rw [c.hK X h]) cr_maxD pu_max ha he hpl
theorem de_sum (c : Cxs C P w K mg base k W N sc) (g : Gm sc "sum") (m : mg "sum" = none) (ha : DA C K mg W [a] fs)
    (he : ∀ X, C X → starEach [a] X.env = (false, eval a X.env) :: starEach [] X.env := by intro _ _; rfl) (hpl : ∀ X, C X → (backTo pos (starEach [] X.env)).any (·.1) = false := by intro _ _; rfl) :
    DE C K mg W (.Call (.Name "sum" p) [a] [] pos) (callR sumD fs) :=
  de_blt (r := fun X => rSum X.K) c g m (by decide +kernel) (by decide) (fun X h => cr_sum (c.calm X h)) (fun X h => by rw [c.hK X h]) cr_sumD pu_sum ha he hpl
/-! int(..), tuple(..) -/
def intD : List D → R D
  | [.int i] => .ok (.int i)
  | [.bool b] => .ok (.int (if b then 1 else 0))
  | _ => .bad
theorem pu_int : Pure1 intD := by intro ds c; unfold intD; split <;> simp
theorem cr_intD : CR1 (fun xs H Q => (∃ i, xs = [.int i] ∧ Q (.int i) H) ∨ ∃ k, xs = [.bl k] ∧ Q (.int (if k then 1 else 0)) H) intD := by
  intro B H xs ds d Q s ra e q
  unfold intD at e
  split at e
  · cases e
    obtain ⟨v, rfl, rr⟩ := ra.one
    cases rr
    exact .inl ⟨_, rfl, q B H _ (Gr.refl s) (.int _)⟩
  · cases e
    obtain ⟨v, rfl, rr⟩ := ra.one
    cases rr
    exact .inr ⟨_, rfl, q B H _ (Gr.refl s) (.int _)⟩
  · cases e
theorem de_intc (c : Cxs C P w K mg base k W N sc) (g : Gm sc "int") (m : mg "int" = none) (ha : DA C K mg W [a] fs)
    (he : ∀ X, C X → starEach [a] X.env = (false, eval a X.env) :: starEach [] X.env := by intro _ _; rfl) (hpl : ∀ X, C X → (backTo pos (starEach [] X.env)).any (·.1) = false := by intro _ _; rfl) :
    DE C K mg W (.Call (.Name "int" p) [a] [] pos) (callR intD fs) :=
  de_bty (r := fun X => _) c g m (by decide +kernel) (by decide) (fun X h => call_int1) (fun X h => rfl) cr_intD pu_int ha he hpl
def tupD : List D → R D
  | [.list ds] => .ok (.tuple ds)
  | [.tuple ds] => .ok (.tuple ds)
  | _ => .bad
theorem pu_tup : Pure1 tupD := by intro ds c; unfold tupD; split <;> simp
def rTupK (K : PySem.W.Frag) : List V → Hp → VK → Prop := fun xs H Q => ∃ p ys, xs = [.ref p] ∧ ((SqL K H p ys ∧ ∀ l, H l = none → Q (.ref l) (upd H l (.tup ys))) ∨ (SqT K H p ys ∧ Q (.ref p) H))
theorem cr_tupD : CR1 (rTupK K) tupD := by
  intro B H xs ds d Q s ra e q
  unfold tupD at e
  split at e
  · cases e
    obtain ⟨v, rfl, rr⟩ := ra.one
    cases rr with
    | @lst p ys es h ay =>
      refine ⟨p, ys, rfl, .inl ⟨SqL.of (s _ _ h), fun l hl => ?_⟩⟩
      have g := Gr.new (o := .tup ys) s hl
      exact q _ _ _ g (.tup upd_same (ay.mono g.b))
  · cases e
    obtain ⟨v, rfl, rr⟩ := ra.one
    cases rr with
    | @tup p ys es h ay => exact ⟨p, ys, rfl, .inr ⟨SqT.of (s _ _ h), q B H _ (Gr.refl s) (.tup h ay)⟩⟩
  · cases e
theorem de_tupc (c : Cxs C P w K mg base k W N sc) (g : Gm sc "tuple") (m : mg "tuple" = none) (ha : DA C K mg W [a] fs)
    (he : ∀ X, C X → starEach [a] X.env = (false, eval a X.env) :: starEach [] X.env := by intro _ _; rfl) (hpl : ∀ X, C X → (backTo pos (starEach [] X.env)).any (·.1) = false := by intro _ _; rfl) :
    DE C K mg W (.Call (.Name "tuple" p) [a] [] pos) (callR tupD fs) :=
  de_bty (r := fun X => rTupK X.K) c g m (by decide +kernel) (by decide) (fun X h => call_tuple_of) (fun X h => by rw [c.hK X h]) cr_tupD pu_tup ha he hpl
end
end DL
set_option maxRecDepth 100000
set_option maxHeartbeats 1000000
namespace DL
open PySem L2

section
variable {C : Cx → Prop} {P : Program} {w : World} {K : PySem.W.Frag} {mg : Str → Option Value} {base : Heap} {k : Nat} {W : WX} {N : List Str} {sc : Scope}
variable {a b e : Expr} {es rest : List Expr} {fa fb fc : Env → R D} {fs : Env → R (List D)} {pos p p2 p3 : Pos} {x : Str} {i : Nat} {ta tb : TE} {tt tu : TT} {tr : TA}

/-! ### subscripts -/
def ixD : D → D → R D
  | .list ds, .int i => match atI ds i with
    | some d => .ok d
    | none => .bad
  | .tuple ds, .int i => match atI ds i with
    | some d => .ok d
    | none => .bad
  | .str z, .int i => if fits z.length then (match atI z.cps.toList i with
    | some c => .ok (.str ⟨#[c]⟩)
    | none => .bad) else .bad
  | _, _ => .bad
theorem atI_rp {B : Hp} {xs : List V} {ds : List D} (r : RpA B xs ds) {i : Int} {d : D} (h : atI ds i = some d) : ∃ v, atI xs i = some v ∧ Rp B v d := by
  unfold atI at h ⊢
  rw [r.length]
  cases e : ixN ds.length i with
  | none => rw [e] at h; cases h
  | some j =>
    rw [e] at h
    obtain ⟨v, h1, h2⟩ := r.get (i := j) (d := d) h
    exact ⟨v, h1, h2⟩
theorem pu_ix : Pure2 ixD := by intro x y c; unfold ixD; split <;> (try split) <;> (try split) <;> simp
theorem o2_ix : Op2 (rIx K) ixD := by
  intro B H x y dx dy d Q s rx ry e q
  unfold ixD at e
  split at e
  · split at e
    · rename_i ds i d' h; cases e
      cases ry
      cases rx with
      | @lst p xs es hp ax =>
        obtain ⟨v, h1, h2⟩ := atI_rp ax h
        exact .inl ⟨p, xs, _, v, rfl, rfl, SqL.of (s _ _ hp), h1, q B H v (Gr.refl s) h2⟩
    · cases e
  · split at e
    · rename_i ds i d' h; cases e
      cases ry
      cases rx with
      | @tup p xs es hp ax =>
        obtain ⟨v, h1, h2⟩ := atI_rp ax h
        exact .inr (.inl ⟨p, xs, _, v, rfl, rfl, SqT.of (s _ _ hp), h1, q B H v (Gr.refl s) h2⟩)
    · cases e
  · split at e
    · rename_i hf
      split at e
      · rename_i c h; cases e
        cases rx; cases ry
        exact .inr (.inr ⟨_, _, c, rfl, rfl, fits_line hf, h, q B H _ (Gr.refl s) (.str _)⟩)
      · cases e
    · cases e
  · cases e
theorem de_ix (c : Cxs C P w K mg base k W N sc) (ha : DE C K mg W a fa) (hb : DE C K mg W b fb) (hs : PlainIx b := by intro _ _; rfl) : DE C K mg W (.Subscript a b pos) (opR ixD fa fb) :=
  let ⟨ta, pa, va⟩ := ha; let ⟨tb, pb, vb⟩ := hb
  ⟨_, fun X h => pe_ix (r := rIx K) (by have e := c.hK X h; subst e; exact ix_seq) (pa X h) (pb X h) hs, ev_op o2_ix pu_ix va vb⟩

/-! ### slices -/
def DO (C : Cx → Prop) (K : PySem.W.Frag) (mg : Str → Option Value) (W : WX) (o : Option Expr) (f : Env → R (Option Int)) : Prop :=
  ∃ t, (∀ X, C X → PO X o t) ∧ ∀ (B0 H0 B H : Hp) (σ : St) (ρ : Env) (Q : Option Int → Hp → Prop), Gd K B0 H0 B H σ ρ → Wx mg W H0 σ (f ρ) → (∀ d B' H', f ρ = .ok d → Gr B H B' H' → Q d H') → t σ H Q
def partR : D → R (Option Int)
  | .int i => .ok (some i)
  | _ => .bad
theorem do_none : DO C K mg W none (fun _ => .ok none) := ⟨_, fun X h => po_none, fun B0 H0 B H σ ρ Q gd _ q => q _ B H rfl (Gr.refl gd.sub)⟩
theorem do_some (ha : DE C K mg W a fa) : DO C K mg W (some a) (fun ρ => (fa ρ).bind partR) := by
  obtain ⟨ta, pa, va⟩ := ha
  refine ⟨_, fun X h => po_some (pa X h), fun B0 H0 B H σ ρ Q gd wx q => ?_⟩
  refine va B0 H0 B H σ ρ _ gd wx.of_bind fun d B1 H1 v e1 g1 r1 => ?_
  have w1 := wx.then e1
  have e0 : (fa ρ).bind partR = _ := bind_eq e1
  cases r1 with
  | int i => exact ⟨i, rfl, q _ B1 H1 e0 g1⟩
  | _ => exact w1.elim
def cutD {α : Type} (xs : List α) (lo hi : Option Int) : List α := (xs.drop (HT.sIx xs.length 0 lo)).take (HT.sIx xs.length xs.length hi - HT.sIx xs.length 0 lo)
theorem RpA.cut {B : Hp} {xs : List V} {ds : List D} (r : RpA B xs ds) (lo hi : Option Int) : RpA B (cutV xs lo hi) (cutD ds lo hi) := by
  unfold cutV cutD
  rw [r.length]
  exact (r.drop _).take _
def slD (lo hi : Option Int) : D → R D
  | .list ds => .ok (.list (cutD ds lo hi))
  | .tuple ds => .ok (.tuple (cutD ds lo hi))
  | .str z => if fits z.length then .ok (.str (cutS z lo hi)) else .bad
  | _ => .bad
def slR (fa : Env → R D) (fl fh : Env → R (Option Int)) : Env → R D := fun ρ => (fa ρ).bind fun d => (fl ρ).bind fun lo => (fh ρ).bind fun hi => slD lo hi d
theorem cutV_whole {xs : List V} {lo hi : Option Int} (h : HT.sIx xs.length 0 lo = 0 ∧ HT.sIx xs.length xs.length hi = xs.length) : cutV xs lo hi = xs := by
  unfold cutV
  rw [h.1, h.2, List.drop_zero, Nat.sub_zero, List.take_length]
theorem cutD_whole {α : Type} {xs : List α} {lo hi : Option Int} (h : HT.sIx xs.length 0 lo = 0 ∧ HT.sIx xs.length xs.length hi = xs.length) : cutD xs lo hi = xs := by
  unfold cutD
  rw [h.1, h.2, List.drop_zero, Nat.sub_zero, List.take_length]
theorem de_slice {lo hi : Option Expr} {fl fh : Env → R (Option Int)} (c : Cxs C P w K mg base k W N sc) (ha : DE C K mg W a fa) (hl : DO C K mg W lo fl) (hh : DO C K mg W hi fh) :
    DE C K mg W (.Subscript a (.Slice lo hi none p2) pos) (slR fa fl fh) := by
  obtain ⟨ta, pa, va⟩ := ha; obtain ⟨tl, pl, vl⟩ := hl; obtain ⟨th, ph, vh⟩ := hh
  refine ⟨tSl (fun x lo hi H Q => rSlL K x lo hi H Q ∨ rSlA K x lo hi H Q ∨ rSlS x lo hi H Q) ta tl th, fun X h => ?_, ?_⟩
  · have e := c.hK X h
    subst e
    exact pe_slice (sl_list.or (sl_tupA.or sl_str)) (pa X h) (pl X h) (ph X h)
  · intro B0 H0 B H σ ρ Q gd wx q
    unfold slR at wx
    refine va B0 H0 B H σ ρ _ gd wx.of_bind fun d B1 H1 v e1 g1 r1 => ?_
    have w1 := wx.then e1
    refine vl B0 H0 B1 H1 σ ρ _ (gd.grow g1) w1.of_bind fun lo' B2 H2 e2 g2 => ?_
    have w2 := w1.then e2
    refine vh B0 H0 B2 H2 σ ρ _ ((gd.grow g1).grow g2) w2.of_bind fun hi' B3 H3 e3 g3 => ?_
    have w3 := w2.then e3
    have e0 : slR fa fl fh ρ = slD lo' hi' d := (bind_eq e1).trans ((bind_eq e2).trans (bind_eq e3))
    have g := (g1.trans g2).trans g3
    have r3 := (r1.mono g2.b).mono g3.b
    cases r3 with
    | str z =>
      by_cases hf : fits z.length = true
      · have e4 : slD lo' hi' (.str z) = .ok (.str (cutS z lo' hi')) := if_pos hf
        exact .inr (.inr ⟨z, rfl, fits_line hf, q _ B3 H3 _ (e0.trans e4) g (.str _)⟩)
      · have w4 : Wx mg W H0 σ (slD lo' hi' (.str z)) := w3
        rw [show slD lo' hi' (.str z) = .bad from if_neg hf] at w4; exact w4.elim
    | @lst p xs ds hp ax =>
      refine .inl ⟨p, xs, rfl, SqL.of (g.s _ _ hp), fun l hl => ?_⟩
      have gn := Gr.new (o := .lst (cutV xs lo' hi')) g.s hl
      exact q _ _ _ _ e0 (g.trans gn) (.lst upd_same ((ax.cut lo' hi').mono gn.b))
    | @tup p xs ds hp ax =>
      refine .inr (.inl ⟨p, xs, rfl, SqT.of (g.s _ _ hp), fun hw => ?_, fun hw l hl => ?_⟩)
      · refine q _ B3 H3 _ e0 g ?_
        have hw' := hw
        rw [ax.length] at hw'
        rw [cutD_whole hw']
        exact .tup hp ax
      · have gn := Gr.new (o := .tup (cutV xs lo' hi')) g.s hl
        exact q _ _ _ _ e0 (g.trans gn) (.tup upd_same ((ax.cut lo' hi').mono gn.b))
    | _ => exact w3.elim
/-- a list's slice, the new list not yet told -/
def slLR (fa : Env → R D) (fl fh : Env → R (Option Int)) : Env → R (List D) := fun ρ => (fa ρ).bind fun d => (fl ρ).bind fun lo => (fh ρ).bind fun hi => match d with
  | .list ds => .ok (cutD ds lo hi)
  | _ => .bad
theorem Gr.mk1 {B H : Hp} {p : Addr} {o : HO} (s : Same B H) (h : H p = Option.none) : Gr B H B (upd H p o) ∧ B p = Option.none :=
  ⟨⟨Same.refl _, fun x u e => by rw [upd_ne (ne_of_none (s _ _ e) h)]; exact s _ _ e, Same.upd h, fun _ _ _ => rfl⟩, s.free h⟩
theorem dn_slice {lo hi : Option Expr} {fl fh : Env → R (Option Int)} (c : Cxs C P w K mg base k W N sc) (ha : DE C K mg W a fa) (hl : DO C K mg W lo fl) (hh : DO C K mg W hi fh) :
    DN C K mg W (.Subscript a (.Slice lo hi none p2) pos) (slLR fa fl fh) := by
  obtain ⟨ta, pa, va⟩ := ha; obtain ⟨tl, pl, vl⟩ := hl; obtain ⟨th, ph, vh⟩ := hh
  refine ⟨tSl (rSlL K) ta tl th, fun X h => ?_, ?_⟩
  · have e := c.hK X h
    subst e
    exact pe_slice sl_list (pa X h) (pl X h) (ph X h)
  · intro B0 H0 B H σ ρ Q gd wx q
    unfold slLR at wx
    refine va B0 H0 B H σ ρ _ gd wx.of_bind fun d B1 H1 v e1 g1 r1 => ?_
    have w1 := wx.then e1
    refine vl B0 H0 B1 H1 σ ρ _ (gd.grow g1) w1.of_bind fun lo' B2 H2 e2 g2 => ?_
    have w2 := w1.then e2
    refine vh B0 H0 B2 H2 σ ρ _ ((gd.grow g1).grow g2) w2.of_bind fun hi' B3 H3 e3 g3 => ?_
    have w3 := w2.then e3
    have e0 : slLR fa fl fh ρ = _ := (bind_eq e1).trans ((bind_eq e2).trans (bind_eq e3))
    have g := (g1.trans g2).trans g3
    have r3 := (r1.mono g2.b).mono g3.b
    cases r3 with
    | @lst p xs ds hp ax =>
      refine ⟨p, xs, rfl, SqL.of (g.s _ _ hp), fun l hl => ?_⟩
      obtain ⟨gm, hb⟩ := Gr.mk1 (o := .lst (cutV xs lo' hi')) g.s hl
      exact q _ B3 _ l _ e0 (g.trans gm) (g.none hl) hb upd_same (ax.cut lo' hi')
    | _ => exact w3.elim
/-- xs[::-1] of a list -/
def revR (fa : Env → R D) : Env → R (List D) := fun ρ => (fa ρ).bind fun d => match d with
  | .list ds => .ok ds.reverse
  | _ => .bad
theorem dn_rev {j : Nat} {q1 q2 : Pos} (c : Cxs C P w K mg base k W N sc) (ha : DE C K mg W a fa) : DN C K mg W (.Subscript a (.Slice none none (some (.UnaryOp .USub (.Constant (.int 1) j q1) q2)) p3) pos) (revR fa) := by
  obtain ⟨ta, pa, va⟩ := ha
  refine ⟨tRevL K ta, fun X h => ?_, ?_⟩
  · have e := c.hK X h
    subst e
    exact pe_revL (pa X h)
  · intro B0 H0 B H σ ρ Q gd wx q
    unfold revR at wx
    refine va B0 H0 B H σ ρ _ gd wx.of_bind fun d B1 H1 v e1 g1 r1 => ?_
    have w1 := wx.then e1
    have e0 : revR fa ρ = _ := bind_eq e1
    cases r1 with
    | @lst p xs ds hp ax =>
      refine ⟨p, xs, rfl, SqL.of (g1.s _ _ hp), fun l hl => ?_⟩
      obtain ⟨gm, hb⟩ := Gr.mk1 (o := .lst xs.reverse) g1.s hl
      exact q _ B1 _ l _ e0 (g1.trans gm) (g1.none hl) hb upd_same ax.reverse
    | _ => exact w1.elim

/-! ### new lists by calls -/
def CRL (r : List V → Hp → VK → Prop) (g : List D → R (List D)) : Prop := ∀ (B H : Hp) (xs : List V) (ds es : List D) (Q : VK), Same B H → RpA B xs ds → g ds = .ok es → (∀ H' p vs, Gr B H B H' → H p = Option.none → H' p = some (.lst vs) → RpA B vs es → Q (.ref p) H') → r xs H Q
theorem dn_cb {r : List V → Hp → VK → Prop} {g : List D → R (List D)} (hr : CRL r g) (hp : ∀ ds c, g ds ≠ .exc c) (hs : EvA K mg W tr fs) : EvL K mg W (tCB r tr) (fun ρ => (fs ρ).bind g) := by
  intro B0 H0 B H σ ρ Q gd wx q
  refine hs B0 H0 B H σ ρ _ gd wx.of_bind fun ds B1 H1 vs e1 g1 r1 => ?_
  have w1 := wx.then e1
  have e0 : (fs ρ).bind g = g ds := bind_eq e1
  cases e3 : g ds with
  | bad => rw [e3] at w1; exact w1.elim
  | exc c => exact (hp _ _ e3).elim
  | ok d => exact hr B1 H1 vs ds d Q g1.s r1 e3 fun H2 p us g2 h0 h2 r2 => q d B1 H2 p us (e0.trans e3) (g1.trans g2) (g1.none h0) (g1.s.free h0) h2 r2
theorem dn_bty {T : String} {r : Cx → List V → Hp → VK → Prop} {r' : List V → Hp → VK → Prop} {g : List D → R (List D)} (c : Cxs C P w K mg base k W N sc) (gx : Gm sc x) (m : mg x = none) (hv : bootBuiltins x = some (.type T)) (hn : x ≠ "__name__")
    (ho : ∀ X, C X → CallR X (.type T) (r X)) (hr : ∀ X, C X → r X = r') (h1 : CRL r' g) (hp : ∀ ds c, g ds ≠ .exc c) (ha : DA C K mg W (e :: es) fs)
    (he : ∀ X, C X → starEach (e :: es) X.env = (false, eval e X.env) :: starEach es X.env) (hpl : ∀ X, C X → (backTo pos (starEach es X.env)).any (·.1) = false) :
    DN C K mg W (.Call (.Name x p) (e :: es) [] pos) (fun ρ => (fs ρ).bind g) := by
  obtain ⟨tr, pa, va⟩ := ha
  exact ⟨_, fun X h => pe_callTy (r := r') (by rw [← hr X h]; exact ho X h) (gx.gl c X h) (by rw [c.hmg X h]; exact m) hv (pa X h) hn gx.d (he X h) (hpl X h), dn_cb h1 hp va⟩
theorem dn_blt {id : String} {r : Cx → List V → Hp → VK → Prop} {r' : List V → Hp → VK → Prop} {g : List D → R (List D)} (c : Cxs C P w K mg base k W N sc) (gx : Gm sc x) (m : mg x = none) (hv : bootBuiltins x = some (.builtin id)) (hn : x ≠ "__name__")
    (ho : ∀ X, C X → CallR X (.builtin id) (r X)) (hr : ∀ X, C X → r X = r') (h1 : CRL r' g) (hp : ∀ ds c, g ds ≠ .exc c) (ha : DA C K mg W (e :: es) fs)
    (he : ∀ X, C X → starEach (e :: es) X.env = (false, eval e X.env) :: starEach es X.env) (hpl : ∀ X, C X → (backTo pos (starEach es X.env)).any (·.1) = false) :
    DN C K mg W (.Call (.Name x p) (e :: es) [] pos) (fun ρ => (fs ρ).bind g) := by
  obtain ⟨tr, pa, va⟩ := ha
  exact ⟨_, fun X h => pe_callB (r := r') (by rw [← hr X h]; exact ho X h) (gx.gl c X h) (by rw [c.hmg X h]; exact m) hv (pa X h) hn gx.d (he X h) (hpl X h), dn_cb h1 hp va⟩
def listD : List D → R (List D)
  | [.list ds] => .ok ds
  | [.tuple ds] => .ok ds
  | _ => .bad
def rListK (K : PySem.W.Frag) : List V → Hp → VK → Prop := fun xs H Q => ∃ p ys, xs = [.ref p] ∧ (SqL K H p ys ∨ SqT K H p ys) ∧ ∀ l, H l = none → Q (.ref l) (upd H l (.lst ys))
theorem cr_listD : CRL (rListK K) listD := by
  intro B H xs ds es Q s ra e q
  unfold listD at e
  split at e
  · cases e
    obtain ⟨v, rfl, rr⟩ := ra.one
    cases rr with
    | @lst p ys es h ay => exact ⟨p, ys, rfl, .inl (SqL.of (s _ _ h)), fun l hl => q _ l ys (Gr.mk1 s hl).1 hl upd_same ay⟩
  · cases e
    obtain ⟨v, rfl, rr⟩ := ra.one
    cases rr with
    | @tup p ys es h ay => exact ⟨p, ys, rfl, .inr (SqT.of (s _ _ h)), fun l hl => q _ l ys (Gr.mk1 s hl).1 hl upd_same ay⟩
  · cases e
theorem dn_list (c : Cxs C P w K mg base k W N sc) (g : Gm sc "list") (m : mg "list" = none) (ha : DA C K mg W [a] fs)
    (he : ∀ X, C X → starEach [a] X.env = (false, eval a X.env) :: starEach [] X.env := by intro _ _; rfl) (hpl : ∀ X, C X → (backTo pos (starEach [] X.env)).any (·.1) = false := by intro _ _; rfl) :
    DN C K mg W (.Call (.Name "list" p) [a] [] pos) (fun ρ => (fs ρ).bind listD) :=
  dn_bty (r := fun X => rListK X.K) c g m (by decide +kernel) (by decide) (fun X h => call_list_of) (fun X h => by rw [c.hK X h]) cr_listD (by intro ds c; unfold listD; split <;> simp) ha he hpl
/-! sorted of ints -/
def insI (n : Int) : List Int → List Int
  | [] => [n]
  | m :: r => if n ≤ m then n :: m :: r else m :: insI n r
def isort : List Int → List Int
  | [] => []
  | n :: r => insI n (isort r)
theorem insI_perm (n : Int) : ∀ l : List Int, (insI n l).Perm (n :: l)
  | [] => List.Perm.refl _
  | m :: r => by
    unfold insI
    split
    · exact List.Perm.refl _
    · exact ((insI_perm n r).cons m).trans (List.Perm.swap n m r)
theorem insI_sorted (n : Int) : ∀ l : List Int, l.Pairwise (· ≤ ·) → (insI n l).Pairwise (· ≤ ·)
  | [], _ => by simp [insI]
  | m :: r, h => by
    unfold insI
    have h' := List.pairwise_cons.mp h
    split
    · rename_i hn
      refine List.pairwise_cons.mpr ⟨fun y hy => ?_, h⟩
      rcases List.mem_cons.mp hy with e | e
      · subst e; exact hn
      · exact Int.le_trans hn (h'.1 y e)
    · rename_i hn
      refine List.pairwise_cons.mpr ⟨fun y hy => ?_, insI_sorted n r h'.2⟩
      rcases List.mem_cons.mp ((insI_perm n r).mem_iff.mp hy) with e | e
      · subst e; omega
      · exact h'.1 y e
theorem isort_perm : ∀ l : List Int, (isort l).Perm l
  | [] => List.Perm.refl _
  | n :: r => (insI_perm n _).trans ((isort_perm r).cons n)
theorem isort_sorted : ∀ l : List Int, (isort l).Pairwise (· ≤ ·)
  | [] => List.Pairwise.nil
  | n :: r => insI_sorted n _ (isort_sorted r)
theorem sorted_uniq : ∀ {l m : List Int}, l.Perm m → l.Pairwise (· ≤ ·) → m.Pairwise (· ≤ ·) → l = m := fun h1 h2 h3 =>
  List.Perm.eq_of_pairwise (le := fun a b => a ≤ b) (fun a b _ _ h h' => Int.le_antisymm h h') h2 h3 h1
def sortD : List D → R (List D)
  | [.list ds] => match intsD ds with
    | some ns => .ok ((isort ns).map .int)
    | none => .bad
  | _ => .bad
theorem cr_sortD : CRL (rSortedI K) sortD := by
  intro B H xs ds es Q s ra e q
  unfold sortD at e
  split at e
  · split at e
    · rename_i ns hb; cases e
      obtain ⟨v, rfl, rr⟩ := ra.one
      have := intsD_eq hb
      subst this
      cases rr with
      | @lst p ys es h ay =>
        have := ay.ints
        subst this
        refine ⟨p, ns, rfl, SqL.of (s _ _ h), fun ns' l hp ho hl => ?_⟩
        have e : ns' = isort ns := sorted_uniq (hp.trans (isort_perm ns).symm) ho (isort_sorted ns)
        rw [e]
        exact q _ l _ (Gr.mk1 s hl).1 hl upd_same (RpA.ofInts _)
    · cases e
  · cases e
theorem dn_sorted (c : Cxs C P w K mg base k W N sc) (g : Gm sc "sorted") (m : mg "sorted" = none) (ha : DA C K mg W [a] fs)
    (he : ∀ X, C X → starEach [a] X.env = (false, eval a X.env) :: starEach [] X.env := by intro _ _; rfl) (hpl : ∀ X, C X → (backTo pos (starEach [] X.env)).any (·.1) = false := by intro _ _; rfl) :
    DN C K mg W (.Call (.Name "sorted" p) [a] [] pos) (fun ρ => (fs ρ).bind sortD) :=
  dn_blt (r := fun X => rSortedI X.K) c g m (by decide +kernel) (by decide) (fun X h => cr_sortedI) (fun X h => by rw [c.hK X h]) cr_sortD (by intro ds c; unfold sortD; split <;> (try split) <;> simp) ha he hpl
/-! list(range(n)), list(range(m, n)) -/
def rangeI (lo : Int) (n : Nat) : List D := (List.range n).map fun i => .int (lo + (i : Nat))
theorem RpA.range {B : Hp} (a b : Int) : RpA B (rgV a b) (rangeI a (b - a).toNat) := by
  unfold rgV rangeI
  generalize List.range (b - a).toNat = l
  induction l with
  | nil => exact .nil
  | cons j r ih => rw [List.map_cons, List.map_cons]; exact .cons (.int _) ih
def rgOk (a b : Int) : Bool := decide (-16777216 ≤ a) && decide (a ≤ 16777216) && decide (-16777216 ≤ b) && decide (b ≤ 16777216) && decide (b - a ≤ 16777216)
theorem rgOk_is {a b : Int} (h : rgOk a b = true) : RgOk a b := by
  unfold rgOk at h
  simp only [Bool.and_eq_true, decide_eq_true_eq] at h
  exact ⟨by omega, by omega, by omega, by omega, by omega⟩
def lrg1 : D → R (List D)
  | .int n => if rgOk 0 n then .ok (rangeI 0 n.toNat) else .bad
  | _ => .bad
theorem dn_listRange {q1 q2 : Pos} (c : Cxs C P w K mg base k W N sc) (g : Gm sc "list") (m : mg "list" = none) (g2 : Gm sc "range") (m2 : mg "range" = none) (ha : DE C K mg W a fa)
    (he : ∀ X, C X → starEach [.Call (.Name "range" q1) [a] [] q2] X.env = (false, eval (.Call (.Name "range" q1) [a] [] q2) X.env) :: starEach [] X.env := by intro _ _; rfl) (he2 : ∀ X, C X → starEach [a] X.env = (false, eval a X.env) :: starEach [] X.env := by intro _ _; rfl) :
    DN C K mg W (.Call (.Name "list" p) [.Call (.Name "range" q1) [a] [] q2] [] pos) (fun ρ => (fa ρ).bind lrg1) := by
  obtain ⟨ta, pa, va⟩ := ha
  refine ⟨_, fun X h => pe_listRg (c.calm X h) (g.gl c X h) (by rw [c.hmg X h]; exact m) (prg_1 (g2.gl c X h) (by rw [c.hmg X h]; exact m2) (pa X h) (he2 X h)) (he X h), ?_⟩
  intro B0 H0 B H σ ρ Q gd wx q
  refine va B0 H0 B H σ ρ _ gd wx.of_bind fun d B1 H1 v e1 g1 r1 => ?_
  have w1 := wx.then e1
  have e0 : (fa ρ).bind lrg1 = _ := bind_eq e1
  cases r1 with
  | int n =>
    by_cases hr : rgOk 0 n = true
    · have e2 : lrg1 (.int n) = .ok (rangeI 0 n.toNat) := if_pos hr
      refine ⟨n, rfl, rgOk_is hr, fun l hl => ?_⟩
      obtain ⟨gm, hb⟩ := Gr.mk1 (o := .lst (rgV 0 n)) g1.s hl
      have rr : RpA B1 (rgV 0 n) (rangeI 0 n.toNat) := by have z := RpA.range (B := B1) 0 n; rw [Int.sub_zero] at z; exact z
      exact q _ B1 _ l _ (e0.trans e2) (g1.trans gm) (g1.none hl) hb upd_same rr
    · rw [show lrg1 (.int n) = .bad from if_neg hr] at w1; exact w1.elim
  | _ => exact w1.elim
/-! len(set(xs)), xs ints -/
def metI (ns : List Int) : List Int := PyProof.Rows.firstMet (fun i => ns.getD i 0) ns.length
def lenSetD : D → R D
  | .list ds => match intsD ds with
    | some ns => if ns.length ≤ 4000 then .ok (.int (metI ns).length) else .bad
    | none => .bad
  | _ => .bad
def tLenSet (K : PySem.W.Frag) (ta : TE) : TE := fun σ H Q => ta σ H fun x H1 => ∃ (l : Addr) (ns : List Int), x = .ref l ∧ SqL K H1 l (ns.map V.int) ∧ ns.length ≤ 4000 ∧ Q (.int ((metI ns).length : Nat)) H1
end
section
open PyProof.Rows PySem.Calls
theorem ints_vals : ∀ {ns : List Int} {us : List Value}, Vals (ns.map V.int) us → PyProof.Rows.IntsAre us ns
  | [], _, .nil => .nil
  | n :: ns, _, .cons r t => by
    obtain ⟨k, rfl⟩ := r
    exact .cons n k (ints_vals t)
theorem pe_lenSet {X : Cx} {a : Expr} {ta : TE} {p p2 q pos : Pos} (hg : Gl X "len") (hm : X.mg "len" = none) (hg2 : Gl X "set") (hm2 : X.mg "set" = none) (ha : PE X a ta) (hc : X.calm = true)
    (na : starEach [a] X.env = (false, eval a X.env) :: starEach [] X.env) : PE X (.Call (.Name "len" p) [.Call (.Name "set" p2) [a] [] q] [] pos) (tLenSet X.K ta) := by
  refine ⟨fun pins s σ H Q I h => ?_⟩
  refine Call_ (ld_blt I hg hm boot_len ?_)
  refine PyProof.Rows.callWith_builtin1 (PyProof.Rows.args_cons ?_ rfl) rfl rfl
  refine Call_ (ld_blt I hg2 hm2 boot_set ?_)
  refine PyProof.Rows.callWith_type1 (PyProof.Rows.args_cons (thn (ha.run pins s σ H _ I h) fun v s1 ⟨x, H1, I1, r1, q1⟩ => PyProof.Rows.args_nil ?_) na) na rfl
  obtain ⟨l, ns, rfl, hq, hl, q1⟩ := q1
  cases r1
  obtain ⟨its, r, pl, hz⟩ := I1.list hq
  have hlen : its.toArray.size = ns.length := by rw [List.size_toArray, ← r.length, List.length_map]
  have hml : (metI ns).length ≤ ns.length := firstMet_length_le _ _
  refine call_set_list (I1.ok.hd hc) pl.isList (by simpa using ints_vals r) (by rw [hlen]; unfold scanBound; omega) fun h' tk hS hk => ?_
  refine PyProof.Rows.args_nil ?_
  rw [hlen] at hS
  obtain ⟨o, es, ep, t, ho, hex, hd, _, _, _, hf, hn⟩ := hS
  have I2 : Inv X pins σ H1 { s1 with heap := h', toks := tk } := I1.kept fun b o e => hk b o (Heap.lt_size e) e
  have hn' : es.size = (metI ns).length := hn
  exact call_len_set ho hex hd hf (by rw [hn'] <;> omega) ⟨.int (metI ns).length, H1, I2.tok _, ⟨_, by rw [hn']⟩, q1⟩
end
section
variable {C : Cx → Prop} {P : Program} {w : World} {K : PySem.W.Frag} {mg : Str → Option Value} {base : Heap} {k : Nat} {W : WX} {N : List Str} {sc : Scope}
variable {a b e : Expr} {es rest : List Expr} {fa fb fc : Env → R D} {fs : Env → R (List D)} {pos p p2 p3 : Pos} {x : Str} {i : Nat} {ta tb : TE} {tt tu : TT} {tr : TA}
theorem de_lenset {q1 q2 : Pos} (c : Cxs C P w K mg base k W N sc) (g : Gm sc "len") (m : mg "len" = none) (g2 : Gm sc "set") (m2 : mg "set" = none) (ha : DE C K mg W a fa)
    (he : ∀ X, C X → starEach [a] X.env = (false, eval a X.env) :: starEach [] X.env := by intro _ _; rfl) :
    DE C K mg W (.Call (.Name "len" p) [.Call (.Name "set" q1) [a] [] q2] [] pos) (fun ρ => (fa ρ).bind lenSetD) := by
  obtain ⟨ta, pa, va⟩ := ha
  refine ⟨tLenSet K ta, fun X h => ?_, ?_⟩
  · have e := c.hK X h
    subst e
    exact pe_lenSet (g.gl c X h) (by rw [c.hmg X h]; exact m) (g2.gl c X h) (by rw [c.hmg X h]; exact m2) (pa X h) (c.calm X h) (he X h)
  · intro B0 H0 B H σ ρ Q gd wx q
    refine va B0 H0 B H σ ρ _ gd wx.of_bind fun d B1 H1 v e1 g1 r1 => ?_
    have w1 := wx.then e1
    have e0 : (fa ρ).bind lenSetD = _ := bind_eq e1
    cases r1 with
    | @lst p xs ds hp ax =>
      cases hb : intsD ds with
      | none => simp only [lenSetD, hb] at w1; exact w1.elim
      | some ns =>
        have := intsD_eq hb
        subst this
        have := ax.ints
        subst this
        by_cases hl : ns.length ≤ 4000
        · have e2 : lenSetD (.list (ns.map .int)) = .ok (.int (metI ns).length) := by simp only [lenSetD, hb, if_pos hl]
          exact ⟨p, ns, rfl, SqL.of (g1.s _ _ hp), hl, q _ B1 H1 _ (e0.trans e2) g1 (.int _)⟩
        · simp only [lenSetD, hb, if_neg hl] at w1; exact w1.elim
    | _ => exact w1.elim
end
end DL
set_option maxRecDepth 100000
set_option maxHeartbeats 1000000
namespace DL
open PySem L2

/-! ### the state, stored to -/
section
variable {K : PySem.W.Frag} {B0 H0 B H : Hp} {σ : St} {ρ : Env} {i : Nat}
theorem Gd.lt (g : Gd K B0 H0 B H σ ρ) (h : i < ρ.length) : i < σ.length := by rw [g.len]; exact h
/-- a slot that owns nothing is stored to -/
theorem Gd.put {o : Option V} {t : Sl} (g : Gd K B0 H0 B H σ ρ) (r : SlOk K H0 B H (some o) t) (no : ∀ H o a, ¬ Owns H o a t) : Gd K B0 H0 B H (σ.set i o) (ρ.set i t) := by
  refine ⟨g.sub0, g.sub, g.old, g.oldB, by rw [List.length_set, List.length_set]; exact g.len, fun j s e => ?_, fun j l s1 s2 a e1 e2 o1 o2 => ?_⟩
  · by_cases hj : i = j
    · subst hj
      by_cases hl : i < ρ.length
      · rw [List.getElem?_set_self hl] at e; cases e
        rw [List.getElem?_set_self (g.lt hl)]; exact r
      · rw [List.getElem?_eq_none (by simpa using hl)] at e; cases e
    · rw [List.getElem?_set_ne hj] at e ⊢
      exact g.slots j s e
  · have nj : ∀ {j : Nat} {s : Sl}, (ρ.set i t)[j]? = some s → Owns H (σ.set i o)[j]? a s → i ≠ j ∧ ρ[j]? = some s ∧ Owns H σ[j]? a s := fun {j s} e w => by
      by_cases hj : i = j
      · subst hj
        by_cases hl : i < ρ.length
        · rw [List.getElem?_set_self hl] at e; cases e; exact (no _ _ _ w).elim
        · rw [List.getElem?_eq_none (by simpa using hl)] at e; cases e
      · rw [List.getElem?_set_ne hj] at e w; exact ⟨hj, e, w⟩
    obtain ⟨n1, e1', w1⟩ := nj e1 o1
    obtain ⟨n2, e2', w2⟩ := nj e2 o2
    exact g.apart j l s1 s2 a e1' e2' w1 w2
theorem Gd.set {v : V} {d : D} (g : Gd K B0 H0 B H σ ρ) (r : Rp B v d) : Gd K B0 H0 B H (σ.set i (some v)) (ρ.set i (.dat d)) := g.put ⟨v, rfl, r⟩ (fun _ _ _ h => h)
/-- a slot forgotten -/
theorem Gd.clr {o : Option V} (g : Gd K B0 H0 B H σ ρ) : Gd K B0 H0 B H (σ.set i o) (ρ.set i .no) := g.put True.intro (fun _ _ _ h => h)
/-- a new thing's slot: what it owns is new -/
theorem Gd.fresh {B' H' : Hp} {o : Option V} {t : Sl} (g0 : Gd K B0 H0 B H σ ρ) (r : Gr B H B' H') (ok : SlOk K H0 B' H' (some o) t) (nw : ∀ a, Owns H' (some o) a t → H a = none) : Gd K B0 H0 B' H' (σ.set i o) (ρ.set i t) := by
  have g := g0.grow r
  refine ⟨g.sub0, g.sub, g.old, g.oldB, by rw [List.length_set, List.length_set]; exact g.len, fun j s e => ?_, fun j l s1 s2 a e1 e2 o1 o2 => ?_⟩
  · by_cases hj : i = j
    · subst hj
      by_cases hl : i < ρ.length
      · rw [List.getElem?_set_self hl] at e; cases e
        rw [List.getElem?_set_self (g.lt hl)]; exact ok
      · rw [List.getElem?_eq_none (by simpa using hl)] at e; cases e
    · rw [List.getElem?_set_ne hj] at e ⊢
      exact g.slots j s e
  · have at_ : ∀ {j : Nat} {s : Sl}, (ρ.set i t)[j]? = some s → Owns H' (σ.set i o)[j]? a s → (i = j ∧ H a = none) ∨ (i ≠ j ∧ ρ[j]? = some s ∧ Owns H' σ[j]? a s ∧ ∃ u, H a = some u) := fun {j s} e w => by
      by_cases hj : i = j
      · subst hj
        by_cases hl : i < ρ.length
        · rw [List.getElem?_set_self hl] at e; cases e
          rw [List.getElem?_set_self (g.lt hl)] at w
          exact .inl ⟨rfl, nw a w⟩
        · rw [List.getElem?_eq_none (by simpa using hl)] at e; cases e
      · rw [List.getElem?_set_ne hj] at e w
        obtain ⟨vs, z, _⟩ := Owns.there (g0.slots j s e) (w.back (g0.slots j s e) r.h)
        exact .inr ⟨hj, e, w, _, z⟩
    rcases at_ e1 o1 with ⟨z1, z2⟩ | ⟨n1, f1, f3, u, f4⟩
    · rcases at_ e2 o2 with ⟨z3, _⟩ | ⟨n2, f2, _, u, f4⟩
      · exact z1.symm.trans z3
      · rw [z2] at f4; cases f4
    · rcases at_ e2 o2 with ⟨_, z4⟩ | ⟨n2, f2, f5, _⟩
      · rw [z4] at f4; cases f4
      · exact g.apart j l s1 s2 a f1 f2 f3 f5
/-- a new list's slot -/
theorem Gd.setL {B' H' : Hp} {p : Addr} {vs : List V} {ds : List D} (g0 : Gd K B0 H0 B H σ ρ) (r : Gr B H B' H') (h0 : H p = none) (h1 : B' p = none) (h2 : H' p = some (.lst vs)) (ra : RpA B' vs ds) :
    Gd K B0 H0 B' H' (σ.set i (some (.ref p))) (ρ.set i (.own ds)) :=
  g0.fresh (o := some (.ref p)) (t := .own ds) r ⟨p, vs, rfl, h2, h1, g0.old.free h0, ra⟩ fun a w => by
    have w : some (some (V.ref p)) = some (some (.ref a)) := w
    cases w; exact h0
/-- what a slot owns is changed, at a: the slot's own word for it changes -/
theorem Gd.alter {B' : Hp} {H' : Hp} {t t' : Sl} (g : Gd K B0 H0 B H σ ρ) (e : ρ[i]? = some t) (sb : Same B B') (sh : Same B' H') (s0 : Same H0 H') (oB : ∀ (a : Addr) (o : HO), H0 a = some o → B' a = B0 a)
    (ok : SlOk K H0 B' H' σ[i]? t') (kp : ∀ a o, H a = some o → ¬ Owns H σ[i]? a t → H' a = some o ∧ B' a = B a) (ow : ∀ a, Owns H' σ[i]? a t' → Owns H σ[i]? a t ∨ H a = none) : Gd K B0 H0 B' H' σ (ρ.set i t') := by
  have hl : i < ρ.length := (List.getElem?_eq_some_iff.mp e).1
  have other : ∀ {j : Nat} {s : Sl} {a : Addr}, i ≠ j → ρ[j]? = some s → Owns H σ[j]? a s → ¬ Owns H σ[i]? a t := fun {j s a} hj ej w z => hj (g.apart i j t s a e ej z w)
  have ok' : ∀ (j : Nat) (s : Sl), i ≠ j → ρ[j]? = some s → SlOk K H0 B' H' σ[j]? s ∧ ∀ a, Owns H' σ[j]? a s → Owns H σ[j]? a s := fun j s hj ej => by
    have z := g.slots j s ej
    cases s with
    | no => exact ⟨True.intro, fun a w => w⟩
    | dat d => obtain ⟨v, z1, z2⟩ := z; exact ⟨⟨v, z1, z2.mono sb⟩, fun a w => w⟩
    | scr ns => obtain ⟨b, z1, z2⟩ := z; exact ⟨⟨b, z1, sb.seq z2⟩, fun a w => w⟩
    | exn c C => obtain ⟨b, z1, z2⟩ := z; exact ⟨⟨b, z1, sb _ _ z2⟩, fun a w => w⟩
    | dct kvs =>
      obtain ⟨b, us, z1, z2, z3, z4, z5⟩ := z
      obtain ⟨k1, k2⟩ := kp b _ z2 (other hj ej z1)
      exact ⟨⟨b, us, z1, k1, k2.trans z3, z4, z5.mono sb⟩, fun a w => w⟩
    | own es =>
      obtain ⟨b, us, z1, z2, z3, z4, z5⟩ := z
      obtain ⟨k1, k2⟩ := kp b _ z2 (other hj ej z1)
      exact ⟨⟨b, us, z1, k1, k2.trans z3, z4, z5.mono sb⟩, fun a w => w⟩
    | own1 es l =>
      obtain ⟨b, c, us, ws, z1, z2, z3, z4, z5, z6, z7, z8, z9, z10⟩ := z
      obtain ⟨k1, k2⟩ := kp b _ z2 (other hj ej (.inl z1))
      obtain ⟨k3, k4⟩ := kp c _ z6 (other hj ej (.inr ⟨b, us, z1, z2⟩))
      refine ⟨⟨b, c, us, ws, z1, k1, k2.trans z3, z4, z5.mono sb, k3, k4.trans z7, z8, z9.mono sb, z10⟩, fun a w => ?_⟩
      rcases w with w | ⟨p, vs, w1, w2⟩
      · exact .inl w
      · rw [w1] at z1; cases z1
        rw [k1] at w2
        exact .inr ⟨_, vs, w1, by rw [z2]; exact w2⟩
  refine ⟨g.sub0, sh, s0, oB, by rw [List.length_set]; exact g.len, fun j s ej => ?_, fun j l s1 s2 a e1 e2 o1 o2 => ?_⟩
  · by_cases hj : i = j
    · subst hj
      rw [List.getElem?_set_self hl] at ej; cases ej
      exact ok
    · rw [List.getElem?_set_ne hj] at ej
      exact (ok' j s hj ej).1
  · have at_ : ∀ {j : Nat} {s : Sl}, (ρ.set i t')[j]? = some s → Owns H' σ[j]? a s → (i = j ∧ (Owns H σ[i]? a t ∨ H a = none)) ∨ (i ≠ j ∧ ρ[j]? = some s ∧ Owns H σ[j]? a s) := fun {j s} e' w => by
      by_cases hj : i = j
      · subst hj
        rw [List.getElem?_set_self hl] at e'; cases e'
        exact .inl ⟨rfl, ow a w⟩
      · rw [List.getElem?_set_ne hj] at e'
        exact .inr ⟨hj, e', (ok' j s hj e').2 a w⟩
    have no2 : ∀ {j : Nat} {s : Sl}, i ≠ j → ρ[j]? = some s → Owns H σ[j]? a s → (Owns H σ[i]? a t ∨ H a = none) → False := fun {j s} hj ej w z => by
      rcases z with z | z
      · exact other hj ej w z
      · obtain ⟨vs, z', _⟩ := Owns.there (g.slots j s ej) w
        rw [z] at z'; cases z'
    rcases at_ e1 o1 with ⟨z1, z2⟩ | ⟨n1, f1, f3⟩
    · rcases at_ e2 o2 with ⟨z3, _⟩ | ⟨n2, f2, f4⟩
      · exact z1.symm.trans z3
      · exact (no2 n2 f2 f4 z2).elim
    · rcases at_ e2 o2 with ⟨_, z4⟩ | ⟨n2, f2, f5⟩
      · exact (no2 n1 f1 f3 z4).elim
      · exact g.apart j l s1 s2 a f1 f2 f3 f5
/-- an owned list changed -/
theorem Gd.mut {a : Addr} {vs' : List V} {ds ds' : List D} (g : Gd K B0 H0 B H σ ρ) (e : ρ[i]? = some (.own ds)) (hs : σ[i]? = some (some (.ref a))) (ra : RpA B vs' ds') :
    Gd K B0 H0 B (upd H a (.lst vs')) σ (ρ.set i (.own ds')) := by
  obtain ⟨a', vs, q1, q2, q3, q4, q5⟩ := g.slots i _ e
  rw [hs] at q1; cases q1
  refine g.alter e (Same.refl _) (fun x u hx => ?_) (fun x u hx => ?_) g.oldB ⟨a, vs', hs, upd_same, q3, q4, ra⟩ (fun x o hx n => ?_) fun x w => .inl w
  · rw [upd_ne (ne_of_none hx q3)]; exact g.sub _ _ hx
  · rw [upd_ne (ne_of_none hx q4)]; exact g.old _ _ hx
  · rw [upd_ne (fun z => n (by rw [z]; exact hs))]; exact ⟨hx, rfl⟩
/-- an owned list becomes a datum -/
theorem Gd.freeze {a : Addr} {vs : List V} {ds : List D} (g : Gd K B0 H0 B H σ ρ) (e : ρ[i]? = some (.own ds)) (hs : σ[i]? = some (some (.ref a))) (hH : H a = some (.lst vs)) :
    Gd K B0 H0 (upd B a (.lst vs)) H σ (ρ.set i (.dat (.list ds))) ∧ Same B (upd B a (.lst vs)) := by
  obtain ⟨a', vs', q1, q2, q3, q4, q5⟩ := g.slots i _ e
  rw [hs] at q1; cases q1
  rw [hH] at q2; cases q2
  have sB : Same B (upd B a (.lst vs)) := Same.upd q3
  refine ⟨g.alter e sB (fun x u hx => ?_) g.old (fun x u hx => ?_) ⟨_, hs, .lst upd_same (q5.mono sB)⟩ (fun x o hx n => ?_) fun x w => w.elim, sB⟩
  · by_cases hxa : x = a
    · subst hxa; rw [upd_same] at hx; cases hx; exact hH
    · rw [upd_ne hxa] at hx; exact g.sub _ _ hx
  · rw [upd_ne (ne_of_none hx q4)]; exact g.oldB _ _ hx
  · exact ⟨hx, upd_ne (fun z => n (by rw [z]; exact hs))⟩
end
/-- B may grow while H stays -/
theorem Gd.wipeG {K : PySem.W.Frag} {B0 H0 B H : Hp} {σ : St} {ρ : Env} (g : Gd K B0 H0 B H σ ρ) : ∀ vs : List Nat, Gd K B0 H0 B H (wipe σ vs) (vs.foldr (fun i r => r.set i .no) ρ)
  | [] => g
  | v :: vs => by
    unfold wipe
    rw [List.foldr_cons]
    exact (g.wipeG vs).clr

/-! ### what is walked -/
structure Walk (K : PySem.W.Frag) (B : Hp) (J : It) (ds : List D) : Prop where
  go : ∀ (B' H' : Hp) (i : Nat), Same B B' → Same B' H' → i < ds.length → J.go i H'
  yld : ∀ (B' H' : Hp) (i : Nat) (d : D) (x : V) (H2 : Hp), Same B B' → Same B' H' → ds[i]? = some d → J.yld i H' x H2 → ∃ B2, Gr B' H' B2 H2 ∧ Rp B2 x d
  stop : ∀ (B' H' : Hp) (i : Nat), Same B B' → Same B' H' → ds.length ≤ i → J.stop i H'
def EvI (K : PySem.W.Frag) (mg : Str → Option Value) (W : WX) (wi : TI) (f : Env → R (List D)) : Prop := ∀ (B0 H0 B H : Hp) (σ : St) (ρ : Env) (Rr : It → Hp → Prop), Gd K B0 H0 B H σ ρ → Wx mg W H0 σ (f ρ) →
  (∀ ds B' H' J, f ρ = .ok ds → Gr B H B' H' → Walk K B' J ds → Rr J H') → wi σ H Rr
def DI (C : Cx → Prop) (K : PySem.W.Frag) (mg : Str → Option Value) (W : WX) (tg iter : Expr) (f : Env → R (List D)) : Prop := ∃ wi, (∀ X, C X → PI X tg iter wi) ∧ EvI K mg W wi f
theorem walk_list {K : PySem.W.Frag} {B : Hp} {a : Addr} {xs : List V} {ds : List D} (h : B a = some (.lst xs)) (r : RpA B xs ds) : Walk K B (Itl K a) ds where
  go := fun B' H' i s1 s2 hi => by
    obtain ⟨v, h1, _⟩ := r.get (List.getElem?_eq_getElem hi)
    exact ⟨xs, v, SqL.of (s2 _ _ (s1 _ _ h)), h1⟩
  yld := fun B' H' i d x H2 s1 s2 e y => by
    obtain ⟨rfl, y2⟩ := y
    obtain ⟨v, h1, h2⟩ := r.get e
    have ev : v = x := Option.some.inj (h1.symm.trans (y2 xs (SqL.of (s2 _ _ (s1 _ _ h)))))
    subst ev
    exact ⟨B', Gr.refl s2, h2.mono s1⟩
  stop := fun B' H' i s1 s2 hi => ⟨xs, SqL.of (s2 _ _ (s1 _ _ h)), by rw [r.length]; exact hi⟩
theorem walk_tup {K : PySem.W.Frag} {B : Hp} {a : Addr} {xs : List V} {ds : List D} (h : B a = some (.tup xs)) (r : RpA B xs ds) : Walk K B (Itt K a) ds where
  go := fun B' H' i s1 s2 hi => by
    obtain ⟨v, h1, _⟩ := r.get (List.getElem?_eq_getElem hi)
    exact ⟨xs, v, SqT.of (s2 _ _ (s1 _ _ h)), h1⟩
  yld := fun B' H' i d x H2 s1 s2 e y => by
    obtain ⟨rfl, y2⟩ := y
    obtain ⟨v, h1, h2⟩ := r.get e
    have ev : v = x := Option.some.inj (h1.symm.trans (y2 xs (SqT.of (s2 _ _ (s1 _ _ h)))))
    subst ev
    exact ⟨B', Gr.refl s2, h2.mono s1⟩
  stop := fun B' H' i s1 s2 hi => ⟨xs, SqT.of (s2 _ _ (s1 _ _ h)), by rw [r.length]; exact hi⟩
theorem walk_range {K : PySem.W.Frag} {B : Hp} (lo : Int) (n : Nat) : Walk K B (Itr lo n) (rangeI lo n) where
  go := fun B' H' i s1 s2 hi => by unfold rangeI at hi; rw [List.length_map, List.length_range] at hi; exact hi
  yld := fun B' H' i d x H2 s1 s2 e y => by
    obtain ⟨rfl, rfl⟩ := y
    unfold rangeI at e
    rw [List.getElem?_map] at e
    obtain ⟨j, e1, rfl⟩ := Option.map_eq_some_iff.mp e
    obtain ⟨hi, rfl⟩ := List.getElem?_eq_some_iff.mp e1
    rw [List.getElem_range]
    exact ⟨B', Gr.refl s2, .int _⟩
  stop := fun B' H' i s1 s2 hi => by unfold rangeI at hi; rw [List.length_map, List.length_range] at hi; exact hi
/-- the items with their places -/
def enumI (ds : List D) : List D := (List.range ds.length).zipWith (fun i d => .tuple [.int (i : Nat), d]) ds
theorem enumI_length (ds : List D) : (enumI ds).length = ds.length := by unfold enumI; rw [List.length_zipWith, List.length_range, Nat.min_self]
theorem enumI_get {ds : List D} {i : Nat} {e : D} (h : (enumI ds)[i]? = some e) : ∃ d, ds[i]? = some d ∧ e = .tuple [.int (i : Nat), d] := by
  have hl : i < ds.length := by rw [← enumI_length]; exact (List.getElem?_eq_some_iff.mp h).1
  unfold enumI at h
  rw [List.getElem?_zipWith, List.getElem?_eq_getElem hl, List.getElem?_eq_getElem (by rw [List.length_range]; exact hl), List.getElem_range] at h
  exact ⟨_, List.getElem?_eq_getElem hl, (Option.some.inj h).symm⟩
theorem walk_enum {K : PySem.W.Frag} {B : Hp} {a : Addr} {xs : List V} {ds : List D} (h : B a = some (.lst xs)) (r : RpA B xs ds) : Walk K B (Ite K a) (enumI ds) where
  go := fun B' H' i s1 s2 hi => by
    rw [enumI_length] at hi
    obtain ⟨v, h1, _⟩ := r.get (List.getElem?_eq_getElem hi)
    exact ⟨xs, v, SqL.of (s2 _ _ (s1 _ _ h)), h1⟩
  yld := fun B' H' i e x H2 s1 s2 he y => by
    obtain ⟨d, hd, rfl⟩ := enumI_get he
    obtain ⟨T, x', rfl, hT, rfl, y2⟩ := y
    obtain ⟨v, h1, h2⟩ := r.get hd
    have ev : v = x' := Option.some.inj (h1.symm.trans (y2 xs (SqL.of (s2 _ _ (s1 _ _ h)))))
    subst ev
    have g := Gr.new (o := .tup [.int (i : Nat), v]) s2 hT
    exact ⟨_, g, .tup upd_same (.cons (.int _) (.cons ((h2.mono s1).mono g.b) .nil))⟩
  stop := fun B' H' i s1 s2 hi => by
    rw [enumI_length] at hi
    exact ⟨xs, SqL.of (s2 _ _ (s1 _ _ h)), by rw [r.length]; exact hi⟩

section
variable {C : Cx → Prop} {P : Program} {w : World} {K : PySem.W.Frag} {mg : Str → Option Value} {base : Heap} {k : Nat} {W : WX} {N : List Str} {sc : Scope}
variable {a b e tg : Expr} {es rest : List Expr} {fa fb fc : Env → R D} {fs : Env → R (List D)} {pos p p2 p3 : Pos} {x : Str} {i : Nat} {ta tb : TE} {tt tu : TT} {tr : TA}
/-! the items of a datum that is walked by a for: a list's, a tuple's (by the text's own rule) -/
def itemsL : D → R (List D)
  | .list ds => .ok ds
  | _ => .bad
def itemsT : D → R (List D)
  | .tuple ds => .ok ds
  | _ => .bad
theorem di_list (c : Cxs C P w K mg base k W N sc) (ha : DE C K mg W a fa) : DI C K mg W tg a (fun ρ => (fa ρ).bind itemsL) := by
  obtain ⟨ta, pa, va⟩ := ha
  refine ⟨iList K ta, fun X h => ?_, ?_⟩
  · have e := c.hK X h
    subst e
    exact pi_list (pa X h)
  · intro B0 H0 B H σ ρ Rr gd wx q
    refine va B0 H0 B H σ ρ _ gd wx.of_bind fun d B1 H1 v e1 g1 r1 => ?_
    have w1 := wx.then e1
    have e0 : (fa ρ).bind itemsL = _ := bind_eq e1
    cases r1 with
    | @lst p xs ds hp ax => exact ⟨p, rfl, ⟨xs, SqL.of (g1.s _ _ hp)⟩, q ds B1 H1 _ e0 g1 (walk_list hp ax)⟩
    | _ => exact w1.elim
theorem di_tup (c : Cxs C P w K mg base k W N sc) (ha : DE C K mg W a fa) : DI C K mg W tg a (fun ρ => (fa ρ).bind itemsT) := by
  obtain ⟨ta, pa, va⟩ := ha
  refine ⟨iTup K ta, fun X h => ?_, ?_⟩
  · have e := c.hK X h
    subst e
    exact pi_tup (pa X h)
  · intro B0 H0 B H σ ρ Rr gd wx q
    refine va B0 H0 B H σ ρ _ gd wx.of_bind fun d B1 H1 v e1 g1 r1 => ?_
    have w1 := wx.then e1
    have e0 : (fa ρ).bind itemsT = _ := bind_eq e1
    cases r1 with
    | @tup p xs ds hp ax => exact ⟨p, rfl, ⟨xs, SqT.of (g1.s _ _ hp)⟩, q ds B1 H1 _ e0 g1 (walk_tup hp ax)⟩
    | _ => exact w1.elim
def rg1 : D → R (List D)
  | .int n => if rgOk 0 n then .ok (rangeI 0 n.toNat) else .bad
  | _ => .bad
theorem di_range1 (c : Cxs C P w K mg base k W N sc) (g : Gm sc "range") (m : mg "range" = none) (ha : DE C K mg W a fa)
    (hs : ∀ X, C X → starEach [a] X.env = [(false, eval a X.env)] := by intro _ _; rfl) : DI C K mg W tg (.Call (.Name "range" p) [a] [] pos) (fun ρ => (fa ρ).bind rg1) := by
  obtain ⟨ta, pa, va⟩ := ha
  refine ⟨_, fun X h => pi_range1 (g.gl c X h) (by rw [c.hmg X h]; exact m) (pa_cons (pa X h) pa_nil (hs X h)) (hs X h), ?_⟩
  intro B0 H0 B H σ ρ Rr gd wx q
  refine va B0 H0 B H σ ρ _ gd wx.of_bind fun d B1 H1 v e1 g1 r1 => ?_
  have w1 := wx.then e1
  have e0 : (fa ρ).bind rg1 = _ := bind_eq e1
  cases r1 with
  | int n =>
    by_cases hr : rgOk 0 n = true
    · have e2 : rg1 (.int n) = .ok (rangeI 0 n.toNat) := if_pos hr
      have hr' := rgOk_is hr
      exact ⟨n, rfl, hr'.2.2.1, hr'.2.2.2.1, q _ B1 H1 _ (e0.trans e2) g1 (walk_range 0 n.toNat)⟩
    · rw [show rg1 (.int n) = .bad from if_neg hr] at w1; exact w1.elim
  | _ => exact w1.elim
def rg2 : D → D → R (List D)
  | .int m, .int n => if rgOk m n then .ok (rangeI m (n - m).toNat) else .bad
  | _, _ => .bad
theorem di_range2 (c : Cxs C P w K mg base k W N sc) (g : Gm sc "range") (m : mg "range" = none) (ha : DE C K mg W a fa) (hb : DE C K mg W b fb)
    (hs : ∀ X, C X → starEach [a, b] X.env = [(false, eval a X.env), (false, eval b X.env)] := by intro _ _; rfl) (hs2 : ∀ X, C X → starEach [b] X.env = [(false, eval b X.env)] := by intro _ _; rfl) :
    DI C K mg W tg (.Call (.Name "range" p) [a, b] [] pos) (fun ρ => (fa ρ).bind fun x => (fb ρ).bind fun y => rg2 x y) := by
  obtain ⟨ta, pa, va⟩ := ha; obtain ⟨tb, pb, vb⟩ := hb
  refine ⟨_, fun X h => pi_range2 (g.gl c X h) (by rw [c.hmg X h]; exact m) (pa_cons (pa X h) (pa_cons (pb X h) pa_nil (hs2 X h)) (by rw [hs X h, hs2 X h])) (hs X h) (hs2 X h), ?_⟩
  intro B0 H0 B H σ ρ Rr gd wx q
  refine va B0 H0 B H σ ρ _ gd wx.of_bind fun d B1 H1 v e1 g1 r1 => ?_
  have w1 := wx.then e1
  refine vb B0 H0 B1 H1 σ ρ _ (gd.grow g1) w1.of_bind fun d2 B2 H2 v2 e2 g2 r2 => ?_
  have w2 := w1.then e2
  have e0 : ((fa ρ).bind fun x => (fb ρ).bind fun y => rg2 x y) = rg2 d d2 := (bind_eq e1).trans (bind_eq e2)
  cases r1 with
  | int m' =>
    cases r2 with
    | int n =>
      by_cases hr : rgOk m' n = true
      · have e3 : rg2 (.int m') (.int n) = .ok (rangeI m' (n - m').toNat) := if_pos hr
        have hr' := rgOk_is hr
        exact ⟨m', n, rfl, ⟨hr'.1, hr'.2.1, hr'.2.2.1, hr'.2.2.2.1⟩, q _ B2 H2 _ (e0.trans e3) (g1.trans g2) (walk_range m' (n - m').toNat)⟩
      · rw [show rg2 (.int m') (.int n) = .bad from if_neg hr] at w2; exact w2.elim
    | _ => exact w2.elim
  | _ => cases r2 <;> exact w2.elim
def enumL : D → R (List D)
  | .list ds => .ok (enumI ds)
  | _ => .bad
theorem di_enum {elts : List Expr} {kk : Nat} {tpos : Pos} (c : Cxs C P w K mg base k W N sc) (g : Gm sc "enumerate") (m : mg "enumerate" = none) (ha : DE C K mg W a fa)
    (hs : ∀ X, C X → starEach [a] X.env = [(false, eval a X.env)] := by intro _ _; rfl) : DI C K mg W (.Tuple elts kk tpos) (.Call (.Name "enumerate" p) [a] [] pos) (fun ρ => (fa ρ).bind enumL) := by
  obtain ⟨ta, pa, va⟩ := ha
  refine ⟨iEnum K (tCons ta tNil), fun X h => ?_, ?_⟩
  · have e := c.hK X h
    subst e
    exact pi_enum (g.gl c X h) (by rw [c.hmg X h]; exact m) (pa_cons (pa X h) pa_nil (hs X h)) (hs X h)
  · intro B0 H0 B H σ ρ Rr gd wx q
    refine va B0 H0 B H σ ρ _ gd wx.of_bind fun d B1 H1 v e1 g1 r1 => ?_
    have w1 := wx.then e1
    have e0 : (fa ρ).bind enumL = _ := bind_eq e1
    cases r1 with
    | @lst p xs ds hp ax => exact ⟨p, xs, rfl, SqL.of (g1.s _ _ hp), q _ B1 H1 _ e0 g1 (walk_enum hp ax)⟩
    | _ => exact w1.elim

/-! ### targets -/
def EvG (K : PySem.W.Frag) (g : TG) (tf : D → Env → R Env) (is : List Nat) : Prop := ∀ (B0 H0 B H : Hp) (σ : St) (ρ : Env) (v : V) (d : D) (ρ' : Env) (Q : St → Hp → Prop), Gd K B0 H0 B H σ ρ → Rp B v d → tf d ρ = .ok ρ' →
  (∀ σ', Gd K B0 H0 B H σ' ρ' → (∀ vs : List Nat, (∀ i ∈ is, i ∈ vs) → wipe σ' vs = wipe σ vs) → Q σ' H) → g v σ H Q
def DG (C : Cx → Prop) (K : PySem.W.Frag) (tg : Expr) (tf : D → Env → R Env) (is : List Nat) : Prop := ∃ g, (∀ X, C X → PG X tg g) ∧ EvG K g tf is
theorem wipe_set {σ : St} {i : Nat} {o : Option V} : ∀ {vs : List Nat}, i ∈ vs → wipe (σ.set i o) vs = wipe σ vs
  | v :: vs, h => by
    unfold wipe
    by_cases hi : i ∈ vs
    · rw [wipe_set hi]
    · have e : i = v := by rcases List.mem_cons.mp h with e | e; exact e; exact absurd e hi
      subst e
      have far : ∀ {vs : List Nat}, i ∉ vs → wipe (σ.set i o) vs = (wipe σ vs).set i o := by
        intro vs
        induction vs with
        | nil => intro _; rfl
        | cons u us ih =>
          intro hn
          unfold wipe
          rw [ih (fun z => hn (List.mem_cons_of_mem _ z))]
          exact List.set_comm _ _ (fun z => hn (by rw [z]; exact List.mem_cons_self))
      rw [far hi, List.set_set]
def tgN (i : Nat) : D → Env → R Env := fun d ρ => .ok (ρ.set i (.dat d))
theorem dg_name (c : Cxs C P w K mg base k W N sc) (l : Lm C N sc i x) : DG C K (.Name x pos) (tgN i) [i] := by
  refine ⟨gName i, fun X h => pg_name (by rw [c.hN X h]; exact c.nd) (by rw [c.hN X h]; exact l.at_) (by rw [c.hsc X h]; exact l.loc) ?_, ?_⟩
  · rcases l.fn with z | z
    · exact .inr (by rw [c.hsc X h]; exact z)
    · exact .inl (z X h)
  · intro B0 H0 B H σ ρ v d ρ' Q gd r e q
    cases e
    exact q _ (gd.set r) fun vs h => wipe_set (h i List.mem_cons_self)
def EvGs (K : PySem.W.Frag) (t : TGs) (tf : List D → Env → R Env) (is : List Nat) : Prop := ∀ (B0 H0 B H : Hp) (σ : St) (ρ : Env) (vs : List V) (ds : List D) (ρ' : Env) (Q : St → Hp → Prop), Gd K B0 H0 B H σ ρ → RpA B vs ds → tf ds ρ = .ok ρ' →
  (∀ σ', Gd K B0 H0 B H σ' ρ' → (∀ us : List Nat, (∀ i ∈ is, i ∈ us) → wipe σ' us = wipe σ us) → Q σ' H) → t vs σ H Q
def DGs (C : Cx → Prop) (K : PySem.W.Frag) (tgs : List Expr) (tf : List D → Env → R Env) (is : List Nat) : Prop := ∃ g, (∀ X, C X → PGs X tgs g) ∧ EvGs K g tf is
def tgs0 : List D → Env → R Env := fun ds ρ => match ds with
  | [] => .ok ρ
  | _ => .bad
def tgs1 (f : D → Env → R Env) (g : List D → Env → R Env) : List D → Env → R Env := fun ds ρ => match ds with
  | d :: r => (f d ρ).bind (g r)
  | [] => .bad
theorem dgs_nil : DGs C K [] tgs0 [] := by
  refine ⟨gNil, fun X h => pgs_nil, ?_⟩
  intro B0 H0 B H σ ρ vs ds ρ' Q gd r e q
  cases r with
  | nil => cases e; exact ⟨rfl, q σ gd fun _ _ => rfl⟩
  | cons _ _ => cases e
theorem dgs_cons {f : D → Env → R Env} {g : List D → Env → R Env} {is js : List Nat} (h1 : DG C K e f is) (h2 : DGs C K es g js)
    (hs : ∀ X, C X → (assignEach (e :: es) X.env).map (·.2) = assign e X.env :: (assignEach es X.env).map (·.2) := by intro _ _; rfl) : DGs C K (e :: es) (tgs1 f g) (is ++ js) := by
  obtain ⟨t1, p1, v1⟩ := h1; obtain ⟨t2, p2, v2⟩ := h2
  refine ⟨gCons t1 t2, fun X h => pgs_cons (p1 X h) (p2 X h) (hs X h), ?_⟩
  intro B0 H0 B H σ ρ vs ds ρ' Q gd r e q
  cases r with
  | nil => cases e
  | @cons v vr d dr r1 r2 =>
    refine ⟨v, vr, rfl, ?_⟩
    cases e1 : f d ρ with
    | bad => simp only [tgs1, e1] at e; cases e
    | exc c => simp only [tgs1, e1] at e; cases e
    | ok ρ1 =>
      simp only [tgs1, e1] at e
      refine v1 B0 H0 B H σ ρ v d ρ1 _ gd r1 e1 fun σ1 gd1 w1 => ?_
      exact v2 B0 H0 B H σ1 ρ1 vr dr ρ' Q gd1 r2 e fun σ2 gd2 w2 => q σ2 gd2 fun us hu => (w2 us fun i hi => hu i (List.mem_append_right _ hi)).trans (w1 us fun i hi => hu i (List.mem_append_left _ hi))
def tgT (n : Nat) (g : List D → Env → R Env) : D → Env → R Env := fun d ρ => match d with
  | .tuple ds => if ds.length = n then g ds ρ else .bad
  | _ => .bad
theorem dg_tup {g : List D → Env → R Env} {is : List Nat} {kk n : Nat} (c : Cxs C P w K mg base k W N sc) (h1 : DGs C K es g is)
    (hn : ∀ X, C X → (assignEach es X.env).length = n := by intro _ _; rfl) (hst : ∀ X, C X → (assignEach es X.env).findIdx? (·.1) = none := by intro _ _; rfl) : DG C K (.Tuple es kk pos) (tgT n g) is := by
  obtain ⟨t1, p1, v1⟩ := h1
  refine ⟨gTup K n t1, fun X h => ?_, ?_⟩
  · have e := c.hK X h
    subst e
    exact pg_tup (c.calm X h) (p1 X h) (hn X h) (hst X h)
  · intro B0 H0 B H σ ρ v d ρ' Q gd r e q
    cases r with
    | @tup p xs ds hp ax =>
      by_cases hl : ds.length = n
      · have e' : g ds ρ = .ok ρ' := by
          have z : tgT n g (.tuple ds) ρ = g ds ρ := if_pos hl
          rw [← z]; exact e
        exact ⟨p, xs, rfl, SqT.of (gd.sub _ _ hp), ax.length.trans hl, v1 B0 H0 B H σ ρ xs ds ρ' Q gd ax e' q⟩
      · have z : tgT n g (.tuple ds) ρ = .bad := if_neg hl
        rw [z] at e; cases e
    | _ => cases e
end
end DL
set_option maxRecDepth 100000
set_option maxHeartbeats 1000000
namespace DL
open PySem L2

section
variable {C : Cx → Prop} {P : Program} {w : World} {K : PySem.W.Frag} {mg : Str → Option Value} {base : Heap} {k : Nat} {W : WX} {N : List Str} {sc : Scope}
variable {a b e tg iter elt : Expr} {es rest ifs : List Expr} {fa fb fc : Env → R D} {fs : Env → R (List D)} {pos p p2 p3 : Pos} {x : Str} {i : Nat} {ta tb : TE} {tt tu : TT} {tr : TA}

/-! ### comprehensions -/
/-- the contexts of a block -/
def blkC (C : Cx → Prop) (scope : Scope) : Cx → Prop := fun Y => ∃ X, C X ∧ ∃ (s : Shared) (H : Hp) (A : Addr) (cl : List (Str × Addr)) (fp : List Addr), Y = X.blk s H scope (compEnvC scope cl A X.env) fp
abbrev W0 : WX := fun _ _ _ _ => False
theorem cxs_blk {scope : Scope} (c : Cxs C P w K mg base k W N sc) : Cxs (blkC C scope) P w K mg base k W0 N (relS scope sc) where
  hP := by rintro _ ⟨X, h, s, H, A, cl, fp, rfl⟩; exact c.hP X h
  hw := by rintro _ ⟨X, h, s, H, A, cl, fp, rfl⟩; exact c.hw X h
  hK := by rintro _ ⟨X, h, s, H, A, cl, fp, rfl⟩; exact c.hK X h
  hmg := by rintro _ ⟨X, h, s, H, A, cl, fp, rfl⟩; exact c.hmg X h
  hbase := by rintro _ ⟨X, h, s, H, A, cl, fp, rfl⟩; exact c.hbase X h
  calm := by rintro _ ⟨X, h, s, H, A, cl, fp, rfl⟩; exact c.calm X h
  room := by rintro _ ⟨X, h, s, H, A, cl, fp, rfl⟩; exact c.room X h
  takes := by rintro _ ⟨X, h, s, H, A, cl, fp, rfl⟩; exact takes0
  own := by rintro _ ⟨X, h, s, H, A, cl, fp, rfl⟩; exact PassesOwn.never
  hN := by rintro _ ⟨X, h, s, H, A, cl, fp, rfl⟩; exact c.hN X h
  hsc := by
    rintro _ ⟨X, h, s, H, A, cl, fp, rfl⟩
    rw [← c.hsc X h]
    rfl
  nd := c.nd
theorem lm_blkCell {scope : Scope} {sc' : Scope} (h1 : N[i]? = some x) (h2 : Loc sc' x) (h3 : scope.names.lookup x = some .cell) : Lm (blkC C scope) N sc' i x :=
  ⟨h1, h2, .inr (by rintro _ ⟨X, h, s, H, A, cl, fp, rfl⟩; show (scope.names.lookup x == some .cell) = true; rw [h3]; rfl)⟩
def DTs (C : Cx → Prop) (K : PySem.W.Frag) (mg : Str → Option Value) (W : WX) (ifs : List Expr) (f : Env → R Bool) : Prop := ∃ t, (∀ X, C X → PTs X ifs t) ∧ EvT K mg W t f
theorem dts_nil : DTs C K mg W [] (fun _ => .ok true) := ⟨tYes, fun _ _ => pts_nil, fun B0 H0 B H σ ρ Q gd _ q => q true B H rfl (Gr.refl gd.sub)⟩
theorem dts_one {ga : Env → R Bool} (h : DT C K mg W a ga) : DTs C K mg W [a] ga :=
  let ⟨ta, pa, va⟩ := h
  ⟨_, fun X h => pts_one (pa X h), va⟩
/-- what the block makes of the items, from the slots ρ -/
def compR (tf : D → Env → R Env) (ft : Env → R Bool) (fe : Env → R D) (ρ : Env) : List D → R (List D)
  | [] => .ok []
  | d :: ds => match tf d ρ with
    | .ok ρ1 => match ft ρ1 with
      | .ok true => match fe ρ1 with
        | .ok e => (compR tf ft fe ρ ds).bind fun r => .ok (e :: r)
        | _ => .bad
      | .ok false => compR tf ft fe ρ ds
      | _ => .bad
    | _ => .bad
def wipeE (own : List Nat) (ρ : Env) : Env := own.foldr (fun i r => r.set i .no) ρ
/-- .. and the whole -/
def lcR (fi : Env → R (List D)) (tf : D → Env → R Env) (ft : Env → R Bool) (fe : Env → R D) (own : List Nat) : Env → R (List D) := fun ρ => (fi ρ).bind fun its => (compR tf ft fe (wipeE own ρ) its).bind fun r => if fits its.length then .ok r else .bad
theorem compR_len {tf : D → Env → R Env} {ft : Env → R Bool} {fe : Env → R D} {ρ : Env} : ∀ {ds r : List D}, compR tf ft fe ρ ds = .ok r → r.length ≤ ds.length
  | [], r, h => by cases h; exact Nat.le_refl _
  | d :: ds, r, h => by
    unfold compR at h
    split at h
    · split at h
      · split at h
        · cases e : compR tf ft fe ρ ds with
          | bad => rw [e] at h; cases h
          | exc c => rw [e] at h; cases h
          | ok r' => rw [e] at h; cases h; have := compR_len e; simp only [List.length_cons]; omega
        · cases h
      · have := compR_len h; simp only [List.length_cons]; omega
      · cases h
    · cases h
theorem compR_noexc {tf : D → Env → R Env} {ft : Env → R Bool} {fe : Env → R D} {ρ : Env} {c : Str} : ∀ {ds : List D}, compR tf ft fe ρ ds ≠ .exc c
  | [], h => by cases h
  | d :: ds, h => by
    unfold compR at h
    split at h
    · split at h
      · split at h
        · cases e : compR tf ft fe ρ ds with
          | bad => rw [e] at h; cases h
          | exc c' => exact compR_noexc e
          | ok r' => rw [e] at h; cases h
        · cases h
      · exact compR_noexc h
      · cases h
    · cases h
theorem el_lc {wi : TI} {g : TG} {tt : TT} {te : TE} {fi : Env → R (List D)} {tf : D → Env → R Env} {ft : Env → R Bool} {fe : Env → R D} {own is : List Nat} (hi : EvI K mg W wi fi) (hg : EvG K g tf is) (ho : ∀ i ∈ is, i ∈ own) (ht : EvT K mg W0 tt ft) (he : Ev K mg W0 te fe) :
    EvL K mg W (tLc wi g tt te own) (lcR fi tf ft fe own) := by
  intro B0 H0 B H σ ρ Q gd wx q
  unfold lcR at wx
  refine hi B0 H0 B H σ ρ _ gd wx.of_bind fun its B1 H1 J e1 g1 wk => ?_
  have w1 := wx.then e1
  have e0 : lcR fi tf ft fe own ρ = _ := bind_eq e1
  cases ec : compR tf ft fe (wipeE own ρ) its with
  | bad => rw [ec] at w1; exact w1.elim
  | exc c => exact (compR_noexc ec).elim
  | ok r =>
    have w2 := w1.then ec
    have e0' := e0.trans (bind_eq ec)
    by_cases hf : fits its.length = true
    · rw [if_pos hf] at e0'
      intro Da hD
      have gd1 := gd.grow g1
      -- the invariant: behind i items the list holds what comes of them; what is left comes of the rest
      refine ⟨fun i m H' => m = its.length - i ∧ i ≤ its.length ∧ ∃ (B' : Hp) (acc : List V) (ds rs : List D), Same B1 B' ∧ Same B' H' ∧ Same H1 H' ∧ (∀ x o, H1 x = some o → B' x = B1 x) ∧ B' Da = none ∧ H' Da = some (.lst acc) ∧ RpA B' acc ds ∧ acc.length ≤ i ∧
        compR tf ft fe (wipeE own ρ) (its.drop i) = .ok rs ∧ r = ds ++ rs, ⟨its.length, by simp, Nat.zero_le _, B1, [], [], r, Same.refl _, ?_, Same.upd hD, fun _ _ _ => rfl, g1.s.free hD, upd_same, .nil, Nat.le_refl _, ec, rfl⟩, ?_⟩
      · exact fun x u z => by rw [upd_ne (ne_of_none (g1.s _ _ z) hD)]; exact g1.s _ _ z
      · rintro i m H' ⟨rfl, hil, B', acc, ds, rs, s1, s2, s3, s4, s5, s6, ra, hal, hc, hr⟩
        have gdN : Gd K B0 H0 B' H' σ ρ := by
          refine ⟨gd1.sub0, s2, gd1.old.trans s3, fun x o z => (s4 x o (gd1.old _ _ z)).trans (gd1.oldB x o z), gd1.len, fun j s z => ?_, fun i' j' s' t' a' e1' e2' o1 o2 => gd1.apart i' j' s' t' a' e1' e2' (o1.back (gd1.slots _ _ e1') s3) (o2.back (gd1.slots _ _ e2') s3)⟩
          have y := gd1.slots j s z
          cases s with
          | no => exact True.intro
          | dat d => obtain ⟨v, y1, y2⟩ := y; exact ⟨v, y1, y2.mono s1⟩
          | scr ns => obtain ⟨v, y1, y2⟩ := y; exact ⟨v, y1, s1.seq y2⟩
          | exn c C => obtain ⟨v, y1, y2⟩ := y; exact ⟨v, y1, s1 _ _ y2⟩
          | dct kvs =>
            obtain ⟨b, us, y1, y2, y3, y4, y5⟩ := y
            exact ⟨b, us, y1, s3 b _ y2, (s4 b _ y2).trans y3, y4, y5.mono s1⟩
          | own1 es l =>
            obtain ⟨a, b, vs, ws, h1, h2, h3, h4, h5, h6, h7, h8, h9, h10⟩ := y
            exact ⟨a, b, vs, ws, h1, s3 a _ h2, (s4 a _ h2).trans h3, h4, h5.mono s1, s3 b _ h6, (s4 b _ h6).trans h7, h8, h9.mono s1, h10⟩
          | own es =>
            obtain ⟨b, us, y1, y2, y3, y4, y5⟩ := y
            exact ⟨b, us, y1, s3 _ _ y2, (s4 b _ y2).trans y3, y4, y5.mono s1⟩
        by_cases hlt : i < its.length
        · have hd : its[i]? = some its[i] := List.getElem?_eq_getElem hlt
          have hdrop : its.drop i = its[i] :: its.drop (i + 1) := List.drop_eq_getElem_cons hlt
          rw [hdrop] at hc
          refine .inr ⟨wk.go B' H' i s1 s2 hlt, fun H2 => ∃ (B2 : Hp) (acc : List V) (ds rs : List D), Same B1 B2 ∧ Same B2 H2 ∧ Same H1 H2 ∧ (∀ x o, H1 x = some o → B2 x = B1 x) ∧ B2 Da = none ∧ H2 Da = some (.lst acc) ∧ RpA B2 acc ds ∧ acc.length ≤ i + 1 ∧
            compR tf ft fe (wipeE own ρ) (its.drop (i + 1)) = .ok rs ∧ r = ds ++ rs, fun H2 z => ⟨its.length - (i + 1), by omega, rfl, hlt, z⟩, fun y H2 hy => ?_⟩
          obtain ⟨B2, g2, r2⟩ := wk.yld B' H' i _ y H2 s1 s2 hd hy
          have gw : Gd K B0 H0 B2 H2 (wipe σ own) (wipeE own ρ) := (gdN.grow g2).wipeG own
          unfold compR at hc
          cases et : tf its[i] (wipeE own ρ) with
          | bad => rw [et] at hc; cases hc
          | exc _ => rw [et] at hc; cases hc
          | ok ρ1 =>
            simp only [et] at hc
            refine hg B0 H0 B2 H2 _ _ y _ ρ1 _ gw r2 et fun σ1 gσ hwp => ⟨hwp own ho |>.trans ?_, ?_⟩
            · -- the block's own slots are empty already
              have idem : ∀ (vs us : List Nat), (∀ v ∈ us, v ∈ vs) → wipe (wipe σ vs) us = wipe σ vs := by
                intro vs us
                induction us with
                | nil => intro _; rfl
                | cons u us ih =>
                  intro hu
                  have e : wipe (wipe σ vs) (u :: us) = (wipe (wipe σ vs) us).set u none := rfl
                  rw [e, ih fun v hv => hu v (List.mem_cons_of_mem _ hv)]
                  have m : u ∈ vs := hu u List.mem_cons_self
                  clear e ih hu
                  induction vs with
                  | nil => cases m
                  | cons v vs ih2 =>
                    show ((wipe σ vs).set v none).set u none = (wipe σ vs).set v none
                    by_cases huv : u = v
                    · subst huv; rw [List.set_set]
                    · rw [List.set_comm _ _ (Ne.symm huv), ih2 (by rcases List.mem_cons.mp m with z | z; exact absurd z huv; exact z)]
              exact idem own own fun _ h => h
            · cases eb : ft ρ1 with
              | bad => rw [eb] at hc; cases hc
              | exc _ => rw [eb] at hc; cases hc
              | ok b =>
                simp only [eb] at hc
                refine ht B0 H0 B2 H2 σ1 ρ1 _ gσ (by rw [eb]; exact True.intro) fun b' B3 H3 eb' g3 => ?_
                rw [eb] at eb'; cases eb'
                have nD2 : B2 Da = none := by rw [g2.n Da _ s6]; exact s5
                have k3 : B3 Da = none := by rw [g3.n Da _ (g2.h _ _ s6)]; exact nD2
                cases b with
                | false =>
                  exact iteF ⟨B3, acc, ds, rs, (s1.trans g2.b).trans g3.b, g3.s, (s3.trans g2.h).trans g3.h, fun x o z => ((g3.n x o (g2.h _ _ (s3 _ _ z))).trans (g2.n x o (s3 _ _ z))).trans (s4 x o z), k3, g3.h _ _ (g2.h _ _ s6), (ra.mono g2.b).mono g3.b, Nat.le_succ_of_le hal, hc, hr⟩
                | true =>
                  refine iteT ?_
                  cases ee : fe ρ1 with
                  | bad => rw [ee] at hc; cases hc
                  | exc _ => rw [ee] at hc; cases hc
                  | ok ed =>
                    simp only [ee] at hc
                    cases er : compR tf ft fe (wipeE own ρ) (its.drop (i + 1)) with
                    | bad => rw [er] at hc; cases hc
                    | exc _ => rw [er] at hc; cases hc
                    | ok rs' =>
                      rw [er] at hc
                      have hrs : rs = ed :: rs' := by cases hc; rfl
                      refine he B0 H0 B3 H3 σ1 ρ1 _ (gσ.grow g3) (by rw [ee]; exact True.intro) fun ed' B4 H4 v e4 g4 r4 => ?_
                      rw [ee] at e4; cases e4
                      have k4 : B4 Da = none := by rw [g4.n Da _ (g3.h _ _ (g2.h _ _ s6))]; exact k3
                      have d4 : H4 Da = some (.lst acc) := g4.h _ _ (g3.h _ _ (g2.h _ _ s6))
                      have sz : acc.length < sizeLine := by
                        have z := of_decide_eq_true hf
                        rw [sizeLine_eq]; omega
                      refine ⟨acc, d4, sz, B4, acc ++ [v], ds ++ [ed], rs', ((s1.trans g2.b).trans g3.b).trans g4.b, fun x u z => ?_, fun x u z => ?_, fun x o z => (((g4.n x o (g3.h _ _ (g2.h _ _ (s3 _ _ z)))).trans (g3.n x o (g2.h _ _ (s3 _ _ z)))).trans (g2.n x o (s3 _ _ z))).trans (s4 x o z), k4, upd_same,
                        (((ra.mono g2.b).mono g3.b).mono g4.b).append (.cons r4 .nil), ?_, rfl, ?_⟩
                      · rw [upd_ne (ne_of_none z k4)]; exact g4.s _ _ z
                      · have nx : x ≠ Da := ne_of_none z hD
                        rw [upd_ne nx]; exact g4.h _ _ (g3.h _ _ (g2.h _ _ (s3 _ _ z)))
                      · rw [List.length_append]; simp only [List.length_cons, List.length_nil]; omega
                      · rw [hr, hrs, List.append_assoc]; rfl
        · have ei : i = its.length := by omega
          subst ei
          rw [List.drop_length] at hc
          cases hc
          refine .inl ⟨wk.stop B' H' its.length s1 s2 (Nat.le_refl _), ?_⟩
          rw [List.append_nil] at hr
          subst hr
          exact q r B' H' Da acc e0' ⟨g1.b.trans s1, s2, g1.h.trans s3, fun x o z => (s4 x o (g1.h _ _ z)).trans (g1.n x o z)⟩ (g1.h.free hD) s5 s6 ra
    · rw [if_neg hf] at w2; exact w2.elim
theorem dn_lc {scope : Scope} {own : List (Str × Nat)} {fi : Env → R (List D)} {tf : D → Env → R Env} {ft : Env → R Bool} {fe : Env → R D} {is : List Nat} (c : Cxs C P w K mg base k W N sc) (hi : DI C K mg W tg iter fi) (ok : L2.blkC N sc scope own = true)
    (hg : DG (blkC C scope) K tg tf is) (ho : ∀ i ∈ is, i ∈ own.map (·.2)) (ht : DTs (blkC C scope) K mg W0 ifs ft) (he : DE (blkC C scope) K mg W0 elt fe) (hs : ∀ X, C X → ∀ x, foldedSetIterable iter X.env x = pure x := by intro _ _ _; rfl) :
    DN C K mg W (.ListComp elt [⟨tg, iter, ifs, 0⟩] scope pos) (lcR fi tf ft fe (own.map (·.2))) := by
  obtain ⟨wi, p1, v1⟩ := hi; obtain ⟨g, p2, v2⟩ := hg; obtain ⟨tt, p3, v3⟩ := ht; obtain ⟨te, p4, v4⟩ := he
  refine ⟨tLc wi g tt te (own.map (·.2)), fun X h => ?_, el_lc v1 v2 ho v3 v4⟩
  exact pe_lc (own := own) (c.calm X h) (by rw [c.hN X h]; exact c.nd) (p1 X h) (by rw [c.hN X h, c.hsc X h]; exact blkOk_by ok) (fun s H A cl fp => p2 _ ⟨X, h, s, H, A, cl, fp, rfl⟩) (fun s H A cl fp => p3 _ ⟨X, h, s, H, A, cl, fp, rfl⟩) (fun s H A cl fp => p4 _ ⟨X, h, s, H, A, cl, fp, rfl⟩) (hs X h)

/-! ### statements -/
end
inductive Out where
  | bad
  | nx (ρ : Env)
  | rt (d : D)
  | bk (ρ : Env)
  | ct (ρ : Env)
  | exc (c : Str)
def R.out {α : Type} (r : R α) (f : α → Out) : Out := match r with
  | .bad => .bad
  | .ok a => f a
  | .exc c => .exc c
@[simp] theorem R.out_ok {α : Type} (a : α) (f : α → Out) : (R.ok a).out f = f a := R.nr rfl
@[simp] theorem R.out_bad {α : Type} (f : α → Out) : (R.bad : R α).out f = .bad := R.nr rfl
@[simp] theorem R.out_exc {α : Type} (c : Str) (f : α → Out) : (R.exc c : R α).out f = .exc c := R.nr rfl
def Out.then (o : Out) (f : Env → Out) : Out := match o with
  | .nx ρ => f ρ
  | o => o
@[simp] theorem Out.then_nx (ρ : Env) (f : Env → Out) : (Out.nx ρ).then f = f ρ := R.nr rfl
@[simp] theorem Out.then_rt (d : D) (f : Env → Out) : (Out.rt d).then f = .rt d := R.nr rfl
@[simp] theorem Out.then_bad (f : Env → Out) : (Out.bad).then f = .bad := R.nr rfl
@[simp] theorem Out.then_exc (c : Str) (f : Env → Out) : (Out.exc c).then f = .exc c := R.nr rfl
@[simp] theorem Out.then_bk (ρ : Env) (f : Env → Out) : (Out.bk ρ).then f = .bk ρ := R.nr rfl
@[simp] theorem Out.then_ct (ρ : Env) (f : Env → Out) : (Out.ct ρ).then f = .ct ρ := R.nr rfl
section
variable (K : PySem.W.Frag) (mg : Str → Option Value) (W : WX)
/-- what is wanted behind a statement; B stood still at its start -/
def PostS (B0 H0 B : Hp) (E : Ends) : Out → Prop
  | .bad => False
  | .nx ρ => ∀ (B' H' : Hp) (σ' : St), Same B B' → Gd K B0 H0 B' H' σ' ρ → E.nx σ' H'
  | .rt d => ∀ (B' H' : Hp) (v : V), Same B B' → Same B' H' → Same H0 H' → (∀ a o, H0 a = some o → B' a = B0 a) → Rp B' v d → E.rt v H'
  | .bk ρ => ∀ (B' H' : Hp) (σ' : St), Same B B' → Gd K B0 H0 B' H' σ' ρ → E.bk σ' H'
  | .ct ρ => ∀ (B' H' : Hp) (σ' : St), Same B B' → Gd K B0 H0 B' H' σ' ρ → E.ct σ' H'
  | .exc c => ∀ (σ' : St) (H' : Hp) (C : Addr), Same H0 H' → mg c = some (.ref C) → W (.ref C) none σ' H'
def EvS (t : TS) (F : Env → Out) : Prop := ∀ (B0 H0 B H : Hp) (σ : St) (ρ : Env) (E : Ends), Gd K B0 H0 B H σ ρ → PostS K mg W B0 H0 B E (F ρ) → t E σ H
end
section
variable (C : Cx → Prop) (K : PySem.W.Frag) (mg : Str → Option Value) (W : WX)
def DS (st : Stmt) (F : Env → Out) : Prop := ∃ t, (∀ X, C X → PS X st t) ∧ EvS K mg W t F
def DSs (sts : List Stmt) (F : Env → Out) : Prop := ∃ t, (∀ X, C X → PSs X sts t) ∧ EvS K mg W t F
end
section
variable {K : PySem.W.Frag} {mg : Str → Option Value} {W : WX} {B0 H0 B B' : Hp} {E : Ends}
theorem PostS.mono {o : Out} (s : Same B B') (h : PostS K mg W B0 H0 B E o) : PostS K mg W B0 H0 B' E o := by
  cases o with
  | bad => exact h
  | nx ρ => exact fun B2 H2 σ2 s2 g => h B2 H2 σ2 (s.trans s2) g
  | rt d => exact fun B2 H2 v s2 s3 s4 s5 r => h B2 H2 v (s.trans s2) s3 s4 s5 r
  | bk ρ => exact fun B2 H2 σ2 s2 g => h B2 H2 σ2 (s.trans s2) g
  | ct ρ => exact fun B2 H2 σ2 s2 g => h B2 H2 σ2 (s.trans s2) g
  | exc c => exact h
theorem PostS.wx {α : Type} {r : R α} {f : α → Out} {σ : St} (h : PostS K mg W B0 H0 B E (r.out f)) : Wx mg W H0 σ r := by
  cases r with
  | bad => exact h
  | ok a => exact True.intro
  | exc c => exact fun H' C s m => h σ H' C s m
theorem PostS.ok {α : Type} {r : R α} {f : α → Out} {a : α} (h : PostS K mg W B0 H0 B E (r.out f)) (e : r = .ok a) : PostS K mg W B0 H0 B E (f a) := by rw [e] at h; exact h
end

section
variable {C : Cx → Prop} {P : Program} {w : World} {K : PySem.W.Frag} {mg : Str → Option Value} {base : Heap} {k : Nat} {W : WX} {N : List Str} {sc : Scope}
variable {a b e tg iter elt : Expr} {es rest ifs : List Expr} {fa fb fc : Env → R D} {fs : Env → R (List D)} {pos p p2 p3 : Pos} {x : Str} {i : Nat} {ta tb : TE} {tt tu : TT} {tr : TA} {st : Stmt} {sts sts2 : List Stmt} {F G : Env → Out}
/-! blocks -/
theorem dss_nil : DSs C K mg W [] (fun ρ => .nx ρ) := ⟨tNext, fun _ _ => pss_nil, fun B0 H0 B H σ ρ E gd h => h B H σ (Same.refl _) gd⟩
def seqS (F G : Env → Out) : Env → Out := fun ρ => (F ρ).then G
theorem dss_cons (h1 : DS C K mg W st F) (h2 : DSs C K mg W sts G) : DSs C K mg W (st :: sts) (seqS F G) := by
  obtain ⟨t1, p1, v1⟩ := h1; obtain ⟨t2, p2, v2⟩ := h2
  refine ⟨tSeq t1 t2, fun X h => pss_cons (p1 X h) (p2 X h), fun B0 H0 B H σ ρ E gd h => ?_⟩
  refine v1 B0 H0 B H σ ρ { E with nx := t2 E } gd ?_
  unfold seqS at h
  cases e : F ρ with
  | bad => rw [e] at h; exact h
  | nx ρ1 => rw [e] at h; exact fun B' H' σ' s g => v2 B0 H0 B' H' σ' ρ1 E g (PostS.mono s h)
  | rt d => rw [e] at h; exact h
  | bk ρ1 => rw [e] at h; exact h
  | ct ρ1 => rw [e] at h; exact h
  | exc c => rw [e] at h; exact h
theorem dss_one (h1 : DS C K mg W st F) : DSs C K mg W [st] F := by
  obtain ⟨t1, p1, v1⟩ := h1
  exact ⟨t1, fun X h => pss_one (p1 X h), v1⟩
theorem ds_pass : DS C K mg W (.Pass pos) (fun ρ => .nx ρ) := ⟨tNext, fun _ _ => ps_pass, fun B0 H0 B H σ ρ E gd h => h B H σ (Same.refl _) gd⟩
theorem ds_break : DS C K mg W (.Break pos) (fun ρ => .bk ρ) := ⟨tBreak, fun _ _ => ps_break, fun B0 H0 B H σ ρ E gd h => h B H σ (Same.refl _) gd⟩
theorem ds_continue : DS C K mg W (.Continue pos) (fun ρ => .ct ρ) := ⟨tCont, fun _ _ => ps_continue, fun B0 H0 B H σ ρ E gd h => h B H σ (Same.refl _) gd⟩
def retS (fa : Env → R D) : Env → Out := fun ρ => (fa ρ).out fun d => .rt d
theorem ds_ret (ha : DE C K mg W a fa) : DS C K mg W (.Return (some a) pos) (retS fa) := by
  obtain ⟨ta, pa, va⟩ := ha
  refine ⟨tRet ta, fun X h => ps_ret (pa X h), fun B0 H0 B H σ ρ E gd h => ?_⟩
  unfold retS at h
  exact va B0 H0 B H σ ρ _ gd h.wx fun d B1 H1 v e1 g1 r1 => (h.ok e1) B1 H1 v g1.b g1.s (gd.old.trans g1.h) (fun x o z => (gd.grow g1).oldB x o z) r1
theorem ds_retN : DS C K mg W (.Return none pos) (fun _ => .rt .none) := ⟨tRetN, fun _ _ => ps_retN, fun B0 H0 B H σ ρ E gd h => h B H .non (Same.refl _) gd.sub gd.old gd.oldB .non⟩
/-- an expression alone: what it tells is dropped -/
def dropS (fa : Env → R D) : Env → Out := fun ρ => (fa ρ).out fun _ => .nx ρ
theorem ds_expr (ha : DE C K mg W a fa) (hs : ∀ X, C X → swapsWith a none pos.line X.env = pure false := by intro _ _; rfl) : DS C K mg W (.Expr a pos) (dropS fa) := by
  obtain ⟨ta, pa, va⟩ := ha
  refine ⟨tDrop ta, fun X h => ps_expr (pa X h) (hs X h), fun B0 H0 B H σ ρ E gd h => ?_⟩
  unfold dropS at h
  exact va B0 H0 B H σ ρ _ gd h.wx fun d B1 H1 v e1 g1 r1 => (h.ok e1) B1 H1 σ g1.b (gd.grow g1)
/-! stores -/
def setS (i : Nat) (fa : Env → R D) : Env → Out := fun ρ => (fa ρ).out fun d => .nx (ρ.set i (.dat d))
theorem ds_set {pos' : Pos} (c : Cxs C P w K mg base k W N sc) (l : Lm C N sc i x) (ha : DE C K mg W a fa) (hs : ∀ X, C X → swapsWith a (some (.Name x pos')) pos.line X.env = pure false := by intro _ _; rfl) : DS C K mg W (.Assign [.Name x pos'] a pos) (setS i fa) := by
  obtain ⟨ta, pa, va⟩ := ha
  refine ⟨tAsg ta (gName i), fun X h => ps_set (by rw [c.hN X h]; exact c.nd) (by rw [c.hN X h]; exact l.at_) (by rw [c.hsc X h]; exact l.loc) (pa X h) (hs X h) ?_, fun B0 H0 B H σ ρ E gd h => ?_⟩
  · rcases l.fn with z | z
    · exact .inr (by rw [c.hsc X h]; exact z)
    · exact .inl (z X h)
  · unfold setS at h
    exact va B0 H0 B H σ ρ _ gd h.wx fun d B1 H1 v e1 g1 r1 => (h.ok e1) B1 H1 _ g1.b ((gd.grow g1).set r1)
def setL (i : Nat) (fs : Env → R (List D)) : Env → Out := fun ρ => (fs ρ).out fun ds => .nx (ρ.set i (.own ds))
theorem ds_setN {pos' : Pos} (c : Cxs C P w K mg base k W N sc) (l : Lm C N sc i x) (ha : DN C K mg W a fs) (hs : ∀ X, C X → swapsWith a (some (.Name x pos')) pos.line X.env = pure false := by intro _ _; rfl) : DS C K mg W (.Assign [.Name x pos'] a pos) (setL i fs) := by
  obtain ⟨ta, pa, va⟩ := ha
  refine ⟨tAsg ta (gName i), fun X h => ps_set (by rw [c.hN X h]; exact c.nd) (by rw [c.hN X h]; exact l.at_) (by rw [c.hsc X h]; exact l.loc) (pa X h) (hs X h) ?_, fun B0 H0 B H σ ρ E gd h => ?_⟩
  · rcases l.fn with z | z
    · exact .inr (by rw [c.hsc X h]; exact z)
    · exact .inl (z X h)
  · unfold setL at h
    exact va B0 H0 B H σ ρ _ gd h.wx fun ds B1 H1 p vs e1 g1 h0 h1 h2 r1 => (h.ok e1) B1 H1 _ g1.b (gd.setL g1 h0 h1 h2 r1)
/-- y = [..] on one line, y a local: a data slot -/
theorem ds_setLc {scope : Scope} {own : List (Str × Nat)} {fi : Env → R (List D)} {tf : D → Env → R Env} {ft : Env → R Bool} {fe : Env → R D} {is : List Nat} {pos' pl : Pos} (c : Cxs C P w K mg base k W N sc) (hy : N[i]? = some x) (hyl : sc.names.lookup x = some .local)
    (hi : DI C K mg W tg iter fi) (ok : L2.blkC N sc scope own = true)
    (hg : DG (blkC C scope) K tg tf is) (ho : ∀ i ∈ is, i ∈ own.map (·.2)) (ht : DTs (blkC C scope) K mg W0 ifs ft) (he : DE (blkC C scope) K mg W0 elt fe)
    (hl : (pos'.line == pl.line) = true) (hfun : sc.kind = .function) (hno : (scope.names.any fun (n, k) => n == x && (k == .local || k == .cell)) = false)
    (hs : ∀ X, C X → ∀ x, foldedSetIterable iter X.env x = pure x := by intro _ _ _; rfl) :
    DS C K mg W (.Assign [.Name x pos'] (.ListComp elt [⟨tg, iter, ifs, 0⟩] scope pl) pos) (setL i (lcR fi tf ft fe (own.map (·.2)))) := by
  obtain ⟨wi, p1, v1⟩ := hi; obtain ⟨g, p2, v2⟩ := hg; obtain ⟨tt, p3, v3⟩ := ht; obtain ⟨te, p4, v4⟩ := he
  refine ⟨tAsg (tLc wi g tt te (own.map (·.2))) (gName i), fun X h => ?_, fun B0 H0 B H σ ρ E gd h => ?_⟩
  · exact ps_setLc (own := own) (c.calm X h) (by rw [c.hN X h]; exact c.nd) (by rw [c.hN X h]; exact hy) (by rw [c.hsc X h]; exact hyl) (sw_true (by rw [c.hsc X h]; exact hfun) (by rw [c.hsc X h]; exact hyl) hl hno) (p1 X h) (by rw [c.hN X h, c.hsc X h]; exact blkOk_by ok)
      (fun s H A cl fp => p2 _ ⟨X, h, s, H, A, cl, fp, rfl⟩) (fun s H A cl fp => p3 _ ⟨X, h, s, H, A, cl, fp, rfl⟩) (fun s H A cl fp => p4 _ ⟨X, h, s, H, A, cl, fp, rfl⟩) (hs X h)
  · unfold setL at h
    exact el_lc v1 v2 ho v3 v4 B0 H0 B H σ ρ _ gd h.wx fun ds B1 H1 p vs e1 g1 h0 h1 h2 r1 => (h.ok e1) B1 H1 _ g1.b (gd.setL g1 h0 h1 h2 r1)
/-- a slot that owns a list may be taken for a datum -/
def frzE (i : Nat) (ρ : Env) : Env := match ρ[i]? with
  | some (.own ds) => ρ.set i (.dat (.list ds))
  | _ => ρ
theorem Gd.frz {B0 H0 B H : Hp} {σ : St} {ρ : Env} (g : Gd K B0 H0 B H σ ρ) (i : Nat) : ∃ B', Same B B' ∧ Gd K B0 H0 B' H σ (frzE i ρ) := by
  unfold frzE
  split
  · rename_i ds e
    obtain ⟨a, vs, h1, h2, _⟩ := g.slots i _ e
    obtain ⟨z1, z2⟩ := g.freeze e h1 h2
    exact ⟨_, z2, z1⟩
  · exact ⟨B, Same.refl _, g⟩
theorem ds_frz (i : Nat) (h1 : DS C K mg W st F) : DS C K mg W st (fun ρ => F (frzE i ρ)) := by
  obtain ⟨t, p, v⟩ := h1
  refine ⟨t, p, fun B0 H0 B H σ ρ E gd h => ?_⟩
  obtain ⟨B', s, g⟩ := gd.frz i
  exact v B0 H0 B' H σ _ E g (PostS.mono s h)
/-- target = value, the target several names -/
def asgS (tf : D → Env → R Env) (fa : Env → R D) : Env → Out := fun ρ => (fa ρ).out fun d => (tf d ρ).out fun ρ' => .nx ρ'
theorem ds_asg {tf : D → Env → R Env} {is : List Nat} (hne : ∀ d ρ c, tf d ρ ≠ .exc c) (ha : DE C K mg W a fa) (hg : DG C K tg tf is) (hs : ∀ X, C X → swapsWithSole [tg] a pos.line X.env = pure false := by intro _ _; rfl) (hw : ∀ X, C X → swappedStores [tg] a X.env = pure none := by intro _ _; rfl)
    (h1 : ∀ X, C X → (assignEach [tg] X.env).map (·.2) = [assign tg X.env] := by intro _ _; rfl) : DS C K mg W (.Assign [tg] a pos) (asgS tf fa) := by
  obtain ⟨ta, pa, va⟩ := ha; obtain ⟨g, pg, vg⟩ := hg
  refine ⟨tAsg ta g, fun X h => ps_asg (pa X h) (pg X h) (hs X h) (hw X h) (h1 X h), fun B0 H0 B H σ ρ E gd h => ?_⟩
  unfold asgS at h
  refine va B0 H0 B H σ ρ _ gd h.wx fun d B1 H1 v e1 g1 r1 => ?_
  have h2 := h.ok e1
  cases e2 : tf d ρ with
  | bad => rw [e2] at h2; exact h2.elim
  | exc c => exact (hne _ _ _ e2).elim
  | ok ρ' =>
    rw [e2] at h2
    exact vg B0 H0 B1 H1 σ ρ v d ρ' _ (gd.grow g1) r1 e2 fun σ' gσ _ => h2 B1 H1 σ' g1.b gσ
/-- x += e, ints -/
def augS (i : Nat) (fa : Env → R D) : Env → Out := fun ρ => (rdD i ρ).out fun x => (fa ρ).out fun y => match x, y with
  | .int m, .int n => .nx (ρ.set i (.dat (.int (m + n))))
  | _, _ => .bad
theorem ds_aug {pos' : Pos} (c : Cxs C P w K mg base k W N sc) (l : Lm C N sc i x) (ha : DE C K mg W a fa) : DS C K mg W (.AugAssign (.Name x pos') .Add a pos) (augS i fa) := by
  obtain ⟨ta, pa, va⟩ := ha
  refine ⟨_, fun X h => ps_aug (by rw [c.hN X h]; exact c.nd) (by rw [c.hN X h]; exact l.at_) (by rw [c.hsc X h]; exact l.loc) (pa X h) ip_add ?_, fun B0 H0 B H σ ρ E gd h => ?_⟩
  · rcases l.fn with z | z
    · exact .inr (by rw [c.hsc X h]; exact z)
    · exact .inl (z X h)
  · unfold augS at h
    have ex : ∃ d, rdD i ρ = .ok d ∧ ρ[i]? = some (.dat d) := by
      have wx := h.wx (σ := σ)
      unfold rdD at wx ⊢
      split at wx
      · rename_i d h; exact ⟨d, rfl, h⟩
      · exact wx.elim
    obtain ⟨d, e1, e2⟩ := ex
    obtain ⟨v, h1, h2⟩ := gd.dat e2
    have h3 := h.ok e1
    refine ⟨v, h1, va B0 H0 B H σ ρ _ gd h3.wx fun d' B1 H1 v' e1' g1 r1 => ?_⟩
    have h4 := h3.ok e1'
    cases h2 with
    | int m =>
      cases r1 with
      | int n => exact ⟨m, n, rfl, rfl, h4 B1 H1 _ g1.b ((gd.grow g1).set (.int _))⟩
      | _ => exact h4.elim
    | _ => cases r1 <;> exact h4.elim
/-! owned lists changed -/
def rdO (i : Nat) (ρ : Env) : R (List D) := match ρ[i]? with
  | some (.own ds) => .ok ds
  | _ => .bad
theorem rdO_eq {ρ : Env} {ds : List D} (h : rdO i ρ = .ok ds) : ρ[i]? = some (.own ds) := by
  unfold rdO at h
  split at h
  · rename_i es e; cases h; exact e
  · cases h
def appS (i : Nat) (fa : Env → R D) : Env → Out := fun ρ => (rdO i ρ).out fun ds => (fa ρ).out fun d => if fits (ds.length + 1) = true then .nx (ρ.set i (.own (ds ++ [d]))) else .bad
theorem ds_append {apos p1 : Pos} (c : Cxs C P w K mg base k W N sc) (n : Nm N sc i x) (ha : DE C K mg W a fa)
    (pr : ∀ (X : Cx) (t : TE), C X → PE X (.Name x p1) (tVar i) → PE X a t → PE X (.Call (.Attribute (.Name x p1) "append" apos) [a] [] p) (tBM X.K "list" rAppend (tVar i) (tCons t tNil)))
    (hs : ∀ X, C X → swapsWith (.Call (.Attribute (.Name x p1) "append" apos) [a] [] p) none pos.line X.env = pure false := by intro _ _; rfl) :
    DS C K mg W (.Expr (.Call (.Attribute (.Name x p1) "append" apos) [a] [] p) pos) (appS i fa) := by
  obtain ⟨ta, pa, va⟩ := ha
  refine ⟨tDrop (tBM K "list" rAppend (tVar i) (tCons ta tNil)), fun X h => ps_expr ?_ (hs X h), fun B0 H0 B H σ ρ E gd h => ?_⟩
  · have e := pr X ta h (pe_var (by rw [c.hN X h]; exact n.at_) (by rw [c.hsc X h]; exact n.vis) n.d1 n.d2) (pa X h)
    rw [c.hK X h] at e
    exact e
  · unfold appS at h
    cases e1 : rdO i ρ with
    | bad => rw [e1] at h; exact h.elim
    | exc _ => unfold rdO at e1; split at e1 <;> cases e1
    | ok ds =>
      rw [e1] at h
      have eo := rdO_eq e1
      obtain ⟨l, vs, h1, h2, h3, h4, h5⟩ := gd.slots i _ eo
      refine ⟨_, h1, .inl ⟨rfl, _, .inl (.inl h2)⟩, va B0 H0 B H σ ρ _ gd (PostS.wx (f := fun d => _) h) fun d B1 H1 v e2 g1 r1 => ?_⟩
      have h6 := PostS.ok (f := fun d => if fits (ds.length + 1) = true then Out.nx (ρ.set i (.own (ds ++ [d]))) else .bad) h e2
      by_cases hl : fits (ds.length + 1) = true
      · rw [if_pos hl] at h6
        have g := gd.grow g1
        have ra : RpA B1 (vs ++ [v]) (ds ++ [d]) := (h5.mono g1.b).append (.cons r1 .nil)
        exact ⟨l, vs, v, rfl, rfl, g1.h _ _ h2, by have z := of_decide_eq_true hl; rw [sizeLine_eq, h5.length]; omega, h6 B1 _ σ g1.b (g.mut eo h1 ra)⟩
      · rw [if_neg hl] at h6; exact h6.elim
def extS (i : Nat) (fa : Env → R D) : Env → Out := fun ρ => (rdO i ρ).out fun ds => (fa ρ).out fun d => match d with
  | .list es => if fits (ds.length + es.length) = true then .nx (ρ.set i (.own (ds ++ es))) else .bad
  | _ => .bad
theorem ds_extend {apos p1 : Pos} (c : Cxs C P w K mg base k W N sc) (n : Nm N sc i x) (ha : DE C K mg W a fa)
    (pr : ∀ (X : Cx) (t : TE), C X → PE X (.Name x p1) (tVar i) → PE X a t → PE X (.Call (.Attribute (.Name x p1) "extend" apos) [a] [] p) (tBM X.K "list" rExtend (tVar i) (tCons t tNil)))
    (hs : ∀ X, C X → swapsWith (.Call (.Attribute (.Name x p1) "extend" apos) [a] [] p) none pos.line X.env = pure false := by intro _ _; rfl) :
    DS C K mg W (.Expr (.Call (.Attribute (.Name x p1) "extend" apos) [a] [] p) pos) (extS i fa) := by
  obtain ⟨ta, pa, va⟩ := ha
  refine ⟨tDrop (tBM K "list" rExtend (tVar i) (tCons ta tNil)), fun X h => ps_expr ?_ (hs X h), fun B0 H0 B H σ ρ E gd h => ?_⟩
  · have e := pr X ta h (pe_var (by rw [c.hN X h]; exact n.at_) (by rw [c.hsc X h]; exact n.vis) n.d1 n.d2) (pa X h)
    rw [c.hK X h] at e
    exact e
  · unfold extS at h
    cases e1 : rdO i ρ with
    | bad => rw [e1] at h; exact h.elim
    | exc _ => unfold rdO at e1; split at e1 <;> cases e1
    | ok ds =>
      rw [e1] at h
      have eo := rdO_eq e1
      obtain ⟨l, vs, h1, h2, h3, h4, h5⟩ := gd.slots i _ eo
      refine ⟨_, h1, .inl ⟨rfl, _, .inl (.inl h2)⟩, va B0 H0 B H σ ρ _ gd (PostS.wx (f := fun d => _) h) fun d B1 H1 v e2 g1 r1 => ?_⟩
      have h6 := PostS.ok (f := fun d => match d with
        | .list es => if fits (ds.length + es.length) = true then Out.nx (ρ.set i (.own (ds ++ es))) else .bad
        | _ => .bad) h e2
      cases r1 with
      | @lst q ws es hq aq =>
        by_cases hl : fits (ds.length + es.length) = true
        · have h7 : PostS K mg W B0 H0 B E (Out.nx (ρ.set i (.own (ds ++ es)))) := by
            simp only [hl, if_true] at h6
            exact h6
          have g := gd.grow g1
          have ra : RpA B1 (vs ++ ws) (ds ++ es) := (h5.mono g1.b).append aq
          exact ⟨l, q, vs, ws, rfl, rfl, g1.h _ _ h2, g1.s _ _ hq, fits_line (by rw [h5.length, aq.length]; exact hl), h7 B1 _ σ g1.b (g.mut eo h1 ra)⟩
        · simp only [hl] at h6; exact h6.elim
      | _ => exact h6.elim
/-! if, for, while -/
def ifS (g : Env → R Bool) (F G : Env → Out) : Env → Out := fun ρ => (g ρ).out fun b => if b = true then F ρ else G ρ
theorem ds_if {ga : Env → R Bool} (hc : DT C K mg W a ga) (h1 : DSs C K mg W sts F) (h2 : DSs C K mg W sts2 G) : DS C K mg W (.If a sts sts2 pos) (ifS ga F G) := by
  obtain ⟨tc, pc, vc⟩ := hc; obtain ⟨t1, p1, v1⟩ := h1; obtain ⟨t2, p2, v2⟩ := h2
  refine ⟨tIfS tc t1 t2, fun X h => ps_if (pc X h) (p1 X h) (p2 X h), fun B0 H0 B H σ ρ E gd h => ?_⟩
  unfold ifS at h
  refine vc B0 H0 B H σ ρ _ gd h.wx fun b B1 H1 e1 g1 => ?_
  have h3 := h.ok e1
  cases b with
  | true => exact iteT (v1 B0 H0 B1 H1 σ ρ E (gd.grow g1) (PostS.mono g1.b h3))
  | false => exact iteF (v2 B0 H0 B1 H1 σ ρ E (gd.grow g1) (PostS.mono g1.b h3))
/-- a turn's end -/
def turnS (o : Out) (f : Env → Out) : Out := match o with
  | .nx ρ => f ρ
  | .ct ρ => f ρ
  | .bk ρ => .nx ρ
  | o => o
@[simp] theorem turnS_nx (ρ : Env) (f : Env → Out) : turnS (.nx ρ) f = f ρ := R.nr rfl
@[simp] theorem turnS_ct (ρ : Env) (f : Env → Out) : turnS (.ct ρ) f = f ρ := R.nr rfl
@[simp] theorem turnS_bk (ρ : Env) (f : Env → Out) : turnS (.bk ρ) f = .nx ρ := R.nr rfl
@[simp] theorem turnS_rt (d : D) (f : Env → Out) : turnS (.rt d) f = .rt d := R.nr rfl
@[simp] theorem turnS_exc (c : Str) (f : Env → Out) : turnS (.exc c) f = .exc c := R.nr rfl
@[simp] theorem turnS_bad (f : Env → Out) : turnS .bad f = .bad := R.nr rfl
def forS (tf : D → Env → R Env) (body : Env → Out) : List D → Env → Out
  | [], ρ => .nx ρ
  | d :: ds, ρ => (tf d ρ).out fun ρ1 => turnS (body ρ1) (forS tf body ds)
theorem ds_for {fi : Env → R (List D)} {tf : D → Env → R Env} {is : List Nat} (c : Cxs C P w K mg base k W N sc) (hne : ∀ d ρ c, tf d ρ ≠ .exc c) (hi : DI C K mg W tg iter fi) (hg : DG C K tg tf is) (hb : DSs C K mg W sts F)
    (hs : ∀ X, C X → ∀ x, foldedSetIterable iter X.env x = pure x := by intro _ _ _; rfl) : DS C K mg W (.For tg iter sts [] pos) (fun ρ => (fi ρ).out fun its => forS tf F its ρ) := by
  obtain ⟨wi, p1, v1⟩ := hi; obtain ⟨g, p2, v2⟩ := hg; obtain ⟨tb, p3, v3⟩ := hb
  refine ⟨tFor wi g tb, fun X h => ps_for (c.own X h) (c.calm X h) (p1 X h) (p2 X h) (p3 X h) (hs X h), fun B0 H0 B H σ ρ E gd h => ?_⟩
  refine v1 B0 H0 B H σ ρ _ gd h.wx fun its B1 H1 J e1 g1 wk => ?_
  have h1 := PostS.mono g1.b (h.ok e1)
  refine ⟨fun i m σ' H' => m = its.length - i ∧ i ≤ its.length ∧ ∃ B' ρ', Same B1 B' ∧ Gd K B0 H0 B' H' σ' ρ' ∧ PostS K mg W B0 H0 B' E (forS tf F (its.drop i) ρ'), ⟨its.length, by simp, Nat.zero_le _, B1, ρ, Same.refl _, gd.grow g1, h1⟩, ?_⟩
  rintro i m σ' H' ⟨rfl, hil, B', ρ', s1, gd', h2⟩
  by_cases hlt : i < its.length
  · have hd : its[i]? = some its[i] := List.getElem?_eq_getElem hlt
    have hdrop : its.drop i = its[i] :: its.drop (i + 1) := List.drop_eq_getElem_cons hlt
    rw [hdrop] at h2
    refine .inr ⟨wk.go B' H' i s1 gd'.sub hlt, fun σ2 H2 => ∃ B2 ρ2, Same B1 B2 ∧ Gd K B0 H0 B2 H2 σ2 ρ2 ∧ PostS K mg W B0 H0 B2 E (forS tf F (its.drop (i + 1)) ρ2), fun σ2 H2 z => ⟨its.length - (i + 1), by omega, rfl, hlt, z⟩, fun y H2 hy => ?_⟩
    obtain ⟨B2, g2, r2⟩ := wk.yld B' H' i _ y H2 s1 gd'.sub hd hy
    have h3 : PostS K mg W B0 H0 B' E ((tf its[i] ρ').out fun ρ1 => turnS (F ρ1) (forS tf F (its.drop (i + 1)))) := h2
    cases et : tf its[i] ρ' with
    | bad => rw [et] at h3; exact h3.elim
    | exc c => exact (hne _ _ _ et).elim
    | ok ρ1 =>
      rw [et] at h3
      have h4 : PostS K mg W B0 H0 B' E (turnS (F ρ1) (forS tf F (its.drop (i + 1)))) := h3
      refine v2 B0 H0 B2 H2 σ' ρ' y _ ρ1 _ (gd'.grow g2) r2 et fun σ1 gσ _ => ?_
      refine v3 B0 H0 B2 H2 σ1 ρ1 _ gσ ?_
      have s2 : Same B1 B2 := s1.trans g2.b
      cases ef : F ρ1 with
      | bad => rw [ef] at h4; exact h4
      | nx ρ2 => rw [ef] at h4; exact fun B3 H3 σ3 s3 g3 => ⟨B3, ρ2, s2.trans s3, g3, PostS.mono (g2.b.trans s3) h4⟩
      | ct ρ2 => rw [ef] at h4; exact fun B3 H3 σ3 s3 g3 => ⟨B3, ρ2, s2.trans s3, g3, PostS.mono (g2.b.trans s3) h4⟩
      | bk ρ2 => rw [ef] at h4; exact fun B3 H3 σ3 s3 g3 => h4 B3 H3 σ3 (g2.b.trans s3) g3
      | rt d => rw [ef] at h4; exact PostS.mono g2.b h4
      | exc c => rw [ef] at h4; exact h4
  · have ei : i = its.length := by omega
    subst ei
    rw [List.drop_length] at h2
    exact .inl ⟨wk.stop B' H' its.length s1 gd'.sub (Nat.le_refl _), h2 B' H' σ' (Same.refl _) gd'⟩
def whileS (g : Env → R Bool) (F : Env → Out) : Nat → Env → Out
  | 0, _ => .bad
  | n + 1, ρ => (g ρ).out fun b => if b = true then turnS (F ρ) (whileS g F n) else .nx ρ
theorem ds_while {ga : Env → R Bool} (n : Env → Nat) (c : Cxs C P w K mg base k W N sc) (hc : DT C K mg W a ga) (hb : DSs C K mg W sts F) : DS C K mg W (.While a sts [] pos) (fun ρ => whileS ga F (n ρ) ρ) := by
  obtain ⟨tc, pc, vc⟩ := hc; obtain ⟨tb, pb, vb⟩ := hb
  refine ⟨tWhile tc tb, fun X h => ps_while (c.own X h) (pc X h) (pb X h), fun B0 H0 B H σ ρ E gd h => ?_⟩
  refine ⟨fun m σ' H' => ∃ B' ρ', Same B B' ∧ Gd K B0 H0 B' H' σ' ρ' ∧ PostS K mg W B0 H0 B' E (whileS ga F m ρ'), ⟨n ρ, B, ρ, Same.refl _, gd, h⟩, ?_⟩
  rintro m σ' H' ⟨B', ρ', s1, gd', h2⟩
  cases m with
  | zero => exact h2.elim
  | succ m =>
    have h3 : PostS K mg W B0 H0 B' E ((ga ρ').out fun b => if b = true then turnS (F ρ') (whileS ga F m) else .nx ρ') := h2
    refine vc B0 H0 B' H' σ' ρ' _ gd' h3.wx fun b B2 H2 e1 g1 => ?_
    have h4 := PostS.mono g1.b (h3.ok e1)
    cases b with
    | false => exact iteF (h4 B2 H2 σ' (Same.refl _) (gd'.grow g1))
    | true =>
      refine iteT ⟨fun σ2 H2 => ∃ B2 ρ2, Same B B2 ∧ Gd K B0 H0 B2 H2 σ2 ρ2 ∧ PostS K mg W B0 H0 B2 E (whileS ga F m ρ2), fun σ2 H2 z => ⟨m, Nat.lt_succ_self _, z⟩, ?_⟩
      refine vb B0 H0 B2 H2 σ' ρ' _ (gd'.grow g1) ?_
      have h5 : PostS K mg W B0 H0 B2 E (turnS (F ρ') (whileS ga F m)) := h4
      have s2 : Same B B2 := s1.trans g1.b
      cases ef : F ρ' with
      | bad => rw [ef] at h5; exact h5
      | nx ρ2 => rw [ef] at h5; exact fun B3 H3 σ3 s3 g3 => ⟨B3, ρ2, s2.trans s3, g3, PostS.mono s3 h5⟩
      | ct ρ2 => rw [ef] at h5; exact fun B3 H3 σ3 s3 g3 => ⟨B3, ρ2, s2.trans s3, g3, PostS.mono s3 h5⟩
      | bk ρ2 => rw [ef] at h5; exact fun B3 H3 σ3 s3 g3 => h5 B3 H3 σ3 s3 g3
      | rt d => rw [ef] at h5; exact h5
      | exc c => rw [ef] at h5; exact h5
end
end DL
set_option maxRecDepth 100000
set_option maxHeartbeats 1000000
namespace DL
open PySem L2

section
variable {C : Cx → Prop} {P : Program} {w : World} {K : PySem.W.Frag} {mg : Str → Option Value} {base : Heap} {k : Nat} {W : WX} {N : List Str} {sc : Scope}
variable {a b e tg iter elt : Expr} {es rest ifs : List Expr} {fa fb fc : Env → R D} {fs : Env → R (List D)} {pos p p2 p3 : Pos} {x y : Str} {i j : Nat} {ta tb : TE} {tt tu : TT} {tr : TA} {st : Stmt} {sts sts2 : List Stmt} {F G : Env → Out}
/-! ### raise -/
/-- an exception class of the text, over ValueError, without an __init__ of its own -/
structure Ex (K : PySem.W.Frag) (mg : Str → Option Value) (x : Str) (C : Addr) : Prop where
  g : mg x = some (.ref C)
  x : PySem.W.excIn K C [.type "ValueError", .type "Exception", .type "BaseException", .type "object"] "ValueError.__new__" = true
  k : PySem.W.keepIn K (.ref C) = true
  b : PySem.W.subIn K (.ref C) (.type "BaseException") = some true
  t : PySem.W.typeIn K (.ref C) = some (.type "type")
theorem ds_raise {Cx' : Addr} {m : Str} {j' : Nat} {q1 q2 : Pos} (c : Cxs C P w K mg base k W N sc) (T : Ex K mg x Cx') (g : Gm sc x) : DS C K mg W (.Raise (some (.Call (.Name x q1) [.Constant (.str m) j' q2] [] p)) none pos) (fun _ => .exc x) := by
  refine ⟨fun D σ H => W (.ref Cx') none σ H, fun X h => ?_, fun B0 H0 B H σ ρ E gd h => ?_⟩
  · exact ps_raise (c.calm X h) (c.takes X h) (pmk_own PySem.F.excBase_ValueError (by rw [c.hK X h]; exact T.x) (by rw [c.hmg X h]; exact T.g) (by rw [c.hK X h]; exact T.k) (raises_own (by rw [c.hK X h]; exact T.b) (by rw [c.hK X h]; exact T.t)) (g.gl c X h) g.d)
  · exact h σ H Cx' gd.old T.g
/-! ### x.append(y.pop(e)) -/
def popD (ds : List D) : D → R (D × List D)
  | .int i => if 0 ≤ i ∧ i < ds.length ∧ fits ds.length = true then .ok (ds.getD i.toNat .none, ds.eraseIdx i.toNat) else .bad
  | _ => .bad
def appPopS (i j : Nat) (fa : Env → R D) : Env → Out := fun ρ => (rdO i ρ).out fun ds => (rdO j ρ).out fun es => (fa ρ).out fun d => (popD es d).out fun r => if fits (ds.length + 1) = true then .nx ((ρ.set j (.own r.2)).set i (.own (ds ++ [r.1]))) else .bad
theorem RpA.erase {B : Hp} : ∀ {xs : List V} {ds : List D} (n : Nat), RpA B xs ds → RpA B (xs.eraseIdx n) (ds.eraseIdx n)
  | _, _, _, .nil => .nil
  | _, _, 0, .cons _ b => b
  | _, _, n + 1, .cons a b => .cons a (RpA.erase n b)
theorem seqIx {i : Int} {n : Nat} (h0 : 0 ≤ i) (h1 : i < n) : seqIndex? i n = some i.toNat := PySem.StrLaws.seqIndex_nonneg h0 h1
theorem ds_appPop {q1 q2 q3 q4 q5 : Pos} (c : Cxs C P w K mg base k W N sc) (hij : i ≠ j) (nx : Nm N sc i x) (ny : Nm N sc j y) (ha : DE C K mg W a fa)
    (pr : ∀ (X : Cx) (t : TE), C X → PE X (.Name x q1) (tVar i) → PE X (.Name y q2) (tVar j) → PE X a t → PE X (.Call (.Attribute (.Name x q1) "append" q3) [.Call (.Attribute (.Name y q2) "pop" q4) [a] [] q5] [] p) (tBM X.K "list" rAppend (tVar i) (tCons (tBM X.K "list" rPopAt (tVar j) (tCons t tNil)) tNil)))
    (hs : ∀ X, C X → swapsWith (.Call (.Attribute (.Name x q1) "append" q3) [.Call (.Attribute (.Name y q2) "pop" q4) [a] [] q5] [] p) none pos.line X.env = pure false := by intro _ _; rfl) :
    DS C K mg W (.Expr (.Call (.Attribute (.Name x q1) "append" q3) [.Call (.Attribute (.Name y q2) "pop" q4) [a] [] q5] [] p) pos) (appPopS i j fa) := by
  obtain ⟨ta, pa, va⟩ := ha
  refine ⟨tDrop (tBM K "list" rAppend (tVar i) (tCons (tBM K "list" rPopAt (tVar j) (tCons ta tNil)) tNil)), fun X h => ps_expr ?_ (hs X h), fun B0 H0 B H σ ρ E gd h => ?_⟩
  · have e := pr X ta h (pe_var (by rw [c.hN X h]; exact nx.at_) (by rw [c.hsc X h]; exact nx.vis) nx.d1 nx.d2) (pe_var (by rw [c.hN X h]; exact ny.at_) (by rw [c.hsc X h]; exact ny.vis) ny.d1 ny.d2) (pa X h)
    rw [c.hK X h] at e
    exact e
  · unfold appPopS at h
    cases e1 : rdO i ρ with
    | bad => rw [e1] at h; exact h.elim
    | exc _ => unfold rdO at e1; split at e1 <;> cases e1
    | ok ds =>
      rw [e1] at h
      cases e2 : rdO j ρ with
      | bad => rw [e2] at h; exact h.elim
      | exc _ => unfold rdO at e2; split at e2 <;> cases e2
      | ok es =>
        rw [e2] at h
        have eo := rdO_eq e1
        have ep := rdO_eq e2
        obtain ⟨l, vs, h1, h2, h3, h4, h5⟩ := gd.slots i _ eo
        obtain ⟨m, us, k1, k2, k3, k4, k5⟩ := gd.slots j _ ep
        have nlm : m ≠ l := fun z => hij (gd.apart i j _ _ l eo ep h1 (show σ[j]? = some (some (.ref l)) by rw [k1, z]))
        refine ⟨_, h1, .inl ⟨rfl, _, .inl (.inl h2)⟩, _, k1, .inl ⟨rfl, _, .inl (.inl k2)⟩, va B0 H0 B H σ ρ _ gd (PostS.wx (f := fun d => _) h) fun d B1 H1 v e3 g1 r1 => ?_⟩
        have h6 := PostS.ok (f := fun d => (popD es d).out fun r => if fits (ds.length + 1) = true then Out.nx ((ρ.set j (.own r.2)).set i (.own (ds ++ [r.1]))) else .bad) h e3
        cases r1 with
        | int z =>
          by_cases hz : 0 ≤ z ∧ z < es.length ∧ fits es.length = true
          · rw [show popD es (.int z) = .ok (es.getD z.toNat .none, es.eraseIdx z.toNat) from if_pos hz] at h6
            have h7 : PostS K mg W B0 H0 B E (if fits (ds.length + 1) = true then Out.nx ((ρ.set j (.own (es.eraseIdx z.toNat))).set i (.own (ds ++ [es.getD z.toNat .none]))) else .bad) := h6
            by_cases hl : fits (ds.length + 1) = true
            · rw [if_pos hl] at h7
              have hzl : z.toNat < es.length := by omega
              obtain ⟨u, u1, u2⟩ := (k5.mono g1.b).get (List.getElem?_eq_getElem hzl)
              have ulen := k5.length
              have hzf := of_decide_eq_true hz.2.2
              refine ⟨m, us, z, z.toNat, u, rfl, rfl, g1.h _ _ k2, by omega, by omega, seqIx hz.1 (by rw [ulen]; exact hz.2.1), u1, ?_⟩
              have g := gd.grow g1
              have ga := g.mut ep k1 ((k5.mono g1.b).erase z.toNat)
              have eo' : (ρ.set j (.own (es.eraseIdx z.toNat)))[i]? = some (.own ds) := by rw [List.getElem?_set_ne (Ne.symm hij)]; exact eo
              have hd : es.getD z.toNat .none = es[z.toNat] := by rw [List.getD_eq_getElem?_getD, List.getElem?_eq_getElem hzl]; rfl
              have ra : RpA B1 (vs ++ [u]) (ds ++ [es.getD z.toNat .none]) := (h5.mono g1.b).append (.cons (by rw [hd]; exact u2) .nil)
              have gb := ga.mut eo' h1 ra
              refine ⟨l, vs, u, rfl, rfl, by rw [upd_ne (Ne.symm nlm)]; exact g1.h _ _ h2, by have y := of_decide_eq_true hl; rw [sizeLine_eq, h5.length]; omega, ?_⟩
              exact h7 B1 _ σ g1.b gb
            · rw [if_neg hl] at h7; exact h7.elim
          · rw [show popD es (.int z) = .bad from if_neg hz] at h6; exact h6.elim
        | _ => exact h6.elim
end

/-! ### a def of the text -/
def startE (N : List Str) (ds : List D) : Env := ds.map .dat ++ List.replicate (N.length - ds.length) .no
def defR : Out → R D
  | .rt d => .ok d
  | .nx _ => .ok .none
  | .exc c => .exc c
  | _ => .bad
section
variable {P : Program} {w : World} {K : PySem.W.Frag} {mg : Str → Option Value} {base : Heap} {k : Nat}
abbrev cxD (P : Program) (w : World) (K : PySem.W.Frag) (mg : Str → Option Value) (base : Heap) (N : List Str) (qual : Str) (sc : Scope) (f : Addr) (cdv : Value) (A : Around) (outer : List PySem.Env) (s : Shared) (H : Hp) (E : XK) : Cx := cxOf (L2.CX P w) P w K mg base N qual sc f cdv A outer s H E
theorem cxs_def {N ps : List Str} {qual : Str} {sc : Scope} {f : Addr} {cdv : Value} {A : Around} {outer : List PySem.Env} {s : Shared} {H : Hp} {E : XK} (S : FnScope N ps sc) (hr : Room k (A.deeper (PyProof.Rows.envOfC qual sc s.heap.objs.size f cdv))) :
    Cxs (· = cxD P w K mg base N qual sc f cdv A outer s H E) P w K mg base k (fun cls d _ H => E cls d H) N sc where
  hP := by rintro _ rfl; rfl
  hw := by rintro _ rfl; rfl
  hK := by rintro _ rfl; rfl
  hmg := by rintro _ rfl; rfl
  hbase := by rintro _ rfl; rfl
  calm := by rintro _ rfl; rfl
  room := by rintro _ rfl; exact hr
  takes := by rintro _ rfl; exact takes_of rfl rfl rfl rfl
  own := by rintro _ rfl; exact passes_of rfl
  hN := by rintro _ rfl; rfl
  hsc := by rintro _ rfl; rfl
  nd := S.nd
theorem lm_def {N : List Str} {qual : Str} {sc : Scope} {f : Addr} {cdv : Value} {A : Around} {outer : List PySem.Env} {s : Shared} {H : Hp} {E : XK} {i : Nat} {x : Str} (h1 : N[i]? = some x) (h2 : Loc sc x) :
    Lm (· = cxD P w K mg base N qual sc f cdv A outer s H E) N sc i x := ⟨h1, h2, .inr (by rintro _ rfl; rfl)⟩
theorem gd_start {N ps : List Str} {sc : Scope} (S : FnScope N ps sc) {B H : Hp} {vs : List V} {ds : List D} (s : Same B H) (r : RpA B vs ds) (hl : vs.length = ps.length) : Gd K B H B H (L2.start N vs) (startE N ds) := by
  have hpl : ps.length ≤ N.length := by have := congrArg List.length S.pre; rw [List.length_take] at this; omega
  have hn : ∀ (i : Nat) (d : Sl), (startE N ds)[i]? = some d → (∃ e v, d = .dat e ∧ (L2.start N vs)[i]? = some (some v) ∧ Rp B v e) ∨ d = .no := fun i d e => by
    unfold startE at e
    unfold L2.start
    by_cases hi : i < ds.length
    · rw [List.getElem?_append_left (by simpa using hi), List.getElem?_map] at e
      obtain ⟨e', h1, h2⟩ := Option.map_eq_some_iff.mp e
      obtain ⟨v, h3, h4⟩ := r.get h1
      refine .inl ⟨e', v, h2.symm, ?_, h4⟩
      rw [List.getElem?_append_left (by rw [List.length_map, r.length]; exact hi), List.getElem?_map, h3]
      rfl
    · rw [List.getElem?_append_right (by simpa using hi), List.getElem?_replicate] at e
      split at e
      · cases e; exact .inr rfl
      · cases e
  refine ⟨s, s, Same.refl _, fun _ _ _ => rfl, ?_, fun i d e => ?_, fun i j s1 s2 a e1 _ o1 _ => ?_⟩
  · unfold L2.start startE
    rw [List.length_append, List.length_append, List.length_map, List.length_map, List.length_replicate, List.length_replicate, r.length]
  · rcases hn i d e with ⟨e', v, rfl, h2, h3⟩ | rfl
    · exact ⟨v, h2, h3⟩
    · exact True.intro
  · rcases hn i _ e1 with ⟨e', v, rfl, _⟩ | rfl <;> exact o1.elim
theorem fn_def {x qual y : Str} {st : Stmt} {f : Addr} {fd : FuncData} {N ps : List Str} {F : Env → Out} {g : List D → R D} (Fu : L2.Fun K x qual st f fd) (S : FnScope N ps (defScope st)) (gx : mg y = some (.ref f)) (hb : Binds K fd ps [])
    (bd : ∀ (cdv : Value) (A : Around) (outer : List PySem.Env) (s : Shared) (H : Hp) (E : XK), Room k (A.deeper (PyProof.Rows.envOfC qual (defScope st) s.heap.objs.size f cdv)) →
      DSs (· = cxD P w K mg base N qual (defScope st) f cdv A outer s H E) K mg (fun cls d _ H => E cls d H) (defBody st) F)
    (ok : ∀ ds, g ds ≠ .bad → ds.length = ps.length ∧ defR (F (startE N ds)) = g ds) : Fn P w K mg base (k + 1) y ps.length g := by
  refine ⟨⟨f, fd, ps, Fu.okX S (fun vs H Q E h => h.1) (fun cdv A outer s H vs Q E hr h => ?_), gx, Fu.kp, hb⟩, fun ds z => (ok ds z).1⟩
  obtain ⟨hl, B, ds, sB, ra, h1, h2⟩ := h
  obtain ⟨t, p, v⟩ := bd cdv A outer s H E hr
  refine ⟨t, p _ rfl, v B H B H _ (startE N ds) _ (gd_start S sB ra hl) ?_⟩
  have nb : g ds ≠ .bad := fun z => by rw [z] at h1; exact h1
  have e := (ok ds nb).2
  cases eF : F (startE N ds) with
  | bad => rw [eF] at e; exact (nb e.symm).elim
  | bk ρ => rw [eF] at e; exact (nb e.symm).elim
  | ct ρ => rw [eF] at e; exact (nb e.symm).elim
  | nx ρ => rw [eF] at e; exact fun B' H' σ' s1 gd => h2 .none B' H' .non e.symm ⟨s1, gd.sub, gd.old, gd.oldB⟩ .non
  | rt d => rw [eF] at e; exact fun B' H' v' s1 s2 s3 s4 r => h2 d B' H' v' e.symm ⟨s1, s2, s3, s4⟩ r
  | exc c =>
    rw [eF] at e
    have e' : g ds = .exc c := e.symm
    rw [e'] at h1
    exact fun σ' H' C s m => h1 H' C s m
end
end DL
set_option maxRecDepth 100000
set_option maxHeartbeats 1000000
namespace DL
open PySem L2
section
variable {C : Cx → Prop} {P : Program} {w : World} {K : PySem.W.Frag} {mg : Str → Option Value} {base : Heap} {k : Nat} {W : WX} {N : List Str} {sc : Scope}
variable {a b e tg iter elt : Expr} {es rest ifs : List Expr} {fa fb fc : Env → R D} {fs : Env → R (List D)} {pos p p2 p3 : Pos} {x y : Str} {i j : Nat} {ta tb : TE} {tt tu : TT} {tr : TA} {st : Stmt} {sts sts2 : List Stmt} {F G : Env → Out}
/-! ### an owned list looked at on the way -/
theorem Rp.flatB {B B' : Hp} {v : V} {d : D} (r : Rp B v d) (f : flatD d = true) : Rp B' v d := by
  cases r <;> first | (simp [flatD] at f; done) | skip
  · exact .non
  · exact .bl _
  · exact .int _
  · exact .str _
def scalD (d : D) : R D := if flatD d = true then .ok d else .bad
theorem peek_gr {B0 H0 B H B2 H2 : Hp} {σ : St} {ρ : Env} {a : Addr} {vs : List V} (hB : B a = none) (hH : H a = some (.lst vs)) (g : Gr (upd B a (.lst vs)) H B2 H2) : Gr B H (fun x => if x = a then none else B2 x) H2 := by
  refine ⟨fun x u e => ?_, fun x u e => ?_, g.h, fun x u e => ?_⟩
  · have nx := ne_of_none e hB
    show (if x = a then none else B2 x) = some u
    rw [if_neg nx]
    exact g.b x u (by rw [upd_ne nx]; exact e)
  · by_cases hx : x = a
    · rw [if_pos hx] at e; cases e
    · rw [if_neg hx] at e; exact g.s x u e
  · show (if x = a then none else B2 x) = B x
    by_cases hx : x = a
    · subst hx; rw [if_pos rfl]; exact hB.symm
    · rw [if_neg hx, g.n x u e, upd_ne hx]
theorem de_peek (i : Nat) (h : DE C K mg W a fa) : DE C K mg W a (fun ρ => (fa (frzE i ρ)).bind scalD) := by
  obtain ⟨t, p, v⟩ := h
  refine ⟨t, p, fun B0 H0 B H σ ρ Q gd wx q => ?_⟩
  by_cases ho : ∃ ds, ρ[i]? = some (.own ds)
  · obtain ⟨ds, eo⟩ := ho
    obtain ⟨l, vs, h1, h2, h3, _⟩ := gd.slots i _ eo
    obtain ⟨g', s'⟩ := gd.freeze eo h1 h2
    have ef : frzE i ρ = ρ.set i (.dat (.list ds)) := by unfold frzE; rw [eo]
    refine v B0 H0 _ H σ (frzE i ρ) Q (by rw [ef]; exact g') wx.of_bind fun d B2 H2 u e2 g2 r2 => ?_
    have w2 := wx.then e2
    by_cases hf : flatD d = true
    · refine q d _ H2 u ((bind_eq e2).trans (if_pos hf)) (peek_gr (B0 := B0) (H0 := H0) (σ := σ) (ρ := ρ) h3 h2 g2) (r2.flatB hf)
    · rw [show scalD d = .bad from if_neg hf] at w2; exact w2.elim
  · have ef : frzE i ρ = ρ := by
      unfold frzE
      split
      · rename_i ds e; exact absurd ⟨ds, e⟩ ho
      · rfl
    have wx : Wx mg W H0 σ ((fa (frzE i ρ)).bind scalD) := wx
    rw [ef] at wx
    refine v B0 H0 B H σ ρ Q gd wx.of_bind fun d B2 H2 u e2 g2 r2 => ?_
    have w2 := wx.then e2
    by_cases hf : flatD d = true
    · exact q d B2 H2 u (by show (fa (frzE i ρ)).bind scalD = _; rw [ef]; exact (bind_eq e2).trans (if_pos hf)) g2 r2
    · rw [show scalD d = .bad from if_neg hf] at w2; exact w2.elim
theorem dt_peek {ga : Env → R Bool} (i : Nat) (h : DT C K mg W a ga) : DT C K mg W a (fun ρ => ga (frzE i ρ)) := by
  obtain ⟨t, p, v⟩ := h
  refine ⟨t, p, fun B0 H0 B H σ ρ Q gd wx q => ?_⟩
  by_cases ho : ∃ ds, ρ[i]? = some (.own ds)
  · obtain ⟨ds, eo⟩ := ho
    obtain ⟨l, vs, h1, h2, h3, _⟩ := gd.slots i _ eo
    obtain ⟨g', s'⟩ := gd.freeze eo h1 h2
    have ef : frzE i ρ = ρ.set i (.dat (.list ds)) := by unfold frzE; rw [eo]
    exact v B0 H0 _ H σ (frzE i ρ) Q (by rw [ef]; exact g') wx fun d B2 H2 e2 g2 => q d _ H2 e2 (peek_gr (B0 := B0) (H0 := H0) (σ := σ) (ρ := ρ) h3 h2 g2)
  · have ef : frzE i ρ = ρ := by
      unfold frzE
      split
      · rename_i ds e; exact absurd ⟨ds, e⟩ ho
      · rfl
    have wx : Wx mg W H0 σ (ga (frzE i ρ)) := wx
    rw [ef] at wx
    exact v B0 H0 B H σ ρ Q gd wx fun d B2 H2 e2 g2 => q d B2 H2 (by show ga (frzE i ρ) = _; rw [ef]; exact e2) g2

/-- y = [..] on one line, y a data slot -/
theorem ds_setLcD {scope : Scope} {own : List (Str × Nat)} {fi : Env → R (List D)} {tf : D → Env → R Env} {ft : Env → R Bool} {fe : Env → R D} {is : List Nat} {pos' pl : Pos} (c : Cxs C P w K mg base k W N sc) (hy : N[i]? = some x) (hyl : sc.names.lookup x = some .local)
    (hi : DI C K mg W tg iter fi) (ok : L2.blkC N sc scope own = true)
    (hg : DG (blkC C scope) K tg tf is) (ho : ∀ i ∈ is, i ∈ own.map (·.2)) (ht : DTs (blkC C scope) K mg W0 ifs ft) (he : DE (blkC C scope) K mg W0 elt fe)
    (hl : (pos'.line == pl.line) = true) (hfun : sc.kind = .function) (hno : (scope.names.any fun (n, k) => n == x && (k == .local || k == .cell)) = false)
    (hs : ∀ X, C X → ∀ x, foldedSetIterable iter X.env x = pure x := by intro _ _ _; rfl) :
    DS C K mg W (.Assign [.Name x pos'] (.ListComp elt [⟨tg, iter, ifs, 0⟩] scope pl) pos) (setS i (asL (lcR fi tf ft fe (own.map (·.2))))) := by
  obtain ⟨wi, p1, v1⟩ := hi; obtain ⟨g, p2, v2⟩ := hg; obtain ⟨tt, p3, v3⟩ := ht; obtain ⟨te, p4, v4⟩ := he
  refine ⟨tAsg (tLc wi g tt te (own.map (·.2))) (gName i), fun X h => ?_, fun B0 H0 B H σ ρ E gd h => ?_⟩
  · exact ps_setLc (own := own) (c.calm X h) (by rw [c.hN X h]; exact c.nd) (by rw [c.hN X h]; exact hy) (by rw [c.hsc X h]; exact hyl) (sw_true (by rw [c.hsc X h]; exact hfun) (by rw [c.hsc X h]; exact hyl) hl hno) (p1 X h) (by rw [c.hN X h, c.hsc X h]; exact blkOk_by ok)
      (fun s H A cl fp => p2 _ ⟨X, h, s, H, A, cl, fp, rfl⟩) (fun s H A cl fp => p3 _ ⟨X, h, s, H, A, cl, fp, rfl⟩) (fun s H A cl fp => p4 _ ⟨X, h, s, H, A, cl, fp, rfl⟩) (hs X h)
  · unfold setS at h
    exact ev_asL (el_lc v1 v2 ho v3 v4) B0 H0 B H σ ρ _ gd h.wx fun d B1 H1 v e1 g1 r1 => (h.ok e1) B1 H1 _ g1.b ((gd.grow g1).set r1)

/-! ### names by a look of the kernel -/
def kindIs (sc : Scope) (x : Str) (k : NameKind) : Bool := decide (sc.names.lookup x = some k)
def nmC (N : List Str) (sc : Scope) (i : Nat) (x : Str) : Bool := decide (N[i]? = some x) && (kindIs sc x .local || kindIs sc x .cell || kindIs sc x .free) && !(x == ("__debug__" : Str)) && !(x == ("__classdict__" : Str))
theorem nm_of (h : nmC N sc i x = true) : Nm N sc i x := by
  unfold nmC kindIs at h
  simp only [Bool.and_eq_true, Bool.or_eq_true, decide_eq_true_eq, Bool.not_eq_true'] at h
  obtain ⟨⟨⟨h1, h2⟩, h3⟩, h4⟩ := h
  exact ⟨h1, by rcases h2 with (h | h) | h; exact .inl h; exact .inr (.inl h); exact .inr (.inr h), h3, h4⟩
theorem gm_of (h : (kindIs sc x .globalImplicit && !(x == ("__debug__" : Str))) = true) : Gm sc x := by
  unfold kindIs at h
  simp only [Bool.and_eq_true, decide_eq_true_eq, Bool.not_eq_true'] at h
  exact ⟨h.1, h.2⟩
theorem lm_of (h : (decide (N[i]? = some x) && kindIs sc x .local) = true) : Lm C N sc i x := by
  unfold kindIs at h
  simp only [Bool.and_eq_true, decide_eq_true_eq] at h
  exact ⟨h.1, .inl h.2, .inl h.2⟩
theorem lm_ofD {qual : Str} {f : Addr} {cdv : Value} {A : Around} {outer : List PySem.Env} {s : Shared} {H : Hp} {E : XK} (h : (decide (N[i]? = some x) && (kindIs sc x .local || kindIs sc x .cell)) = true) :
    Lm (· = cxD P w K mg base N qual sc f cdv A outer s H E) N sc i x := by
  unfold kindIs at h
  simp only [Bool.and_eq_true, Bool.or_eq_true, decide_eq_true_eq] at h
  exact lm_def h.1 h.2
theorem lm_ofB {scope : Scope} {sc' : Scope} (h : (decide (N[i]? = some x) && kindIs sc' x .cell && kindIs scope x .cell) = true) : Lm (blkC C scope) N sc' i x := by
  unfold kindIs at h
  simp only [Bool.and_eq_true, decide_eq_true_eq] at h
  exact lm_blkCell h.1.1 (.inr h.1.2) h.2
/-- targets raise nothing -/
theorem nx_N (i : Nat) : ∀ d ρ c, tgN i d ρ ≠ .exc c := fun _ _ _ h => by cases h
theorem nx_0 : ∀ d ρ c, tgs0 d ρ ≠ .exc c := fun d ρ c h => by unfold tgs0 at h; split at h <;> cases h
theorem nx_1 {f : D → Env → R Env} {g : List D → Env → R Env} (h1 : ∀ d ρ c, f d ρ ≠ .exc c) (h2 : ∀ d ρ c, g d ρ ≠ .exc c) : ∀ d ρ c, tgs1 f g d ρ ≠ .exc c := fun d ρ c h => by
  cases d with
  | nil => cases h
  | cons x r =>
    simp only [tgs1] at h
    cases e : f x ρ with
    | bad => rw [e] at h; cases h
    | exc c' => exact h1 _ _ _ e
    | ok ρ' => rw [e] at h; exact h2 _ _ _ h
theorem nx_T {n : Nat} {g : List D → Env → R Env} (h2 : ∀ d ρ c, g d ρ ≠ .exc c) : ∀ d ρ c, tgT n g d ρ ≠ .exc c := fun d ρ c h => by
  unfold tgT at h
  split at h
  · split at h
    · exact h2 _ _ _ h
    · cases h
  · cases h
/-! ### the def's own function -/
def defG (n : Nat) (N : List Str) (F : Env → Out) : List D → R D := fun ds => if ds.length = n then defR (F (startE N ds)) else .bad
theorem defG_ok {n : Nat} {ps : List Str} {N : List Str} {F : Env → Out} (hn : ps.length = n) : ∀ ds, defG n N F ds ≠ .bad → ds.length = ps.length ∧ defR (F (startE N ds)) = defG n N F ds := fun ds h => by
  unfold defG at h ⊢
  by_cases hl : ds.length = n
  · rw [if_pos hl]; exact ⟨hl.trans hn.symm, rfl⟩
  · rw [if_neg hl] at h; exact absurd rfl h
theorem Fn.bad {f : Addr} {fd : FuncData} {ps : List Str} {n : Nat} (hn : ps.length = n) (gx : mg x = some (.ref f)) (kp : PySem.W.keepIn K (.ref f) = true) (hb : Binds K fd ps []) : Fn P w K mg base k x n (fun _ => .bad) :=
  ⟨⟨f, fd, ps, ⟨fun vs H Q E h => h.1.trans hn.symm, fun A outer s H args us vs Q E _ _ _ _ h => by obtain ⟨_, _, _, _, _, h, _⟩ := h; exact h.elim⟩, gx, kp, hb⟩, fun ds h => absurd rfl h⟩
end
end DL
set_option maxRecDepth 100000
set_option maxHeartbeats 1000000
namespace DL
open PySem L2
section
variable {C : Cx → Prop} {P : Program} {w : World} {K : PySem.W.Frag} {mg : Str → Option Value} {base : Heap} {k : Nat} {W : WX} {N : List Str} {sc : Scope}
variable {pos p p2 p3 : Pos} {x y : Str} {i j : Nat}
/-! ### the script -/
def scrSl (i : Nat) (fl fh : Env → R (Option Int)) : Env → R (List D) := fun ρ => match ρ[i]? with
  | some (.scr ns) => (fl ρ).bind fun lo => (fh ρ).bind fun hi => .ok ((cutD ns lo hi).map .int)
  | _ => .bad
theorem cutV_map (ns : List Int) (lo hi : Option Int) : cutV (ns.map V.int) lo hi = (cutD ns lo hi).map V.int := by
  unfold cutV cutD
  rw [List.length_map, List.map_take, List.map_drop]
theorem dn_sliceScr {lo hi : Option Expr} {fl fh : Env → R (Option Int)} (c : Cxs C P w K mg base k W N sc) (n : Nm N sc i x) (hl : DO C K mg W lo fl) (hh : DO C K mg W hi fh) :
    DN C K mg W (.Subscript (.Name x p) (.Slice lo hi none p2) pos) (scrSl i fl fh) := by
  obtain ⟨tl, pl, vl⟩ := hl; obtain ⟨th, ph, vh⟩ := hh
  refine ⟨tSl (rSlL K) (tVar i) tl th, fun X h => ?_, ?_⟩
  · have e := c.hK X h
    subst e
    exact pe_slice sl_list (pe_var (by rw [c.hN X h]; exact n.at_) (by rw [c.hsc X h]; exact n.vis) n.d1 n.d2) (pl X h) (ph X h)
  · intro B0 H0 B H σ ρ Q gd wx q
    unfold scrSl at wx
    cases e : ρ[i]? with
    | none => rw [e] at wx; exact wx.elim
    | some s =>
      cases s with
      | scr ns =>
        rw [e] at wx
        have wx : Wx mg W H0 σ ((fl ρ).bind fun lo => (fh ρ).bind fun hi => R.ok ((cutD ns lo hi).map PyData.int)) := wx
        obtain ⟨a, h1, h2⟩ := gd.slots i _ e
        refine ⟨_, h1, vl B0 H0 B H σ ρ _ gd wx.of_bind fun lo' B2 H2 e2 g2 => ?_⟩
        have w2 := wx.then e2
        refine vh B0 H0 B2 H2 σ ρ _ (gd.grow g2) w2.of_bind fun hi' B3 H3 e3 g3 => ?_
        have g := g2.trans g3
        refine ⟨a, ns.map V.int, rfl, (g.b.trans g.s).seq h2, fun l hl => ?_⟩
        obtain ⟨gm, hb⟩ := Gr.mk1 (o := .lst (cutV (ns.map V.int) lo' hi')) g.s hl
        refine q _ B3 _ l _ ?_ (g.trans gm) (g.none hl) hb upd_same (by rw [cutV_map]; exact RpA.ofInts _)
        unfold scrSl
        rw [e]
        show ((fl ρ).bind fun lo => (fh ρ).bind fun hi => R.ok ((cutD ns lo hi).map PyData.int)) = _
        exact (bind_eq e2).trans (bind_eq e3)
      | _ => rw [e] at wx; exact wx.elim
/-- the law's own promise -/
def spLaw (K : PySem.W.Frag) : Sp := fun vs H Q _ => ∃ (a : Addr) (ns : List Int), vs = [.ref a] ∧ SqL K H a (ns.map V.int) ∧ ns.length ≤ 63 ∧ ∀ H', Q (.bl true) H'
theorem law_def {x qual : Str} {st : Stmt} {f : Addr} {fd : FuncData} {N : List Str} {F : Env → Out} (Fu : L2.Fun K x qual st f fd) (S : FnScope N [y] (defScope st))
    (bd : ∀ (cdv : Value) (A : Around) (outer : List PySem.Env) (s : Shared) (H : Hp) (E : XK), Room k (A.deeper (PyProof.Rows.envOfC qual (defScope st) s.heap.objs.size f cdv)) →
      DSs (· = cxD P w K mg base N qual (defScope st) f cdv A outer s H E) K mg (fun cls d _ H => E cls d H) (defBody st) F)
    (ok : ∀ ns : List Int, ns.length ≤ 63 → F (.scr ns :: List.replicate (N.length - 1) .no) = .rt (.bool true)) : FnOk P w K mg base (L2.CX P w) (k + 1) f fd [y] (spLaw K) := by
  refine Fu.okX S (fun vs H Q E h => by obtain ⟨a, ns, rfl, _⟩ := h; rfl) (fun cdv A outer s H vs Q E hr h => ?_)
  obtain ⟨a, ns, rfl, hS, hl, h2⟩ := h
  obtain ⟨t, p, v⟩ := bd cdv A outer s H E hr
  have hpl : 1 ≤ N.length := by have := congrArg List.length S.pre; rw [List.length_take] at this; simp at this; omega
  have gd : Gd K H H H H (L2.start N [.ref a]) (.scr ns :: List.replicate (N.length - 1) .no) := by
    refine ⟨Same.refl _, Same.refl _, Same.refl _, fun _ _ _ => rfl, ?_, fun i d e => ?_, fun i j xs ys b e1 _ o1 _ => ?_⟩
    · unfold L2.start
      simp
    · cases i with
      | zero => cases e; exact ⟨a, rfl, hS⟩
      | succ i =>
        rw [List.getElem?_cons_succ, List.getElem?_replicate] at e
        split at e <;> cases e
        exact True.intro
    · cases i with
      | zero => cases e1; exact o1.elim
      | succ i =>
        rw [List.getElem?_cons_succ, List.getElem?_replicate] at e1
        split at e1 <;> cases e1
        exact o1.elim
  refine ⟨t, p _ rfl, v H H H H _ _ _ gd ?_⟩
  rw [ok ns hl]
  exact fun B' H' v' s1 s2 s3 s4 r => by cases r; exact h2 H'
/-- the goal that k_head leaves, from the law's promise -/
theorem walk {l : PySem.W.OpenLaw} {k : Nat} {q : Program} {loose : List Str} {XP : (Str → Option Value) → Heap → Prop} {YP : World → Heap → Prop} {d : DefRec} {K : Params → PySem.W.Frag} {x : Str}
    (hn : l.most = some 63) (hdf : d.params.defaults = []) (hr : Room k callerA)
    (hY : ∀ (w : World) (h : Heap), YP w h → (K w.params).In h)
    (F : ∀ (w : World) (mg : Str → Option Value) (fa : Addr) (h : Heap), (K w.params).In h → h.Ns mainGlobals mg → mg d.name = some (.ref fa) →
      ∃ fd : FuncData, (∀ (s : Shared) (u : Value), BindsTo s fd ⟨[u], []⟩ [(x, u)]) ∧
        ∀ base : Heap, (K w.params).In base → base.Ns mainGlobals mg → FnOk l.prog w (K w.params) mg base (L2.CX l.prog w) k fa fd [x] (spLaw (K w.params))) :
    PySem.W.WalkO q loose XP YP l.row.toRowW d [] (fun f vs => PySem.call f vs) :=
  L2.walk_of (n := 63) (k := k) (x := x) (CX := fun w => L2.CX l.prog w) (sp := fun w => spLaw (K w.params)) hn (by decide) hdf hr hY F (fun w H a ns hl _ hS => ⟨a, ns, rfl, hS, hl, fun _ => rfl⟩)
    (fun w H s e s' h => by obtain ⟨_, _, _, _, _, _, _, _, _, _, _, _, z⟩ := h; exact z)
end

/-! ### evaluation, for simp -/
/-- an equation that simp shall not take for one by definition -/
theorem nrfl {α : Type} {a b : α} (h : a = b) : a = b := h
section
variable {g g' : D → D → R D} {fa fb fc : Env → R D} {ga gb : Env → R Bool} {fs : Env → R (List D)} {ρ : Env} {F G : Env → Out}
/-- small words for what the generator writes -/
def bdR {α β : Type} (f : Env → R α) (g : α → R β) : Env → R β := fun ρ => (f ρ).bind g
def bd2R {α : Type} (g : D → D → R α) (fa fb : Env → R D) : Env → R α := fun ρ => (fa ρ).bind fun x => (fb ρ).bind fun y => g x y
def frR {α : Type} (i : Nat) (f : Env → α) : Env → α := fun ρ => f (frzE i ρ)
def forI (fi : Env → R (List D)) (tf : D → Env → R Env) (F : Env → Out) : Env → Out := fun ρ => (fi ρ).out fun its => forS tf F its ρ
def whileI (g : Env → R Bool) (F : Env → Out) (n : Env → Nat) : Env → Out := fun ρ => whileS g F (n ρ) ρ
def nxS : Env → Out := fun ρ => Out.nx ρ
@[simp] theorem bdR_at {α β : Type} {f : Env → R α} {g : α → R β} : bdR f g ρ = (f ρ).bind g := nrfl rfl
@[simp] theorem bd2R_at {α : Type} {g : D → D → R α} : bd2R g fa fb ρ = (fa ρ).bind fun x => (fb ρ).bind fun y => g x y := nrfl rfl
@[simp] theorem frR_at {α : Type} {i : Nat} {f : Env → α} : frR i f ρ = f (frzE i ρ) := nrfl rfl
@[simp] theorem forI_at {fi : Env → R (List D)} {tf : D → Env → R Env} : forI fi tf F ρ = (fi ρ).out fun its => forS tf F its ρ := nrfl rfl
@[simp] theorem nxS_at : nxS ρ = .nx ρ := nrfl rfl
@[simp] theorem opR_at : opR g fa fb ρ = (fa ρ).bind fun x => (fb ρ).bind fun y => g x y := nrfl rfl
@[simp] theorem andR_at : andR fa fb ρ = (fa ρ).bind fun x => match x with
  | .bool true => fb ρ
  | .bool false => .ok (.bool false)
  | _ => .bad := nrfl rfl
@[simp] theorem orR_at : orR fa fb ρ = (fa ρ).bind fun x => match x with
  | .bool false => fb ρ
  | .bool true => .ok (.bool true)
  | _ => .bad := nrfl rfl
@[simp] theorem notR_at : notR fa ρ = (fa ρ).bind fun x => match x with
  | .bool b => .ok (.bool !b)
  | _ => .bad := nrfl rfl
@[simp] theorem chainR_at : chainR g g' fa fb fc ρ = (fa ρ).bind fun x => (fb ρ).bind fun y => (g x y).bind fun z => match z with
  | .bool true => (fc ρ).bind fun v => g' y v
  | .bool false => .ok (.bool false)
  | _ => .bad := nrfl rfl
@[simp] theorem toB_at : toB fa ρ = (fa ρ).bind boolR := nrfl rfl
@[simp] theorem toT_at : toT fa ρ = (fa ρ).bind truD := nrfl rfl
@[simp] theorem andT_at : andT ga gb ρ = (ga ρ).bind fun b => if b = true then gb ρ else .ok false := nrfl rfl
@[simp] theorem orT_at : orT ga gb ρ = (ga ρ).bind fun b => if b = true then .ok true else gb ρ := nrfl rfl
@[simp] theorem notT_at : notT ga ρ = (ga ρ).bind fun b => .ok !b := nrfl rfl
@[simp] theorem ifR_at : ifR ga fa fb ρ = (ga ρ).bind fun b => if b = true then fa ρ else fb ρ := nrfl rfl
@[simp] theorem consR_at : consR fa fs ρ = (fa ρ).bind fun x => (fs ρ).bind fun xs => .ok (x :: xs) := nrfl rfl
@[simp] theorem callR_at {g : List D → R D} : callR g fs ρ = (fs ρ).bind g := nrfl rfl
@[simp] theorem asL_at : asL fs ρ = (fs ρ).bind fun xs => .ok (.list xs) := nrfl rfl
@[simp] theorem seqS_at : seqS F G ρ = (F ρ).then G := nrfl rfl
@[simp] theorem retS_at : retS fa ρ = (fa ρ).out fun d => .rt d := nrfl rfl
@[simp] theorem dropS_at : dropS fa ρ = (fa ρ).out fun _ => .nx ρ := nrfl rfl
@[simp] theorem setS_at {i : Nat} : setS i fa ρ = (fa ρ).out fun d => .nx (ρ.set i (.dat d)) := nrfl rfl
@[simp] theorem setL_at {i : Nat} : setL i fs ρ = (fs ρ).out fun d => .nx (ρ.set i (.own d)) := nrfl rfl
@[simp] theorem ifS_at : ifS ga F G ρ = (ga ρ).out fun b => if b = true then F ρ else G ρ := nrfl rfl
@[simp] theorem forS_nil {tf : D → Env → R Env} : forS tf F [] ρ = .nx ρ := nrfl rfl
@[simp] theorem forS_cons {tf : D → Env → R Env} {d : D} {ds : List D} : forS tf F (d :: ds) ρ = (tf d ρ).out fun ρ1 => turnS (F ρ1) (forS tf F ds) := nrfl rfl
@[simp] theorem rdD_z {d : D} {r : Env} : rdD 0 (.dat d :: r) = .ok d := nrfl rfl
@[simp] theorem rdD_s {n : Nat} {s : Sl} {r : Env} : rdD (n + 1) (s :: r) = rdD n r := nrfl rfl
@[simp] theorem rdO_z {d : List D} {r : Env} : rdO 0 (.own d :: r) = .ok d := nrfl rfl
@[simp] theorem rdO_s {n : Nat} {s : Sl} {r : Env} : rdO (n + 1) (s :: r) = rdO n r := nrfl rfl
@[simp] theorem frzE_o {ds : List D} {r : Env} : frzE 0 (.own ds :: r) = .dat (.list ds) :: r := nrfl rfl
@[simp] theorem frzE_d {d : D} {r : Env} : frzE 0 (.dat d :: r) = .dat d :: r := nrfl rfl
@[simp] theorem frzE_n {r : Env} : frzE 0 (.no :: r) = .no :: r := nrfl rfl
@[simp] theorem frzE_s {n : Nat} {s : Sl} {r : Env} : frzE (n + 1) (s :: r) = s :: frzE n r := by
  unfold frzE
  rw [List.getElem?_cons_succ]
  cases e : r[n]? with
  | none => rfl
  | some x => cases x <;> rfl
@[simp] theorem scrSl_z {fl fh : Env → R (Option Int)} {ns : List Int} {r : Env} : scrSl 0 fl fh (.scr ns :: r) = (fl (.scr ns :: r)).bind fun lo => (fh (.scr ns :: r)).bind fun hi => .ok ((cutD ns lo hi).map .int) := nrfl rfl
@[simp] theorem lstR_at : lstR fs ρ = (fs ρ).bind fun xs => if fits xs.length then .ok xs else .bad := nrfl rfl
@[simp] theorem tupR_at : tupR fs ρ = (fs ρ).bind fun xs => if fits xs.length then .ok (.tuple xs) else .bad := nrfl rfl
@[simp] theorem slR_at {fl fh : Env → R (Option Int)} : slR fa fl fh ρ = (fa ρ).bind fun d => (fl ρ).bind fun lo => (fh ρ).bind fun hi => slD lo hi d := nrfl rfl
@[simp] theorem slLR_at {fl fh : Env → R (Option Int)} : slLR fa fl fh ρ = (fa ρ).bind fun d => (fl ρ).bind fun lo => (fh ρ).bind fun hi => match d with
  | .list ds => .ok (cutD ds lo hi)
  | _ => .bad := nrfl rfl
@[simp] theorem revR_at : revR fa ρ = (fa ρ).bind fun d => match d with
  | .list ds => .ok ds.reverse
  | _ => .bad := nrfl rfl
@[simp] theorem slD_l {ds : List D} {lo hi : Option Int} : slD lo hi (.list ds) = .ok (.list (cutD ds lo hi)) := nrfl rfl
@[simp] theorem slD_t {ds : List D} {lo hi : Option Int} : slD lo hi (.tuple ds) = .ok (.tuple (cutD ds lo hi)) := nrfl rfl
@[simp] theorem appS_at {i : Nat} : appS i fa ρ = (rdO i ρ).out fun ds => (fa ρ).out fun d => if fits (ds.length + 1) = true then .nx (ρ.set i (.own (ds ++ [d]))) else .bad := nrfl rfl
@[simp] theorem extS_at {i : Nat} : extS i fa ρ = (rdO i ρ).out fun ds => (fa ρ).out fun d => match d with
  | .list es => if fits (ds.length + es.length) = true then .nx (ρ.set i (.own (ds ++ es))) else .bad
  | _ => .bad := nrfl rfl
@[simp] theorem appPopS_at {i j : Nat} : appPopS i j fa ρ = (rdO i ρ).out fun ds => (rdO j ρ).out fun es => (fa ρ).out fun d => (popD es d).out fun r => if fits (ds.length + 1) = true then .nx ((ρ.set j (.own r.2)).set i (.own (ds ++ [r.1]))) else .bad := nrfl rfl
@[simp] theorem scalD_i {i : Int} : scalD (.int i) = .ok (.int i) := nrfl rfl
@[simp] theorem scalD_b {i : Bool} : scalD (.bool i) = .ok (.bool i) := nrfl rfl
@[simp] theorem augS_at {i : Nat} : augS i fa ρ = (rdD i ρ).out fun x => (fa ρ).out fun y => match x, y with
  | .int m, .int n => .nx (ρ.set i (.dat (.int (m + n))))
  | _, _ => .bad := nrfl rfl
@[simp] theorem asgS_at {tf : D → Env → R Env} : asgS tf fa ρ = (fa ρ).out fun d => (tf d ρ).out fun ρ' => .nx ρ' := nrfl rfl
@[simp] theorem listD_l {ds : List D} : listD [.list ds] = .ok ds := nrfl rfl
@[simp] theorem listD_t {ds : List D} : listD [.tuple ds] = .ok ds := nrfl rfl
@[simp] theorem tupD_l {ds : List D} : tupD [.list ds] = .ok (.tuple ds) := nrfl rfl
@[simp] theorem tupD_t {ds : List D} : tupD [.tuple ds] = .ok (.tuple ds) := nrfl rfl
@[simp] theorem intD_b {b : Bool} : intD [.bool b] = .ok (.int (if b then 1 else 0)) := nrfl rfl
@[simp] theorem boolR_b {b : Bool} : boolR (.bool b) = .ok b := nrfl rfl
@[simp] theorem cmpD_i {p : Int → Int → Bool} {i j : Int} : cmpD p (.int i) (.int j) = .ok (.bool (p i j)) := nrfl rfl
@[simp] theorem addD_i {i j : Int} : addD (.int i) (.int j) = .ok (.int (i + j)) := nrfl rfl
@[simp] theorem subD_i {i j : Int} : subD (.int i) (.int j) = .ok (.int (i - j)) := nrfl rfl
@[simp] theorem pIs_n {n : Bool} {d : D} : pIs n d .none = .ok (.bool (if n then !isNoneD d else isNoneD d)) := nrfl rfl
@[simp] theorem isN_n : isNoneD .none = true := nrfl rfl
@[simp] theorem isN_i {i : Int} : isNoneD (.int i) = false := nrfl rfl
@[simp] theorem isN_b {i : Bool} : isNoneD (.bool i) = false := nrfl rfl
@[simp] theorem isN_s {i : Str} : isNoneD (.str i) = false := nrfl rfl
@[simp] theorem isN_l {i : List D} : isNoneD (.list i) = false := nrfl rfl
@[simp] theorem isN_t {i : List D} : isNoneD (.tuple i) = false := nrfl rfl
@[simp] theorem lenD_l {ds : List D} : lenD [.list ds] = .ok (.int ds.length) := nrfl rfl
@[simp] theorem lenD_t {ds : List D} : lenD [.tuple ds] = .ok (.int ds.length) := nrfl rfl
@[simp] theorem itemsL_l {ds : List D} : itemsL (.list ds) = .ok ds := nrfl rfl
@[simp] theorem itemsT_t {ds : List D} : itemsT (.tuple ds) = .ok ds := nrfl rfl
@[simp] theorem enumL_l {ds : List D} : enumL (.list ds) = .ok (enumI ds) := nrfl rfl
@[simp] theorem partR_i {i : Int} : partR (.int i) = .ok (some i) := nrfl rfl
@[simp] theorem tgN_at {i : Nat} {d : D} : tgN i d ρ = .ok (ρ.set i (.dat d)) := nrfl rfl
@[simp] theorem tgs0_at : tgs0 [] ρ = .ok ρ := nrfl rfl
@[simp] theorem tgs1_at {f : D → Env → R Env} {g : List D → Env → R Env} {d : D} {r : List D} : tgs1 f g (d :: r) ρ = (f d ρ).bind (g r) := nrfl rfl
theorem tgT_at {n : Nat} {g : List D → Env → R Env} {ds : List D} (h : ds.length = n) : tgT n g (.tuple ds) ρ = g ds ρ := if_pos h
@[simp] theorem tgT2 {g : List D → Env → R Env} {a b : D} : tgT 2 g (.tuple [a, b]) ρ = g [a, b] ρ := nrfl rfl
@[simp] theorem defR_rt {d : D} : defR (.rt d) = .ok d := nrfl rfl
@[simp] theorem defR_nx : defR (.nx ρ) = .ok .none := nrfl rfl
@[simp] theorem defR_exc {c : Str} : defR (.exc c) = .exc c := nrfl rfl
@[simp] theorem truD_b {b : Bool} : truD (.bool b) = .ok b := nrfl rfl
theorem mulD_l {i j : Int} (h1 : -18446744073709551616 < i) (h2 : i < 18446744073709551616) : mulD (.int i) (.int j) = .ok (.int (i * j)) := if_pos (.inl ⟨h1, h2⟩)
theorem mulD_r {i j : Int} (h1 : -18446744073709551616 < j) (h2 : j < 18446744073709551616) : mulD (.int i) (.int j) = .ok (.int (i * j)) := if_pos (.inr ⟨h1, h2⟩)
theorem divD_i {i j : Int} (h1 : 0 < j) (h2 : j < 1073741824) : divD (.int i) (.int j) = .ok (.int (i / j)) := if_pos ⟨h1, h2⟩
theorem modD_i {i j : Int} (h1 : 0 < j) : modD (.int i) (.int j) = .ok (.int (i % j)) := if_pos h1
theorem enumI_eq : ∀ ds : List D, enumI ds = (ds.zipIdx.map fun p => .tuple [.int (p.2 : Nat), p.1]) := fun ds => by
  refine List.ext_getElem? fun i => ?_
  by_cases h : i < ds.length
  · cases e : (enumI ds)[i]? with
    | none => rw [List.getElem?_eq_none_iff, enumI_length] at e; omega
    | some x =>
      obtain ⟨d, h1, rfl⟩ := enumI_get e
      rw [List.getElem?_map, List.getElem?_zipIdx, h1]
      simp
  · rw [List.getElem?_eq_none (by rw [enumI_length]; omega), List.getElem?_eq_none (by simp; omega)]
/-- the items with places from n on -/
def enF (n : Nat) : List D → List D
  | [] => []
  | d :: r => .tuple [.int (n : Nat), d] :: enF (n + 1) r
theorem enF_eq : ∀ (ds : List D) (n : Nat), enF n ds = ((ds.zipIdx n).map fun p => .tuple [.int (p.2 : Nat), p.1])
  | [], _ => rfl
  | d :: r, n => by rw [List.zipIdx_cons, List.map_cons, ← enF_eq r (n + 1)]; rfl
theorem enumI_F (ds : List D) : enumI ds = enF 0 ds := by rw [enumI_eq, enF_eq]
theorem defG_at {n : Nat} {N : List Str} {F : Env → Out} {ds : List D} (h : ds.length = n) : defG n N F ds = defR (F (startE N ds)) := if_pos h
/-- a loop that goes through all its items -/
theorem forS_inv {tf : D → Env → R Env} {body : Env → Out} (I : Env → Prop) : ∀ (ds : List D) (ρ : Env), I ρ → (∀ d ∈ ds, ∀ ρ, I ρ → ∃ ρ1 ρ2, tf d ρ = .ok ρ1 ∧ (body ρ1 = .nx ρ2 ∨ body ρ1 = .ct ρ2) ∧ I ρ2) → ∃ ρ', forS tf body ds ρ = .nx ρ' ∧ I ρ'
  | [], ρ, h, _ => ⟨ρ, rfl, h⟩
  | d :: ds, ρ, h, hs => by
    obtain ⟨ρ1, ρ2, e1, e2, h2⟩ := hs d List.mem_cons_self ρ h
    obtain ⟨ρ', e3, h3⟩ := forS_inv I ds ρ2 h2 fun d' hd => hs d' (List.mem_cons_of_mem _ hd)
    refine ⟨ρ', ?_, h3⟩
    rw [forS_cons, e1]
    rcases e2 with e2 | e2
    · show turnS (body ρ1) _ = _
      rw [e2]; exact e3
    · show turnS (body ρ1) _ = _
      rw [e2]; exact e3
end
end DL
set_option maxRecDepth 100000
set_option maxHeartbeats 1000000
namespace DL
open PySem L2
/-! ### data that hold ints -/
theorem canLay_ints : ∀ ns : List Int, PyData.canLayAll0 (ns.map PyData.int) = true
  | [] => rfl
  | _ :: r => by simp [PyData.canLayAll0, PyData.canLay0, canLay_ints r]
theorem depth_ints : ∀ ns : List Int, PyData.depthAll (ns.map PyData.int) = 0
  | [] => rfl
  | _ :: r => by simp [PyData.depthAll, PyData.depth, depth_ints r]
theorem shaped_ints (ns : List Int) : SeqAt.shaped (.list (ns.map PyData.int)) = true := by
  simp [SeqAt.shaped, PyData.canLay0, PyData.depth, canLay_ints, depth_ints]
@[simp] theorem shaped_int (n : Int) : SeqAt.shaped (.int n) = true := by simp [SeqAt.shaped, PyData.canLay0, PyData.depth]
@[simp] theorem shaped_bool (n : Bool) : SeqAt.shaped (.bool n) = true := by simp [SeqAt.shaped, PyData.canLay0, PyData.depth]
@[simp] theorem shaped_none : SeqAt.shaped .none = true := by simp [SeqAt.shaped, PyData.canLay0, PyData.depth]
theorem canLay_shaped {d : D} (h : SeqAt.shaped d = true) : PyData.canLay0 d = true := SeqAt.canLay_of_shaped h
theorem eqvAll_ints : ∀ ns ms : List Int, PyData.eqvAll (ns.map PyData.int) (ms.map PyData.int) = decide (ns = ms)
  | [], [] => by simp [PyData.eqvAll]
  | [], _ :: _ => by simp [PyData.eqvAll]
  | _ :: _, [] => by simp [PyData.eqvAll]
  | a :: r, b :: t => by
    simp only [List.map_cons, PyData.eqvAll, PyData.eqv, eqvAll_ints r t]
    by_cases h : a = b <;> by_cases h' : r = t <;> simp [h, h']
theorem eqv_ints (ns ms : List Int) : PyData.eqv (.list (ns.map PyData.int)) (.list (ms.map PyData.int)) = decide (ns = ms) := by
  simp only [PyData.eqv]; exact eqvAll_ints ns ms
theorem eqD_ints (ns ms : List Int) : eqD (.list (ns.map PyData.int)) (.list (ms.map PyData.int)) = .ok (.bool (decide (ns = ms))) := by
  unfold eqD; rw [if_pos ⟨shaped_ints _, shaped_ints _⟩, eqv_ints]
theorem neD_ints (ns ms : List Int) : neD (.list (ns.map PyData.int)) (.list (ms.map PyData.int)) = .ok (.bool (!decide (ns = ms))) := by
  unfold neD; rw [if_pos ⟨shaped_ints _, shaped_ints _⟩, eqv_ints]
@[simp] theorem eqD_int (n m : Int) : eqD (.int n) (.int m) = .ok (.bool (decide (n = m))) := by
  unfold eqD; rw [if_pos ⟨shaped_int _, shaped_int _⟩]; simp only [PyData.eqv]; by_cases h : n = m <;> simp [h]
@[simp] theorem neD_int (n m : Int) : neD (.int n) (.int m) = .ok (.bool (!decide (n = m))) := by
  unfold neD; rw [if_pos ⟨shaped_int _, shaped_int _⟩]; simp only [PyData.eqv]; by_cases h : n = m <;> simp [h]
theorem neD_self {d : D} (h : SeqAt.shaped d = true) : neD d d = .ok (.bool false) := by
  unfold neD; rw [if_pos ⟨h, h⟩, SeqAt.eqv_refl d (canLay_shaped h)]; rfl
theorem eqD_self {d : D} (h : SeqAt.shaped d = true) : eqD d d = .ok (.bool true) := by
  unfold eqD; rw [if_pos ⟨h, h⟩, SeqAt.eqv_refl d (canLay_shaped h)]
theorem any_ints (x : Int) : ∀ ns : List Int, ((ns.map PyData.int).any fun z => PyData.eqv z (.int x)) = decide (x ∈ ns)
  | [] => by simp
  | n :: r => by
    rw [List.map_cons, List.any_cons, any_ints x r]
    simp only [PyData.eqv]
    by_cases h : n = x
    · subst h; simp
    · have h' : ¬ x = n := fun z => h z.symm
      simp [h, h']
theorem inD_ints (n : Bool) (x : Int) (ns : List Int) : inD n (.int x) (.list (ns.map PyData.int)) = .ok (.bool (if n then !decide (x ∈ ns) else decide (x ∈ ns))) := by
  have e := any_ints x ns
  have c : SeqAt.shaped (.int x) = true ∧ SeqAt.shaped (.list (ns.map PyData.int)) = true := ⟨shaped_int _, shaped_ints _⟩
  show (if SeqAt.shaped (.int x) = true ∧ SeqAt.shaped (.list (ns.map PyData.int)) = true then R.ok (PyData.bool (if n = true then !(ns.map PyData.int).any fun z => PyData.eqv z (.int x) else (ns.map PyData.int).any fun z => PyData.eqv z (.int x))) else R.bad) = _
  rw [if_pos c, e]
/-! isinstance -/
theorem kb (a b : String) (r : Bool) (h : kitB a b = some r := by decide +kernel) : kitB a b = some r := h
theorem isi_int (d : D) : isiD "int" d = .ok (.bool (match d with | .int _ => true | .bool _ => true | _ => false)) := by
  cases d <;> (unfold isiD tyD) <;> first
    | rw [show kitB "NoneType" "int" = some false by decide +kernel]
    | rw [show kitB "bool" "int" = some true by decide +kernel]
    | rw [show kitB "int" "int" = some true by decide +kernel]
    | rw [show kitB "str" "int" = some false by decide +kernel]
    | rw [show kitB "list" "int" = some false by decide +kernel]
    | rw [show kitB "tuple" "int" = some false by decide +kernel]
    | rw [show kitB "dict" "int" = some false by decide +kernel]
theorem isi_bool (d : D) : isiD "bool" d = .ok (.bool (match d with | .bool _ => true | _ => false)) := by
  cases d <;> (unfold isiD tyD) <;> first
    | rw [show kitB "NoneType" "bool" = some false by decide +kernel]
    | rw [show kitB "bool" "bool" = some true by decide +kernel]
    | rw [show kitB "int" "bool" = some false by decide +kernel]
    | rw [show kitB "str" "bool" = some false by decide +kernel]
    | rw [show kitB "list" "bool" = some false by decide +kernel]
    | rw [show kitB "tuple" "bool" = some false by decide +kernel]
    | rw [show kitB "dict" "bool" = some false by decide +kernel]
theorem isi_list (d : D) : isiD "list" d = .ok (.bool (match d with | .list _ => true | _ => false)) := by
  cases d <;> (unfold isiD tyD) <;> first
    | rw [show kitB "NoneType" "list" = some false by decide +kernel]
    | rw [show kitB "bool" "list" = some false by decide +kernel]
    | rw [show kitB "int" "list" = some false by decide +kernel]
    | rw [show kitB "str" "list" = some false by decide +kernel]
    | rw [show kitB "list" "list" = some true by decide +kernel]
    | rw [show kitB "tuple" "list" = some false by decide +kernel]
    | rw [show kitB "dict" "list" = some false by decide +kernel]
theorem isi_tuple (d : D) : isiD "tuple" d = .ok (.bool (match d with | .tuple _ => true | _ => false)) := by
  cases d <;> (unfold isiD tyD) <;> first
    | rw [show kitB "NoneType" "tuple" = some false by decide +kernel]
    | rw [show kitB "bool" "tuple" = some false by decide +kernel]
    | rw [show kitB "int" "tuple" = some false by decide +kernel]
    | rw [show kitB "str" "tuple" = some false by decide +kernel]
    | rw [show kitB "list" "tuple" = some false by decide +kernel]
    | rw [show kitB "tuple" "tuple" = some true by decide +kernel]
    | rw [show kitB "dict" "tuple" = some false by decide +kernel]
theorem isi_str (d : D) : isiD "str" d = .ok (.bool (match d with | .str _ => true | _ => false)) := by
  cases d <;> (unfold isiD tyD) <;> first
    | rw [show kitB "NoneType" "str" = some false by decide +kernel]
    | rw [show kitB "bool" "str" = some false by decide +kernel]
    | rw [show kitB "int" "str" = some false by decide +kernel]
    | rw [show kitB "str" "str" = some true by decide +kernel]
    | rw [show kitB "list" "str" = some false by decide +kernel]
    | rw [show kitB "tuple" "str" = some false by decide +kernel]
    | rw [show kitB "dict" "str" = some false by decide +kernel]
/-! comprehensions -/
theorem compR_filter {tf : D → Env → R Env} {ft : Env → R Bool} {fe : Env → R D} {ρ : Env} (p : D → Bool) (h : D → D) : ∀ ds : List D, (∀ d ∈ ds, ∃ ρ1, tf d ρ = .ok ρ1 ∧ ft ρ1 = .ok (p d) ∧ (p d = true → fe ρ1 = .ok (h d))) → compR tf ft fe ρ ds = .ok ((ds.filter p).map h)
  | [], _ => rfl
  | d :: ds, hs => by
    obtain ⟨ρ1, e1, e2, e3⟩ := hs d List.mem_cons_self
    have ih := compR_filter p h ds fun d' hd => hs d' (List.mem_cons_of_mem _ hd)
    unfold compR
    rw [e1]
    simp only [e2]
    cases hp : p d with
    | true =>
      rw [List.filter_cons_of_pos hp, List.map_cons]
      simp only [e3 hp, ih]
      rfl
    | false =>
      rw [List.filter_cons_of_neg (by rw [hp]; exact Bool.false_ne_true)]
      exact ih
theorem compR_map {tf : D → Env → R Env} {fe : Env → R D} {ρ : Env} (h : D → D) (ds : List D) (hs : ∀ d ∈ ds, ∃ ρ1, tf d ρ = .ok ρ1 ∧ fe ρ1 = .ok (h d)) : compR tf (fun _ => .ok true) fe ρ ds = .ok (ds.map h) := by
  rw [compR_filter (fun _ => true) h ds fun d hd => let ⟨ρ1, e1, e2⟩ := hs d hd; ⟨ρ1, e1, rfl, fun _ => e2⟩, List.filter_eq_self.mpr fun _ _ => rfl]
theorem lcR_ok {fi : Env → R (List D)} {tf : D → Env → R Env} {ft : Env → R Bool} {fe : Env → R D} {own : List Nat} {ρ : Env} {its r : List D} (h1 : fi ρ = .ok its) (h2 : compR tf ft fe (wipeE own ρ) its = .ok r) (h3 : its.length ≤ 16777216) : lcR fi tf ft fe own ρ = .ok r := by
  unfold lcR
  rw [h1]
  show (compR tf ft fe (wipeE own ρ) its).bind _ = _
  rw [h2]
  exact if_pos (fits_of h3)
theorem blsD_map (bs : List Bool) : blsD (bs.map .bool) = some bs := by
  induction bs with
  | nil => rfl
  | cons b r ih => rw [List.map_cons, blsD, ih]; rfl
theorem allD_map (bs : List Bool) : allD [.list (bs.map .bool)] = .ok (.bool (bs.all id)) := by
  simp only [allD, blsD_map]
theorem anyD_map (bs : List Bool) : anyD [.list (bs.map .bool)] = .ok (.bool (bs.any id)) := by
  simp only [anyD, blsD_map]
theorem metI_nodup {ns : List Int} (h : ns.Nodup) : (metI ns).length = ns.length := by
  unfold metI
  have e : PyProof.Rows.firstMet (fun i => ns.getD i 0) ns.length = ns.take ns.length := RZ.firstMet_nodup h ns.length (Nat.le_refl _)
  rw [e, List.take_length]
theorem lenSetD_ok {ns : List Int} (h : ns.Nodup) (hl : ns.length ≤ 4000) : lenSetD (.list (ns.map .int)) = .ok (.int ns.length) := by
  simp only [lenSetD, intsD_map, if_pos hl, metI_nodup h]
/-- slices by naturals -/
theorem cutD_nat {α : Type} (xs : List α) (i j : Nat) : cutD xs (some (i : Int)) (some (j : Int)) = (xs.drop i).take (j - i) := by
  unfold cutD
  rw [HT.sIx_nat, HT.sIx_nat]
  by_cases h : i ≤ xs.length
  · rw [Nat.min_eq_left h]
    by_cases h2 : j ≤ xs.length
    · rw [Nat.min_eq_left h2]
    · rw [Nat.min_eq_right (by omega)]
      rw [List.take_of_length_le (by rw [List.length_drop]; omega), List.take_of_length_le (by rw [List.length_drop]; omega)]
  · rw [Nat.min_eq_right (show xs.length ≤ i by omega), List.drop_of_length_le (Nat.le_refl _), List.drop_of_length_le (show xs.length ≤ i by omega), List.take_nil, List.take_nil]
theorem cutD_to {α : Type} (xs : List α) (j : Nat) : cutD xs none (some (j : Int)) = xs.take j := by
  unfold cutD
  rw [HT.sIx_none, HT.sIx_nat, Nat.sub_zero, List.drop_zero]
  by_cases h2 : j ≤ xs.length
  · rw [Nat.min_eq_left h2]
  · rw [Nat.min_eq_right (by omega), List.take_length, List.take_of_length_le (by omega)]
theorem cutD_from {α : Type} (xs : List α) (i : Nat) : cutD xs (some (i : Int)) none = xs.drop i := by
  unfold cutD
  rw [HT.sIx_none, HT.sIx_nat]
  by_cases h : i ≤ xs.length
  · rw [Nat.min_eq_left h, List.take_of_length_le (by rw [List.length_drop]; omega)]
  · rw [Nat.min_eq_right (show xs.length ≤ i by omega), List.drop_of_length_le (Nat.le_refl _), List.drop_of_length_le (show xs.length ≤ i by omega), List.take_nil]
theorem cutD_all {α : Type} (xs : List α) : cutD xs none none = xs := by
  unfold cutD
  rw [HT.sIx_none, HT.sIx_none, List.drop_zero, Nat.sub_zero, List.take_length]
theorem cutD_map {α β : Type} (f : α → β) (xs : List α) (lo hi : Option Int) : cutD (xs.map f) lo hi = (cutD xs lo hi).map f := by
  unfold cutD; rw [List.length_map, List.map_take, List.map_drop]
theorem cutD_sub {α : Type} (xs : List α) (lo hi : Option Int) : (cutD xs lo hi).Sublist xs := by
  unfold cutD; exact (List.take_sublist _ _).trans (List.drop_sublist _ _)
theorem atI_ok {α : Type} {xs : List α} {i : Int} (h0 : 0 ≤ i) (h1 : i < xs.length) : atI xs i = xs[i.toNat]? := by
  unfold atI ixN
  rw [if_pos h0, if_pos h1]; rfl
theorem ixD_l {ds : List D} {i : Int} {d : D} (h : atI ds i = some d) : ixD (.list ds) (.int i) = .ok d := by unfold ixD; simp only [h]
theorem ixD_t {ds : List D} {i : Int} {d : D} (h : atI ds i = some d) : ixD (.tuple ds) (.int i) = .ok d := by unfold ixD; simp only [h]
/-- a body that goes on -/
def okO (I : Env → Prop) : Out → Prop
  | .nx ρ => I ρ
  | .ct ρ => I ρ
  | _ => False
theorem for_then {tf : D → Env → R Env} {body G : Env → Out} {ds : List D} {ρ : Env} {X : Out} (I : Env → Prop) (h0 : I ρ) (hs : ∀ d ∈ ds, ∀ ρ, I ρ → ∃ ρ1, tf d ρ = .ok ρ1 ∧ okO I (body ρ1)) (hG : ∀ ρ', I ρ' → G ρ' = X) : (forS tf body ds ρ).then G = X := by
  obtain ⟨ρ', e, h⟩ := forS_inv I ds ρ h0 fun d hd ρ hI => by
    obtain ⟨ρ1, e1, h1⟩ := hs d hd ρ hI
    cases e2 : body ρ1 with
    | nx ρ2 => rw [e2] at h1; exact ⟨ρ1, ρ2, e1, .inl e2, h1⟩
    | ct ρ2 => rw [e2] at h1; exact ⟨ρ1, ρ2, e1, .inr e2, h1⟩
    | bk ρ2 => rw [e2] at h1; exact h1.elim
    | rt d => rw [e2] at h1; exact h1.elim
    | exc c => rw [e2] at h1; exact h1.elim
    | bad => rw [e2] at h1; exact h1.elim
  rw [e, Out.then_nx]; exact hG ρ' h
theorem ixD_l0 {d : D} {r : List D} : ixD (.list (d :: r)) (.int 0) = .ok d := ixD_l (by rw [atI_ok (by decide) (by simp)]; rfl)
theorem ixD_l1 {d e : D} {r : List D} : ixD (.list (d :: e :: r)) (.int 1) = .ok e := ixD_l (by rw [atI_ok (by decide) (by simp; omega)]; rfl)
theorem ixD_t0 {d : D} {r : List D} : ixD (.tuple (d :: r)) (.int 0) = .ok d := ixD_t (by rw [atI_ok (by decide) (by simp)]; rfl)
theorem ixD_t1 {d e : D} {r : List D} : ixD (.tuple (d :: e :: r)) (.int 1) = .ok e := ixD_t (by rw [atI_ok (by decide) (by simp; omega)]; rfl)
end DL
set_option maxRecDepth 100000
set_option maxHeartbeats 4000000
/-! sorted(xs, key=f), f a def of the program -/
namespace L2
open PySem PySem.Spec PyProof.Rows
section
variable {X : Cx} {pins : List (Addr × Obj)} {σ : St} {H0 : Hp} {s0 : Shared}
/-- what holds between the key's calls -/
structure Sk (X : Cx) (H0 : Hp) (s0 : Shared) (H : Hp) (s : Shared) : Prop where
  os : s.os = s0.os
  bare : AllBare s.gens
  un : Un (frs X.stack) [] H0 H s0.heap s.heap
  hok : HOk X.prog X.w H s.heap
theorem Sk.inv {H : Hp} {s : Shared} (I : Inv X pins σ H0 s0) (J : Sk X H0 s0 H s) : Inv X pins σ H s := by
  obtain ⟨v, H', I', r, q, e⟩ := I.after (u := .none) (Q := fun v H' => v = .non ∧ H' = H) ⟨.non, H, J.os, J.bare, J.un, J.hok, rfl, rfl, rfl⟩
  rw [← e]; exact I'
theorem un_kept {fs : List Addr} {H : Hp} {h h' : Heap} (k : ∀ b u, h.get? b = some u → h'.get? b = some u) : Un fs [] H H h h' := Un.kept k
theorem Un.keptBut {fs : List Addr} {H H' : Hp} {h h1 h' : Heap} {a b : Addr} (u : Un fs [] H H' h h1) (k : ∀ c o, c ≠ a → c ≠ b → h1.get? c = some o → h'.get? c = some o) (ha : h.get? a = none) (hb : h.get? b = none) : Un fs [] H H' h h' where
  keep := fun c o q n hc hx => k c o (fun z => by rw [z, ha] at q; cases q) (fun z => by rw [z, hb] at q; cases q) (u.keep c o q n hc hx)
  slot := fun c o q n hc hx => by
    obtain ⟨sl, e⟩ := u.slot c o q n hc hx
    exact ⟨sl, k c _ (fun z => by rw [z, ha] at q; cases q) (fun z => by rw [z, hb] at q; cases q) e⟩
  free := u.free
  there := fun c o q hx => by
    obtain ⟨o', e⟩ := u.there c o q hx
    exact ⟨o', k c _ (fun z => by rw [z, ha] at q; cases q) (fun z => by rw [z, hb] at q; cases q) e⟩
  tups := u.tups
  frzs := u.frzs
  tbls := u.tbls
theorem HOk.keptBut {P : Program} {w : World} {H : Hp} {h h' : Heap} {a b : Addr} (x : HOk P w H h) (k : ∀ c o, c ≠ a → c ≠ b → h.get? c = some o → h'.get? c = some o) (ha : H a = none) (hb : H b = none) : HOk P w H h' := fun c o e => by
  refine (x c o e).stay (fun d u z q => ?_) (fun d q => q) fun d xs q => q
  have hd : ∃ o, H d = some o := by
    rcases z with z | z
    · exact ⟨o, by rw [z]; exact e⟩
    · exact ⟨_, z⟩
  obtain ⟨od, hd⟩ := hd
  exact k d u (fun z => by rw [z, ha] at hd; cases hd) (fun z => by rw [z, hb] at hd; cases hd) q
theorem Un.track {fs ex : List Addr} {H H' : Hp} {h h' : Heap} {a : Addr} {o : HO} (u : Un fs ex H H' h h') (ha : h.get? a = none) (hn : H' a = none) : Un fs ex H (upd H' a o) h h' where
  keep := u.keep
  slot := u.slot
  free := fun b ob q n hx => by rw [upd_ne (fun z => by rw [z, ha] at q; cases q)]; exact u.free b ob q n hx
  there := u.there
  tups := fun b xs q => by rw [upd_ne (ne_of_none (u.tups b xs q) hn)]; exact u.tups b xs q
  frzs := fun b ob w q => by rw [upd_ne (ne_of_none (u.frzs b ob w q) hn)]; exact u.frzs b ob w q
  tbls := fun b ps q => by
    obtain ⟨m, e⟩ := u.tbls b ps q
    exact ⟨m, by rw [upd_ne (ne_of_none e hn)]; exact e⟩
/-- a call of the key -/
theorem Sk.turn {H : Hp} {s : Shared} {j : Nat} {f : Addr} {fd : FuncData} {ps : List Str} {sp : Sp} {Q : VK} {v : Value} {x : V} (I : Inv X pins σ H0 s0) (J : Sk X H0 s0 H s) (F : FnOk X.prog X.w X.K X.mg X.base (L2.CX X.prog X.w) j f fd ps sp)
    (hr : Room (j + 2) X.A) (hb : Binds X.K fd ps []) (r : RelV x v) (h : sp [x] H Q (fun _ _ _ => False)) :
    wpAny (model X.prog X.w) X.A.in1.in1 (call (.ref f) [v]) (fun u s' => ∃ y H', Sk X H0 s0 H' s' ∧ (∀ b o, s.heap.get? b = some o → H b = none → b ∉ frs X.stack → s'.heap.get? b = some o ∧ H' b = none) ∧ RelV y u ∧ Q y H') (fun _ _ => False) s := by
  have I1 := J.inv I
  have e0 : Env0 X.prog X.w X.K X.mg X.base X.A.in1.in1 X.stack s H := I1.env0.in1.in1
  have hl : ([v] ++ []).length = ps.length := (F.len _ _ _ _ h)
  have rv : Vals [x] [v] := .cons r .nil
  refine wpAny_call (codeAny_mono (F.run X.A.in1.in1 X.stack s H ⟨[v], []⟩ ([v] ++ []) [x] Q (fun _ _ _ => False) hr.in1.in1 e0 (hb s [v] I1.kIn hl) rv h) fun r s' hq => ?_)
  cases r with
  | error e => obtain ⟨_, _, _, _, _, _, _, _, _, _, _, _, z⟩ := hq; exact z
  | ok fl =>
    cases fl with
    | ret u =>
      obtain ⟨y, H', os, bare, un, hok, ry, q⟩ := hq
      exact ⟨y, H', ⟨os.trans J.os, bare, J.un.trans un, hok⟩, fun b o e n nf => ⟨un.keep b o e n nf (by simp), un.free b o e n (by simp)⟩, ry, q⟩
    | next => exact False.elim hq
    | brk => exact False.elim hq
    | cont => exact False.elim hq
end
theorem sk_rest {X : Cx} {pins : List (Addr × Obj)} {σ : St} {H0 H : Hp} {s0 s : Shared} {j : Nat} {f : Addr} {fd : FuncData} {ps : List Str} {sp : Sp} {a kS : Addr} {e1 : Nat} {vs : List Value} {xs : List V} {ks : List Int} {P : PySem.Fin → Shared → Prop} {E : Value → Shared → Prop}
    (St : Nat → Hp → Prop) (I : Inv X pins σ H0 s0) (J : Sk X H0 s0 H s) (F : FnOk X.prog X.w X.K X.mg X.base (L2.CX X.prog X.w) j f fd ps sp) (hr : Room (j + 2) X.A) (hb : Binds X.K fd ps [])
    (hu : X.A.units + 2 + 1 < cLine)
    (hkS0 : s0.heap.get? kS = none) (ha0 : s0.heap.get? a = none) (nkF : kS ∉ frs X.stack) (naF : a ∉ frs X.stack) (nk : s.heap.get? kS = some (seqObj "list" #[] 0)) (na : s.heap.get? a = some (seqObj "list" #[] e1)) (hka : kS ≠ a) (nkH : H kS = none) (naH : H a = none)
    (rv : Vals xs vs) (hlen : ks.length = xs.length) (hZ : vs.length ≤ sizeLine) (st0 : St 0 H)
    (turn : ∀ (i : Nat) (x : V) (k : Int) (H1 : Hp), xs[i]? = some x → ks[i]? = some k → St i H1 → sp [x] H1 (fun y H2 => y = .int k ∧ St (i + 1) H2) (fun _ _ _ => False))
    (h : ∀ s' out c H', Sk X H0 s0 H' s' → s'.heap.get? a = some (seqObj "list" (List.toArray out) c) → H' a = none → St xs.length H' → PySem.W.KeyedOut false (ks.map PyData.int) vs out → P (.done (.ret .none)) s') :
    wpAny (model X.prog X.w) X.A.in1.in1 (ksk_rest a (.ref f) false vs.toArray e1 (.ref kS)) P E s := by
  have hxv : xs.length = vs.length := rv.length
  unfold ksk_rest
  refine wpAny_bind (wpAny_rule ?_)
  rw [List.forIn_toArray]
  refine wpAny_bind (ksk_fold (fun i s' => ∃ (kA : Array Value) (e : Nat) (H' : Hp), Sk X H0 s0 H' s' ∧ s'.heap.get? kS = some (seqObj "list" kA e) ∧ s'.heap.get? a = some (seqObj "list" #[] e1) ∧ H' kS = none ∧ H' a = none ∧ St i H' ∧ PySem.W.EachIs (fun v k => ∃ t, v = Value.int k t) kA.toList (ks.take i)) vs 0 s
    ⟨#[], 0, H, J, nk, na, nkH, naH, st0, by rw [List.take_zero]; exact PySem.W.EachIs.nil⟩ ?step ?done)
  case step =>
    rintro i v s' hv ⟨kA, e, H', J', nk', na', nkH', naH', st', hk⟩
    simp only [Nat.zero_add] at hk st' ⊢
    have hj : i < vs.length := (List.getElem?_eq_some_iff.mp hv).1
    obtain ⟨k, hki⟩ : ∃ k, ks[i]? = some k := ⟨_, List.getElem?_eq_getElem (by omega)⟩
    obtain ⟨x, hxi, rx⟩ : ∃ x, xs[i]? = some x ∧ RelV x v := by
      obtain ⟨x, hx⟩ : ∃ x, xs[i]? = some x := ⟨_, List.getElem?_eq_getElem (by omega)⟩
      obtain ⟨u, hu, r⟩ := rv.get hx
      rw [hv] at hu; cases hu
      exact ⟨x, hx, r⟩
    have hz : kA.size ≤ vs.length := by
      have h1 := hk.length
      rw [Array.length_toList, List.length_take] at h1
      omega
    refine wpAny_bind (wpAny_attempt (wpAny_mono (Sk.turn I J' F hr hb rx (turn i x k H' hxi hki st')) (fun u s'' he => ?_) fun _ _ hF => hF.elim))
    obtain ⟨y, H'', J'', kept, ry, rfl, st''⟩ := he
    obtain ⟨t, rfl⟩ := ry
    obtain ⟨nk2, nkH2⟩ := kept _ _ nk' nkH' nkF
    obtain ⟨na2, naH2⟩ := kept _ _ na' naH' naF
    have s1 := Heap.SameBut.update s''.heap kS (Obj.mapSeq (·.push (Value.int k t)))
    obtain ⟨c2, hc2⟩ : ∃ c2, (s''.heap.update kS (Obj.mapSeq (·.push (Value.int k t)))).get? kS = some (seqObj "list" (kA.push (Value.int k t)) c2) := ⟨_, get?_update_seq nk2 (·.push _)⟩
    have ek : ks.take (i + 1) = ks.take i ++ [k] := by rw [List.take_add_one, hki]; simp
    have ea : (kA.push (Value.int k t)).toList = kA.toList ++ [Value.int k t] := by simp
    refine wpAny_bind (listUpdate_at nk2 rfl ?_ (Nat.le_trans hz hZ) (Nat.le_trans (Nat.le_of_eq (Array.size_push ..)) (Nat.succ_le_succ (Nat.le_trans hz hZ))))
    refine wpAny_pure ⟨rfl, kA.push (Value.int k t), c2, H'', ⟨J''.os, J''.bare, J''.un.keptBut (a := kS) (b := kS) (fun c o n _ q => (s1.2 c n).trans q) hkS0 hkS0, HOk.keptBut (a := kS) (b := kS) J''.hok (fun c o n _ q => (s1.2 c n).trans q) nkH2 nkH2⟩, hc2, (s1.2 a hka.symm).trans na2, nkH2, naH2, st'', ?_⟩
    rw [ea, ek]
    exact PySem.W.each_snoc ⟨t, rfl⟩ hk
  case done =>
    rintro s' ⟨kA, e, H', J', nk', na', nkH', naH', st', hk⟩
    rw [Nat.zero_add] at hk st'
    rw [List.take_of_length_le (by omega)] at hk
    have hk' : PySem.W.EachIs (fun v d => ∃ as, Reads s'.heap v d as) kA.toList (ks.map PyData.int) := by
      have := hk.mono (R' := fun v k => ∃ as, Reads s'.heap v (PyData.int k) as) fun v k ⟨t, e⟩ => ⟨[], by rw [e]; exact .int k t⟩
      exact PySem.W.each_map (R := fun v d => ∃ as, Reads s'.heap v d as) PyData.int this
    have hsz : kA.size = vs.length := by
      have h1 := hk.length
      rw [Array.length_toList] at h1
      omega
    have hal : PySem.W.AllAlike (ks.map PyData.int) := PySem.W.AllAlike.of fun b b' => by simp [PySem.W.alike]
    have hsk : PySem.W.Sortable (ks.map PyData.int) := PySem.W.Sortable.others (enc := PyData.int) fun b => ⟨nofun, fun _ => nofun⟩
    have hdu : ∀ d, d ∈ ks.map PyData.int → X.A.in1.in1.units + d.depth < cLine := fun d hd => by
      obtain ⟨k, _, rfl⟩ := List.mem_map.1 hd
      show X.A.units + 2 + 0 < cLine
      omega
    obtain ⟨G, g1, g2⟩ := restrict s'.heap fun b => decide (b ≠ kS)
    have kp : PySem.W.KeepsBut a G s'.heap := fun b o hb q => by
      by_cases z : b = kS
      · rw [z, g2 kS (decide_eq_false fun h => h rfl)] at q; cases q
      · rw [g1 b (decide_eq_true z)] at q; exact q
    refine wpAny_bind (listItems_at nk' rfl ?_)
    refine PySem.W.keyH_end (κ := PySem.W.dataKind s'.heap (ks.map PyData.int)) (h₁ := G) kp (g2 kS (decide_eq_false fun h => h rfl)) nk' na' hka (PySem.W.SortsAt.data (s := s') hk' hal hsk hdu) hsz hZ fun h3 tk3 c k3 n3 => ?_
    have kk : ∀ c o, c ≠ a → c ≠ kS → s'.heap.get? c = some o → h3.get? c = some o := fun c o n1 n2 q => k3 c o n1 ((g1 c (decide_eq_true n2)).trans q)
    exact h _ _ c H' ⟨J'.os, J'.bare, J'.un.keptBut kk ha0 hkS0, HOk.keptBut J'.hok kk naH' nkH'⟩ n3 naH' (by rw [hxv]; exact st') ⟨s'.heap, kA.toList, hal, rfl, hk'⟩

/-- in the order of their keys -/
def sortV {α : Type} (xs : List α) (ks : List Int) : List α := ((xs.zip ks).mergeSort fun a b => decide (a.2 ≤ b.2)).map (·.1)
theorem sortV_length {α : Type} {xs : List α} {ks : List Int} (h : ks.length = xs.length) : (sortV xs ks).length = xs.length := by
  unfold sortV
  rw [List.length_map, (List.mergeSort_perm _ _).length_eq, List.length_zip, h, Nat.min_self]
theorem sk_sorted {X : Cx} {pins : List (Addr × Obj)} {σ : St} {H0 : Hp} {s0 : Shared} {j : Nat} {f : Addr} {fd : FuncData} {ps : List Str} {sp : Sp} {l : Addr} {xs : List V} {ks : List Int} {Q : VK}
    (St : Nat → Hp → Prop) (I : Inv X pins σ H0 s0) (hs : SqL X.K H0 l xs) (F : FnOk X.prog X.w X.K X.mg X.base (L2.CX X.prog X.w) j f fd ps sp) (hr : Room (j + 2) X.A) (hb : Binds X.K fd ps [])
    (hlen : ks.length = xs.length) (st0 : St 0 H0)
    (turn : ∀ (i : Nat) (x : V) (k : Int) (H1 : Hp), xs[i]? = some x → ks[i]? = some k → St i H1 → sp [x] H1 (fun y H2 => y = .int k ∧ St (i + 1) H2) (fun _ _ _ => False))
    (q : ∀ (H1 : Hp) (p : Addr), St xs.length H1 → H1 p = none → Q (.ref p) (upd H1 p (.lst (sortV xs ks)))) :
    wpAny (model X.prog X.w) X.A (call (.builtin "sorted") [.ref l] [(Str.ofString "key", .ref f)]) (EP X pins σ Q) X.xe s0 := by
  obtain ⟨its, rv, hl, hz⟩ := I.list hs
  have hu : X.A.units + 2 + 1 < cLine := by have := hr.un; omega
  have hits : its.length ≤ sizeLine := by rw [← rv.length]; exact hz
  have hxi : xs.length = its.length := rv.length
  refine PySem.W.sorted_of_sort hl.isList hits (ksk_s1 _ _) (fun _ => ksk_l1 _ _) fun E' => ?_
  rw [ksk_t1]
  obtain ⟨a, ha⟩ : ∃ a, a = s0.heap.objs.size + 1 := ⟨_, rfl⟩
  have ho : (PySem.W.copyHeap s0.heap its).get? a = some (seqObj "list" its.toArray 0) := by rw [ha]; exact PySem.W.copyHeap_at _ _
  rw [← ha]
  have haz : a < (PySem.W.copyHeap s0.heap its).objs.size := Heap.lt_size ho
  obtain ⟨e1, ho1⟩ : ∃ e1, ((PySem.W.copyHeap s0.heap its).update a (Obj.mapSeq fun _ => (#[] : Array Value))).get? a = some (seqObj "list" #[] e1) := ⟨_, get?_update_seq ho fun _ => #[]⟩
  have hkS : (((PySem.W.copyHeap s0.heap its).update a (Obj.mapSeq fun _ => (#[] : Array Value))).push (seqObj "tuple" its.toArray 0)).objs.size = (PySem.W.copyHeap s0.heap its).objs.size + 1 := by rw [size_push', Heap.size_update]
  have old : ∀ b o, s0.heap.get? b = some o → (PySem.W.sortingHeap (PySem.W.copyHeap s0.heap its) a its).get? b = some o := fun b o e =>
    PySem.W.sortingHeap_old (by rw [ha]; exact Nat.ne_of_lt (Nat.lt_succ_of_lt (Heap.lt_size e))) (PySem.W.copyHeap_old e)
  have gone : ∀ b, s0.heap.objs.size ≤ b → s0.heap.get? b = none := fun b h => Heap.get?_none_of_le h
  have a0 : s0.heap.objs.size ≤ a := by rw [ha]; exact Nat.le_succ _
  have k0 : s0.heap.objs.size ≤ (((PySem.W.copyHeap s0.heap its).update a (Obj.mapSeq fun _ => (#[] : Array Value))).push (seqObj "tuple" its.toArray 0)).objs.size := by rw [hkS]; omega
  have nF : ∀ b, s0.heap.objs.size ≤ b → b ∉ frs X.stack := fun b h hm => by
    obtain ⟨_, o', e', _⟩ := I.stack.mem hm
    rw [gone b h] at e'; cases e'
  show wpAny _ _ (ksk_tree a (.ref f) false) _ _ _
  unfold ksk_tree
  refine wpAny_bind (listItems_at ho rfl ?_)
  refine wpAny_bind (listUpdate_at ho rfl ?_ (by rw [List.size_toArray]; exact hits) (Nat.zero_le _))
  refine wpAny_bind (seqEpoch_at ho1 rfl ?_)
  refine wpAny_bind (wpAny_newTuple ?_ (by show its.length ≤ _; exact hits))
  refine wpAny_bind (wpAny_newList ?_ (Nat.zero_le _))
  refine wpAny_holding ?_
  refine sk_rest (H := H0) St I ⟨rfl, I.bare, Un.kept old, I.hok.kept old⟩ F hr hb hu (gone _ k0) (gone _ a0) (nF _ k0) (nF _ a0) (Heap.get?_push_size _ rfl) (Heap.get?_push_of_some _ (Heap.get?_push_of_some _ ho1)) (by rw [hkS]; exact Nat.ne_of_gt (Nat.lt_succ_of_lt haz))
    (I.hok.fresh k0) (I.hok.fresh a0) rv hlen hits st0 turn fun s' out c H' J na naH st' ko => ⟨rfl, ?_⟩
  have hR : PySem.W.EachIs (fun v (p : V × Int) => RelV p.1 v) its (xs.zip ks) := by
    refine PySem.W.EachIs.of_zip (by rw [List.length_zip, hlen, Nat.min_self, hxi]) fun p hp => ?_
    obtain ⟨i, hi⟩ := List.getElem?_of_mem hp
    rw [List.getElem?_zip_eq_some] at hi
    obtain ⟨h1, h2⟩ := hi
    rw [List.getElem?_zip_eq_some] at h2
    obtain ⟨u, e, r⟩ := rv.get h2.1
    rw [h1] at e; cases e
    exact r
  have eo := PySem.W.keyedOut_each (bs := xs.zip ks) (fun p : V × Int => PyData.int p.2) (by
    have e2 : (xs.zip ks).map (fun p : V × Int => PyData.int p.2) = ks.map PyData.int := by
      rw [show (fun p : V × Int => PyData.int p.2) = PyData.int ∘ Prod.snd from rfl, ← List.map_map, List.map_snd_zip (by omega)]
    rw [e2]; exact ko) hR
  rw [PySem.W.dataLe_int] at eo
  have rv2 : Vals (sortV xs ks) out := by
    unfold sortV
    have : ∀ {l : List Value} {m : List (V × Int)}, PySem.W.EachIs (fun v (p : V × Int) => RelV p.1 v) l m → Vals (m.map (·.1)) l := fun {l m} e => by
      induction e with
      | nil => exact .nil
      | cons r _ ih => exact .cons r ih
    exact this eo
  have hlo : (sortV xs ks).length ≤ sizeLine := by rw [sortV_length hlen]; exact hz
  have okx : ObjOk X.prog X.w (upd H' a (.lst (sortV xs ks))) s'.heap a (.lst (sortV xs ks)) := ⟨hlo, out, c, rv2, na⟩
  refine I.after ⟨.ref a, upd H' a (.lst (sortV xs ks)), J.os, J.bare, ?_, HOk.laidN J.hok (fun _ _ z => z) naH okx, rfl, q H' a st' naH⟩
  exact J.un.track (gone _ a0) naH
end L2
set_option maxRecDepth 100000
set_option maxHeartbeats 1000000
namespace DL
open PySem L2
variable {C : Cx → Prop} {P : Program} {w : World} {K : PySem.W.Frag} {mg : Str → Option Value} {base : Heap} {k : Nat} {W : WX} {N : List Str} {sc : Scope}
variable {a b e : Expr} {es rest : List Expr} {fa fb fc : Env → R D} {fs : Env → R (List D)} {pos p p2 p3 : Pos} {x y : Str} {i : Nat} {ta tb : TE} {tt tu : TT} {tr : TA}

/-! ### sorted(xs, key=f) -/
def keysR (g : List D → R D) : List D → R (List Int)
  | [] => .ok []
  | d :: r => match g [d] with
    | .ok (.int k) => (keysR g r).bind fun ks => .ok (k :: ks)
    | _ => .bad
def sortKD (g : List D → R D) : D → R (List D)
  | .list ds => (keysR g ds).bind fun ks => .ok (sortV ds ks)
  | _ => .bad
theorem keysR_get {g : List D → R D} : ∀ {ds : List D} {ks : List Int}, keysR g ds = .ok ks → ks.length = ds.length ∧ ∀ (i : Nat) (d : D) (k : Int), ds[i]? = some d → ks[i]? = some k → g [d] = .ok (.int k)
  | [], ks, h => by cases h; exact ⟨rfl, fun i d k e => by simp at e⟩
  | d :: r, ks, h => by
    unfold keysR at h
    split at h
    · rename_i k1 e1
      cases e2 : keysR g r with
      | bad => rw [e2] at h; cases h
      | exc c => rw [e2] at h; cases h
      | ok ks2 =>
        rw [e2] at h
        cases h
        obtain ⟨h1, h2⟩ := keysR_get e2
        refine ⟨by rw [List.length_cons, List.length_cons, h1], fun i d' k' hd hk => ?_⟩
        cases i with
        | zero => simp at hd hk; rw [← hd, ← hk]; exact e1
        | succ i => exact h2 i d' k' (by simpa using hd) (by simpa using hk)
    · cases h
theorem keysR_noexc {g : List D → R D} : ∀ (ds : List D) (c : Str), keysR g ds ≠ .exc c
  | [], c => by intro h; cases h
  | d :: r, c => by
    unfold keysR
    split
    · cases e2 : keysR g r with
      | bad => intro h; cases h
      | exc c => exact absurd e2 (keysR_noexc r c)
      | ok ks2 => intro h; cases h
    · intro h; cases h
theorem RpA.of_get {H : Hp} : ∀ {vs : List V} {ds : List D}, vs.length = ds.length → (∀ (i : Nat) (v : V) (d : D), vs[i]? = some v → ds[i]? = some d → Rp H v d) → RpA H vs ds
  | [], [], _, _ => .nil
  | v :: vs, d :: ds, hl, h => .cons (h 0 v d rfl rfl) (RpA.of_get (by simpa using hl) fun i v' d' h1 h2 => h (i + 1) v' d' (by simpa using h1) (by simpa using h2))
theorem rpa_zip {B : Hp} : ∀ {xs : List V} {ds : List D} (ks : List Int), RpA B xs ds → PySem.W.EachIs (fun (a : V × Int) (b : D × Int) => a.2 = b.2 ∧ Rp B a.1 b.1) (xs.zip ks) (ds.zip ks)
  | _, _, _, .nil => .nil
  | _, _, [], .cons _ _ => .nil
  | _, _, k :: ks, .cons a r => .cons ⟨rfl, a⟩ (rpa_zip ks r)
theorem rpa_sort {B : Hp} {xs : List V} {ds : List D} {ks : List Int} (r : RpA B xs ds) : RpA B (sortV xs ks) (sortV ds ks) := by
  have e1 := rpa_zip ks r
  have hz : ∀ {l : List (V × Int)} {m : List (D × Int)}, PySem.W.EachIs (fun (a : V × Int) (b : D × Int) => a.2 = b.2 ∧ Rp B a.1 b.1) l m → ∃ z : List ((V × Int) × (D × Int)), l = z.map (·.1) ∧ m = z.map (·.2) ∧ ∀ q ∈ z, q.1.2 = q.2.2 ∧ Rp B q.1.1 q.2.1 := fun {l m} e => by
    induction e with
    | nil => exact ⟨[], rfl, rfl, by simp⟩
    | @cons a b as bs h _ ih =>
      obtain ⟨z, h1, h2, h3⟩ := ih
      exact ⟨(a, b) :: z, by rw [h1]; rfl, by rw [h2]; rfl, fun q hq => by
        rcases List.mem_cons.1 hq with rfl | hq
        · exact h
        · exact h3 q hq⟩
  obtain ⟨z, h1, h2, h3⟩ := hz e1
  unfold sortV
  have m1 : (xs.zip ks).mergeSort (fun a b => decide (a.2 ≤ b.2)) = (z.mergeSort (fun a b => decide (a.1.2 ≤ b.1.2))).map (·.1) := by
    rw [h1]; exact (List.map_mergeSort (r := fun (a b : (V × Int) × (D × Int)) => decide (a.1.2 ≤ b.1.2)) (s := fun a b : V × Int => decide (a.2 ≤ b.2)) (f := fun q => q.1) (fun a _ b _ => rfl)).symm
  have m2 : (ds.zip ks).mergeSort (fun a b => decide (a.2 ≤ b.2)) = (z.mergeSort (fun a b => decide (a.1.2 ≤ b.1.2))).map (·.2) := by
    rw [h2]; exact (List.map_mergeSort (r := fun (a b : (V × Int) × (D × Int)) => decide (a.1.2 ≤ b.1.2)) (s := fun a b : D × Int => decide (a.2 ≤ b.2)) (f := fun q => q.2) (fun a ha b hb => by rw [(h3 a ha).1, (h3 b hb).1])).symm
  rw [m1, m2]
  have h4 : ∀ q ∈ z.mergeSort (fun a b => decide (a.1.2 ≤ b.1.2)), Rp B q.1.1 q.2.1 := fun q hq => (h3 q ((List.mergeSort_perm _ _).mem_iff.1 hq)).2
  generalize z.mergeSort (fun a b => decide (a.1.2 ≤ b.1.2)) = l at h4
  induction l with
  | nil => exact .nil
  | cons q l ih => exact .cons (h4 q List.mem_cons_self) (ih fun q' hq => h4 q' (List.mem_cons_of_mem _ hq))
def tSortP (K : PySem.W.Frag) (mg : Str → Option Value) (g : List D → R D) (Q : VK) (x : V) (H1 : Hp) : Prop := ∃ (l : Addr) (xs : List V) (ks : List Int) (St : Nat → Hp → Prop), x = .ref l ∧ SqL K H1 l xs ∧ ks.length = xs.length ∧ St 0 H1 ∧
  (∀ (i : Nat) (x : V) (k : Int) (H1 : Hp), xs[i]? = some x → ks[i]? = some k → St i H1 → spD mg 1 g [x] H1 (fun y H2 => y = .int k ∧ St (i + 1) H2) (fun _ _ _ => False)) ∧
  ∀ (H2 : Hp) (p : Addr), St xs.length H2 → H2 p = none → Q (.ref p) (upd H2 p (.lst (sortV xs ks)))
def tSortK (K : PySem.W.Frag) (mg : Str → Option Value) (g : List D → R D) (ta : TE) : TE := fun σ H Q => ta σ H fun x H1 => tSortP K mg g Q x H1
theorem dn_sortedK {j : Nat} {g : List D → R D} (c : Cxs C P w K mg base k W N sc) (gs : Gm sc "sorted") (ms : mg "sorted" = none) (F : Fn P w K mg base j y 1 g) (hj : j + 2 ≤ k) (gy : Gm sc y) (ha : DE C K mg W a fa)
    (hs : ∀ X, C X → starEach [a] X.env = (false, eval a X.env) :: starEach [] X.env := by intro _ _; rfl) (he : ∀ X, C X → backTo pos (starEach [a] X.env) = (false, eval a X.env) :: backTo pos (starEach [] X.env) := by intro _ _; rfl) (hpl : ∀ X, C X → (backTo pos (starEach [a] X.env)).any (·.1) = false := by intro _ _; rfl)
    (hall : ∀ X, C X → (backToKw pos (keywordEach [⟨some "key", .Name y p2, p3⟩] X.env)).all (·.1.isSome) = true := by intro _ _; rfl) (hnone : ∀ X, C X → (backToKw pos (keywordEach [⟨some "key", .Name y p2, p3⟩] X.env)).any (·.1.isNone) = false := by intro _ _; rfl)
    (hks : ∀ X, C X → (backToKw pos (keywordEach [⟨some "key", .Name y p2, p3⟩] X.env)).filterMap (·.1) = [Str.ofString "key"] := by intro _ _; rfl) :
    DN C K mg W (.Call (.Name "sorted" p) [a] [⟨some "key", .Name y p2, p3⟩] pos) (fun ρ => (fa ρ).bind (sortKD g)) := by
  obtain ⟨ta, pa, va⟩ := ha
  obtain ⟨f, fd, ps, h1, h2, h3, h4⟩ := F.ex
  refine ⟨tSortK K mg g ta, fun X h => ⟨fun pins s σ H Q I hq => ?_⟩, fun B0 H0 B H σ ρ Q gd wx q => ?_⟩
  · have c1 := c.hP X h; have c2 := c.hw X h; have c3 := c.hK X h; have c4 := c.hmg X h; have c5 := c.hbase X h
    subst c1 c2 c3 c4 c5
    refine wpAny_Call_Name_kw (ld_blt (u := .builtin "sorted") I (gs.gl c X h) ms (by decide +kernel) ?_ (by decide) gs.d)
    have PAx : PA X [a] (tCons ta tNil) := pa_cons (pa X h) pa_nil (hs X h)
    have PKx : PK X [⟨some "key", .Name y p2, p3⟩] (tCons (tC (.ref f)) tNil) := pk_cons (pe_glob (gy.gl c X h) h2 rfl gy.d) pk_nil
    refine PyProof.Rows.callWith_kw (thn (PAx.run pos pins s σ H (fun vs H1 => match vs with | [x] => tSortP X.K X.mg g Q x H1 | _ => False) I hq) fun us s1 ⟨vs, H1, I1, r1, q1⟩ => thn (PKx.run pos pins s1 σ H1 (fun zs H2 => zs = [V.ref f] ∧ H2 = H1) I1 ⟨rfl, rfl⟩) fun ws s2 ⟨zs, H2, I2, r2, q2⟩ => ?_) (he X h) (hpl X h) (hall X h) (hnone X h)
    rw [hks X h]
    obtain ⟨rfl, rfl⟩ := q2
    cases r1 with
    | nil => exact q1.elim
    | cons ra rr =>
      cases rr with
      | cons _ _ => exact q1.elim
      | nil =>
        cases r2 with
        | cons rb rr2 =>
          cases rr2
          cases rb
          obtain ⟨l, xs, ks, St, rfl, h5, h6, h7, h8, h9⟩ := q1
          cases ra
          exact sk_sorted St I2 h5 h1 ((c.room X h).mono hj) h4 h6 h7 h8 h9
  · refine va B0 H0 B H σ ρ _ gd wx.of_bind fun d B1 H1 v e1 g1 r1 => ?_
    have w1 := wx.then e1
    cases d with
    | list ds =>
      cases r1 with
      | @lst l xs _ hl rs =>
        have hnb : sortKD g (.list ds) = (keysR g ds).bind fun ks => .ok (sortV ds ks) := rfl
        cases e2 : keysR g ds with
        | bad => rw [hnb, e2] at w1; exact w1.elim
        | exc c => exact absurd e2 (keysR_noexc ds c)
        | ok ks =>
          obtain ⟨k1, k2⟩ := keysR_get e2
          refine ⟨l, xs, ks, fun _ H2 => ∃ B2, Gr B1 H1 B2 H2, rfl, SqL.of (g1.s _ _ hl), by rw [k1, rs.length], ⟨B1, Gr.refl g1.s⟩, fun i x k H2 hx hk ⟨B2, g2⟩ => ?_, fun H2 p ⟨B2, g2⟩ hp => ?_⟩
          · obtain ⟨d, hd, rd⟩ := rs.getV hx
            have eg := k2 i d k hd hk
            refine ⟨rfl, B2, [d], g2.s, .cons (rd.mono g2.b) .nil, by rw [eg]; exact True.intro, fun d' B3 H3 v e3 g3 r3 => ?_⟩
            rw [eg] at e3
            cases e3
            cases r3
            exact ⟨rfl, B3, g2.trans g3⟩
          · refine q (sortV ds ks) B2 _ p (sortV xs ks) ?_ ((g1.trans g2).trans (Gr.mk1 g2.s hp).1) ((g1.trans g2).h.free hp) (g2.s.free hp) upd_same ((rpa_sort rs).mono g2.b)
            show (fa ρ).bind (sortKD g) = _
            rw [e1]; show (keysR g ds).bind _ = _; rw [e2]; rfl
    | _ => exact w1.elim
end DL
set_option maxRecDepth 100000
set_option maxHeartbeats 1000000
namespace DL
open PySem L2
section
variable {C : Cx → Prop} {P : Program} {w : World} {K : PySem.W.Frag} {mg : Str → Option Value} {base : Heap} {k : Nat} {W : WX} {N : List Str} {sc : Scope}
variable {a b e tg iter elt : Expr} {es rest ifs : List Expr} {fa fb fc : Env → R D} {fs : Env → R (List D)} {pos p p2 p3 : Pos} {x y : Str} {i j : Nat} {ta tb : TE} {tt tu : TT} {tr : TA} {st : Stmt} {sts sts2 : List Stmt} {F G : Env → Out}

/-! ### a list of lists, its last item owned too -/
/-- the inner list becomes a datum -/
def frz1E (i : Nat) (ρ : Env) : Env := match ρ[i]? with
  | some (.own1 ds l) => ρ.set i (.own (ds ++ [.list l]))
  | _ => ρ
theorem Gd.frz1 {B0 H0 B H : Hp} {σ : St} {ρ : Env} {ds l : List D} (g : Gd K B0 H0 B H σ ρ) (e : ρ[i]? = some (.own1 ds l)) : ∃ b ws, B b = none ∧ H b = some (.lst ws) ∧ Gd K B0 H0 (upd B b (.lst ws)) H σ (ρ.set i (.own (ds ++ [.list l]))) := by
  obtain ⟨a, b, vs, ws, h1, h2, h3, h4, h5, h6, h7, h8, h9, h10⟩ := g.slots i _ e
  have sB : Same B (upd B b (.lst ws)) := Same.upd h7
  refine ⟨b, ws, h7, h6, g.alter e sB (fun x u hx => ?_) g.old (fun x u hx => ?_) ⟨a, vs ++ [.ref b], h1, h2, by rw [upd_ne h10]; exact h3, h4, (h5.mono sB).append (.cons (.lst upd_same (h9.mono sB)) .nil)⟩ (fun x o hx n => ?_) fun x w => .inl (.inl w)⟩
  · by_cases hxa : x = b
    · subst hxa; rw [upd_same] at hx; cases hx; exact h6
    · rw [upd_ne hxa] at hx; exact g.sub _ _ hx
  · rw [upd_ne (ne_of_none hx h8)]; exact g.oldB _ _ hx
  · exact ⟨hx, upd_ne (fun z => n (.inr ⟨a, vs, h1, by rw [z]; exact h2⟩))⟩
theorem Gd.frz1' {B0 H0 B H : Hp} {σ : St} {ρ : Env} (g : Gd K B0 H0 B H σ ρ) (i : Nat) : ∃ B', Same B B' ∧ Gd K B0 H0 B' H σ (frz1E i ρ) := by
  unfold frz1E
  split
  · rename_i ds l e
    obtain ⟨b, ws, h1, h2, h3⟩ := g.frz1 e
    exact ⟨_, Same.upd h1, h3⟩
  · exact ⟨B, Same.refl _, g⟩
theorem ds_frz1 (i : Nat) (h1 : DS C K mg W st F) : DS C K mg W st (fun ρ => F (frz1E i ρ)) := by
  obtain ⟨t, p, v⟩ := h1
  refine ⟨t, p, fun B0 H0 B H σ ρ E gd h => ?_⟩
  obtain ⟨B', s, g⟩ := gd.frz1' i
  exact v B0 H0 B' H σ _ E g (PostS.mono s h)
theorem dt_peek1 {ga : Env → R Bool} (i : Nat) (h : DT C K mg W a ga) : DT C K mg W a (fun ρ => ga (frz1E i ρ)) := by
  obtain ⟨t, p, v⟩ := h
  refine ⟨t, p, fun B0 H0 B H σ ρ Q gd wx q => ?_⟩
  by_cases ho : ∃ ds l, ρ[i]? = some (.own1 ds l)
  · obtain ⟨ds, l, eo⟩ := ho
    obtain ⟨b, ws, h1, h2, g'⟩ := gd.frz1 eo
    have ef : frz1E i ρ = ρ.set i (.own (ds ++ [.list l])) := by unfold frz1E; rw [eo]
    exact v B0 H0 _ H σ (frz1E i ρ) Q (by rw [ef]; exact g') wx fun d B2 H2 e2 g2 => q d _ H2 e2 (peek_gr (B0 := B0) (H0 := H0) (σ := σ) (ρ := ρ) h1 h2 g2)
  · have ef : frz1E i ρ = ρ := by
      unfold frz1E
      split
      · rename_i ds l e; exact absurd ⟨ds, l, e⟩ ho
      · rfl
    have wx : Wx mg W H0 σ (ga (frz1E i ρ)) := wx
    rw [ef] at wx
    exact v B0 H0 B H σ ρ Q gd wx fun d B2 H2 e2 g2 => q d B2 H2 (by show ga (frz1E i ρ) = _; rw [ef]; exact e2) g2
/-- x = [[e]] -/
def set1S (i : Nat) (fa : Env → R D) : Env → Out := fun ρ => (fa ρ).out fun d => .nx (ρ.set i (.own1 [] [d]))
theorem ds_set1 {pos' : Pos} (c : Cxs C P w K mg base k W N sc) (l : Lm C N sc i x) (ha : DE C K mg W a fa) (hs : ∀ X, C X → swapsWith (.List [.List [a] p] p2) (some (.Name x pos')) pos.line X.env = pure false := by intro _ _; rfl)
    (hs1 : ∀ X, C X → starEach [a] X.env = (false, eval a X.env) :: starEach [] X.env := by intro _ _; rfl) (hs2 : ∀ X, C X → starEach [.List [a] p] X.env = (false, eval (.List [a] p) X.env) :: starEach [] X.env := by intro _ _; rfl) :
    DS C K mg W (.Assign [.Name x pos'] (.List [.List [a] p] p2) pos) (set1S i fa) := by
  obtain ⟨ta, pa, va⟩ := ha
  refine ⟨tAsg (tLst (tCons (tLst (tCons ta tNil)) tNil)) (gName i), fun X h => ps_set (by rw [c.hN X h]; exact c.nd) (by rw [c.hN X h]; exact l.at_) (by rw [c.hsc X h]; exact l.loc) (pe_lst (pa_cons (pe_lst (pa_cons (pa X h) pa_nil (hs1 X h))) pa_nil (hs2 X h))) (hs X h) ?_, fun B0 H0 B H σ ρ E gd h => ?_⟩
  · rcases l.fn with z | z
    · exact .inr (by rw [c.hsc X h]; exact z)
    · exact .inl (z X h)
  · unfold set1S at h
    refine va B0 H0 B H σ ρ _ gd h.wx fun d B1 H1 v e1 g1 r1 => ?_
    refine ⟨by rw [sizeLine_eq]; show 1 ≤ _; decide, fun b hb => ⟨by rw [sizeLine_eq]; show 1 ≤ _; decide, fun q hq => ?_⟩⟩
    have hqb : q ≠ b := fun z => by rw [z, upd_same] at hq; cases hq
    have hq1 : H1 q = none := by rw [upd_ne hqb] at hq; exact hq
    obtain ⟨gb, bb⟩ := Gr.mk1 (o := .lst [v]) g1.s hb
    obtain ⟨gq, bq⟩ := Gr.mk1 (o := .lst [V.ref b]) gb.s hq
    have gg : Gr B H B1 (upd (upd H1 b (.lst [v])) q (.lst [V.ref b])) := (g1.trans gb).trans gq
    refine h.ok e1 B1 _ _ g1.b (gd.fresh (i := i) (o := some (.ref q)) (t := .own1 [] [d]) gg ⟨q, b, [], [v], rfl, upd_same, bq, ?_, .nil, by rw [upd_ne (Ne.symm hqb)]; exact upd_same, bb, ?_, .cons r1 .nil, hqb⟩ fun z w => ?_)
    · exact (gd.old.trans g1.h).free hq1
    · exact (gd.old.trans g1.h).free hb
    · rcases w with w | ⟨p', vs, w1, w2⟩
      · cases w; exact g1.h.free hq1
      · cases w1
        rw [upd_same] at w2
        have e2 := HO.lst.inj (Option.some.inj w2)
        have e3 : [V.ref b] = [V.ref z] := (List.append_inj' (s₁ := []) e2 rfl).2
        cases e3
        exact g1.h.free hb
/-- x.append([]) -/
def app1S (i : Nat) : Env → Out := fun ρ => match ρ[i]? with
  | some (.own1 ds l) => if fits (ds.length + 2) = true then .nx (ρ.set i (.own1 (ds ++ [.list l]) [])) else .bad
  | _ => .bad
theorem ds_app1 {apos p1 : Pos} (c : Cxs C P w K mg base k W N sc) (n : Nm N sc i x)
    (pr : ∀ (X : Cx) (t : TE), C X → PE X (.Name x p1) (tVar i) → PE X (.List [] p2) t → PE X (.Call (.Attribute (.Name x p1) "append" apos) [.List [] p2] [] p) (tBM X.K "list" rAppend (tVar i) (tCons t tNil)))
    (hs : ∀ X, C X → swapsWith (.Call (.Attribute (.Name x p1) "append" apos) [.List [] p2] [] p) none pos.line X.env = pure false := by intro _ _; rfl) :
    DS C K mg W (.Expr (.Call (.Attribute (.Name x p1) "append" apos) [.List [] p2] [] p) pos) (app1S i) := by
  refine ⟨tDrop (tBM K "list" rAppend (tVar i) (tCons (tLst tNil) tNil)), fun X h => ps_expr ?_ (hs X h), fun B0 H0 B H σ ρ E gd h => ?_⟩
  · have e := pr X _ h (pe_var (by rw [c.hN X h]; exact n.at_) (by rw [c.hsc X h]; exact n.vis) n.d1 n.d2) (pe_lst pa_nil)
    rw [c.hK X h] at e
    exact e
  · unfold app1S at h
    cases e : ρ[i]? with
    | none => rw [e] at h; exact h.elim
    | some s =>
      cases s with
      | own1 ds l =>
        rw [e] at h
        have h : PostS K mg W B0 H0 B E (if fits (ds.length + 2) = true then .nx (ρ.set i (.own1 (ds ++ [.list l]) [])) else .bad) := h
        by_cases hl : fits (ds.length + 2) = true
        · rw [if_pos hl] at h
          obtain ⟨a, b, vs, ws, h1, h2, h3, h4, h5, h6, h7, h8, h9, h10⟩ := gd.slots i _ e
          refine ⟨_, h1, .inl ⟨rfl, _, .inl (.inl h2)⟩, by rw [sizeLine_eq]; decide, fun q hq => ?_⟩
          have hqa : a ≠ q := ne_of_none h2 hq
          have hqb : b ≠ q := ne_of_none h6 hq
          refine ⟨a, vs ++ [.ref b], .ref q, rfl, rfl, by rw [upd_ne hqa]; exact h2, by have z := of_decide_eq_true hl; rw [sizeLine_eq, List.length_append, h5.length]; simp; omega, ?_⟩
          have sB : Same B (upd B b (.lst ws)) := Same.upd h7
          have bq : B q = none := gd.sub.free hq
          have ok : SlOk K H0 (upd B b (.lst ws)) (upd (upd H q (.lst [])) a (.lst (vs ++ [.ref b] ++ [.ref q]))) σ[i]? (.own1 (ds ++ [.list l]) []) :=
            ⟨a, q, vs ++ [.ref b], [], h1, upd_same, by rw [upd_ne h10]; exact h3, h4, (h5.mono sB).append (.cons (.lst upd_same (h9.mono sB)) .nil), by rw [upd_ne (Ne.symm hqa)]; exact upd_same, by rw [upd_ne (Ne.symm hqb)]; exact bq, gd.old.free hq, .nil, hqa⟩
          refine h (upd B b (.lst ws)) _ σ sB (gd.alter e sB (fun x u hx => ?_) (fun x u hx => ?_) (fun x u hx => ?_) ok (fun z o hz nz => ?_) fun z w => ?_)
          · by_cases hxb : x = b
            · subst hxb; rw [upd_same] at hx; cases hx
              rw [upd_ne (Ne.symm h10), upd_ne hqb]; exact h6
            · rw [upd_ne hxb] at hx
              rw [upd_ne (ne_of_none hx h3), upd_ne (ne_of_none hx bq)]; exact gd.sub _ _ hx
          · rw [upd_ne (ne_of_none hx h4), upd_ne (ne_of_none hx (gd.old.free hq))]; exact gd.old _ _ hx
          · rw [upd_ne (ne_of_none hx h8)]; exact gd.oldB _ _ hx
          · have na : z ≠ a := fun y => nz (.inl (by rw [y]; exact h1))
            have nb : z ≠ b := fun y => nz (.inr ⟨a, vs, h1, by rw [y]; exact h2⟩)
            exact ⟨by rw [upd_ne na, upd_ne (ne_of_none hz hq)]; exact hz, upd_ne nb⟩
          · rcases w with w | ⟨p', us, w1, w2⟩
            · exact .inl (.inl w)
            · rw [h1] at w1; cases w1
              rw [upd_same] at w2
              have e2 := HO.lst.inj (Option.some.inj w2)
              have e3 : [V.ref q] = [V.ref z] := (List.append_inj' e2 rfl).2
              cases e3
              exact .inr hq
        · rw [if_neg hl] at h; exact h.elim
      | _ => rw [e] at h; exact h.elim
/-- x[-1].append(e) -/
def mut1S (i : Nat) (fa : Env → R D) : Env → Out := fun ρ => match ρ[i]? with
  | some (.own1 ds l) => (fa ρ).out fun d => if fits (l.length + 1) = true then .nx (ρ.set i (.own1 ds (l ++ [d]))) else .bad
  | _ => .bad
theorem atI_last {α : Type} (xs : List α) (z : α) : atI (xs ++ [z]) (-1) = some z := by
  unfold atI ixN
  rw [if_neg (by omega), if_pos (by rw [List.length_append, List.length_singleton]; omega)]
  rw [Option.bind_some, show (-1 + ((xs ++ [z]).length : Int)).toNat = xs.length by rw [List.length_append, List.length_singleton]; omega]
  rw [List.getElem?_append_right (Nat.le_refl _), Nat.sub_self]; rfl
theorem ds_mut1 {apos p1 p4 p5 p6 : Pos} {j' : Nat} (c : Cxs C P w K mg base k W N sc) (n : Nm N sc i x) (ha : DE C K mg W a fa)
    (pr : ∀ (X : Cx) (t t' : TE), C X → PE X (.Subscript (.Name x p1) (.UnaryOp .USub (.Constant (.int 1) j' p4) p5) p6) t' → PE X a t → PE X (.Call (.Attribute (.Subscript (.Name x p1) (.UnaryOp .USub (.Constant (.int 1) j' p4) p5) p6) "append" apos) [a] [] p) (tBM X.K "list" rAppend t' (tCons t tNil)))
    (hs : ∀ X, C X → swapsWith (.Call (.Attribute (.Subscript (.Name x p1) (.UnaryOp .USub (.Constant (.int 1) j' p4) p5) p6) "append" apos) [a] [] p) none pos.line X.env = pure false := by intro _ _; rfl) :
    DS C K mg W (.Expr (.Call (.Attribute (.Subscript (.Name x p1) (.UnaryOp .USub (.Constant (.int 1) j' p4) p5) p6) "append" apos) [a] [] p) pos) (mut1S i fa) := by
  obtain ⟨ta, pa, va⟩ := ha
  refine ⟨tDrop (tBM K "list" rAppend (tOp (rIx K) (tVar i) (tUn (rU fun i => V.int (-i)) (tC (V.int 1)))) (tCons ta tNil)), fun X h => ps_expr ?_ (hs X h), fun B0 H0 B H σ ρ E gd h => ?_⟩
  · have e := pr X _ _ h (pe_ix (r := rIx K) (by have e := c.hK X h; subst e; exact ix_seq) (pe_var (by rw [c.hN X h]; exact n.at_) (by rw [c.hsc X h]; exact n.vis) n.d1 n.d2) (pe_un un_neg pe_int) (by intro _ _; rfl)) (pa X h)
    rw [c.hK X h] at e
    exact e
  · unfold mut1S at h
    cases e : ρ[i]? with
    | none => rw [e] at h; exact h.elim
    | some s =>
      cases s with
      | own1 ds l =>
        rw [e] at h
        have h : PostS K mg W B0 H0 B E ((fa ρ).out fun d => if fits (l.length + 1) = true then .nx (ρ.set i (.own1 ds (l ++ [d]))) else .bad) := h
        obtain ⟨a, b, vs, ws, h1, h2, h3, h4, h5, h6, h7, h8, h9, h10⟩ := gd.slots i _ e
        refine ⟨_, h1, 1, rfl, .inl ⟨a, vs ++ [.ref b], -1, .ref b, rfl, rfl, SqL.of h2, atI_last _ _, .inl ⟨rfl, _, .inl (.inl h6)⟩, va B0 H0 B H σ ρ _ gd h.wx fun d B1 H1 v e1 g1 r1 => ?_⟩⟩
        have h6' := h.ok e1
        by_cases hl : fits (l.length + 1) = true
        · rw [if_pos hl] at h6'
          have g := gd.grow g1
          refine ⟨b, ws, v, rfl, rfl, g1.h _ _ h6, by have z := of_decide_eq_true hl; rw [sizeLine_eq, h9.length]; omega, h6' B1 _ σ g1.b (g.alter e (Same.refl _) (fun x u hx => ?_) (fun x u hx => ?_) g.oldB ?_ (fun z o hz nz => ?_) fun z w => ?_)⟩
          · rw [upd_ne (ne_of_none hx ((g1.n b _ h6).trans h7))]; exact g.sub _ _ hx
          · rw [upd_ne (ne_of_none hx h8)]; exact g.old _ _ hx
          · exact ⟨a, b, vs, ws ++ [v], h1, by rw [upd_ne h10]; exact g1.h _ _ h2, (g1.n a _ h2).trans h3, h4, h5.mono g1.b, upd_same, (g1.n b _ h6).trans h7, h8, (h9.mono g1.b).append (.cons r1 .nil), h10⟩
          · exact ⟨by rw [upd_ne (fun y => nz (.inr ⟨a, vs, h1, by rw [y]; exact g1.h _ _ h2⟩))]; exact hz, rfl⟩
          · rcases w with w | ⟨p', us, w1, w2⟩
            · exact .inl (.inl w)
            · rw [h1] at w1; cases w1
              rw [upd_ne h10] at w2
              exact .inl (.inr ⟨a, us, h1, w2⟩)
        · rw [if_neg hl] at h6'; exact h6'.elim
      | _ => rw [e] at h; exact h.elim
end
section
variable {ρ : Env}
def frR1 {α : Type} (i : Nat) (f : Env → α) : Env → α := fun ρ => f (frz1E i ρ)
@[simp] theorem frR1_at {α : Type} {i : Nat} {f : Env → α} : frR1 i f ρ = f (frz1E i ρ) := nrfl rfl
@[simp] theorem frz1E_o1 {ds l : List D} {r : Env} : frz1E 0 (.own1 ds l :: r) = .own (ds ++ [.list l]) :: r := nrfl rfl
@[simp] theorem frz1E_o {ds : List D} {r : Env} : frz1E 0 (.own ds :: r) = .own ds :: r := nrfl rfl
@[simp] theorem frz1E_s {n : Nat} {s : Sl} {r : Env} : frz1E (n + 1) (s :: r) = s :: frz1E n r := by
  unfold frz1E
  rw [List.getElem?_cons_succ]
  cases e : r[n]? with
  | none => rfl
  | some t => cases t <;> rfl
end
end DL
set_option maxRecDepth 100000
set_option maxHeartbeats 1000000
/-! try: x = f(..) except C as e: r = e, the exception kept -/
namespace L2
open PySem PySem.Spec PyProof.Rows
/-- an exception object that was pinned becomes a tracked one -/
theorem Inv.keepX {X : Cx} {pins : List (Addr × Obj)} {σ : St} {H : Hp} {s : Shared} {a C : Addr} {ob : Obj} (I : Inv X pins σ H s) (ea : s.heap.get? a = some ob) (za : Zc (.ref C) none ob) (fa : ∃ vs, ob.data = .fields vs) (n0 : X.s_0.heap.get? a = none) (na : H a = none)
    (nl : a ≠ X.env.locals) (np : ∀ q ∈ X.pn ++ pins, q.1 ≠ a) : Inv X pins σ (upd H a (DL.ExK C a)) s where
  ok := I.ok
  os := I.os
  bare := I.bare
  base := I.base.track n0 na
  loc := I.loc
  cell := I.cell
  free := by rw [upd_ne (Ne.symm nl)]; exact I.free
  freeC := fun x c e => by
    have nc : c ≠ a := fun z => by
      obtain ⟨v, o, h1, h2⟩ := I.cell x c e
      obtain ⟨vs, h3⟩ := fa
      rw [z, ea] at h1; cases h1
      rw [h3] at h2; cases h2
    rw [upd_ne nc]; exact I.freeC x c e
  pin := fun q hq => by
    obtain ⟨h1, h2, h3⟩ := I.pin q hq
    exact ⟨h1, by rw [upd_ne (np q hq)]; exact h2, h3⟩
  hok := by
    obtain ⟨vs, h3⟩ := fa
    exact HOk.laidN I.hok (fun _ _ z => z) na ⟨⟨ob, vs, ea, za, h3⟩, ⟨ob, ea⟩, fun h1 h2 ⟨o, v, q, r⟩ k => ⟨o, v, k o q, r⟩⟩
  len := I.len
/-- what the clause wishes: the exception is kept, slot i's name goes -/
def wKp (K : PySem.W.Frag) (c : Value) (i : Nat) (ts : Addr → TS) (Wout : WX) (D : Ends) : WX := fun cls d σ H =>
  ∃ b, PySem.W.exmOne K cls c = some b ∧ (b = true → ∃ C, cls = .ref C ∧ d = none ∧ ∀ a, H a = none → ts a ⟨fun σ1 H1 => H1 a = none → D.nx (σ1.set i none) (upd H1 a (DL.ExK C a)), fun _ _ => False, fun _ _ => False, fun _ _ => False⟩ (σ.set i (some (.ref a))) H) ∧ (b = false → Wout cls d σ H)
theorem ps_tryK {X : Cx} {x n : Str} {c : Value} {i : Nat} {body suite : List Stmt} {b₀ : Stmt} {np pos pos' : Pos} {tb : WX → TS} {ts : Addr → TS} {Wout : WX} (hx : X.ex = []) (hs : X.stack = X.env :: X.outer) (hf : X.env.frame = some X.env.locals) (hN : X.N.Nodup) (hi : X.N[i]? = some n) (hln : X.env.kindOf n = some .local) (hc : Names X x c) (tk : Takes X Wout)
    (hb : ∀ (W : WX) (pn : List (Addr × Obj)) (xe : Value → Shared → Prop), Takes (X.tr pn xe) W → PassesOwn (model X.prog X.w) X.A X.env xe → PSs (X.tr pn xe) body (tb W))
    (hsu : ∀ (a : Addr) (pn : List (Addr × Obj)), PSs (X.suite a pn) (b₀ :: suite) (ts a)) :
    PS X (.Try body [.ExceptHandler (some (.Name x np)) (some n) (b₀ :: suite) pos'] [] [] pos) (fun D σ H => tb (wKp X.K c i ts Wout D) D σ H) := by
  refine ⟨fun pins s σ H D I hw => ?_⟩
  have okX := I.ok
  have frm : X.A.frames = some (X.env :: X.outer) := by rw [← hs]; exact okX.frames
  have locn : Loc X.env.scope n := .inl hln
  refine wpAny_Try_except ?_
  have B1 := hb (wKp X.K c i ts Wout D) (X.pn ++ pins) (fun e s₁ => wpAny (model X.prog X.w) X.A (noteFrame e X.env) (fun _ s₂ => wpAny (model X.prog X.w) X.A (setFlight e none) (fun _ s₃ => wpAny (model X.prog X.w) X.A (handleBy e X.env [.ExceptHandler (some (.Name x np)) (some n) (b₀ :: suite) pos']) (SP X pins D) X.xe s₃) X.xe s₂) X.xe s₁)
  refine wpAny_mono ((B1 (fun u s' hX => ?_) PassesOwn.looking).run [] s σ H D (I.toTry _) hw) (fun fl s1 h1 => ?_) (fun e s1 h1 => h1)
  · obtain ⟨a, B, sI, pins', σ', H', cls, d, rfl, Jt, nb, up, sky, na, os, ag, b, he, hyes, hno⟩ := hX
    have J : Inv X pins σ' H' sI := Jt.ofTry okX
    have skyE : Sky B (X.env :: X.outer) a (Zc cls d) X.env.locals s'.heap := by rw [hs] at sky; exact sky
    refine Sky.land Zc.steady frm hf skyE fun g fl gup => ?_
    have Jg : Inv X pins σ' H' { s' with heap := g } := J.landed nb fl.1 (up.trans gup) os ag
    obtain ⟨ob, vs, eo, zo, fo⟩ := fl.there
    have far : a ∉ frs (X.env :: X.outer) := fun hm => by
      obtain ⟨_, o2, eo2, no⟩ := fl.2.2.1.mem hm
      rw [eo] at eo2; cases eo2
      exact no _ fo
    have notL : a ≠ X.env.locals := fun z => far (List.mem_filterMap.mpr ⟨X.env, List.mem_cons_self, by rw [z]; exact hf⟩)
    have notF : a ∉ X.fs := fun hm => by
      obtain ⟨e, hE, q⟩ := List.mem_filterMap.mp hm
      exact far (List.mem_filterMap.mpr ⟨e, List.mem_cons_of_mem _ hE, q⟩)
    have Sg := Jg.suite eo fo na notL notF
    have goneI : sI.heap.get? a = none := by
      cases q : sI.heap.get? a with
      | none => rfl
      | some o =>
        have z := nb a o q (by rw [hs]; exact far)
        rw [fl.2.1] at z; cases z
    have new0 : X.s_0.heap.get? a = none := by
      cases q : X.s_0.heap.get? a with
      | none => rfl
      | some o =>
        obtain ⟨o', z⟩ := J.base.there a o q (by rw [hx]; exact List.not_mem_nil)
        rw [goneI] at z; cases z
    have npin : ∀ q ∈ X.pn ++ pins, q.1 ≠ a := fun q hq z => by
      have := (J.pin q hq).1
      rw [z, goneI] at this; cases this
    refine wpAny_handleBy_cons (codeAny_handlers_test ?_) (by intro q; cases q)
    have LT : PySem.W.Looks (model X.prog X.w) g (typeOf (.ref a)) cls := fun A Q E s k q => wpAny_typeOf_ref (k _ _ eo) (by rw [zo.1]; exact q)
    have LM := PySem.W.exm_one (M := model X.prog X.w) Jg.kIn LT he
    have ask : ∀ {Q : Value → Shared → Prop} {E : Value → Shared → Prop}, Q c { s' with heap := g } → wpAny (model X.prog X.w) (X.A.mark (some (.ref a))) (eval (.Name x np) X.env) Q E { s' with heap := g } := fun {Q E} q => by
      obtain ⟨k1, k2, k3 | ⟨k3, k4, k5⟩⟩ := hc
      · exact ld_glob (X := X.suite a ((a, ob) :: (X.pn ++ pins))) Sg k1 k3 q k2
      · exact ld_blt (X := X.suite a ((a, ob) :: (X.pn ++ pins))) Sg k1 k3 k4 q k5 k2
    refine ask (LM.here ?_)
    cases b with
    | true =>
      obtain ⟨C, rfl, rfl, hts⟩ := hyes rfl
      refine codeAny_handlers_suite_as ?_
      refine HandSPX.lands_againZ fl fun g2 fl2 gup2 => ?_
      have J2 : Inv X pins σ' H' { s' with heap := g2 } := J.landed nb fl2.1 ((up.trans gup).trans gup2) os ag
      obtain ⟨ob2, vs2, eo2, zo2, fo2⟩ := fl2.there
      have S2 := J2.suite eo2 fo2 na notL notF
      refine store_ok (X := X.suite a ((a, ob2) :: (X.pn ++ pins))) (v := .ref a) S2 hN hi locn rfl (fun s5 S5 => ?_) (.inr hln)
      refine wpAny_mono ((hsu a ((a, ob2) :: (X.pn ++ pins))).run [] s5 _ H' _ S5 (hts a na)) (fun f s6 h6 => ?_) (fun _ _ z => z.elim)
      cases f with
      | next =>
        obtain ⟨σ6, H6, S6, q6⟩ := h6
        obtain ⟨p1, p2, _⟩ := S6.pin (a, ob2) (List.mem_append_left _ List.mem_cons_self)
        have U := (S6.unsuite okX).keepX p1 zo2 ⟨_, fo2⟩ new0 p2 notL npin
        exact gone_ok U hN hi hln fun s7 J7 => ⟨_, _, J7, q6 p2⟩
      | brk => obtain ⟨_, _, _, q6⟩ := h6; exact q6.elim
      | cont => obtain ⟨_, _, _, q6⟩ := h6; exact q6.elim
      | ret u => obtain ⟨_, _, _, _, _, q6⟩ := h6; exact q6.elim
    | false =>
      show wpAny _ X.A (handleBy (.ref a) X.env []) _ _ _
      refine wpAny_handleBy_nil ?_
      obtain ⟨_, _, _, o3, v3, T, oT, t3, e3, z3, f3, i3, _⟩ := id fl
      unfold PySem.passOn
      refine wpAny_bind (wpAny_field e3 f3 i3 ?_)
      rw [if_neg (show ¬ ((Value.ref T == Value.none) = true) by simp)]
      have go : wpAny (model X.prog X.w) X.A (setFlight (.ref a) X.env.frame) (fun _ s4 => wpAny (model X.prog X.w) X.A (throw (.ref a) : Sem Flow) (SP X pins D) X.xe s4) X.xe { s' with heap := g } := by
        rw [hf]
        refine HandSPX.setFlight_upZ fl fun h4 hh4 up4 => wpAny_throw (tk _ _ ⟨a, B, sI, pins, σ', H', cls, d, rfl, J, nb, (up.trans gup).trans up4, .inr (.inr (by rw [hs]; exact hh4)), na, os, ag, hno rfl⟩)
      first
        | exact wpAny_bind (wpAny_pure (wpAny_bind go))
        | exact wpAny_bind go
  · cases fl with
    | next =>
      obtain ⟨σ1, H1, J1, q1⟩ := h1
      exact wpAny_execs_nil ⟨σ1, H1, J1.ofTry okX, q1⟩
    | brk =>
      obtain ⟨σ1, H1, J1, q1⟩ := h1
      exact ⟨σ1, H1, J1.ofTry okX, q1⟩
    | cont =>
      obtain ⟨σ1, H1, J1, q1⟩ := h1
      exact ⟨σ1, H1, J1.ofTry okX, q1⟩
    | ret u =>
      obtain ⟨v1, σ1, H1, J1, r1, q1⟩ := h1
      exact ⟨v1, σ1, H1, J1.ofTry okX, r1, q1⟩
end L2
set_option maxRecDepth 100000
set_option maxHeartbeats 1000000
namespace L2
open PySem PySem.Spec PyProof.Rows
/-- isinstance(e, c), e a kept exception -/
def rIsX (K : PySem.W.Frag) (C : Addr) : List V → Hp → VK → Prop := fun xs H Q => ∃ (a : Addr) (c : V) (cv : Value) (b : Bool), xs = [.ref a, c] ∧ H a = some (DL.ExK C a) ∧ (∀ u, RelV c u → u = cv) ∧ PySem.W.kitOne K (.ref C) cv = some b ∧ Q (.bl b) H
theorem call_isX {X : Cx} {C : Addr} (F : ExcC X.K C) : CallR X (.builtin "isinstance") (rIsX X.K C) := by
  intro pins s σ H xs us Q I rv hx
  obtain ⟨a, c, cv, b, rfl, ha, hcv, hk, q⟩ := hx
  obtain ⟨⟨ob, vs, e1, z, e2⟩, _, _⟩ := I.hok a _ ha
  have J : PySem.W.InstAt s.heap a ob C none := by
    obtain ⟨k1, k2⟩ := z
    obtain ⟨o1, o2, o3, o4⟩ := ob
    dsimp only at k1 k2 e2
    subst k1 k2 e2
    exact ⟨e1, rfl, rfl, trivial⟩
  match us, rv with
  | [_, u2], .cons r1 (.cons r2 .nil) =>
    cases r1
    have e := hcv _ r2
    subst e
    exact PySem.W.kia_one (PySem.W.handS_kitx_exc F.hg F.hk F.hs F.hd F.ha F.hn F.ht F.hm) I.kIn J hk (fun z => nomatch z) fun tk => ⟨.bl b, H, I.kept (t' := tk) fun _ _ z => z, rfl, q⟩
end L2
namespace DL
open PySem L2
theorem sw_cell {elt : Expr} {gs : List Comprehension} {scope : Scope} {pos py : Pos} {y : Str} {l : Nat} {env : PySem.Env} (hy : env.scope.names.lookup y = some .cell) : swapsWith (.ListComp elt gs scope pos) (some (.Name y py)) l env = pure false := by
  have ky : env.kindOf y = some .cell := hy
  unfold swapsWith
  simp only [ky]
  rw [show ((some NameKind.cell : Option NameKind) == some NameKind.local) = false from rfl, Bool.and_false]
  rfl
section
variable {C : Cx → Prop} {P : Program} {w : World} {K : PySem.W.Frag} {mg : Str → Option Value} {base : Heap} {k : Nat} {W : WX} {N : List Str} {sc : Scope}
variable {a b e tg iter elt : Expr} {es rest ifs : List Expr} {fa fb fc : Env → R D} {fs : Env → R (List D)} {pos p p2 p3 : Pos} {x y : Str} {i j r : Nat} {ta tb : TE} {tt tu : TT} {tr : TA} {st : Stmt} {sts sts2 : List Stmt} {F G : Env → Out}
/-! ### isinstance of a kept exception -/
/-- slot i holds an exception of the class at C: b -/
def isxR (C : Addr) (b : Bool) (i : Nat) : Env → R D := fun ρ => match ρ[i]? with
  | some (.exn _ C') => if C' = C then .ok (.bool b) else .bad
  | _ => .bad
theorem isx_ev {t : TE} {CC : Addr} {bb : Bool} {v : V} {cv : Value} (hv : ∀ u, RelV v u → u = cv) (hk : PySem.W.kitOne K (.ref CC) cv = some bb) : Ev K mg W (tCB (rIsX K CC) (tCons (tVar i) (tCons (tC v) tNil))) (isxR CC bb i) := by
  intro B0 H0 B H σ ρ Q gd wx q
  unfold isxR at wx
  cases e : ρ[i]? with
  | none => rw [e] at wx; exact wx.elim
  | some s =>
    cases s with
    | exn c C' =>
      rw [e] at wx
      by_cases hC : C' = CC
      · subst hC
        obtain ⟨ad, h1, h2⟩ := gd.slots i _ e
        refine ⟨_, h1, ad, v, cv, bb, rfl, gd.sub _ _ h2, hv, hk, q (.bool bb) B H _ ?_ (Gr.refl gd.sub) (.bl bb)⟩
        unfold isxR; rw [e]; exact if_pos rfl
      · have wx : Wx mg W H0 σ (if C' = CC then R.ok (PyData.bool bb) else .bad) := wx
        rw [if_neg hC] at wx; exact wx.elim
    | _ => rw [e] at wx; exact wx.elim
theorem de_isx {CC DD : Addr} {bb : Bool} {q p1 : Pos} (c : Cxs C P w K mg base k W N sc) (g : Gm sc "isinstance") (m : mg "isinstance" = none) (n : Nm N sc i x) (gT : Gm sc y) (mT : mg y = some (.ref DD)) (F : ExcC K CC) (hk : PySem.W.kitOne K (.ref CC) (.ref DD) = some bb)
    (he : ∀ X, C X → starEach [.Name x p1, .Name y q] X.env = (false, eval (.Name x p1) X.env) :: starEach [.Name y q] X.env := by intro _ _; rfl) (he2 : ∀ X, C X → starEach [.Name y q] X.env = (false, eval (.Name y q) X.env) :: starEach [] X.env := by intro _ _; rfl)
    (hpl : ∀ X, C X → (backTo pos (starEach [.Name y q] X.env)).any (·.1) = false := by intro _ _; rfl) : DE C K mg W (.Call (.Name "isinstance" p) [.Name x p1, .Name y q] [] pos) (isxR CC bb i) := by
  refine ⟨tCB (rIsX K CC) (tCons (tVar i) (tCons (tC (.ref DD)) tNil)), fun X h => ?_, isx_ev (t := fun _ _ _ => True) (fun u z => z) hk⟩
  have e := c.hK X h
  subst e
  exact pe_callB (call_isX F) (g.gl c X h) (by rw [c.hmg X h]; exact m) (by decide +kernel) (pa_cons (pe_var (by rw [c.hN X h]; exact n.at_) (by rw [c.hsc X h]; exact n.vis) n.d1 n.d2) (pa_cons (pe_glob (gT.gl c X h) (by rw [c.hmg X h]; exact mT) rfl gT.d) pa_nil (he2 X h)) (he X h)) (by decide) g.d (he X h) (hpl X h)
theorem de_isxB {CC : Addr} {T : String} {bb : Bool} {q p1 : Pos} (c : Cxs C P w K mg base k W N sc) (g : Gm sc "isinstance") (m : mg "isinstance" = none) (n : Nm N sc i x) (gT : Gm sc y) (mT : mg y = none) (hv : bootBuiltins y = some (.type T)) (hn : y ≠ "__name__") (F : ExcC K CC) (hk : PySem.W.kitOne K (.ref CC) (.type T) = some bb)
    (he : ∀ X, C X → starEach [.Name x p1, .Name y q] X.env = (false, eval (.Name x p1) X.env) :: starEach [.Name y q] X.env := by intro _ _; rfl) (he2 : ∀ X, C X → starEach [.Name y q] X.env = (false, eval (.Name y q) X.env) :: starEach [] X.env := by intro _ _; rfl)
    (hpl : ∀ X, C X → (backTo pos (starEach [.Name y q] X.env)).any (·.1) = false := by intro _ _; rfl) : DE C K mg W (.Call (.Name "isinstance" p) [.Name x p1, .Name y q] [] pos) (isxR CC bb i) := by
  refine ⟨tCB (rIsX K CC) (tCons (tVar i) (tCons (tC (.ty T)) tNil)), fun X h => ?_, isx_ev (t := fun _ _ _ => True) (fun u z => z) hk⟩
  have e := c.hK X h
  subst e
  exact pe_callB (call_isX F) (g.gl c X h) (by rw [c.hmg X h]; exact m) (by decide +kernel) (pa_cons (pe_var (by rw [c.hN X h]; exact n.at_) (by rw [c.hsc X h]; exact n.vis) n.d1 n.d2) (pa_cons (pe_bltn (gT.gl c X h) (by rw [c.hmg X h]; exact mT) hv rfl hn gT.d) pa_nil (he2 X h)) (he X h)) (by decide) g.d (he X h) (hpl X h)
/-- x is None, x perhaps a kept exception -/
def isNx (i : Nat) : Env → R Bool := fun ρ => match ρ[i]? with
  | some (.exn _ _) => .ok false
  | some (.dat d) => .ok (isNoneD d)
  | _ => .bad
theorem dt_isNx {j' : Nat} {p1 : Pos} (c : Cxs C P w K mg base k W N sc) (n : Nm N sc i x) : DT C K mg W (.Compare (.Name x p1) [.Is] [.Constant .none j' p2] pos) (isNx i) := by
  refine ⟨_, fun X h => pt_cmpR op_isN (pe_var (by rw [c.hN X h]; exact n.at_) (by rw [c.hsc X h]; exact n.vis) n.d1 n.d2) pe_non (nomark _), fun B0 H0 B H σ ρ Q gd wx q => ?_⟩
  unfold isNx at wx
  cases e : ρ[i]? with
  | none => rw [e] at wx; exact wx.elim
  | some s =>
    cases s with
    | exn c' C' =>
      obtain ⟨a, h1, h2⟩ := gd.slots i _ e
      exact ⟨_, h1, rfl, decide (V.ref a = V.non), rfl, q _ B H (by unfold isNx; rw [e]; rfl) (Gr.refl gd.sub)⟩
    | dat d =>
      obtain ⟨v, h1, h2⟩ := gd.slots i _ e
      refine ⟨_, h1, rfl, decide (v = V.non), rfl, q _ B H ?_ (Gr.refl gd.sub)⟩
      unfold isNx; rw [e]
      cases h2 <;> rfl
    | _ => rw [e] at wx; exact wx.elim
/-! ### try: x = e except C as n: r = n -/
def isData : Sl → Bool
  | .own _ => false
  | .own1 _ _ => false
  | .dct _ => false
  | _ => true
theorem Gd.rebase {B0 H0 B H : Hp} {σ : St} {ρ : Env} (g : Gd K B0 H0 B H σ ρ) (no : ρ.all isData = true) : Gd K B H B H σ ρ := by
  refine ⟨g.sub, g.sub, Same.refl _, fun _ _ _ => rfl, g.len, fun i s e => ?_, g.apart⟩
  have h := g.slots i s e
  have hs := List.all_eq_true.1 no s (List.mem_of_getElem? e)
  cases s with
  | own _ => cases hs
  | own1 _ _ => cases hs
  | dct _ => cases hs
  | _ => exact h
def trC (C : Cx → Prop) (W' : WX) : Cx → Prop := fun Y => ∃ X pn xe, C X ∧ Y = X.tr pn xe ∧ Takes Y W' ∧ PassesOwn (model Y.prog Y.w) Y.A Y.env Y.xe
theorem cxs_tr {W' : WX} (c : Cxs C P w K mg base k W N sc) : Cxs (trC C W') P w K mg base k W' N sc where
  hP := fun Y ⟨X, _, _, h, e, _⟩ => by subst e; exact c.hP X h
  hw := fun Y ⟨X, _, _, h, e, _⟩ => by subst e; exact c.hw X h
  hK := fun Y ⟨X, _, _, h, e, _⟩ => by subst e; exact c.hK X h
  hmg := fun Y ⟨X, _, _, h, e, _⟩ => by subst e; exact c.hmg X h
  hbase := fun Y ⟨X, _, _, h, e, _⟩ => by subst e; exact c.hbase X h
  calm := fun Y ⟨X, _, _, h, e, _⟩ => by subst e; exact c.calm X h
  room := fun Y ⟨X, _, _, h, e, _⟩ => by subst e; exact c.room X h
  takes := fun Y ⟨_, _, _, _, _, h, _⟩ => h
  own := fun Y ⟨_, _, _, _, _, _, h⟩ => h
  hN := fun Y ⟨X, _, _, h, e, _⟩ => by subst e; exact c.hN X h
  hsc := fun Y ⟨X, _, _, h, e, _⟩ => by subst e; exact c.hsc X h
  nd := c.nd
def tryS (ca : Str → Addr) (okc : Str → Bool) (nx : D → Env → Env) (j r : Nat) (fa : Env → R D) : Env → Out := fun ρ => if (ρ.all isData && decide (j < ρ.length)) = true then (match fa ρ with
  | .ok d => .nx (nx d ρ)
  | .exc c => if okc c = true then .nx ((ρ.set r (.exn c (ca c))).set j .no) else .bad
  | .bad => .bad) else .bad
/-- what a def's context has -/
structure Dc (C : Cx → Prop) : Prop where
  stk : ∀ X, C X → X.stack = X.env :: X.outer
  frm : ∀ X, C X → X.env.frame = some X.env.locals
  ex : ∀ X, C X → X.ex = []
theorem try_core {st : Stmt} {ca : Str → Addr} {okc : Str → Bool} {nx : D → Env → Env} {cn en rn : Str} {CS : Addr} {np pr pe p2 pos' : Pos} (c : Cxs C P w K mg base k W N sc) (dc : Dc C) (hjr : j ≠ r)
    (hk : sc.names.lookup en = some .local) (nj : N[j]? = some en) (nr : N[r]? = some rn) (lr : Loc sc rn) (lr2 : sc.names.lookup rn = some .local) (nm : Nm N sc j en) (gc : Gm sc cn) (mc : mg cn = some (.ref CS)) (hfun : sc.kind = .function)
    (hca : ∀ c C', okc c = true → mg c = some (.ref C') → ca c = C' ∧ PySem.W.exmOne K (.ref C') (.ref CS) = some true)
    (hb : ∀ W', ∃ (ta : TE) (nxt : V → St → St), Ev K mg W' ta fa ∧ (∀ X, trC C W' X → PSs X [st] (fun D σ H => ta σ H fun v H1 => D.nx (nxt v σ) H1)) ∧ ∀ (B0 H0 B H : Hp) (σ : St) (ρ : Env) (v : V) (d : D), Gd K B0 H0 B H σ ρ → Rp B v d → Gd K B0 H0 B H (nxt v σ) (nx d ρ)) :
    DS C K mg W (.Try [st] [.ExceptHandler (some (.Name cn np)) (some en) [.Assign [.Name rn pr] (.Name en pe) p2] pos'] [] [] pos) (tryS ca okc nx j r fa) := by
  refine ⟨fun D σ H => (hb (wKp K (.ref CS) j (fun _ => tAsg (tVar j) (gName r)) W D)).choose σ H fun v H1 => D.nx ((hb (wKp K (.ref CS) j (fun _ => tAsg (tVar j) (gName r)) W D)).choose_spec.choose v σ) H1, fun X h => ?_, fun B0 H0 B H σ ρ E gd h => ?_⟩
  · have eK := c.hK X h
    have hln : X.env.kindOf en = some .local := by
      show X.env.scope.names.lookup en = some .local
      rw [c.hsc X h]; exact hk
    have z := ps_tryK (X := X) (i := j) (c := .ref CS) (n := en) (pos := pos) (np := np) (pos' := pos') (Wout := W) (body := [st]) (b₀ := .Assign [.Name rn pr] (.Name en pe) p2) (suite := [])
      (tb := fun W' D σ H => (hb W').choose σ H fun v H1 => D.nx ((hb W').choose_spec.choose v σ) H1) (ts := fun _ => tAsg (tVar j) (gName r)) (dc.ex X h) (dc.stk X h) (dc.frm X h) (by rw [c.hN X h]; exact c.nd) (by rw [c.hN X h]; exact nj) hln
      ⟨gc.gl c X h, gc.d, .inl (by rw [c.hmg X h]; exact mc)⟩ (c.takes X h)
      (fun W' pn xe tk po => (hb W').choose_spec.choose_spec.2.1 (X.tr pn xe) ⟨X, pn, xe, h, rfl, tk, po⟩)
      (fun a pn => pss_one (ps_set (by rw [c.hN X h]; exact c.nd) (by rw [c.hN X h]; exact nr) (by rw [c.hsc X h]; exact lr) (pe_var (by rw [c.hN X h]; exact nm.at_) (by rw [c.hsc X h]; exact nm.vis) nm.d1 nm.d2) (by rfl) (.inr (by rw [c.hsc X h]; exact lr2))))
    rw [eK] at z
    exact z
  · unfold tryS at h
    by_cases no : (ρ.all isData && decide (j < ρ.length)) = true
    · rw [if_pos no] at h
      rw [Bool.and_eq_true, decide_eq_true_eq] at no
      obtain ⟨ev, _, hn⟩ := (hb (wKp K (.ref CS) j (fun _ => tAsg (tVar j) (gName r)) W E)).choose_spec.choose_spec
      refine ev B H B H σ ρ _ (gd.rebase no.1) ?_ fun d B1 H1 v e1 g1 r1 => ?_
      · cases e : fa ρ with
        | bad => rw [e] at h; exact h.elim
        | ok d => exact True.intro
        | exc c' =>
          rw [e] at h
          have h : PostS K mg W B0 H0 B E (if okc c' = true then .nx ((ρ.set r (.exn c' (ca c'))).set j .no) else .bad) := h
          by_cases ho : okc c' = true
          · rw [if_pos ho] at h
            intro H' C' sH m
            obtain ⟨e1, e2⟩ := hca c' C' ho m
            refine ⟨true, e2, fun _ => ⟨C', rfl, rfl, fun a ha => ?_⟩, fun z => by cases z⟩
            have hj : j < σ.length := by rw [gd.len]; exact no.2
            refine ⟨.ref a, by rw [List.getElem?_set_self hj], fun _ => ?_⟩
            have g2 := (gd.grow (B' := B) (H' := H') ⟨Same.refl _, gd.sub.trans sH, sH, fun _ _ _ => rfl⟩).grow (Gr.new (p := a) (o := ExK C' a) (gd.sub.trans sH) ha)
            have g3 := ((g2.put (i := r) (o := some (.ref a)) (t := .exn c' (ca c')) ⟨a, rfl, by rw [e1]; exact upd_same⟩ fun _ _ _ z => z).clr (i := j) (o := none))
            have es : (((σ.set j (some (.ref a))).set r (some (.ref a))).set j none) = ((σ.set r (some (.ref a))).set j none) := by
              rw [List.set_comm _ _ hjr, List.set_set]
            rw [es]
            exact h _ _ _ (Same.upd (gd.sub.trans sH |>.free ha)) g3
          · rw [if_neg ho] at h; exact h.elim
      · rw [e1] at h
        exact h B1 H1 _ g1.b (hn B0 H0 B1 H1 σ ρ v d (gd.grow g1) r1)
    · rw [if_neg no] at h; exact h.elim
/-- x = e -/
theorem ds_tryS {ca : Str → Addr} {okc : Str → Bool} {fn cn en rn : Str} {CS : Addr} {np pr pe p1 pf pos' : Pos} (c : Cxs C P w K mg base k W N sc) (dc : Dc C) (hjr : j ≠ r)
    (hk : sc.names.lookup en = some .local) (nj : N[j]? = some en) (nr : N[r]? = some rn) (lr : Loc sc rn) (lr2 : sc.names.lookup rn = some .local) (nm : Nm N sc j en) (gc : Gm sc cn) (mc : mg cn = some (.ref CS)) (hfun : sc.kind = .function)
    (hca : ∀ c C', okc c = true → mg c = some (.ref C') → ca c = C' ∧ PySem.W.exmOne K (.ref C') (.ref CS) = some true)
    (ni : N[i]? = some fn) (li : Loc sc fn) (li2 : sc.names.lookup fn = some .local) (ha : ∀ W', DE (trC C W') K mg W' a fa) (hs : ∀ W' X, trC C W' X → swapsWith a (some (.Name fn pf)) p1.line X.env = pure false := by intro _ _ _; rfl) :
    DS C K mg W (.Try [.Assign [.Name fn pf] a p1] [.ExceptHandler (some (.Name cn np)) (some en) [.Assign [.Name rn pr] (.Name en pe) p2] pos'] [] [] pos) (tryS ca okc (fun d ρ => ρ.set i (.dat d)) j r fa) :=
  try_core c dc hjr hk nj nr lr lr2 nm gc mc hfun hca fun W' => by
    obtain ⟨ta, pa, va⟩ := ha W'
    have c' := cxs_tr (W' := W') c
    refine ⟨ta, fun v σ => σ.set i (some v), va, fun X h => pss_one ?_, fun B0 H0 B H σ ρ v d g r => g.set r⟩
    exact ps_set (by rw [c'.hN X h]; exact c.nd) (by rw [c'.hN X h]; exact ni) (by rw [c'.hsc X h]; exact li) (pa X h) (hs W' X h) (.inr (by rw [c'.hsc X h]; exact li2))
/-- e alone -/
theorem ds_tryE {ca : Str → Addr} {okc : Str → Bool} {cn en rn : Str} {CS : Addr} {np pr pe p1 pos' : Pos} (c : Cxs C P w K mg base k W N sc) (dc : Dc C) (hjr : j ≠ r)
    (hk : sc.names.lookup en = some .local) (nj : N[j]? = some en) (nr : N[r]? = some rn) (lr : Loc sc rn) (lr2 : sc.names.lookup rn = some .local) (nm : Nm N sc j en) (gc : Gm sc cn) (mc : mg cn = some (.ref CS)) (hfun : sc.kind = .function)
    (hca : ∀ c C', okc c = true → mg c = some (.ref C') → ca c = C' ∧ PySem.W.exmOne K (.ref C') (.ref CS) = some true)
    (ha : ∀ W', DE (trC C W') K mg W' a fa) (hs : ∀ W' X, trC C W' X → swapsWith a none p1.line X.env = pure false := by intro _ _ _; rfl) :
    DS C K mg W (.Try [.Expr a p1] [.ExceptHandler (some (.Name cn np)) (some en) [.Assign [.Name rn pr] (.Name en pe) p2] pos'] [] [] pos) (tryS ca okc (fun _ ρ => ρ) j r fa) :=
  try_core c dc hjr hk nj nr lr lr2 nm gc mc hfun hca fun W' => by
    obtain ⟨ta, pa, va⟩ := ha W'
    exact ⟨ta, fun _ σ => σ, va, fun X h => pss_one (ps_expr (pa X h) (hs W' X h)), fun B0 H0 B H σ ρ v d g r => g⟩
theorem dc_def {N : List Str} {qual : Str} {f : Addr} {cdv : Value} {A : Around} {outer : List PySem.Env} {s : Shared} {H : Hp} {E : XK} (hfun : sc.kind = .function) : Dc (· = cxD P w K mg base N qual sc f cdv A outer s H E) where
  stk := by rintro _ rfl; rfl
  frm := by rintro _ rfl; rfl
  ex := by rintro _ rfl; rfl
/-! ### a def that takes a kept exception -/
def spX (ca : Str → Addr) (res : Str → R D) : Sp := fun vs H Q _ => ∃ (c : Str) (d : D) (a : Addr) (B : Hp), res c = .ok d ∧ vs = [.ref a] ∧ Same B H ∧ B a = some (ExK (ca c) a) ∧ ∀ B' H' v, Gr B H B' H' → Rp B' v d → Q v H'
structure FnX (P : Program) (w : World) (K : PySem.W.Frag) (mg : Str → Option Value) (base : Heap) (k : Nat) (x : Str) (ca : Str → Addr) (res : Str → R D) : Prop where
  ex : ∃ (f : Addr) (fd : FuncData) (ps : List Str), FnOk P w K mg base (L2.CX P w) k f fd ps (spX ca res) ∧ mg x = some (.ref f) ∧ PySem.W.keepIn K (.ref f) = true ∧ Binds K fd ps []
theorem FnX.mono {j k : Nat} {ca : Str → Addr} {res : Str → R D} (F : FnX P w K mg base j x ca res) (h : j ≤ k) : FnX P w K mg base k x ca res :=
  let ⟨f, fd, ps, h1, h2⟩ := F.ex
  ⟨⟨f, fd, ps, h1.mono h, h2⟩⟩
/-- slot i holds a kept exception: what the def tells of it -/
def callX (ca : Str → Addr) (res : Str → R D) (i : Nat) : Env → R D := fun ρ => match ρ[i]? with
  | some (.exn c C) => if C = ca c then (match res c with | .ok d => .ok d | _ => .bad) else .bad
  | _ => .bad
theorem de_callX {j' : Nat} {ca : Str → Addr} {res : Str → R D} {p1 : Pos} (c : Cxs C P w K mg base k W N sc) (F : FnX P w K mg base j' y ca res) (hj : j' ≤ k) (gy : Gm sc y) (n : Nm N sc i x)
    (he : ∀ X, C X → starEach [.Name x p1] X.env = (false, eval (.Name x p1) X.env) :: starEach [] X.env := by intro _ _; rfl) (hpl : ∀ X, C X → (backTo pos (starEach [] X.env)).any (·.1) = false := by intro _ _; rfl) :
    DE C K mg W (.Call (.Name y p) [.Name x p1] [] pos) (callX ca res i) := by
  obtain ⟨f, fd, ps, h1, h2, h3, h4⟩ := F.ex
  refine ⟨tCallS (spX ca res) (WE W) (tCons (tVar i) tNil), fun X h => ?_, fun B0 H0 B H σ ρ Q gd wx q => ?_⟩
  · have c1 := c.hP X h; have c2 := c.hw X h; have c3 := c.hK X h; have c4 := c.hmg X h; have c5 := c.hbase X h
    subst c1 c2 c3 c4 c5
    exact pe_callS h1 ((c.room X h).mono hj) (gy.gl c X h) h2 h3 h4 (fun σ => passAt (c.takes X h) σ) (pa_cons (pe_var (by rw [c.hN X h]; exact n.at_) (by rw [c.hsc X h]; exact n.vis) n.d1 n.d2) pa_nil (he X h)) gy.d (he X h) (hpl X h)
  · unfold callX at wx
    cases e : ρ[i]? with
    | none => rw [e] at wx; exact wx.elim
    | some s =>
      cases s with
      | exn c' C' =>
        rw [e] at wx
        have wx : Wx mg W H0 σ (if C' = ca c' then (match res c' with | .ok d => R.ok d | _ => .bad) else .bad) := wx
        by_cases hC : C' = ca c'
        · rw [if_pos hC] at wx
          obtain ⟨ad, k1, k2⟩ := gd.slots i _ e
          cases er : res c' with
          | ok d =>
            refine ⟨_, k1, c', d, ad, B, er, rfl, gd.sub, by rw [← hC]; exact k2, fun B' H' v g r => q d B' H' v ?_ g r⟩
            unfold callX; rw [e]
            show (if C' = ca c' then _ else _) = _
            rw [if_pos hC, er]
          | bad => rw [er] at wx; exact wx.elim
          | exc _ => rw [er] at wx; exact wx.elim
        · rw [if_neg hC] at wx; exact wx.elim
      | _ => rw [e] at wx; exact wx.elim
theorem fnX_def {x' qual : Str} {st : Stmt} {f : Addr} {fd : FuncData} {N : List Str} {ca : Str → Addr} {res : Str → R D} (Fu : L2.Fun K x' qual st f fd) (S : FnScope N [y] (defScope st)) (gx : mg x = some (.ref f)) (hb : Binds K fd [y] [])
    (bd : ∀ c d, res c = .ok d → ∃ F : Env → Out, (∀ (cdv : Value) (A : Around) (outer : List PySem.Env) (s : Shared) (H : Hp) (E : XK), Room k (A.deeper (PyProof.Rows.envOfC qual (defScope st) s.heap.objs.size f cdv)) →
      DSs (· = cxD P w K mg base N qual (defScope st) f cdv A outer s H E) K mg (fun cls d _ H => E cls d H) (defBody st) F) ∧ defR (F (.exn c (ca c) :: List.replicate (N.length - 1) .no)) = .ok d) : FnX P w K mg base (k + 1) x ca res := by
  refine ⟨⟨f, fd, [y], Fu.okX S (fun vs H Q E h => by obtain ⟨_, _, _, _, _, h, _⟩ := h; rw [h]; rfl) (fun cdv A outer s H vs Q E hr h => ?_), gx, Fu.kp, hb⟩⟩
  obtain ⟨c, d, a, B, e1, rfl, sB, hB, h2⟩ := h
  obtain ⟨F, b1, b2⟩ := bd c d e1
  obtain ⟨t, p, v⟩ := b1 cdv A outer s H E hr
  have hpl : 1 ≤ N.length := by have := congrArg List.length S.pre; rw [List.length_take] at this; simp at this; omega
  have gd : Gd K B H B H (L2.start N [.ref a]) (.exn c (ca c) :: List.replicate (N.length - 1) .no) := by
    refine ⟨sB, sB, Same.refl _, fun _ _ _ => rfl, by unfold L2.start; simp, fun i d e => ?_, fun i j xs ys b e1 _ o1 _ => ?_⟩
    · cases i with
      | zero => cases e; exact ⟨a, rfl, hB⟩
      | succ i =>
        rw [List.getElem?_cons_succ, List.getElem?_replicate] at e
        split at e <;> cases e
        exact True.intro
    · cases i with
      | zero => cases e1; exact o1.elim
      | succ i =>
        rw [List.getElem?_cons_succ, List.getElem?_replicate] at e1
        split at e1 <;> cases e1
        exact o1.elim
  refine ⟨t, p _ rfl, v B H B H _ _ _ gd ?_⟩
  cases eF : F (.exn c (ca c) :: List.replicate (N.length - 1) .no) with
  | bad => rw [eF] at b2; cases b2
  | bk ρ => rw [eF] at b2; cases b2
  | ct ρ => rw [eF] at b2; cases b2
  | nx ρ => rw [eF] at b2; cases b2; exact fun B' H' σ' s1 gd => h2 B' H' .non ⟨s1, gd.sub, gd.old, gd.oldB⟩ .non
  | rt d' => rw [eF] at b2; cases b2; exact fun B' H' v' s1 s2 s3 s4 r => h2 B' H' v' ⟨s1, s2, s3, s4⟩ r
  | exc c => rw [eF] at b2; cases b2
/-! the facts of a class, as one truth -/
def excCB (K : PySem.W.Frag) (D : Addr) : Bool := decide (PySem.W.findIn K (.ref D) "__getattribute__" = some (some (.builtin "BaseException.__getattribute__"))) && (decide (PySem.W.findIn K (.ref D) "__getattr__" = some none) && (decide (PySem.W.subIn K (.ref D) (.type "BaseException") = some true) && (PySem.W.hasDictIn K D && (decide (PySem.W.findIn K (.ref D) "__class__" = some (some (.builtin "object.__class__"))) && (decide (PySem.W.specialIn K (.builtin "object.__class__") "__get__" = some (some (.builtin "getset_descriptor.__get__"))) && (decide (PySem.W.takesIn K (.builtin "object.__class__") = some true) && decide (PySem.W.mroIn K D (.type "object") = some true)))))))
theorem excCB_ok {D : Addr} (h : excCB K D = true) : ExcC K D := by
  unfold excCB at h
  simp only [Bool.and_eq_true, decide_eq_true_eq] at h
  obtain ⟨h1, h2, h3, h4, h5, h6, h7, h8⟩ := h
  exact ⟨h1, h2, h3, h4, h5, h6, h7, h8⟩
/-! evaluation -/
section
variable {ρ : Env} {s : Sl} {C : Addr} {c : Str} {n : Nat} {ca : Str → Addr} {res : Str → R D}
@[simp] theorem isxR_z {b : Bool} : isxR C b 0 (.exn c C :: ρ) = .ok (.bool b) := if_pos rfl
@[simp] theorem isNx_d {d : D} : isNx 0 (.dat d :: ρ) = .ok (isNoneD d) := nrfl rfl
@[simp] theorem isNx_x : isNx 0 (.exn c C :: ρ) = .ok false := nrfl rfl
@[simp] theorem isNx_s : isNx (n + 1) (s :: ρ) = isNx n ρ := nrfl rfl
@[simp] theorem callX_x : callX ca res 0 (.exn c (ca c) :: ρ) = (match res c with | .ok d => .ok d | _ => .bad) := if_pos rfl
@[simp] theorem callX_s : callX ca res (n + 1) (s :: ρ) = callX ca res n ρ := nrfl rfl
end
theorem fitsL {α : Type} {l : List α} (h : l.length ≤ 16777216) : fits l.length = true := fits_of h
theorem fitsL1 {a : D} : fits [a].length = true := fits_of (by show 1 ≤ 16777216; decide)
theorem fitsL2 {a b : D} : fits [a, b].length = true := fits_of (by show 2 ≤ 16777216; decide)
theorem fitsL3 {a b c : D} : fits [a, b, c].length = true := fits_of (by show 3 ≤ 16777216; decide)
theorem fitsL4 {a b c d : D} : fits [a, b, c, d].length = true := fits_of (by show 4 ≤ 16777216; decide)
theorem addL32 {a b c d e : D} : addD (.list [a, b, c]) (.list [d, e]) = .ok (.list [a, b, c, d, e]) := nrfl rfl
theorem addL52 {a b c d e f g : D} : addD (.list [a, b, c, d, e]) (.list [f, g]) = .ok (.list [a, b, c, d, e, f, g]) := nrfl rfl
theorem addL72 {a b c d e f g h i : D} : addD (.list [a, b, c, d, e, f, g]) (.list [h, i]) = .ok (.list [a, b, c, d, e, f, g, h, i]) := nrfl rfl
theorem try_eq {ca ca' : Str → Addr} {okc : Str → Bool} {nx : D → Env → Env} {rest rest' : Env → Out} (ρ : Env) (h1 : ∀ d, rest (nx d ρ) = rest' (nx d ρ)) (h2 : ∀ c, okc c = true → rest ((ρ.set r (.exn c (ca c))).set j .no) = rest' ((ρ.set r (.exn c (ca' c))).set j .no)) :
    (tryS ca okc nx j r fa ρ).then rest = (tryS ca' okc nx j r fa ρ).then rest' := by
  unfold tryS
  by_cases no : (ρ.all isData && decide (j < ρ.length)) = true
  · rw [if_pos no, if_pos no]
    cases fa ρ with
    | bad => rfl
    | ok d => exact h1 d
    | exc c =>
      by_cases ho : okc c = true
      · show Out.then (if okc c = true then _ else _) rest = Out.then (if okc c = true then _ else _) rest'
        rw [if_pos ho, if_pos ho]; exact h2 c ho
      · show Out.then (if okc c = true then _ else _) rest = Out.then (if okc c = true then _ else _) rest'
        rw [if_neg ho, if_neg ho]; rfl
  · rw [if_neg no, if_neg no]; rfl
theorem try_at {ca : Str → Addr} {okc : Str → Bool} {nx : D → Env → Env} {ρ : Env} (no : (ρ.all isData && decide (j < ρ.length)) = true) : tryS ca okc nx j r fa ρ = (match fa ρ with
  | .ok d => .nx (nx d ρ)
  | .exc c => if okc c = true then .nx ((ρ.set r (.exn c (ca c))).set j .no) else .bad
  | .bad => .bad) := if_pos no
theorem defG_len {n : Nat} {N : List Str} {F : Env → Out} {ds : List D} (h : defG n N F ds ≠ .bad) : ds.length = n := by
  unfold defG at h
  split at h
  · assumption
  · exact absurd rfl h
end
end DL
set_option maxRecDepth 100000
set_option maxHeartbeats 1000000
/-! a def that takes the script -/
namespace DL
open PySem L2
section
variable {C : Cx → Prop} {P : Program} {w : World} {K : PySem.W.Frag} {mg : Str → Option Value} {base : Heap} {k : Nat} {W : WX} {N : List Str} {sc : Scope}
variable {a b e tg iter elt : Expr} {es rest ifs : List Expr} {fa fb fc : Env → R D} {fs : Env → R (List D)} {pos p p1 p2 p3 : Pos} {x y : Str} {i j r : Nat} {ta tb : TE} {tt tu : TT} {tr : TA} {st : Stmt} {sts sts2 : List Stmt} {F G : Env → Out}
/-- how long the script is -/
def lenScr (i : Nat) : Env → R D := fun ρ => match ρ[i]? with
  | some (.scr ns) => .ok (.int ns.length)
  | _ => .bad
theorem de_lenScr (c : Cxs C P w K mg base k W N sc) (g : Gm sc "len") (m : mg "len" = none) (n : Nm N sc i x)
    (he : ∀ X, C X → starEach [.Name x p1] X.env = (false, eval (.Name x p1) X.env) :: starEach [] X.env := by intro _ _; rfl) (hpl : ∀ X, C X → (backTo pos (starEach [] X.env)).any (·.1) = false := by intro _ _; rfl) :
    DE C K mg W (.Call (.Name "len" p) [.Name x p1] [] pos) (lenScr i) := by
  refine ⟨tCB (rLenK K) (tCons (tVar i) tNil), fun X h => ?_, fun B0 H0 B H σ ρ Q gd wx q => ?_⟩
  · have e := c.hK X h
    subst e
    exact pe_callB call_len (g.gl c X h) (by rw [c.hmg X h]; exact m) boot_len (pa_cons (pe_var (by rw [c.hN X h]; exact n.at_) (by rw [c.hsc X h]; exact n.vis) n.d1 n.d2) pa_nil (he X h)) (by decide) g.d (he X h) (hpl X h)
  · unfold lenScr at wx
    cases e : ρ[i]? with
    | none => rw [e] at wx; exact wx.elim
    | some s =>
      cases s with
      | scr ns =>
        obtain ⟨ad, h1, h2⟩ := gd.slots i _ e
        refine ⟨_, h1, .ref ad, _, rfl, .inl ⟨ns.map V.int, gd.sub.seq h2, rfl⟩, q _ B H _ ?_ (Gr.refl gd.sub) (.int _)⟩
        unfold lenScr; rw [e, List.length_map]
      | _ => rw [e] at wx; exact wx.elim
/-- a cell of the script -/
def ixScr (i : Nat) (fb : Env → R D) : Env → R D := fun ρ => match ρ[i]? with
  | some (.scr ns) => (fb ρ).bind fun d => ixD (.list (ns.map .int)) d
  | _ => .bad
theorem de_ixScr (c : Cxs C P w K mg base k W N sc) (n : Nm N sc i x) (hb : DE C K mg W b fb) (hs : PlainIx b := by intro _ _; rfl) : DE C K mg W (.Subscript (.Name x p1) b pos) (ixScr i fb) := by
  obtain ⟨tb, pb, vb⟩ := hb
  refine ⟨_, fun X h => pe_ix (r := rIx K) (by have e := c.hK X h; subst e; exact ix_seq) (pe_var (by rw [c.hN X h]; exact n.at_) (by rw [c.hsc X h]; exact n.vis) n.d1 n.d2) (pb X h) hs, fun B0 H0 B H σ ρ Q gd wx q => ?_⟩
  unfold ixScr at wx
  cases e : ρ[i]? with
  | none => rw [e] at wx; exact wx.elim
  | some s =>
    cases s with
    | scr ns =>
      rw [e] at wx
      have wx : Wx mg W H0 σ ((fb ρ).bind fun d => ixD (.list (ns.map .int)) d) := wx
      obtain ⟨ad, h1, h2⟩ := gd.slots i _ e
      refine ⟨_, h1, vb B0 H0 B H σ ρ _ gd wx.of_bind fun d B1 H1 v e1 g1 r1 => ?_⟩
      have w1 := wx.then e1
      cases d with
      | int z =>
        cases r1
        cases ea : atI (ns.map PyData.int) z with
        | none =>
          have : ixD (.list (ns.map .int)) (.int z) = .bad := by unfold ixD; simp only [ea]
          rw [this] at w1; exact w1.elim
        | some d =>
          obtain ⟨v, k1, k2⟩ := atI_rp (RpA.ofInts (B := B1) ns) ea
          refine .inl ⟨ad, ns.map V.int, z, v, rfl, rfl, (g1.b.trans g1.s).seq h2, k1, q d B1 H1 v ?_ g1 k2⟩
          unfold ixScr
          rw [e]
          show (fb ρ).bind (fun d => ixD (.list (ns.map .int)) d) = _
          exact (bind_eq e1).trans (ixD_l ea)
      | _ => exact w1.elim
    | _ => rw [e] at wx; exact wx.elim
def spS (K : PySem.W.Frag) (g : List Int → D → R D) : Sp := fun vs H Q _ => ∃ (ad : Addr) (v : V) (ns : List Int) (d t : D) (B : Hp), vs = [.ref ad, v] ∧ Same B H ∧ SqL K B ad (ns.map V.int) ∧ Rp B v d ∧ g ns d = .ok t ∧ ∀ B' H' u, Gr B H B' H' → Rp B' u t → Q u H'
structure FnS (P : Program) (w : World) (K : PySem.W.Frag) (mg : Str → Option Value) (base : Heap) (k : Nat) (x : Str) (g : List Int → D → R D) : Prop where
  ex : ∃ (f : Addr) (fd : FuncData) (ps : List Str), FnOk P w K mg base (L2.CX P w) k f fd ps (spS K g) ∧ mg x = some (.ref f) ∧ PySem.W.keepIn K (.ref f) = true ∧ Binds K fd ps []
theorem FnS.mono {j k : Nat} {g : List Int → D → R D} (F : FnS P w K mg base j x g) (h : j ≤ k) : FnS P w K mg base k x g :=
  let ⟨f, fd, ps, h1, h2⟩ := F.ex
  ⟨⟨f, fd, ps, h1.mono h, h2⟩⟩
def callS (g : List Int → D → R D) (i : Nat) (fb : Env → R D) : Env → R D := fun ρ => match ρ[i]? with
  | some (.scr ns) => (fb ρ).bind fun d => match g ns d with
    | .ok t => .ok t
    | _ => .bad
  | _ => .bad
theorem de_callS {j' : Nat} {g : List Int → D → R D} (c : Cxs C P w K mg base k W N sc) (F : FnS P w K mg base j' y g) (hj : j' ≤ k) (gy : Gm sc y) (n : Nm N sc i x) (hb : DE C K mg W b fb)
    (he : ∀ X, C X → starEach [.Name x p1, b] X.env = (false, eval (.Name x p1) X.env) :: starEach [b] X.env := by intro _ _; rfl) (he2 : ∀ X, C X → starEach [b] X.env = (false, eval b X.env) :: starEach [] X.env := by intro _ _; rfl) (hpl : ∀ X, C X → (backTo pos (starEach [b] X.env)).any (·.1) = false := by intro _ _; rfl) :
    DE C K mg W (.Call (.Name y p) [.Name x p1, b] [] pos) (callS g i fb) := by
  obtain ⟨tb, pb, vb⟩ := hb
  obtain ⟨f, fd, ps, h1, h2, h3, h4⟩ := F.ex
  refine ⟨tCallS (spS K g) (WE W) (tCons (tVar i) (tCons tb tNil)), fun X h => ?_, fun B0 H0 B H σ ρ Q gd wx q => ?_⟩
  · have c1 := c.hP X h; have c2 := c.hw X h; have c3 := c.hK X h; have c4 := c.hmg X h; have c5 := c.hbase X h
    subst c1 c2 c3 c4 c5
    exact pe_callS h1 ((c.room X h).mono hj) (gy.gl c X h) h2 h3 h4 (fun σ => passAt (c.takes X h) σ) (pa_cons (pe_var (by rw [c.hN X h]; exact n.at_) (by rw [c.hsc X h]; exact n.vis) n.d1 n.d2) (pa_cons (pb X h) pa_nil (he2 X h)) (he X h)) gy.d (he X h) (hpl X h)
  · unfold callS at wx
    cases e : ρ[i]? with
    | none => rw [e] at wx; exact wx.elim
    | some s =>
      cases s with
      | scr ns =>
        rw [e] at wx
        have wx : Wx mg W H0 σ ((fb ρ).bind fun d => match g ns d with | .ok t => R.ok t | _ => .bad) := wx
        obtain ⟨ad, k1, k2⟩ := gd.slots i _ e
        refine ⟨_, k1, vb B0 H0 B H σ ρ _ gd wx.of_bind fun d B1 H1 v e1 g1 r1 => ?_⟩
        have w1 := wx.then e1
        cases eg : g ns d with
        | ok t =>
          refine ⟨ad, v, ns, d, t, B1, rfl, g1.s, g1.b.seq k2, r1, eg, fun B' H' u g2 r2 => q t B' H' u ?_ (g1.trans g2) r2⟩
          unfold callS
          rw [e]
          show (fb ρ).bind (fun d => match g ns d with | .ok t => R.ok t | _ => .bad) = _
          refine (bind_eq e1).trans ?_
          rw [eg]
        | bad => rw [eg] at w1; exact w1.elim
        | exc _ => rw [eg] at w1; exact w1.elim
      | _ => rw [e] at wx; exact wx.elim
theorem fnS_def {x' qual y' : Str} {st : Stmt} {f : Addr} {fd : FuncData} {N : List Str} {F : Env → Out} {g : List Int → D → R D} (Fu : L2.Fun K x' qual st f fd) (S : FnScope N [y, y'] (defScope st)) (gx : mg x = some (.ref f)) (hb : Binds K fd [y, y'] [])
    (bd : ∀ (cdv : Value) (A : Around) (outer : List PySem.Env) (s : Shared) (H : Hp) (E : XK), Room k (A.deeper (PyProof.Rows.envOfC qual (defScope st) s.heap.objs.size f cdv)) →
      DSs (· = cxD P w K mg base N qual (defScope st) f cdv A outer s H E) K mg (fun cls d _ H => E cls d H) (defBody st) F)
    (ok : ∀ ns d t, g ns d = .ok t → defR (F (.scr ns :: .dat d :: List.replicate (N.length - 2) .no)) = .ok t) : FnS P w K mg base (k + 1) x g := by
  refine ⟨⟨f, fd, [y, y'], Fu.okX S (fun vs H Q E h => by obtain ⟨_, _, _, _, _, _, h, _⟩ := h; rw [h]; rfl) (fun cdv A outer s H vs Q E hr h => ?_), gx, Fu.kp, hb⟩⟩
  obtain ⟨ad, v, ns, d, t', B, rfl, sB, hS, rv, eg, h2⟩ := h
  obtain ⟨t, p, ev⟩ := bd cdv A outer s H E hr
  have b2 := ok ns d t' eg
  have hpl : 2 ≤ N.length := by have := congrArg List.length S.pre; rw [List.length_take] at this; simp at this; omega
  have gd : Gd K B H B H (L2.start N [.ref ad, v]) (.scr ns :: .dat d :: List.replicate (N.length - 2) .no) := by
    refine ⟨sB, sB, Same.refl _, fun _ _ _ => rfl, by unfold L2.start; simp, fun i s e => ?_, fun i j xs ys b e1 _ o1 _ => ?_⟩
    · match i with
      | 0 => cases e; exact ⟨ad, rfl, hS⟩
      | 1 => cases e; exact ⟨v, rfl, rv⟩
      | i + 2 =>
        rw [List.getElem?_cons_succ, List.getElem?_cons_succ, List.getElem?_replicate] at e
        split at e <;> cases e
        exact True.intro
    · match i with
      | 0 => cases e1; exact o1.elim
      | 1 => cases e1; exact o1.elim
      | i + 2 =>
        rw [List.getElem?_cons_succ, List.getElem?_cons_succ, List.getElem?_replicate] at e1
        split at e1 <;> cases e1
        exact o1.elim
  refine ⟨t, p _ rfl, ev B H B H _ _ _ gd ?_⟩
  cases eF : F (.scr ns :: .dat d :: List.replicate (N.length - 2) .no) with
  | bad => rw [eF] at b2; cases b2
  | bk ρ => rw [eF] at b2; cases b2
  | ct ρ => rw [eF] at b2; cases b2
  | nx ρ => rw [eF] at b2; cases b2; exact fun B' H' σ' s1 gd => h2 B' H' .non ⟨s1, gd.sub, gd.old, gd.oldB⟩ .non
  | rt d' => rw [eF] at b2; cases b2; exact fun B' H' v' s1 s2 s3 s4 r => h2 B' H' v' ⟨s1, s2, s3, s4⟩ r
  | exc c => rw [eF] at b2; cases b2
end
section
variable {ρ : Env} {ns : List Int} {n : Nat} {s : Sl} {fb : Env → R D}
@[simp] theorem lenScr_z : lenScr 0 (.scr ns :: ρ) = .ok (.int ns.length) := nrfl rfl
theorem ixScr_z : ixScr 0 fb (.scr ns :: ρ) = (fb (.scr ns :: ρ)).bind fun d => ixD (.list (ns.map .int)) d := nrfl rfl
theorem callS_z {g : List Int → D → R D} : callS g 0 fb (.scr ns :: ρ) = (fb (.scr ns :: ρ)).bind fun d => match g ns d with
    | .ok t => .ok t
    | _ => .bad := nrfl rfl
end
end DL
set_option maxRecDepth 100000
set_option maxHeartbeats 1000000
namespace DL
open PySem L2
section
variable {C : Cx → Prop} {P : Program} {w : World} {K : PySem.W.Frag} {mg : Str → Option Value} {base : Heap} {k : Nat} {W : WX} {N : List Str} {sc : Scope}
variable {a b e tg iter elt : Expr} {es rest ifs : List Expr} {fa fb fc : Env → R D} {fs : Env → R (List D)} {pos p p1 p2 p3 : Pos} {x y : Str} {i j r : Nat} {ta tb : TE} {tt tu : TT} {tr : TA} {st : Stmt} {sts sts2 : List Stmt} {F G : Env → Out}
/-! ### x[b] = a -/
theorem RpA.setAt {B : Hp} {v : V} {d : D} : ∀ {xs : List V} {ds : List D} (n : Nat), RpA B xs ds → Rp B v d → RpA B (xs.set n v) (ds.set n d)
  | _, _, _, .nil, _ => .nil
  | _, _, 0, .cons _ t, r => .cons r t
  | _, _, n + 1, .cons h t, r => .cons h (RpA.setAt n t r)
def stIx (i : Nat) (fa fb : Env → R D) : Env → Out := fun ρ => (rdO i ρ).out fun ds => (fa ρ).out fun v => (fb ρ).out fun d => match d with
  | .int z => match ixN ds.length z with
    | some j => .nx (ρ.set i (.own (ds.set j v)))
    | none => .bad
  | _ => .bad
theorem ds_stIx (c : Cxs C P w K mg base k W N sc) (n : Nm N sc i x) (ha : DE C K mg W a fa) (hb : DE C K mg W b fb)
    (pg : ∀ (X : Cx) (t : TE), C X → PE X (.Name x p1) (tVar i) → PE X b t → PG X (.Subscript (.Name x p1) b p2) (gSub (tVar i) t rSetL))
    (hs : ∀ X, C X → swapsWithSole [.Subscript (.Name x p1) b p2] a pos.line X.env = pure false := by intro _ _; rfl) (hw : ∀ X, C X → swappedStores [.Subscript (.Name x p1) b p2] a X.env = pure none := by intro _ _; rfl)
    (h1 : ∀ X, C X → (assignEach [.Subscript (.Name x p1) b p2] X.env).map (·.2) = [assign (.Subscript (.Name x p1) b p2) X.env] := by intro _ _; rfl) : DS C K mg W (.Assign [.Subscript (.Name x p1) b p2] a pos) (stIx i fa fb) := by
  obtain ⟨ta, pa, va⟩ := ha; obtain ⟨tb, pb, vb⟩ := hb
  refine ⟨tAsg ta (gSub (tVar i) tb rSetL), fun X h => ps_asg (pa X h) (pg X tb h (pe_var (by rw [c.hN X h]; exact n.at_) (by rw [c.hsc X h]; exact n.vis) n.d1 n.d2) (pb X h)) (hs X h) (hw X h) (h1 X h), fun B0 H0 B H σ ρ E gd h => ?_⟩
  unfold stIx at h
  cases e1 : rdO i ρ with
  | bad => rw [e1] at h; exact h.elim
  | exc _ => unfold rdO at e1; split at e1 <;> cases e1
  | ok ds =>
    rw [e1] at h
    have eo := rdO_eq e1
    obtain ⟨l, vs, k1, k2, k3, k4, k5⟩ := gd.slots i _ eo
    refine va B0 H0 B H σ ρ _ gd (PostS.wx (f := fun v => _) h) fun v B1 H1 u e2 g1 r1 => ?_
    have h2 := PostS.ok (f := fun v => (fb ρ).out fun d => _) h e2
    refine ⟨_, k1, vb B0 H0 B1 H1 σ ρ _ (gd.grow g1) (PostS.wx (f := fun d => _) h2) fun d B2 H2 z e3 g2 r2 => ?_⟩
    have h3 := PostS.ok (f := fun d => _) h2 e3
    have g3 := g1.trans g2
    cases d with
    | int m =>
      cases r2
      cases e4 : ixN ds.length m with
      | none =>
        have h3 : PostS K mg W B0 H0 B E (match ixN ds.length m with | some j => Out.nx (ρ.set i (.own (ds.set j v))) | none => .bad) := h3
        rw [e4] at h3; exact h3.elim
      | some jj =>
        have h3 : PostS K mg W B0 H0 B E (match ixN ds.length m with | some j => Out.nx (ρ.set i (.own (ds.set j v))) | none => .bad) := h3
        rw [e4] at h3
        refine ⟨l, vs, m, jj, rfl, rfl, g3.h _ _ k2, by rw [k5.length]; exact e4, ?_⟩
        exact h3 B2 _ σ g3.b ((gd.grow g3).mut eo k1 ((k5.mono g3.b).setAt jj (r1.mono g2.b)))
    | _ => exact h3.elim
end
end DL
set_option maxRecDepth 100000
set_option maxHeartbeats 1000000
/-! a walk over a list or a tuple -/
namespace L2
open PySem PySem.Spec PyProof.Rows
def iAny (K : PySem.W.Frag) (tl : TE) : TI := fun σ H R => tl σ H fun x H1 => ∃ a, x = .ref a ∧ (((∃ xs, SqL K H1 a xs) ∧ R (Itl K a) H1) ∨ ((∃ xs, SqT K H1 a xs) ∧ R (Itt K a) H1))
theorem pi_any {X : Cx} {tg l : Expr} {tl : TE} (hl : PE X l tl) : PI X tg l (iAny X.K tl) := by
  refine ⟨fun pins s σ H R I hw => thn (hl.run pins s σ H _ I hw) fun v s1 hx => ?_⟩
  obtain ⟨x, H1, I1, r1, a, rfl, hq⟩ := hx
  cases r1
  have far : ∀ b ∈ [s1.heap.objs.size], b = s1.heap.objs.size := fun b hb => by simpa using hb
  rcases hq with ⟨⟨xs, hq⟩, q⟩ | ⟨⟨xs, hq⟩, q⟩
  · obtain ⟨its, rv, p, _⟩ := I1.list hq
    refine wpAny_pyIter_list p.isList ⟨s1.heap.objs.size, [s1.heap.objs.size], _, _, H1, rfl, I1.kept (t' := s1.toks) (fun _ _ z => Heap.get?_push_of_some _ z), turn_list a _, ⟨_, Heap.get?_push_size _ rfl, rfl, rfl⟩, fun b hb => ?_, q⟩
    rw [far b hb]; exact I1.fpOk (Nat.le_refl _) (I1.hok.fresh (Nat.le_refl _))
  · obtain ⟨its, rv, p, _⟩ := I1.tuple hq
    refine wpAny_pyIter_tuple (show s1.heap.IsTuple a its.toArray from p) ⟨s1.heap.objs.size, [s1.heap.objs.size], _, _, H1, rfl, I1.kept (t' := s1.toks) (fun _ _ z => Heap.get?_push_of_some _ z), turn_tuple a _, ⟨_, Heap.get?_push_size _ rfl, rfl, rfl⟩, fun b hb => ?_, q⟩
    rw [far b hb]; exact I1.fpOk (Nat.le_refl _) (I1.hok.fresh (Nat.le_refl _))
/-! t[::-1], t a tuple -/
theorem rev_pick {α : Type} (xs : List α) : (List.range xs.length).filterMap (fun (m : Nat) => xs.toArray[((xs.length : Int) - 1 + (m : Int) * (-1)).toNat]?) = xs.reverse := by
  refine List.ext_getElem? fun j => ?_
  have hall : ∀ n, n ≤ xs.length → (List.range n).filterMap (fun (m : Nat) => xs.toArray[((xs.length : Int) - 1 + (m : Int) * (-1)).toNat]?) = xs.reverse.take n := by
    intro n
    induction n with
    | zero => intro _; rfl
    | succ n ih =>
      intro hn
      rw [List.range_succ, List.filterMap_append, ih (by omega), List.take_add_one]
      congr 1
      have e1 : ((xs.length : Int) - 1 + (n : Int) * (-1)).toNat = xs.length - 1 - n := by omega
      rw [List.getElem?_reverse (by omega)]
      simp only [List.filterMap_cons, List.filterMap_nil, e1, List.getElem?_toArray]
      cases xs[xs.length - 1 - n]? <;> rfl
  rw [hall _ (Nat.le_refl _), ← List.length_reverse, List.take_length]
theorem getItem_tuple_rev {prog : Program} {w : World} {A : Around} {E : Value → Shared → Prop} {s : Shared} {t sl : Addr} {items : List Value} {u : Tok} {Q : Value → Shared → Prop} (ht : IsTup s.heap t items.toArray) (hs : s.heap.IsSliceOf sl .none .none (.int (-1) u)) (hsz : items.length ≤ sizeLine)
    (h : Q (.ref s.heap.objs.size) { s with heap := s.heap.push { cls := .type "tuple", data := .seq items.reverse.toArray } }) : wpAny (model prog w) A (getItem (.ref t) (.ref sl)) Q E s := by
  have hfit : sizeOk (.seq items.reverse.toArray) := by
    show items.reverse.toArray.size ≤ sizeLine
    rw [List.size_toArray, List.length_reverse]; exact hsz
  obtain ⟨os, k1, k2, k3⟩ := id hs
  have hty : s.TypeIs (.ref sl) "slice" := ⟨os, k1, k2⟩
  unfold getItem
  try with_reducible refine wpAny_holding ?_
  first | refine wpAny_bind (wpAny_pure ?_) | skip
  refine wpAny_bind (wpAny_sequenceKey ht.typeIs (by decide) ?_)
  refine wpAny_bind (wpAny_callSpecial?_slot (name := Str.ofString "__getitem__") ht.typeIs PyProof.Rows.slot_tuple_getitem (wpAny_call_entry PyProof.Rows.slot_tuple_getitem ht.typeIs entry_tuple_getitem ?_ (args_tuple_getitem _ _)))
  show wpAny _ _ (Builtin.Tuple.tupleItemsOf (.ref t) >>= _) _ _ s
  refine wpAny_bind (tupleItemsOf_ ht (wpAny_bind (wpAny_typeOf hty ?_)))
  rw [if_pos (by decide)]
  have app : ∀ {R : Int × Int × Nat → Shared → Prop}, R ((items.length : Int) - 1, -1, items.length) s → wpAny (model prog w) A.in1 (Builtin.Slice.sliceApplied (.ref sl) (pure (items.toArray.size : Int))) R E s := fun {R} r => by
    unfold Builtin.Slice.sliceApplied Builtin.Slice.sliceFields
    refine wpAny_bind (wpAny_bind (wpAny_field k1 k3 (x := .none) rfl (wpAny_bind (wpAny_field k1 k3 (x := .none) rfl (wpAny_bind (wpAny_field k1 k3 (x := .int (-1) u) rfl (wpAny_pure ?_)))))))
    refine wpAny_bind (slicePart_int ?_)
    show wpAny _ _ (if ((-1 : Int) == 0) = true then _ else _) _ _ s
    rw [if_neg (by decide)]
    refine wpAny_bind (slicePart_none (wpAny_bind (slicePart_none (wpAny_bind (wpAny_pure ?_)))))
    refine wpAny_pure ?_
    have e : Builtin.Slice.slicePlaces ((items.toArray.size : Int) - 1) (-1) (-1) = items.length := by
      unfold Builtin.Slice.slicePlaces
      rw [if_neg (by decide), List.size_toArray]
      by_cases z : (items.length : Int) - 1 > -1
      · rw [if_pos z, show -(-1 : Int) = 1 from rfl, Int.ediv_one]; omega
      · rw [if_neg z]; omega
    show R ((items.toArray.size : Int) - 1, -1, Builtin.Slice.slicePlaces ((items.toArray.size : Int) - 1) (-1) (-1)) s
    rw [e, List.size_toArray]; exact r
  refine wpAny_bind (app ?_)
  show wpAny _ _ (if (((items.length : Int) - 1) == 0 && (-1 : Int) == 1 && _) = true then _ else _) _ _ s
  rw [if_neg (by rw [show ((-1 : Int) == 1) = false from rfl, Bool.and_false, Bool.false_and]; exact Bool.false_ne_true)]
  have pk : ((List.range items.length).filterMap fun (m : Nat) => items.toArray[((items.length : Int) - 1 + (m : Int) * (-1)).toNat]?).toArray = items.reverse.toArray := by rw [rev_pick]
  rw [pk]
  first
    | exact wpAny_bind (m := Builtin.Tuple.tupleExact _) (wpAny_newObj_type (wpAny_pure ⟨_, rfl, wpAny_pure h⟩) hfit)
    | exact wpAny_bind (m := Builtin.Tuple.tupleExact _) (wpAny_newObj_type (wpAny_bind (wpAny_pure (wpAny_pure ⟨_, rfl, wpAny_pure h⟩))) hfit)
    | exact wpAny_bind (wpAny_bind (m := Builtin.Tuple.tupleExact _) (wpAny_newObj_type (wpAny_pure (wpAny_pure ⟨_, rfl, wpAny_pure h⟩)) hfit))
    | exact wpAny_bind (wpAny_bind (m := Builtin.Tuple.tupleExact _) (wpAny_newObj_type (wpAny_pure ⟨_, rfl, wpAny_pure h⟩) hfit))
def tRevT (K : PySem.W.Frag) (te : TE) : TE := fun σ H Q => te σ H fun x H1 => ∃ a xs, x = .ref a ∧ SqT K H1 a xs ∧ ∀ p, H1 p = none → Q (.ref p) (upd H1 p (.tup xs.reverse))
theorem pe_revT {X : Cx} {e : Expr} {te : TE} {k : Nat} {p1 p2 p3 pos : Pos} (he : PE X e te) : PE X (.Subscript e (.Slice none none (some (.UnaryOp .USub (.Constant (.int 1) k p1) p2)) p3) pos) (tRevT X.K te) := by
  refine ⟨fun pins s σ H Q I hw => Subscript_ (thn (he.run pins s σ H _ I hw) fun v s1 hx => ?_)⟩
  obtain ⟨x, H1, I1, r1, a, xs, rfl, hq, q⟩ := hx
  cases r1
  have step : PO X (some (.UnaryOp .USub (.Constant (.int 1) k p1) p2)) (tPart (tUn (rU fun i => .int (-i)) (tC (.int 1)))) := po_some (pe_un un_neg pe_int)
  refine wpAny_Slice (thn (po_none.run pins s1 σ H1 (fun o H2 => o = none ∧ H2 = H1) I1 ⟨rfl, rfl⟩) fun v1 s2 ⟨o1, H2, I2, q1, z1, z2⟩ => ?_)
  subst z1 z2
  refine thn (po_none.run pins s2 σ H2 (fun o H3 => o = none ∧ H3 = H2) I2 ⟨rfl, rfl⟩) fun v2 s3 ⟨o2, H3, I3, q2, z1, z2⟩ => ?_
  subst z1 z2
  refine thn (step.run pins s3 σ H3 (fun o H4 => o = some (-1) ∧ H4 = H3) I3 ⟨1, rfl, -1, rfl, rfl, rfl⟩) fun v3 s4 ⟨o3, H4, I4, q3, z1, z2⟩ => ?_
  subst z1 z2
  cases q1; cases q2
  cases q3 with
  | int _ tk =>
    have I5 : Inv X pins σ H4 { s4 with heap := s4.heap.push { cls := .type "slice", data := .fields #[.none, .none, .int (-1) tk] } } := I4.kept (t' := s4.toks) fun b ob z => Heap.get?_push_of_some _ z
    obtain ⟨its, r, ht, hz⟩ := I5.tuple hq
    have hlen := r.length
    show wpAny (model X.prog X.w) X.A (subscriptTail e (.Slice none none (some (.UnaryOp .USub (.Constant (.int 1) k p1) p2)) p3) (.ref a) (.ref s4.heap.objs.size)) (EP X pins σ Q) X.xe { s4 with heap := s4.heap.push { cls := .type "slice", data := .fields #[.none, .none, .int (-1) tk] } }
    refine tail_any (ops := [.ref a, .ref s4.heap.objs.size]) ht.typeIs (PyProof.Rows.slot_tuple_getitem.lookup) ?_ (by with_unfolding_all rfl)
    refine getItem_tuple_rev ht (Heap.IsSliceOf.new _ .none .none (.int (-1) tk)) (by omega) ?_
    refine ⟨.ref _, _, I5.laid (t' := s4.toks) (o := .tup xs.reverse) (fun b ob z => Heap.get?_push_of_some _ z) (Nat.le_refl _) ?_, rfl, q _ (I5.hok.fresh (Nat.le_refl _))⟩
    exact ⟨by rw [List.length_reverse]; exact hz, its.reverse, r.reverse, ⟨_, Heap.get?_push_size _ rfl, rfl, _, rfl⟩⟩
end L2
namespace DL
open PySem L2
section
variable {C : Cx → Prop} {P : Program} {w : World} {K : PySem.W.Frag} {mg : Str → Option Value} {base : Heap} {k : Nat} {W : WX} {N : List Str} {sc : Scope}
variable {a b e tg iter elt : Expr} {fa fb fc : Env → R D} {pos p p1 p2 p3 : Pos} {x y : Str} {i j r : Nat}
def itemsA : D → R (List D)
  | .list ds => .ok ds
  | .tuple ds => .ok ds
  | _ => .bad
theorem di_any (c : Cxs C P w K mg base k W N sc) (ha : DE C K mg W a fa) : DI C K mg W tg a (fun ρ => (fa ρ).bind itemsA) := by
  obtain ⟨ta, pa, va⟩ := ha
  refine ⟨iAny K ta, fun X h => by have e := c.hK X h; subst e; exact pi_any (pa X h), fun B0 H0 B H σ ρ Rr gd wx q => ?_⟩
  refine va B0 H0 B H σ ρ _ gd wx.of_bind fun d B1 H1 v e1 g1 r1 => ?_
  have w1 := wx.then e1
  have e0 : (fa ρ).bind itemsA = _ := bind_eq e1
  cases r1 with
  | @lst p xs ds hp ax => exact ⟨p, rfl, .inl ⟨⟨xs, SqL.of (g1.s _ _ hp)⟩, q ds B1 H1 _ e0 g1 (walk_list hp ax)⟩⟩
  | @tup p xs ds hp ax => exact ⟨p, rfl, .inr ⟨⟨xs, SqT.of (g1.s _ _ hp)⟩, q ds B1 H1 _ e0 g1 (walk_tup hp ax)⟩⟩
  | _ => exact w1.elim
def revT : D → R D
  | .tuple ds => .ok (.tuple ds.reverse)
  | _ => .bad
theorem de_revT {kk : Nat} {q1 q2 q3 : Pos} (c : Cxs C P w K mg base k W N sc) (ha : DE C K mg W a fa) : DE C K mg W (.Subscript a (.Slice none none (some (.UnaryOp .USub (.Constant (.int 1) kk q1) q2)) q3) pos) (fun ρ => (fa ρ).bind revT) := by
  obtain ⟨ta, pa, va⟩ := ha
  refine ⟨tRevT K ta, fun X h => by have e := c.hK X h; subst e; exact pe_revT (pa X h), fun B0 H0 B H σ ρ Q gd wx q => ?_⟩
  refine va B0 H0 B H σ ρ _ gd wx.of_bind fun d B1 H1 v e1 g1 r1 => ?_
  have w1 := wx.then e1
  cases r1 with
  | @tup p xs ds hp ax =>
    refine ⟨p, xs, rfl, SqT.of (g1.s _ _ hp), fun l hl => ?_⟩
    have gn := Gr.new (p := l) (o := .tup xs.reverse) g1.s hl
    exact q (.tuple ds.reverse) _ _ _ (bind_eq e1) (g1.trans gn) (.tup upd_same (ax.reverse.mono gn.b))
  | _ => exact w1.elim
@[simp] theorem revT_t {ds : List D} : revT (.tuple ds) = .ok (.tuple ds.reverse) := nrfl rfl
@[simp] theorem itemsA_l {ds : List D} : itemsA (.list ds) = .ok ds := nrfl rfl
@[simp] theorem itemsA_t {ds : List D} : itemsA (.tuple ds) = .ok ds := nrfl rfl
end
end DL
set_option maxRecDepth 100000
set_option maxHeartbeats 1000000
/-! order of data, sorted data, index, zip, in a tuple of lists -/
namespace DL
open PySem L2 PySem.W RZ
section
variable {X : Cx}
/-! ### x < y -/
def rLtA (K : PySem.W.Frag) : R2 := fun x y H Q => ∃ d e, Dp K H x d ∧ Dp K H y e ∧ alike d e = true ∧ d ≠ .none ∧ d.depth ≤ 60 ∧ Q (.bl (dataLt d e)) H
theorem op_ltA (hu : X.A.units + 65 < cLine) : OpR X (compareOp .Lt) (rLtA X.K) := by
  intro pins s σ H x y v u Q I rx ry h
  obtain ⟨d, e, hd, he, al, nn, dp, q⟩ := h
  obtain ⟨as, r1⟩ := Dp.reads I d x v hd rx
  obtain ⟨bs, r2⟩ := Dp.reads I e y u he ry
  exact lt_data r1 r2 al nn (by omega) ⟨.bl _, H, I, rfl, q⟩
def ltAD (x y : D) : R D := if noDict x = true ∧ noDict y = true ∧ alike x y = true ∧ isNoneD x = false ∧ x.depth ≤ 60 then .ok (.bool (dataLt x y)) else .bad
/-! ### x in (.., ..) -/
def rInT (n : Bool) (K : PySem.W.Frag) : R2 := fun x y H Q => ∃ d ds, Dp K H x d ∧ Dp K H y (.tuple ds) ∧ SeqAt.shaped d = true ∧ SeqAt.shaped (.tuple ds) = true ∧ Q (.bl (if n then !ds.any fun z => PyData.eqv z d else ds.any fun z => PyData.eqv z d)) H
theorem shaped_room {d : D} {ds : List D} {u : Nat} (sd : SeqAt.shaped d = true) (hu : u + 65 < cLine) : u + 1 + min (PyData.depthAll ds) d.depth < cLine := by
  unfold SeqAt.shaped at sd
  simp only [Bool.and_eq_true, decide_eq_true_eq] at sd
  omega
theorem op_inT (hu : X.A.units + 65 < cLine) : OpR X (compareOp .In) (rInT false X.K) := by
  intro pins s σ H x y v u Q I rx ry h
  obtain ⟨d, ds, hd, he, sd, se, q⟩ := h
  obtain ⟨as, r1⟩ := Dp.reads I d x v hd rx
  obtain ⟨bs, r2⟩ := Dp.reads I (.tuple ds) y u he ry
  exact SeqAt.in_tuple_reads r2 r1 (SeqAt.canLay_of_shaped se) (SeqAt.canLay_of_shaped sd) (shaped_room sd hu) ⟨.bl _, H, I, rfl, q⟩
theorem op_notInT (hu : X.A.units + 65 < cLine) : OpR X (compareOp .NotIn) (rInT true X.K) := by
  intro pins s σ H x y v u Q I rx ry h
  obtain ⟨d, ds, hd, he, sd, se, q⟩ := h
  obtain ⟨as, r1⟩ := Dp.reads I d x v hd rx
  obtain ⟨bs, r2⟩ := Dp.reads I (.tuple ds) y u he ry
  exact SeqAt.notIn_tuple_reads r2 r1 (SeqAt.canLay_of_shaped se) (SeqAt.canLay_of_shaped sd) (shaped_room sd hu) ⟨.bl _, H, I, rfl, q⟩
def inTD (n : Bool) (x y : D) : R D := match y with
  | .tuple ds => if SeqAt.shaped x = true ∧ SeqAt.shaped (.tuple ds) = true then .ok (.bool (if n then !ds.any fun z => PyData.eqv z x else ds.any fun z => PyData.eqv z x)) else .bad
  | _ => .bad
/-! ### sorted -/
def sortV2 {α : Type} (rev : Bool) (xs : List α) (ds : List D) : List α := ((xs.zip ds).mergeSort (dataLe rev fun p : α × D => p.2)).map (·.1)
theorem sortV2_length {α : Type} {rev : Bool} {xs : List α} {ds : List D} (h : ds.length = xs.length) : (sortV2 rev xs ds).length = xs.length := by
  unfold sortV2
  rw [List.length_map, (List.mergeSort_perm _ _).length_eq, List.length_zip, h, Nat.min_self]
def tupC : D → Bool
  | .tuple (_ :: _) => true
  | _ => false
def othC : D → Bool
  | .tuple _ => false
  | .none => false
  | _ => true
def sortOk (ds : List D) : Bool := (ds.all fun a => ds.all fun b => alike a b) && (ds.all tupC || ds.all othC) && ds.all fun d => noDict d && decide (d.depth ≤ 60)
theorem sortOk_is {ds : List D} (h : sortOk ds = true) : AllAlike ds ∧ Sortable ds ∧ ∀ d ∈ ds, noDict d = true ∧ d.depth ≤ 60 := by
  unfold sortOk at h
  simp only [Bool.and_eq_true, Bool.or_eq_true, List.all_eq_true, decide_eq_true_eq] at h
  obtain ⟨⟨h1, h2⟩, h3⟩ := h
  refine ⟨fun d hd e he => h1 d hd e he, ?_, h3⟩
  rcases h2 with h2 | h2
  · refine .inl fun d hd => ?_
    have := h2 d hd
    unfold tupC at this
    split at this
    · exact ⟨_, _, rfl⟩
    · cases this
  · refine .inr fun d hd => ?_
    have := h2 d hd
    unfold othC at this
    split at this
    · cases this
    · cases this
    · rename_i n1 n2
      exact ⟨n2, fun xs => n1 xs⟩
def rSortedA (rev : Bool) (K : PySem.W.Frag) (vs : List V) (H : Hp) (Q : VK) : Prop := ∃ (a : Addr) (xs : List V) (ds : List D), vs = [V.ref a] ∧ SqL K H a xs ∧ DpAll K H xs ds ∧ sortOk ds = true ∧
  ∀ p : Addr, H p = none → Q (.ref p) (upd H p (.lst (sortV2 rev xs ds)))
theorem dpAll_len {K : PySem.W.Frag} {H : Hp} : ∀ {vs : List V} {ds : List D}, DpAll K H vs ds → vs.length = ds.length
  | _, _, .nil => rfl
  | _, _, .cons _ r => by rw [List.length_cons, List.length_cons, dpAll_len r]
theorem dpAll_zip {K : PySem.W.Frag} {H : Hp} : ∀ {vs : List V} {ds : List D}, DpAll K H vs ds → ∀ p ∈ vs.zip ds, Dp K H p.1 p.2
  | _, _, .nil, p, h => by simp at h
  | _, _, .cons a r, p, h => by
    rw [List.zip_cons_cons] at h
    rcases List.mem_cons.1 h with rfl | h
    · exact a
    · exact dpAll_zip r p h
theorem vals_zip {xs : List V} {its : List Value} {ds : List D} (rv : Vals xs its) (hl : ds.length = xs.length) : EachIs (fun v (p : V × D) => RelV p.1 v) its (xs.zip ds) := by
  have hxi : xs.length = its.length := rv.length
  refine EachIs.of_zip (by rw [List.length_zip, hl, Nat.min_self, hxi]) fun p hp => ?_
  obtain ⟨i, hi⟩ := List.getElem?_of_mem hp
  rw [List.getElem?_zip_eq_some] at hi
  obtain ⟨h1, h2⟩ := hi
  rw [List.getElem?_zip_eq_some] at h2
  obtain ⟨u, e, r⟩ := rv.get h2.1
  rw [h1] at e; cases e
  exact r
theorem each_vals {l : List Value} {m : List (V × D)} (e : EachIs (fun v (p : V × D) => RelV p.1 v) l m) : Vals (m.map (·.1)) l := by
  induction e with
  | nil => exact .nil
  | cons r _ ih => exact .cons r ih
theorem each_both {α β : Type} {R S T : α → β → Prop} (h : ∀ a b, R a b → S a b → T a b) : ∀ {l : List α} {m : List β}, EachIs R l m → EachIs S l m → EachIs T l m
  | _, _, .nil, .nil => .nil
  | _, _, .cons a r, .cons b s => .cons (h _ _ a b) (each_both h r s)
theorem sorted_reads {pins : List (Addr × Obj)} {s : Shared} {σ : St} {H : Hp} {xs : List V} {its : List Value} {ds : List D} (I : Inv X pins σ H s) (rv : Vals xs its) (hd : DpAll X.K H xs ds) :
    EachIs (fun v (p : V × D) => ∃ as, Reads s.heap v p.2 as) its (xs.zip ds) := by
  have hl := dpAll_len hd
  have e1 := vals_zip rv hl.symm
  have e2 : EachIs (fun (_ : Value) (p : V × D) => Dp X.K H p.1 p.2) its (xs.zip ds) := EachIs.of_zip (by rw [List.length_zip, hl, Nat.min_self, ← hl]; exact rv.length.symm) fun p hp => dpAll_zip hd _ (List.of_mem_zip hp).2
  exact each_both (fun v p r d => Dp.reads I p.2 p.1 v d r) e1 e2
theorem cr_sortedA (hu : X.A.units + 65 < cLine) : CallR X (.builtin "sorted") (rSortedA false X.K) := by
  intro pins s σ H vs us Q I r h
  obtain ⟨a, xs, ds, rfl, hs, hd, ok, q⟩ := h
  obtain ⟨its, rv, hl, hz⟩ := I.list hs
  rw [Vals.ref1 r]
  obtain ⟨k1, k2, k3⟩ := sortOk_is ok
  have hlen := dpAll_len hd
  have ez : (xs.zip ds).map (fun p : V × D => p.2) = ds := List.map_snd_zip (by omega)
  refine sorted_data (bs := xs.zip ds) (enc := fun p : V × D => p.2) hl.isList (vals_zip rv hlen.symm) (sorted_reads I rv hd) (by rw [ez]; exact k1) (by rw [ez]; exact k2) (by rw [List.length_zip]; omega)
    (fun p hp => ?_) fun out ho e => ?_
  · have := k3 p.2 (List.of_mem_zip hp).2
    omega
  · obtain ⟨ep, he'⟩ := PyProof.Rows.sortedAll_at s.heap its out.toArray
    have hle : (sortV2 false xs ds).length ≤ sizeLine := by rw [sortV2_length hlen.symm]; exact hz
    exact ⟨.ref _, upd H (s.heap.objs.size + 1) (.lst (sortV2 false xs ds)), I.laid (t' := s.toks) (fun _ _ => PyProof.Rows.sortedAll_old) (Nat.le_succ _) ⟨hle, out, ep, each_vals e, he'⟩, rfl, q _ (I.hok.fresh (Nat.le_succ _))⟩
/-- the order of data -/
abbrev leD' (rev : Bool) : D → D → Bool := dataLe rev fun d : D => d
theorem rpa_sort2 {rev : Bool} {B : Hp} {xs : List V} {ds : List D} (r : RpA B xs ds) : RpA B (sortV2 rev xs ds) (ds.mergeSort (leD' rev)) := by
  have hl := r.length
  have e1 : ds.mergeSort (leD' rev) = ((xs.zip ds).mergeSort (dataLe rev fun p : V × D => p.2)).map (·.2) := by
    rw [List.map_mergeSort (r := dataLe rev fun p : V × D => p.2) (s := leD' rev) (f := fun p : V × D => p.2) (fun a _ b _ => rfl), List.map_snd_zip (by omega)]
  rw [e1]
  unfold sortV2
  have h4 : ∀ q ∈ (xs.zip ds).mergeSort (dataLe rev fun p : V × D => p.2), Rp B q.1 q.2 := fun q hq => by
    have hm := (List.mergeSort_perm _ _).mem_iff.1 hq
    obtain ⟨i, hi⟩ := List.getElem?_of_mem hm
    rw [List.getElem?_zip_eq_some] at hi
    obtain ⟨d, hd, rd⟩ := r.getV hi.1
    rw [hi.2] at hd; cases hd
    exact rd
  generalize (xs.zip ds).mergeSort (dataLe rev fun p : V × D => p.2) = l at h4
  induction l with
  | nil => exact .nil
  | cons q l ih => exact .cons (h4 q List.mem_cons_self) (ih fun q' hq => h4 q' (List.mem_cons_of_mem _ hq))
theorem RpA.dpAll {K : PySem.W.Frag} {H : Hp} : ∀ {vs : List V} {ds : List D}, RpA H vs ds → (∀ d ∈ ds, noDict d = true) → DpAll K H vs ds
  | _, _, .nil, _ => .nil
  | _, _, .cons a r, h => .cons (a.dp (h _ List.mem_cons_self)) (RpA.dpAll r fun d hd => h d (List.mem_cons_of_mem _ hd))
def sortAD (rev : Bool) : List D → R (List D)
  | [.list ds] => if sortOk ds = true then .ok (ds.mergeSort (leD' rev)) else .bad
  | _ => .bad
theorem cr_sortAD {K : PySem.W.Frag} : CRL (rSortedA false K) (sortAD false) := by
  intro B H xs ds es Q s ra e q
  unfold sortAD at e
  split at e
  · split at e
    · rename_i ns hb; cases e
      obtain ⟨v, rfl, rr⟩ := ra.one
      cases rr with
      | @lst p ys es h ay =>
        obtain ⟨k1, k2, k3⟩ := sortOk_is hb
        exact ⟨p, ys, _, rfl, SqL.of (s _ _ h), (ay.mono s).dpAll fun d hd => (k3 d hd).1, hb, fun l hl => q _ l _ (Gr.mk1 s hl).1 hl upd_same (rpa_sort2 ay)⟩
    · cases e
  · cases e
/-! ### sorted(xs, reverse=True) -/
theorem sorted_revA {pins : List (Addr × Obj)} {s : Shared} {σ : St} {H : Hp} {a : Addr} {xs : List V} {ds : List D} {Q : VK} (hu : X.A.units + 65 < cLine) (I : Inv X pins σ H s) (hs : SqL X.K H a xs) (hd : DpAll X.K H xs ds) (ok : sortOk ds = true)
    (q : ∀ p : Addr, H p = none → Q (.ref p) (upd H p (.lst (sortV2 true xs ds)))) : wpAny (model X.prog X.w) X.A (call (.builtin "sorted") [.ref a] [(Str.ofString "reverse", .bool true)]) (EP X pins σ Q) X.xe s := by
  obtain ⟨its, rv, hl, hz⟩ := I.list hs
  obtain ⟨k1, k2, k3⟩ := sortOk_is ok
  have hlen := dpAll_len hd
  have ez : (xs.zip ds).map (fun p : V × D => p.2) = ds := List.map_snd_zip (by omega)
  refine sorted_rev_data (b := true) (bs := xs.zip ds) (enc := fun p : V × D => p.2) hl.isList (vals_zip rv hlen.symm) (sorted_reads I rv hd) (by rw [ez]; exact k1) (by rw [ez]; exact k2) (by rw [List.length_zip]; omega)
    (fun p hp => ?_) fun out ho e => ?_
  · have := k3 p.2 (List.of_mem_zip hp).2
    omega
  · obtain ⟨ep, he'⟩ := PyProof.Rows.sortedAll_at s.heap its out.toArray
    have hle : (sortV2 true xs ds).length ≤ sizeLine := by rw [sortV2_length hlen.symm]; exact hz
    exact ⟨.ref _, upd H (s.heap.objs.size + 1) (.lst (sortV2 true xs ds)), I.laid (t' := s.toks) (fun _ _ => PyProof.Rows.sortedAll_old) (Nat.le_succ _) ⟨hle, out, ep, each_vals e, he'⟩, rfl, q _ (I.hok.fresh (Nat.le_succ _))⟩
end
section
variable {C : Cx → Prop} {P : Program} {w : World} {K : PySem.W.Frag} {mg : Str → Option Value} {base : Heap} {k : Nat} {W : WX} {N : List Str} {sc : Scope}
variable {a b e tg : Expr} {es rest : List Expr} {fa fb fc : Env → R D} {fs : Env → R (List D)} {pos p p1 p2 p3 : Pos} {x y : Str} {i : Nat} {ta tb : TE} {tt tu : TT} {tr : TA}
theorem o2_ltA : Op2 (rLtA K) ltAD := by
  intro B H x y dx dy d Q s rx ry e q
  unfold ltAD at e
  split at e
  · rename_i hc; cases e
    obtain ⟨h1, h2, h3, h4, h5⟩ := hc
    exact ⟨dx, dy, (rx.mono s).dp h1, (ry.mono s).dp h2, h3, fun z => by rw [z] at h4; exact absurd h4 (by decide), h5, q B H _ (Gr.refl s) (.bl _)⟩
  · cases e
theorem pu_ltA : Pure2 ltAD := by intro x y c h; unfold ltAD at h; split at h <;> cases h
theorem de_ltA (c : Cxs C P w K mg base k W N sc) (ha : DE C K mg W a fa) (hb : DE C K mg W b fb) : DE C K mg W (.Compare a [.Lt] [b] pos) (opR ltAD fa fb) :=
  de_cmp (r := fun X => rLtA X.K) (fun X h => op_ltA (Room.u65 (c.room X h))) (fun X h => by rw [c.hK X h]) o2_ltA pu_ltA ha hb (nomark _)
theorem dt_ltA (c : Cxs C P w K mg base k W N sc) (ha : DE C K mg W a fa) (hb : DE C K mg W b fb) : DT C K mg W (.Compare a [.Lt] [b] pos) (toB (opR ltAD fa fb)) :=
  dt_cmp (r := fun X => rLtA X.K) (fun X h => op_ltA (Room.u65 (c.room X h))) (fun X h => by rw [c.hK X h]) o2_ltA pu_ltA ha hb (nomark _)
theorem o2_inT {n : Bool} : Op2 (rInT n K) (inTD n) := by
  intro B H x y dx dy d Q s rx ry e q
  unfold inTD at e
  split at e
  · split at e
    · rename_i hc; cases e
      exact ⟨dx, _, (rx.mono s).dpS hc.1, (ry.mono s).dpS hc.2, hc.1, hc.2, q B H _ (Gr.refl s) (.bl _)⟩
    · cases e
  · cases e
theorem pu_inT {n : Bool} : Pure2 (inTD n) := by intro x y c h; unfold inTD at h; split at h <;> (try split at h) <;> cases h
theorem de_inT (c : Cxs C P w K mg base k W N sc) (ha : DE C K mg W a fa) (hb : DE C K mg W b fb) (hm : behindInMarks .In b = false := by rfl) : DE C K mg W (.Compare a [.In] [b] pos) (opR (inTD false) fa fb) :=
  de_cmp (r := fun X => rInT false X.K) (fun X h => op_inT (Room.u65 (c.room X h))) (fun X h => by rw [c.hK X h]) o2_inT pu_inT ha hb hm
theorem de_notinT (c : Cxs C P w K mg base k W N sc) (ha : DE C K mg W a fa) (hb : DE C K mg W b fb) (hm : behindInMarks .NotIn b = false := by rfl) : DE C K mg W (.Compare a [.NotIn] [b] pos) (opR (inTD true) fa fb) :=
  de_cmp (r := fun X => rInT true X.K) (fun X h => op_notInT (Room.u65 (c.room X h))) (fun X h => by rw [c.hK X h]) o2_inT pu_inT ha hb hm
theorem dt_inT (c : Cxs C P w K mg base k W N sc) (ha : DE C K mg W a fa) (hb : DE C K mg W b fb) (hm : behindInMarks .In b = false := by rfl) : DT C K mg W (.Compare a [.In] [b] pos) (toB (opR (inTD false) fa fb)) :=
  dt_cmp (r := fun X => rInT false X.K) (fun X h => op_inT (Room.u65 (c.room X h))) (fun X h => by rw [c.hK X h]) o2_inT pu_inT ha hb hm
theorem dt_notinT (c : Cxs C P w K mg base k W N sc) (ha : DE C K mg W a fa) (hb : DE C K mg W b fb) (hm : behindInMarks .NotIn b = false := by rfl) : DT C K mg W (.Compare a [.NotIn] [b] pos) (toB (opR (inTD true) fa fb)) :=
  dt_cmp (r := fun X => rInT true X.K) (fun X h => op_notInT (Room.u65 (c.room X h))) (fun X h => by rw [c.hK X h]) o2_inT pu_inT ha hb hm
theorem dn_sortedA (c : Cxs C P w K mg base k W N sc) (g : Gm sc "sorted") (m : mg "sorted" = none) (ha : DA C K mg W [a] fs)
    (he : ∀ X, C X → starEach [a] X.env = (false, eval a X.env) :: starEach [] X.env := by intro _ _; rfl) (hpl : ∀ X, C X → (backTo pos (starEach [] X.env)).any (·.1) = false := by intro _ _; rfl) :
    DN C K mg W (.Call (.Name "sorted" p) [a] [] pos) (fun ρ => (fs ρ).bind (sortAD false)) :=
  dn_blt (r := fun X => rSortedA false X.K) c g m (by decide +kernel) (by decide) (fun X h => cr_sortedA (Room.u65 (c.room X h))) (fun X h => by rw [c.hK X h]) cr_sortAD (by intro ds c; unfold sortAD; split <;> (try split) <;> simp) ha he hpl
/-! sorted(xs, reverse=True) -/
def sortRD : D → R (List D)
  | .list ds => if sortOk ds = true then .ok (ds.mergeSort (leD' true)) else .bad
  | _ => .bad
def tSortR (K : PySem.W.Frag) (ta : TE) : TE := fun σ H Q => ta σ H fun x H1 => ∃ (l : Addr) (xs : List V) (ds : List D), x = .ref l ∧ SqL K H1 l xs ∧ DpAll K H1 xs ds ∧ sortOk ds = true ∧ ∀ p : Addr, H1 p = none → Q (.ref p) (upd H1 p (.lst (sortV2 true xs ds)))
theorem dn_sortedR {kk : Nat} (c : Cxs C P w K mg base k W N sc) (gs : Gm sc "sorted") (ms : mg "sorted" = none) (ha : DE C K mg W a fa)
    (hs : ∀ X, C X → starEach [a] X.env = (false, eval a X.env) :: starEach [] X.env := by intro _ _; rfl) (he : ∀ X, C X → backTo pos (starEach [a] X.env) = (false, eval a X.env) :: backTo pos (starEach [] X.env) := by intro _ _; rfl) (hpl : ∀ X, C X → (backTo pos (starEach [a] X.env)).any (·.1) = false := by intro _ _; rfl)
    (hall : ∀ X, C X → (backToKw pos (keywordEach [⟨some "reverse", .Constant (.bool true) kk p2, p3⟩] X.env)).all (·.1.isSome) = true := by intro _ _; rfl) (hnone : ∀ X, C X → (backToKw pos (keywordEach [⟨some "reverse", .Constant (.bool true) kk p2, p3⟩] X.env)).any (·.1.isNone) = false := by intro _ _; rfl)
    (hks : ∀ X, C X → (backToKw pos (keywordEach [⟨some "reverse", .Constant (.bool true) kk p2, p3⟩] X.env)).filterMap (·.1) = [Str.ofString "reverse"] := by intro _ _; rfl) :
    DN C K mg W (.Call (.Name "sorted" p) [a] [⟨some "reverse", .Constant (.bool true) kk p2, p3⟩] pos) (fun ρ => (fa ρ).bind sortRD) := by
  obtain ⟨ta, pa, va⟩ := ha
  refine ⟨tSortR K ta, fun X h => ⟨fun pins s σ H Q I hq => ?_⟩, fun B0 H0 B H σ ρ Q gd wx q => ?_⟩
  · have c1 := c.hP X h; have c2 := c.hw X h; have c3 := c.hK X h; have c4 := c.hmg X h; have c5 := c.hbase X h
    subst c1 c2 c3 c4 c5
    refine wpAny_Call_Name_kw (ld_blt (u := .builtin "sorted") I (gs.gl c X h) ms (by decide +kernel) ?_ (by decide) gs.d)
    have PAx : PA X [a] (tCons ta tNil) := pa_cons (pa X h) pa_nil (hs X h)
    have PKx : PK X [⟨some "reverse", .Constant (.bool true) kk p2, p3⟩] (tCons (tC (.bl true)) tNil) := pk_cons pe_bl pk_nil
    refine PyProof.Rows.callWith_kw (thn (PAx.run pos pins s σ H (fun vs H1 => match vs with | [x] => ∃ (l : Addr) (xs : List V) (ds : List D), x = .ref l ∧ SqL X.K H1 l xs ∧ DpAll X.K H1 xs ds ∧ sortOk ds = true ∧ ∀ p : Addr, H1 p = none → Q (.ref p) (upd H1 p (.lst (sortV2 true xs ds))) | _ => False) I hq) fun us s1 ⟨vs, H1, I1, r1, q1⟩ => thn (PKx.run pos pins s1 σ H1 (fun zs H2 => zs = [V.bl true] ∧ H2 = H1) I1 ⟨rfl, rfl⟩) fun ws s2 ⟨zs, H2, I2, r2, q2⟩ => ?_) (he X h) (hpl X h) (hall X h) (hnone X h)
    rw [hks X h]
    obtain ⟨rfl, rfl⟩ := q2
    cases r1 with
    | nil => exact q1.elim
    | cons ra rr =>
      cases rr with
      | cons _ _ => exact q1.elim
      | nil =>
        cases r2 with
        | cons rb rr2 =>
          cases rr2
          cases rb
          obtain ⟨l, xs, ds, rfl, h5, h6, h7, h8⟩ := q1
          cases ra
          exact sorted_revA (Room.u65 (c.room X h)) I2 h5 h6 h7 h8
  · refine va B0 H0 B H σ ρ _ gd wx.of_bind fun d B1 H1 v e1 g1 r1 => ?_
    have w1 := wx.then e1
    cases d with
    | list ds =>
      cases r1 with
      | @lst l xs _ hl rs =>
        by_cases ok : sortOk ds = true
        · obtain ⟨k1, k2, k3⟩ := sortOk_is ok
          refine ⟨l, xs, ds, rfl, SqL.of (g1.s _ _ hl), (rs.mono g1.s).dpAll fun d hd => (k3 d hd).1, ok, fun p hp => ?_⟩
          refine q (ds.mergeSort (leD' true)) B1 _ p (sortV2 true xs ds) ?_ (g1.trans (Gr.mk1 g1.s hp).1) (g1.none hp) (g1.s.free hp) upd_same (rpa_sort2 rs)
          show (fa ρ).bind sortRD = _
          rw [e1]; show (if sortOk ds = true then _ else _) = _; rw [if_pos ok]
        · rw [show sortRD (.list ds) = .bad from if_neg ok] at w1; exact w1.elim
    | _ => exact w1.elim
/-! ### l.index(x) -/
/-- the first place of an equal one -/
def ixOf (d : D) : List D → Option Nat
  | [] => none
  | z :: r => if PyData.eqv z d = true then some 0 else (ixOf d r).map (· + 1)
theorem ixOf_some {d : D} : ∀ {ds : List D} {j : Nat}, ixOf d ds = some j → ∃ z, ds[j]? = some z ∧ PyData.eqv z d = true ∧ ∀ (m : Nat) (z' : D), m < j → ds[m]? = some z' → PyData.eqv z' d = false
  | [], j, h => by cases h
  | z :: r, j, h => by
    unfold ixOf at h
    split at h
    · rename_i hz
      cases h
      exact ⟨z, rfl, hz, fun m z' hm _ => by omega⟩
    · rename_i hz
      obtain ⟨i, hi, rfl⟩ := Option.map_eq_some_iff.1 h
      obtain ⟨z', h1, h2, h3⟩ := ixOf_some hi
      refine ⟨z', by simpa using h1, h2, fun m y hm hy => ?_⟩
      cases m with
      | zero => simp at hy; subst hy; simpa using hz
      | succ m => exact h3 m y (by omega) (by simpa using hy)
def indexD (ds : List D) (y : D) : R D := if SeqAt.shaped (.list ds) = true ∧ SeqAt.shaped y = true then (match ixOf y ds with | some j => .ok (.int (j : Nat)) | none => .bad) else .bad
def indexR (fa fb : Env → R D) : Env → R D := fun ρ => (fa ρ).bind fun x => match x with
  | .list ds => (fb ρ).bind (indexD ds)
  | _ => .bad
theorem de_index {apos cpos : Pos} (c : Cxs C P w K mg base k W N sc) (ha : DE C K mg W a fa) (hb : DE C K mg W b fb)
    (pe : ∀ X, C X → PE X a (Classical.choose ha) → PE X b (Classical.choose hb) → PE X (.Call (.Attribute a "index" apos) [b] [] cpos) (tBM X.K "list" (rIndexD X.K) (Classical.choose ha) (tCons (Classical.choose hb) tNil))) :
    DE C K mg W (.Call (.Attribute a "index" apos) [b] [] cpos) (indexR fa fb) := by
  have pa := (Classical.choose_spec ha).1
  have va := (Classical.choose_spec ha).2
  have pb := (Classical.choose_spec hb).1
  have vb := (Classical.choose_spec hb).2
  refine ⟨tBM K "list" (rIndexD K) (Classical.choose ha) (tCons (Classical.choose hb) tNil), fun X h => ?_, fun B0 H0 B H σ ρ Q gd wx q => ?_⟩
  · have := pe X h (pa X h) (pb X h)
    rw [c.hK X h] at this
    exact this
  · refine va B0 H0 B H σ ρ _ gd wx.of_bind fun d B1 H1 v e1 g1 r1 => ?_
    have w1 := wx.then e1
    cases d with
    | list ds =>
      cases r1 with
      | @lst l xs _ hl rs =>
        refine ⟨.inl ⟨rfl, xs, SqL.of (g1.s _ _ hl)⟩, ?_⟩
        refine vb B0 H0 B1 H1 σ ρ _ (gd.grow g1) w1.of_bind fun d2 B2 H2 v2 e2 g2 r2 => ?_
        have w2 := w1.then e2
        show rIndexD K (.ref l) [v2] H2 Q
        have e0 : indexR fa fb ρ = indexD ds d2 := (bind_eq e1).trans (bind_eq e2)
        by_cases hc : SeqAt.shaped (.list ds) = true ∧ SeqAt.shaped d2 = true
        · cases hj : ixOf d2 ds with
          | none =>
            rw [show indexD ds d2 = .bad by unfold indexD; simp only [if_pos hc, hj]] at w2
            exact w2.elim
          | some j =>
            obtain ⟨z, z1, z2, z3⟩ := ixOf_some hj
            have r0 : Rp H2 (.ref l) (.list ds) := (Rp.lst (H := B1) hl rs).mono (g2.b.trans g2.s)
            refine ⟨l, v2, d2, ds, j, z, rfl, rfl, r0.dpS hc.1, (r2.mono g2.s).dpS hc.2, hc.1, hc.2, z1, z2, z3, q _ B2 H2 _ (e0.trans (by unfold indexD; simp only [if_pos hc, hj])) (g1.trans g2) (.int _)⟩
        · rw [show indexD ds d2 = .bad by unfold indexD; simp only [if_neg hc]] at w2
          exact w2.elim
    | _ => exact w1.elim
/-! ### zip -/
def zipD (xs ys : List D) : List D := List.zipWith (fun a b => .tuple [a, b]) xs ys
theorem walk_zipL {a' b' : Addr} {xs ys : List V} {ds es : List D} {B : Hp} (h : B a' = some (.lst xs)) (r : RpA B xs ds) (h2 : B b' = some (.lst ys)) (r2 : RpA B ys es) : Walk K B (Itz K a' b') (zipD ds es) where
  go := fun B' H' i s1 s2 hi => by
    unfold zipD at hi
    rw [List.length_zipWith] at hi
    obtain ⟨v, k1, _⟩ := r.get (List.getElem?_eq_getElem (show i < ds.length by omega))
    obtain ⟨u, k2, _⟩ := r2.get (List.getElem?_eq_getElem (show i < es.length by omega))
    exact ⟨xs, ys, v, u, SqL.of (s2 _ _ (s1 _ _ h)), SqL.of (s2 _ _ (s1 _ _ h2)), k1, k2⟩
  yld := fun B' H' i e x H2 s1 s2 he y => by
    unfold zipD at he
    rw [List.getElem?_zipWith] at he
    obtain ⟨T, x', y', rfl, hT, rfl, y1, y2⟩ := y
    cases e1 : ds[i]? with
    | none => rw [e1] at he; cases he
    | some d =>
      cases e2 : es[i]? with
      | none => rw [e1, e2] at he; cases he
      | some d' =>
        rw [e1, e2] at he
        cases he
        obtain ⟨v, k1, k2⟩ := r.get e1
        obtain ⟨u, k3, k4⟩ := r2.get e2
        have ev : v = x' := Option.some.inj (k1.symm.trans (y1 xs (SqL.of (s2 _ _ (s1 _ _ h)))))
        have eu : u = y' := Option.some.inj (k3.symm.trans (y2 ys (SqL.of (s2 _ _ (s1 _ _ h2)))))
        subst ev eu
        have g := Gr.new (o := .tup [v, u]) s2 hT
        exact ⟨_, g, .tup upd_same (.cons ((k2.mono s1).mono g.b) (.cons ((k4.mono s1).mono g.b) .nil))⟩
  stop := fun B' H' i s1 s2 hi => by
    unfold zipD at hi
    rw [List.length_zipWith] at hi
    exact ⟨xs, ys, SqL.of (s2 _ _ (s1 _ _ h)), SqL.of (s2 _ _ (s1 _ _ h2)), by rw [r.length, r2.length]; omega⟩
theorem walk_zipT {a' b' : Addr} {xs ys : List V} {ds es : List D} {B : Hp} (h : B a' = some (.tup xs)) (r : RpA B xs ds) (h2 : B b' = some (.tup ys)) (r2 : RpA B ys es) : Walk K B (ItzT K a' b') (zipD ds es) where
  go := fun B' H' i s1 s2 hi => by
    unfold zipD at hi
    rw [List.length_zipWith] at hi
    obtain ⟨v, k1, _⟩ := r.get (List.getElem?_eq_getElem (show i < ds.length by omega))
    obtain ⟨u, k2, _⟩ := r2.get (List.getElem?_eq_getElem (show i < es.length by omega))
    exact ⟨xs, ys, v, u, SqT.of (s2 _ _ (s1 _ _ h)), SqT.of (s2 _ _ (s1 _ _ h2)), k1, k2⟩
  yld := fun B' H' i e x H2 s1 s2 he y => by
    unfold zipD at he
    rw [List.getElem?_zipWith] at he
    obtain ⟨T, x', y', rfl, hT, rfl, y1, y2⟩ := y
    cases e1 : ds[i]? with
    | none => rw [e1] at he; cases he
    | some d =>
      cases e2 : es[i]? with
      | none => rw [e1, e2] at he; cases he
      | some d' =>
        rw [e1, e2] at he
        cases he
        obtain ⟨v, k1, k2⟩ := r.get e1
        obtain ⟨u, k3, k4⟩ := r2.get e2
        have ev : v = x' := Option.some.inj (k1.symm.trans (y1 xs (SqT.of (s2 _ _ (s1 _ _ h)))))
        have eu : u = y' := Option.some.inj (k3.symm.trans (y2 ys (SqT.of (s2 _ _ (s1 _ _ h2)))))
        subst ev eu
        have g := Gr.new (o := .tup [v, u]) s2 hT
        exact ⟨_, g, .tup upd_same (.cons ((k2.mono s1).mono g.b) (.cons ((k4.mono s1).mono g.b) .nil))⟩
  stop := fun B' H' i s1 s2 hi => by
    unfold zipD at hi
    rw [List.length_zipWith] at hi
    exact ⟨xs, ys, SqT.of (s2 _ _ (s1 _ _ h)), SqT.of (s2 _ _ (s1 _ _ h2)), by rw [r.length, r2.length]; omega⟩
def zipL (x y : D) : R (List D) := match x, y with
  | .list ds, .list es => .ok (zipD ds es)
  | .tuple ds, .tuple es => .ok (zipD ds es)
  | _, _ => .bad
theorem di_zip {elts : List Expr} {kk : Nat} {tpos : Pos} (c : Cxs C P w K mg base k W N sc) (g : Gm sc "zip") (m : mg "zip" = none) (ha : DE C K mg W a fa) (hb : DE C K mg W b fb)
    (hs2 : ∀ X, C X → starEach [b] X.env = (false, eval b X.env) :: starEach [] X.env := by intro _ _; rfl)
    (hs : ∀ X, C X → starEach [a, b] X.env = (false, eval a X.env) :: starEach [b] X.env := by intro _ _; rfl) (hpl : ∀ X, C X → (backTo pos (starEach [b] X.env)).any (·.1) = false := by intro _ _; rfl) : DI C K mg W (.Tuple elts kk tpos) (.Call (.Name "zip" p) [a, b] [] pos) (bd2R zipL fa fb) := by
  obtain ⟨ta, pa, va⟩ := ha; obtain ⟨tb, pb, vb⟩ := hb
  refine ⟨iZipA K (tCons ta (tCons tb tNil)), fun X h => ?_, ?_⟩
  · have e := c.hK X h
    subst e
    exact pi_zipA (g.gl c X h) (by rw [c.hmg X h]; exact m) (pa_cons (pa X h) (pa_cons (pb X h) pa_nil (hs2 X h)) (hs X h)) (hs X h) (hpl X h)
  · intro B0 H0 B H σ ρ Rr gd wx q
    refine va B0 H0 B H σ ρ _ gd wx.of_bind fun d B1 H1 v e1 g1 r1 => ?_
    have w1 := wx.then e1
    refine vb B0 H0 B1 H1 σ ρ _ (gd.grow g1) w1.of_bind fun d2 B2 H2 v2 e2 g2 r2 => ?_
    have w2 := w1.then e2
    have e0 : ((fa ρ).bind fun x => (fb ρ).bind fun y => zipL x y) = zipL d d2 := (bind_eq e1).trans (bind_eq e2)
    cases r1 with
    | @lst a1 xs ds h1 k1 =>
      cases r2 with
      | @lst b1 ys es h2 k2 => exact ⟨a1, b1, xs, ys, rfl, .inl ⟨SqL.of (g2.s _ _ (g2.b _ _ h1)), SqL.of (g2.s _ _ h2), q _ B2 H2 _ e0 (g1.trans g2) (walk_zipL (g2.b _ _ h1) (k1.mono g2.b) h2 k2)⟩⟩
      | _ => exact w2.elim
    | @tup a1 xs ds h1 k1 =>
      cases r2 with
      | @tup b1 ys es h2 k2 => exact ⟨a1, b1, xs, ys, rfl, .inr ⟨SqT.of (g2.s _ _ (g2.b _ _ h1)), SqT.of (g2.s _ _ h2), q _ B2 H2 _ e0 (g1.trans g2) (walk_zipT (g2.b _ _ h1) (k1.mono g2.b) h2 k2)⟩⟩
      | _ => exact w2.elim
    | _ => cases r2 <;> exact w2.elim
end
end DL
set_option maxRecDepth 100000
set_option maxHeartbeats 1000000
/-! defs that tell a list of their own, anew at each call -/
namespace DL
open PySem L2
inductive OutF where
  | bad
  | rl (ds : List D)
  | exc (c : Str)
def PostF (mg : Str → Option Value) (W : WX) (B0 H0 B : Hp) (E : Ends) : OutF → Prop
  | .bad => False
  | .rl ds => ∀ (B' H' : Hp) (p : Addr) (vs : List V), Same B B' → Same B' H' → Same H0 H' → (∀ a o, H0 a = some o → B' a = B0 a) → H0 p = none → B' p = none → H' p = some (.lst vs) → RpA B' vs ds → E.rt (.ref p) H'
  | .exc c => ∀ (σ' : St) (H' : Hp) (C : Addr), Same H0 H' → mg c = some (.ref C) → W (.ref C) none σ' H'
def EvF (K : PySem.W.Frag) (mg : Str → Option Value) (W : WX) (t : TS) (F : Env → OutF) : Prop := ∀ (B0 H0 B H : Hp) (σ : St) (ρ : Env) (E : Ends), Gd K B0 H0 B H σ ρ → PostF mg W B0 H0 B E (F ρ) → t E σ H
def DSsF (C : Cx → Prop) (K : PySem.W.Frag) (mg : Str → Option Value) (W : WX) (sts : List Stmt) (F : Env → OutF) : Prop := ∃ t, (∀ X, C X → PSs X sts t) ∧ EvF K mg W t F
theorem PostF.mono {mg : Str → Option Value} {W : WX} {B0 H0 B B' : Hp} {E : Ends} {o : OutF} (s : Same B B') (h : PostF mg W B0 H0 B E o) : PostF mg W B0 H0 B' E o := by
  cases o with
  | bad => exact h
  | rl ds => exact fun B2 H2 p vs s2 s3 s4 s5 n1 n2 n3 r => h B2 H2 p vs (s.trans s2) s3 s4 s5 n1 n2 n3 r
  | exc c => exact h
def retF (i : Nat) : Env → OutF := fun ρ => match ρ[i]? with
  | some (.own ds) => .rl ds
  | _ => .bad
def seqF (F : Env → Out) (G : Env → OutF) : Env → OutF := fun ρ => match F ρ with
  | .nx ρ' => G ρ'
  | .exc c => .exc c
  | _ => .bad
/-- what a def tells that tells a new list -/
def defRF : OutF → R (List D)
  | .rl ds => .ok ds
  | .exc c => .exc c
  | .bad => .bad
section
variable {C : Cx → Prop} {P : Program} {w : World} {K : PySem.W.Frag} {mg : Str → Option Value} {base : Heap} {k : Nat} {W : WX} {N : List Str} {sc : Scope}
variable {a b e tg : Expr} {es rest : List Expr} {fa fb fc : Env → R D} {fs : Env → R (List D)} {pos p p1 p2 p3 : Pos} {x y : Str} {i : Nat} {ta tb : TE} {tt tu : TT} {tr : TA} {st : Stmt} {sts : List Stmt} {F : Env → Out} {G : Env → OutF}
theorem dssF_ret (c : Cxs C P w K mg base k W N sc) (n : Nm N sc i x) : DSsF C K mg W [.Return (some (.Name x p)) pos] (retF i) := by
  refine ⟨tRet (tVar i), fun X h => pss_one (ps_ret (pe_var (by rw [c.hN X h]; exact n.at_) (by rw [c.hsc X h]; exact n.vis) n.d1 n.d2)), fun B0 H0 B H σ ρ E gd h => ?_⟩
  unfold retF at h
  cases e : ρ[i]? with
  | none => rw [e] at h; exact h.elim
  | some s =>
    cases s with
    | own ds =>
      rw [e] at h
      obtain ⟨l, vs, h1, h2, h3, h4, h5⟩ := gd.slots i _ e
      exact ⟨_, h1, h B H l vs (Same.refl _) gd.sub gd.old gd.oldB h4 h3 h2 h5⟩
    | _ => rw [e] at h; exact h.elim
theorem dssF_cons (h1 : DS C K mg W st F) (h2 : DSsF C K mg W sts G) : DSsF C K mg W (st :: sts) (seqF F G) := by
  obtain ⟨t1, p1, v1⟩ := h1; obtain ⟨t2, p2, v2⟩ := h2
  refine ⟨tSeq t1 t2, fun X h => pss_cons (p1 X h) (p2 X h), fun B0 H0 B H σ ρ E gd h => ?_⟩
  refine v1 B0 H0 B H σ ρ { E with nx := t2 E } gd ?_
  unfold seqF at h
  cases e : F ρ with
  | bad => rw [e] at h; exact h
  | nx ρ1 => rw [e] at h; exact fun B' H' σ' s g => v2 B0 H0 B' H' σ' ρ1 E g (PostF.mono s h)
  | rt d => rw [e] at h; exact h.elim
  | bk ρ1 => rw [e] at h; exact h.elim
  | ct ρ1 => rw [e] at h; exact h.elim
  | exc c => rw [e] at h; exact h
end
def spF (mg : Str → Option Value) (n : Nat) (g : List D → R (List D)) : Sp := fun vs H Q E => vs.length = n ∧ ∃ (B : Hp) (ds : List D), Same B H ∧ RpA B vs ds ∧
  (match g ds with
    | .bad => False
    | .ok _ => True
    | .exc c => ∀ (H' : Hp) (C : Addr), Same H H' → mg c = some (.ref C) → E (.ref C) none H') ∧
  ∀ es B' H' p xs, g ds = .ok es → Gr B H B' H' → H p = none → B' p = none → H' p = some (.lst xs) → RpA B' xs es → Q (.ref p) H'
structure FnF (P : Program) (w : World) (K : PySem.W.Frag) (mg : Str → Option Value) (base : Heap) (k : Nat) (x : Str) (n : Nat) (g : List D → R (List D)) : Prop where
  ex : ∃ (f : Addr) (fd : FuncData) (ps : List Str), FnOk P w K mg base (L2.CX P w) k f fd ps (spF mg n g) ∧ mg x = some (.ref f) ∧ PySem.W.keepIn K (.ref f) = true ∧ Binds K fd ps []
  len : ∀ ds, g ds ≠ .bad → ds.length = n
theorem FnF.mono {P : Program} {w : World} {K : PySem.W.Frag} {mg : Str → Option Value} {base : Heap} {j k : Nat} {x : Str} {n : Nat} {g : List D → R (List D)} (F : FnF P w K mg base j x n g) (h : j ≤ k) : FnF P w K mg base k x n g :=
  let ⟨f, fd, ps, h1, h2⟩ := F.ex
  ⟨⟨f, fd, ps, h1.mono h, h2⟩, F.len⟩
section
variable {P : Program} {w : World} {K : PySem.W.Frag} {mg : Str → Option Value} {base : Heap} {k : Nat}
theorem fnF_def {x qual y : Str} {st : Stmt} {f : Addr} {fd : FuncData} {N ps : List Str} {F : Env → OutF} {g : List D → R (List D)} (Fu : L2.Fun K x qual st f fd) (S : FnScope N ps (defScope st)) (gx : mg y = some (.ref f)) (hb : Binds K fd ps [])
    (bd : ∀ (cdv : Value) (A : Around) (outer : List PySem.Env) (s : Shared) (H : Hp) (E : XK), Room k (A.deeper (PyProof.Rows.envOfC qual (defScope st) s.heap.objs.size f cdv)) →
      DSsF (· = cxD P w K mg base N qual (defScope st) f cdv A outer s H E) K mg (fun cls d _ H => E cls d H) (defBody st) F)
    (ok : ∀ ds, g ds ≠ .bad → ds.length = ps.length ∧ defRF (F (startE N ds)) = g ds) : FnF P w K mg base (k + 1) y ps.length g := by
  refine ⟨⟨f, fd, ps, Fu.okX S (fun vs H Q E h => h.1) (fun cdv A outer s H vs Q E hr h => ?_), gx, Fu.kp, hb⟩, fun ds z => (ok ds z).1⟩
  obtain ⟨hl, B, ds, sB, ra, h1, h2⟩ := h
  obtain ⟨t, p, v⟩ := bd cdv A outer s H E hr
  refine ⟨t, p _ rfl, v B H B H _ (startE N ds) _ (gd_start S sB ra hl) ?_⟩
  have nb : g ds ≠ .bad := fun z => by rw [z] at h1; exact h1
  have e := (ok ds nb).2
  cases eF : F (startE N ds) with
  | bad => rw [eF] at e; exact (nb e.symm).elim
  | rl es => rw [eF] at e; exact fun B' H' p' vs' s1 s2 s3 s4 n1 n2 n3 r => h2 es B' H' p' vs' e.symm ⟨s1, s2, s3, s4⟩ n1 n2 n3 r
  | exc c =>
    rw [eF] at e
    have e' : g ds = .exc c := e.symm
    rw [e'] at h1
    exact fun σ' H' C s m => h1 H' C s m
end
section
variable {C : Cx → Prop} {P : Program} {w : World} {K : PySem.W.Frag} {mg : Str → Option Value} {base : Heap} {k : Nat} {W : WX} {N : List Str} {sc : Scope}
variable {a b e tg : Expr} {es rest : List Expr} {fa fb fc : Env → R D} {fs : Env → R (List D)} {pos p p1 p2 p3 : Pos} {x y : Str} {i : Nat} {ta tb : TE} {tt tu : TT} {tr : TA}
theorem dn_callF {j n : Nat} {g : List D → R (List D)} (c : Cxs C P w K mg base k W N sc) (F : FnF P w K mg base j x n g) (hj : j ≤ k) (gx : Gm sc x) (ha : DA C K mg W (e :: es) fs)
    (he : ∀ X, C X → starEach (e :: es) X.env = (false, eval e X.env) :: starEach es X.env := by intro _ _; rfl) (hpl : ∀ X, C X → (backTo pos (starEach es X.env)).any (·.1) = false := by intro _ _; rfl) :
    DN C K mg W (.Call (.Name x p) (e :: es) [] pos) (bdR fs g) := by
  obtain ⟨tr, pa, va⟩ := ha
  obtain ⟨f, fd, ps, h1, h2, h3, h4⟩ := F.ex
  refine ⟨tCallS (spF mg n g) (WE W) tr, fun X h => ?_, fun B0 H0 B H σ ρ Q gd wx q => ?_⟩
  · have c1 := c.hP X h; have c2 := c.hw X h; have c3 := c.hK X h; have c4 := c.hmg X h; have c5 := c.hbase X h
    subst c1 c2 c3 c4 c5
    exact pe_callS h1 ((c.room X h).mono hj) (gx.gl c X h) h2 h3 h4 (fun σ => passAt (c.takes X h) σ) (pa X h) gx.d (he X h) (hpl X h)
  · have wx : Wx mg W H0 σ ((fs ρ).bind g) := wx
    refine va B0 H0 B H σ ρ _ gd wx.of_bind fun ds B1 H1 vs e1 g1 r1 => ?_
    have w1 := wx.then e1
    have nb : g ds ≠ .bad := fun z => by rw [z] at w1; exact w1.elim
    have e0 : bdR fs g ρ = g ds := bind_eq e1
    refine ⟨by rw [r1.length]; exact F.len ds nb, B1, ds, g1.s, r1, ?_, fun es' B2 H2 p' xs e2 g2 n1 n2 n3 r2 => q es' B2 H2 p' xs (e0.trans e2) (g1.trans g2) (g1.none n1) n2 n3 r2⟩
    cases e3 : g ds with
    | bad => exact nb e3
    | ok d => exact True.intro
    | exc c' => rw [e3] at w1; exact fun H2 C' s2 m => w1 H2 C' ((gd.old.trans g1.h).trans s2) m
end
def defGF (n : Nat) (N : List Str) (F : Env → OutF) : List D → R (List D) := fun ds => if ds.length = n then defRF (F (startE N ds)) else .bad
theorem defGF_ok {n : Nat} {N ps : List Str} {F : Env → OutF} (h : ps.length = n) : ∀ ds, defGF n N F ds ≠ .bad → ds.length = ps.length ∧ defRF (F (startE N ds)) = defGF n N F ds := fun ds hb => by
  unfold defGF at hb ⊢
  by_cases e : ds.length = n
  · rw [if_pos e]; exact ⟨e.trans h.symm, rfl⟩
  · rw [if_neg e] at hb; exact absurd rfl hb
section
variable {i : Nat} {ρ : Env} {F : Env → Out} {G : Env → OutF}
theorem retF_z {ds : List D} {r : Env} : retF 0 (.own ds :: r) = .rl ds := R.nr rfl
theorem retF_s {n : Nat} {s : Sl} {r : Env} : retF (n + 1) (s :: r) = retF n r := R.nr rfl
theorem seqF_nx {ρ' : Env} (h : F ρ = .nx ρ') : seqF F G ρ = G ρ' := by unfold seqF; rw [h]
theorem seqF_exc {c : Str} (h : F ρ = .exc c) : seqF F G ρ = .exc c := by unfold seqF; rw [h]
end
end DL
set_option maxRecDepth 100000
set_option maxHeartbeats 1000000
/-! a dict of its own: keys are tuples of ints -/
namespace DL
open PySem L2
def getL (kvs : List (List Int × D)) (k : List Int) : Option D := (kvs.find? fun p => decide (p.1 = k)).map (·.2)
def putL (kvs : List (List Int × D)) (k : List Int) (d : D) : List (List Int × D) := if (kvs.any fun p => decide (p.1 = k)) = true then kvs.map (fun p => if p.1 = k then (p.1, d) else p) else kvs ++ [(k, d)]
theorem inl_inj {a b : List Int} : (a.map (Sum.inl : Int → L2.Key) = b.map Sum.inl) ↔ a = b := by
  constructor
  · intro h
    exact (List.map_inj_right fun x y e => Sum.inl.inj e).1 h
  · rintro rfl; rfl
theorem DRel.len {B : Hp} {xs : List (List L2.Key × V)} {kvs : List (List Int × D)} (h : DRel B xs kvs) : xs.length = kvs.length := by
  induction h with
  | nil => rfl
  | cons _ _ ih => rw [List.length_cons, List.length_cons, ih]
theorem DRel.getO {B : Hp} {xs : List (List L2.Key × V)} {kvs : List (List Int × D)} (h : DRel B xs kvs) (k : List Int) : (valV xs (k.map Sum.inl) = none ∧ getL kvs k = none) ∨ ∃ v d, valV xs (k.map Sum.inl) = some v ∧ getL kvs k = some d ∧ Rp B v d := by
  induction h with
  | nil => exact .inl ⟨rfl, rfl⟩
  | @cons k' v d xs kvs r _ ih =>
    by_cases e : k' = k
    · subst e
      exact .inr ⟨v, d, valV_pos rfl, by unfold getL; rw [List.find?_cons, decide_eq_true rfl]; rfl, r⟩
    · have e' : ¬ (k'.map (Sum.inl : Int → L2.Key)) = k.map Sum.inl := fun z => e (inl_inj.1 z)
      rw [valV_neg (p := (k'.map Sum.inl, v)) e']
      have : getL ((k', d) :: kvs) k = getL kvs k := by unfold getL; rw [List.find?_cons, decide_eq_false e]
      rw [this]; exact ih
theorem DRel.any {B : Hp} {xs : List (List L2.Key × V)} {kvs : List (List Int × D)} (h : DRel B xs kvs) (k : List Int) : (xs.any fun p => decide (p.1 = k.map Sum.inl)) = kvs.any fun p => decide (p.1 = k) := by
  induction h with
  | nil => rfl
  | @cons k' v d xs kvs r _ ih =>
    rw [List.any_cons, List.any_cons, ih]
    congr 1
    exact decide_eq_decide.2 inl_inj
theorem DRel.upd {B : Hp} {xs : List (List L2.Key × V)} {kvs : List (List Int × D)} (h : DRel B xs kvs) (k : List Int) {v : V} {d : D} (r : Rp B v d) : DRel B (xs.map fun p => if p.1 = k.map Sum.inl then (p.1, v) else p) (kvs.map fun p => if p.1 = k then (p.1, d) else p) := by
  induction h with
  | nil => exact .nil
  | @cons k' v' d' xs kvs r' _ ih =>
    rw [List.map_cons, List.map_cons]
    by_cases e : k' = k
    · have e' : (k'.map (Sum.inl : Int → L2.Key)) = k.map Sum.inl := inl_inj.2 e
      simp only [if_pos e, if_pos e']
      exact .cons r ih
    · have e' : ¬ (k'.map (Sum.inl : Int → L2.Key)) = k.map Sum.inl := fun z => e (inl_inj.1 z)
      simp only [if_neg e, if_neg e']
      exact .cons r' ih
theorem DRel.snoc {B : Hp} {xs : List (List L2.Key × V)} {kvs : List (List Int × D)} (h : DRel B xs kvs) (k : List Int) {v : V} {d : D} (r : Rp B v d) : DRel B (xs ++ [(k.map Sum.inl, v)]) (kvs ++ [(k, d)]) := by
  induction h with
  | nil => exact .cons r .nil
  | cons r' _ ih => exact .cons r' ih
theorem DRel.put {B : Hp} {xs : List (List L2.Key × V)} {kvs : List (List Int × D)} (h : DRel B xs kvs) (k : List Int) {v : V} {d : D} (r : Rp B v d) : DRel B (putK xs (k.map Sum.inl) v) (putL kvs k d) := by
  unfold putK putL
  rw [h.any k]
  split
  · exact h.upd k r
  · exact h.snoc k r
def setDc (i : Nat) : Env → Out := fun ρ => .nx (ρ.set i (.dct []))
def keyD : D → R (List Int)
  | .tuple ds => match intsD ds with
    | some ns => .ok ns
    | none => .bad
  | _ => .bad
def dputS (i : Nat) (fk fv : Env → R D) : Env → Out := fun ρ => (fv ρ).out fun v => match ρ[i]? with
  | some (.dct kvs) => (fk ρ).out fun d => (keyD d).out fun k => if fits (kvs.length + 1) = true then .nx (ρ.set i (.dct (putL kvs k v))) else .bad
  | _ => .bad
def dgetR (i : Nat) (fk fz : Env → R D) : Env → R D := fun ρ => match ρ[i]? with
  | some (.dct kvs) => (fk ρ).bind fun d => (keyD d).bind fun k => (fz ρ).bind fun z => .ok ((getL kvs k).getD z)
  | _ => .bad
section
variable {C : Cx → Prop} {P : Program} {w : World} {K : PySem.W.Frag} {mg : Str → Option Value} {base : Heap} {k : Nat} {W : WX} {N : List Str} {sc : Scope}
variable {a b e tg : Expr} {es rest : List Expr} {fa fb fc : Env → R D} {fs : Env → R (List D)} {pos p p1 p2 p3 : Pos} {x y : Str} {i : Nat} {ta tb : TE} {tt tu : TT} {tr : TA}
theorem ds_setD {pos' : Pos} (c : Cxs C P w K mg base k W N sc) (l : Lm C N sc i x) (hs : ∀ X, C X → swapsWith (.Dict [] [] p) (some (.Name x pos')) pos.line X.env = pure false := by intro _ _; rfl) : DS C K mg W (.Assign [.Name x pos'] (.Dict [] [] p) pos) (setDc i) := by
  refine ⟨tAsg tDNewT (gName i), fun X h => ps_set (by rw [c.hN X h]; exact c.nd) (by rw [c.hN X h]; exact l.at_) (by rw [c.hsc X h]; exact l.loc) pe_dnewT (hs X h) ?_, fun B0 H0 B H σ ρ E gd h => ?_⟩
  · rcases l.fn with z | z
    · exact .inr (by rw [c.hsc X h]; exact z)
    · exact .inl (z X h)
  · intro q hq
    have gr : Gr B H B (upd H q (.dT [])) := ⟨Same.refl _, fun x u hx => by rw [upd_ne (ne_of_none (gd.sub _ _ hx) hq)]; exact gd.sub _ _ hx, fun x u hx => by rw [upd_ne (ne_of_none hx hq)]; exact hx, fun _ _ _ => rfl⟩
    refine h B _ _ (Same.refl _) (gd.fresh (o := some (.ref q)) (t := .dct []) gr ⟨q, [], rfl, upd_same, gd.sub.free hq, gd.old.free hq, .nil⟩ fun a w => ?_)
    have w : some (some (V.ref q)) = some (some (.ref a)) := w
    cases w; exact hq
theorem key_at {B : Hp} {v : V} {d : D} {ns : List Int} (r : Rp B v d) (h : keyD d = .ok ns) : ∃ b, v = .ref b ∧ B b = some (.tup ((ns.map (Sum.inl : Int → L2.Key)).map kV)) := by
  unfold keyD at h
  split at h
  · rename_i ds
    cases e : intsD ds with
    | none => rw [e] at h; cases h
    | some ms =>
      rw [e] at h
      cases h
      have := intsD_eq e
      subst this
      cases r with
      | @tup b xs _ hb ra =>
        have := ra.ints
        subst this
        refine ⟨b, rfl, ?_⟩
        rw [hb, List.map_map]; rfl
  · cases h
theorem keyD_noexc (d : D) (c : Str) : keyD d ≠ .exc c := by unfold keyD; split <;> (try split) <;> (intro h; cases h)
theorem Gd.dctS {B0 H0 B H : Hp} {σ : St} {ρ : Env} {kvs kvs' : List (List Int × D)} {a' : Addr} {xs' : List (List L2.Key × V)} (g : Gd K B0 H0 B H σ ρ) (e : ρ[i]? = some (.dct kvs)) (hs : σ[i]? = some (some (.ref a'))) (ra : DRel B xs' kvs') :
    Gd K B0 H0 B (upd H a' (.dT xs')) σ (ρ.set i (.dct kvs')) := by
  obtain ⟨a, xs, q1, q2, q3, q4, q5⟩ := g.slots i _ e
  rw [hs] at q1; cases q1
  refine g.alter e (Same.refl _) (fun x u hx => ?_) (fun x u hx => ?_) g.oldB ⟨a', xs', hs, upd_same, q3, q4, ra⟩ (fun x o hx n => ?_) fun x w => .inl w
  · rw [upd_ne (ne_of_none hx q3)]; exact g.sub _ _ hx
  · rw [upd_ne (ne_of_none hx q4)]; exact g.old _ _ hx
  · rw [upd_ne (fun z => n (by rw [z]; exact hs))]; exact ⟨hx, rfl⟩
theorem ds_dput (c : Cxs C P w K mg base k W N sc) (n : Nm N sc i x) (hk : DE C K mg W b fb) (hv : DE C K mg W a fa) (hs : ∀ X, C X → swapsWith a (some (.Subscript (.Name x p1) b p2)) pos.line X.env = pure false := by intro _ _; rfl) :
    DS C K mg W (.Assign [.Subscript (.Name x p1) b p2] a pos) (dputS i fb fa) := by
  obtain ⟨ta, pa, va⟩ := hv; obtain ⟨tb, pb, vb⟩ := hk
  refine ⟨sDPut (tVar i) tb ta, fun X h => ps_dput (by have := (c.room X h).un; omega) (pe_var (by rw [c.hN X h]; exact n.at_) (by rw [c.hsc X h]; exact n.vis) n.d1 n.d2) (pb X h) (pa X h) (hs X h), fun B0 H0 B H σ ρ E gd h => ?_⟩
  unfold dputS at h
  refine va B0 H0 B H σ ρ _ gd h.wx fun d B1 H1 v e1 g1 r1 => ?_
  have h1 := h.ok e1
  cases e : ρ[i]? with
  | none => rw [e] at h1; exact h1.elim
  | some s =>
    cases s with
    | dct kvs =>
      rw [e] at h1
      have h1 : PostS K mg W B0 H0 B E ((fb ρ).out fun d' => (keyD d').out fun k => if fits (kvs.length + 1) = true then Out.nx (ρ.set i (.dct (putL kvs k d))) else .bad) := h1
      obtain ⟨q, xs, k1, k2, k3, k4, k5⟩ := (gd.grow g1).slots i _ e
      refine ⟨_, k1, vb B0 H0 B1 H1 σ ρ _ (gd.grow g1) h1.wx fun d2 B2 H2 v2 e2 g2 r2 => ?_⟩
      have h2 := h1.ok e2
      cases e3 : keyD d2 with
      | bad => rw [e3] at h2; exact h2.elim
      | exc c' => exact (keyD_noexc _ _ e3).elim
      | ok ns =>
        rw [e3] at h2
        have h2 : PostS K mg W B0 H0 B E (if fits (kvs.length + 1) = true then Out.nx (ρ.set i (.dct (putL kvs ns d))) else .bad) := h2
        by_cases hf : fits (kvs.length + 1) = true
        · rw [if_pos hf] at h2
          obtain ⟨bk, rfl, hb⟩ := key_at r2 e3
          have hl : xs.length < sizeLine := by have y := of_decide_eq_true hf; rw [sizeLine_eq, k5.len]; omega
          have gd2 := (gd.grow g1).grow g2
          refine ⟨q, _, rfl, DPut.t (g2.h _ _ k2) (g2.s _ _ hb) hl, ?_⟩
          exact h2 B2 _ σ (g1.b.trans g2.b) (gd2.dctS e k1 ((k5.mono g2.b).put ns (r1.mono g2.b)))
        · rw [if_neg hf] at h2; exact h2.elim
    | _ => rw [e] at h1; exact h1.elim
theorem de_dget (c : Cxs C P w K mg base k W N sc) (n : Nm N sc i x) (hk : DE C K mg W a fa) (hz : DE C K mg W b fb)
    (m : ∀ X, C X → M2 X (.Name x p1) "get" p2 a b p3 := by intro _ _; exact ⟨rfl, rfl, rfl, rfl⟩) : DE C K mg W (.Call (.Attribute (.Name x p1) "get" p2) [a, b] [] p3) (dgetR i fa fb) := by
  obtain ⟨ta, pa, va⟩ := hk; obtain ⟨tb, pb, vb⟩ := hz
  refine ⟨tDGet2 (tVar i) ta tb, fun X h => pe_dget2 (by have := (c.room X h).un; omega) (pe_var (by rw [c.hN X h]; exact n.at_) (by rw [c.hsc X h]; exact n.vis) n.d1 n.d2) (pa X h) (pb X h) (m X h), fun B0 H0 B H σ ρ Q gd wx q => ?_⟩
  unfold dgetR at wx
  cases e : ρ[i]? with
  | none => rw [e] at wx; exact wx.elim
  | some s =>
    cases s with
    | dct kvs =>
      rw [e] at wx
      have wx : Wx mg W H0 σ ((fa ρ).bind fun d => (keyD d).bind fun k => (fb ρ).bind fun z => R.ok ((getL kvs k).getD z)) := wx
      obtain ⟨l, xs, k1, k2, k3, k4, k5⟩ := gd.slots i _ e
      refine ⟨_, k1, l, rfl, .inr ⟨xs, .inl k2⟩, va B0 H0 B H σ ρ _ gd wx.of_bind fun d B1 H1 v e1 g1 r1 => ?_⟩
      have w1 := wx.then e1
      cases e3 : keyD d with
      | bad => rw [e3] at w1; exact w1.elim
      | exc c' => exact (keyD_noexc _ _ e3).elim
      | ok ns =>
        rw [e3] at w1
        have w1 : Wx mg W H0 σ ((fb ρ).bind fun z => R.ok ((getL kvs ns).getD z)) := w1
        obtain ⟨bk, rfl, hb⟩ := key_at r1 e3
        refine vb B0 H0 B1 H1 σ ρ _ (gd.grow g1) w1.of_bind fun z B2 H2 u e4 g2 r2 => ?_
        have e0 : dgetR i fa fb ρ = .ok ((getL kvs ns).getD z) := by
          unfold dgetR
          rw [e]
          show ((fa ρ).bind fun d => (keyD d).bind fun k => (fb ρ).bind fun z => R.ok ((getL kvs k).getD z)) = _
          rw [e1]; show ((keyD d).bind fun k => (fb ρ).bind fun z => R.ok ((getL kvs k).getD z)) = _
          rw [e3]; show ((fb ρ).bind fun z => R.ok ((getL kvs ns).getD z)) = _
          rw [e4]; rfl
        refine ⟨_, DGet.t ((g1.trans g2).h _ _ k2) (g2.s _ _ (g2.b _ _ hb)), ?_⟩
        rcases (k5.mono (g1.b.trans g2.b)).getO ns with ⟨z1, z2⟩ | ⟨v', d', z1, z2, z3⟩
        · rw [z1]
          exact q _ B2 H2 _ e0 (g1.trans g2) (by rw [z2]; exact r2)
        · rw [z1]
          exact q _ B2 H2 _ e0 (g1.trans g2) (by rw [z2]; exact z3)
    | _ => rw [e] at wx; exact wx.elim
end
section
variable {ρ : Env} {i : Nat} {fa fb : Env → R D}
@[simp] theorem setDc_at : setDc i ρ = .nx (ρ.set i (.dct [])) := nrfl rfl
theorem dputS_at : dputS i fa fb ρ = (fb ρ).out fun v => match ρ[i]? with
  | some (.dct kvs) => (fa ρ).out fun d => (keyD d).out fun k => if fits (kvs.length + 1) = true then .nx (ρ.set i (.dct (putL kvs k v))) else .bad
  | _ => .bad := nrfl rfl
theorem dgetR_at : dgetR i fa fb ρ = match ρ[i]? with
  | some (.dct kvs) => (fa ρ).bind fun d => (keyD d).bind fun k => (fb ρ).bind fun z => .ok ((getL kvs k).getD z)
  | _ => .bad := nrfl rfl
end
end DL
set_option maxRecDepth 100000
set_option maxHeartbeats 1000000
/-! enumerate(tuple); x is True -/
namespace L2
open PySem PySem.Spec PyProof.Rows RZ
theorem meets_enum_newT (l : Addr) (items : Array Value) (n : Nat) (dct : Option Addr) (sl : Array (Option Value)) :
    Meets (Builtin.«enumerate.__new__» ⟨[.type "enumerate", .ref l], []⟩) (fun _ R s => s.heap.get? l = some { cls := .type "tuple", dict := dct, data := .seq items n, slots := sl } ∧
      R (.ok (.ret (.ref (s.heap.push { cls := .type "tuple_iterator", data := .fields #[.ref l, .int 0 0] }).objs.size)))
        { s with heap := (s.heap.push { cls := .type "tuple_iterator", data := .fields #[.ref l, .int 0 0] }).push { cls := .type "enumerate", data := .fields #[.none, .bool false, .ref s.heap.objs.size, rawInt 0, .none, .none] } }) :=
  .of_wp fun prog w A R s h => by
    obtain ⟨hp, g, d, tk, os⟩ := s; obtain ⟨hl, h⟩ := h
    have hsub := sub_enumerate
    have hL : Heap.IsTuple (Shared.heap ⟨hp, g, d, tk, os⟩) l items := ⟨_, hl, rfl, n, rfl⟩
    wp_walk using AutoSeq1.wpAny_loadPart' hl
    refine wpAny_stack_any fun st => wpAny_pure ?_
    split
    · rename_i c _ _ _ _ _
      cases (c == Value.type "enumerate")
      · wp_walk using AutoSeq1.wpAny_loadPart' hl, wpAny_pyIter_tuple hL
        exact ⟨_, rfl, h⟩
      · wp_walk using AutoSeq1.wpAny_loadPart' hl, wpAny_pyIter_tuple hL
        exact ⟨_, rfl, h⟩
    · wp_walk using AutoSeq1.wpAny_loadPart' hl, wpAny_pyIter_tuple hL
      exact ⟨_, rfl, h⟩
theorem call_enumT {prog : Program} {w : World} {A : Around} {E : Value → Shared → Prop} {s : Shared} {l : Addr} {items : Array Value} {Q : Value → Shared → Prop} (hL : s.heap.IsTuple l items)
    (h : ∀ h', IsEnum h' (s.heap.objs.size + 1) s.heap.objs.size 0 .none → h'.IsTupleIter s.heap.objs.size l 0 → h'.objs.size = s.heap.objs.size + 2 →
      (∀ b o, s.heap.get? b = some o → h'.get? b = some o) → Q (.ref (s.heap.objs.size + 1)) { s with heap := h' }) :
    wpAny (model prog w) A (call (.type "enumerate") [.ref l]) Q E s := by
  obtain ⟨⟨c, dct, dt, sl⟩, hl, hc, n, hd⟩ := hL
  replace hc : c = .type "tuple" := hc
  replace hd : dt = .seq items n := hd
  subst hc hd
  refine callType_new F.called_enumerate (by decide) (F.typeCall_enumerate_1 _) (F.newCall_enumerate_1 _) (fun obj => F.args_object_init_2 obj _) F.entry_enumerate_new
    (meets_enum_newT l items n dct sl) ⟨hl, ?_⟩
  have hz : (s.heap.push { cls := .type "tuple_iterator", data := .fields #[.ref l, .int 0 0] }).objs.size = s.heap.objs.size + 1 := Heap.size_push ..
  show _ ∧ _
  rw [hz]
  have he : IsEnum ((s.heap.push { cls := .type "tuple_iterator", data := .fields #[.ref l, .int 0 0] }).push
      { cls := .type "enumerate", data := .fields #[.none, .bool false, .ref s.heap.objs.size, rawInt 0, .none, .none] }) (s.heap.objs.size + 1) s.heap.objs.size 0 .none := by
    have := Heap.get?_push_size (s.heap.push { cls := .type "tuple_iterator", data := .fields #[.ref l, .int 0 0] })
      (o := { cls := .type "enumerate", data := .fields #[.none, .bool false, .ref s.heap.objs.size, rawInt 0, .none, .none] }) rfl
    rw [hz] at this; exact this
  refine ⟨⟨_, he, rfl⟩, h _ he ⟨_, Heap.get?_push_of_some _ (Heap.get?_push_size _ rfl), rfl, rfl⟩ (by rw [Heap.size_push, hz]) fun b o x => Heap.get?_push_of_some _ (Heap.get?_push_of_some _ x)⟩
theorem drawsT {prog : Program} {w : World} {A : Around} (hh : A.handled = none) (it l : Addr) (hne : l ≠ it) (items : Array Value) :
    Draws prog w A it [it, l] items.size (fun i v => items[i]? = some v) (fun i h => h.IsTupleIter it l i ∧ h.IsTuple l items) where
  live := fun _ _ st => let ⟨⟨o, ho, _⟩, _⟩ := st; ⟨o, ho⟩
  frame := fun _ _ _ st hk => by
    obtain ⟨⟨o, ho, r⟩, ⟨o2, ho2, r2⟩⟩ := st
    exact ⟨⟨o, hk it (by simp) o ho, r⟩, ⟨o2, hk l (by simp) o2 ho2, r2⟩⟩
  item := fun i s Q E hi st hQ => by
    obtain ⟨st, hl⟩ := st
    refine nextOf_tuple_item st hl (x := items[i]) (by simp [hi]) fun h' hit' hs' => ?_
    obtain ⟨o2, ho2, r2⟩ := hl
    exact hQ _ h' s.toks (by simp [hi]) ⟨hit', o2, (hs'.2 l hne).trans ho2, r2⟩ hs'
  done := fun s Q E st hE => nextOf_tuple_end hh st.1 st.2 (by simp) hE
theorem enumT_end {prog : Program} {w : World} {A : Around} {E : Value → Shared → Prop} {s : Shared} {e it l : Addr} {i : Nat} {c : Int} {items : Array Value} {old : Value} {Q : Option Value → Shared → Prop} (hh : A.handled = none)
    (he : IsEnum s.heap e it c old) (hit : s.heap.IsTupleIter it l i) (hl : s.heap.IsTuple l items) (hx : items[i]? = none)
    (hQ : ∀ h', Heap.ExtBut it s.heap h' → Q none { s with heap := h' }) : wpAny (model prog w) A (pyNext (.ref e)) Q E s := by
  have hT : s.TypeIs (.ref e) "enumerate" := ⟨_, he, rfl⟩
  unfold pyNext
  refine wpAny_bind (wpAny_attempt (wpAny_callSpecial?_slot (name := Str.ofString "__next__") hT F.slot_enumerate_next
    (wpAny_call_entry F.slot_enumerate_next hT F.entry_enumerate_next ?_ (F.args_enumerate_next_1 _))))
  show wpAny _ _ (field (.ref e) 2 >>= _) _ _ _
  refine wpAny_bind (wpAny_field he rfl (x := .ref it) rfl ?_)
  refine wpAny_bind (nextOf_tuple_end hh hit hl hx fun h' x he' hx' => ?_)
  obtain ⟨o, ho, hc⟩ := hx'
  refine wpAny_bind (wpAny_isInstance (T := "StopIteration") (b := true) ⟨o, ho, hc⟩ isSubtype_stop ?_)
  exact wpAny_pure (hQ _ he')
/-- the tuple at a, each item in a new pair -/
def IteT (K : PySem.W.Frag) (a : Addr) : It :=
  ⟨fun i H => ∃ (xs : List V) (x : V), SqT K H a xs ∧ xs[i]? = some x, fun i H v H' => ∃ T x, v = .ref T ∧ H T = none ∧ H' = upd H T (.tup [.int (i : Nat), x]) ∧ ∀ xs, SqT K H a xs → xs[i]? = some x, fun i H => ∃ xs : List V, SqT K H a xs ∧ xs.length ≤ i⟩
theorem turn_enumT {P : Program} {w : World} {K : PySem.W.Frag} {elts : List Expr} {kk : Nat} {tpos : Pos} (a e it : Addr) :
    Turn P w K (.Tuple elts kk tpos) (IteT K a) [e, it] e (fun i h => (∃ old, IsEnum h e it ((i : Nat) : Int) old) ∧ h.IsTupleIter it a i ∧ e ≠ it) where
  mem := by simp
  obj := fun i h st b hb => by
    obtain ⟨⟨old, he⟩, ⟨o, ho, hc, hd⟩, _⟩ := st
    have e' : b = e ∨ b = it := by simpa using hb
    rcases e' with z | z
    · rw [z]; exact ⟨_, he, fun v q => nomatch q⟩
    · rw [z]; exact ⟨o, ho, fun v q => by rw [hd] at q; cases q⟩
  keep := fun i h h' st k => let ⟨⟨old, he⟩, hi, hne⟩ := st; ⟨⟨old, k e (by simp) _ he⟩, hi.at fun o q => k it (by simp) o q, hne⟩
  item := by
    intro X hP hw hK hc i pins s σ H E I hf st hg
    subst hP hw hK
    obtain ⟨⟨old, he⟩, hit, hne⟩ := st
    obtain ⟨xs, x, hq, hx⟩ := hg
    obtain ⟨its, rv, p, hz⟩ := I.tuple hq
    obtain ⟨u, hu, ru⟩ := rv.get hx
    have hel : e < s.heap.objs.size := Heap.lt_size he
    have hil : it < s.heap.objs.size := by obtain ⟨_, q, _⟩ := hit; exact Heap.lt_size q
    have pt : s.heap.IsTuple a its.toArray := p
    have hea : e ≠ a := fun z => by
      obtain ⟨o, ho, hoc, _⟩ := id pt
      rw [← z, he] at ho
      cases ho
      exact absurd (Value.type.inj hoc) (by decide)
    have hai : a ≠ it := fun z => by
      obtain ⟨o, ho, hoc, _⟩ := id pt
      obtain ⟨o', ho', hoc', _⟩ := id hit
      rw [z, ho'] at ho
      cases ho
      rw [hoc'] at hoc
      exact absurd (Value.type.inj hoc) (by decide)
    have hi : i < its.toArray.size := by have := (List.getElem?_eq_some_iff.mp hu).1; simpa using this
    refine wpAny_pyNext_enum_itemD (drawsT (show X.A.in1.handled = none from I.ok.hd hc) it a hai its.toArray) he ⟨hit, pt⟩ hi hne (by simp [hne, hea]) fun y h' tk hy ho hit' hT hsz hk => ?_
    have ey : y = u := by
      have : its.toArray[i]? = some u := by simpa using hu
      rw [this] at hy; exact (Option.some.inj hy).symm
    subst ey
    refine ⟨_, rfl, wpAny_letOwnedTupleGo_enum (s := { s with heap := h', toks := tk + 1 }) ho fun h'' he' sb => ?_⟩
    have hT2 : h''.get? s.heap.objs.size = some { cls := .type "tuple", data := .seq #[.int i tk, y] } := (sb.2 _ (Nat.ne_of_gt hel)).trans hT
    have new : ObjOk X.prog X.w (upd H s.heap.objs.size (.tup [.int (i : Nat), x])) h'' s.heap.objs.size (.tup [.int (i : Nat), x]) :=
      ⟨by show 2 ≤ sizeLine; decide, [.int i tk, y], .cons ⟨_, rfl⟩ (.cons ru .nil), ⟨_, hT2, rfl, _, rfl⟩⟩
    have I1 : Inv X pins σ (upd H s.heap.objs.size (.tup [.int (i : Nat), x])) { s with heap := h'', toks := tk + 1 } :=
      I.turnedNew (ch := [e, it]) (fun b ob hb q => (sb.2 b (fun z => hb (by simp [z]))).trans (hk b ob (fun z => hb (by simp [z])) (fun z => hb (by simp [z])) q)) hf (Nat.le_refl _) new
    refine ⟨.ref s.heap.objs.size, _, I1, rfl, ⟨_, x, rfl, I.hok.fresh (Nat.le_refl _), rfl, fun ys hy => by rw [I.tuple_inj hy hq]; exact hx⟩, ⟨⟨y, ?_⟩, hit'.1.at fun o q => (sb.2 it (Ne.symm hne)).trans q, hne⟩, fun b hb => ?_⟩
    · have e1 : ((i + 1 : Nat) : Int) = (i : Int) + 1 := by omega
      rw [e1]; exact he'
    · have hb' : b < s.heap.objs.size := by
        have e' : b = e ∨ b = it := by simpa using hb
        rcases e' with z | z
        · rw [z]; exact hel
        · rw [z]; exact hil
      rw [upd_ne (Nat.ne_of_lt hb')]
      exact (hf b hb).1
  done := by
    intro X hP hw hK hc i pins s σ H E I hf st hg
    subst hP hw hK
    obtain ⟨⟨old, he⟩, hit, hne⟩ := st
    obtain ⟨xs, hq, hx⟩ := hg
    obtain ⟨its, rv, p, hz⟩ := I.tuple hq
    obtain ⟨f0, f1, f2, f3, f4, f5⟩ := hf it (by simp)
    have hl := rv.length
    have pt : s.heap.IsTuple a its.toArray := p
    exact enumT_end (I.ok.hd hc) he hit pt (by simp; omega) fun h' eb => ⟨rfl, I.turned (t' := s.toks) (fun b o hb q => eb b o hb q) f0 f1 f3 f4 f5⟩
  self := fun A i s Q E st h => let ⟨⟨_, he⟩, _⟩ := st; wpAny_pyIter_enum he h
def iEnumT (K : PySem.W.Frag) (ta : TA) : TI := fun σ H R => ta σ H fun vs H1 => ∃ a xs, vs = [.ref a] ∧ SqT K H1 a xs ∧ R (IteT K a) H1
theorem pi_enumT {X : Cx} {e : Expr} {ta : TA} {p pos tpos : Pos} {elts : List Expr} {kk : Nat} (hg : Gl X "enumerate") (hm : X.mg "enumerate" = none) (ha : PA X [e] ta) (hs : starEach [e] X.env = [(false, eval e X.env)] := by rfl) :
    PI X (.Tuple elts kk tpos) (.Call (.Name "enumerate" p) [e] [] pos) (iEnumT X.K ta) := by
  refine ⟨fun pins s σ H R I h => ?_⟩
  refine Call_ (ld_blt I hg hm boot_enumerate (PyProof.Rows.callWith_type1 (thn (ha.run pos pins s σ H _ I h) fun us s1 ⟨vs, H1, I1, r1, q1⟩ => ?_) hs rfl))
  obtain ⟨a, xs, ex, hq, q⟩ := q1
  subst ex
  cases r1 with
  | cons r rr =>
    cases rr
    cases r
    obtain ⟨its, rv, p', hz⟩ := I1.tuple hq
    refine call_enumT (show s1.heap.IsTuple a its.toArray from p') fun h' he hit hsz hk => wpAny_pyIter_enum he ?_
    have I2 : Inv X pins σ H1 { s1 with heap := h' } := I1.kept (t' := s1.toks) hk
    refine ⟨s1.heap.objs.size + 1, [s1.heap.objs.size + 1, s1.heap.objs.size], _, _, H1, rfl, I2, turn_enumT a (s1.heap.objs.size + 1) s1.heap.objs.size, ⟨⟨.none, he⟩, hit, Nat.succ_ne_self _⟩, fun b hb => ?_, q⟩
    have e' : b = s1.heap.objs.size + 1 ∨ b = s1.heap.objs.size := by simpa using hb
    have hle : s1.heap.objs.size ≤ b := by
      rcases e' with z | z
      · rw [z]; exact Nat.le_add_right _ _
      · rw [z]; exact Nat.le_refl _
    exact I1.fpOk hle (I1.hok.fresh hle)
end L2
namespace DL
open PySem L2
theorem walk_enumT {K : PySem.W.Frag} {B : Hp} {a : Addr} {xs : List V} {ds : List D} (h : B a = some (.tup xs)) (r : RpA B xs ds) : Walk K B (IteT K a) (enumI ds) where
  go := fun B' H' i s1 s2 hi => by
    rw [enumI_length] at hi
    obtain ⟨v, h1, _⟩ := r.get (List.getElem?_eq_getElem hi)
    exact ⟨xs, v, SqT.of (s2 _ _ (s1 _ _ h)), h1⟩
  yld := fun B' H' i e x H2 s1 s2 he y => by
    obtain ⟨d, hd, rfl⟩ := enumI_get he
    obtain ⟨T, x', rfl, hT, rfl, y2⟩ := y
    obtain ⟨v, h1, h2⟩ := r.get hd
    have ev : v = x' := Option.some.inj (h1.symm.trans (y2 xs (SqT.of (s2 _ _ (s1 _ _ h)))))
    subst ev
    have g := Gr.new (o := .tup [.int (i : Nat), v]) s2 hT
    exact ⟨_, g, .tup upd_same (.cons (.int _) (.cons ((h2.mono s1).mono g.b) .nil))⟩
  stop := fun B' H' i s1 s2 hi => by
    rw [enumI_length] at hi
    exact ⟨xs, SqT.of (s2 _ _ (s1 _ _ h)), by rw [r.length]; exact hi⟩
section
variable {C : Cx → Prop} {P : Program} {w : World} {K : PySem.W.Frag} {mg : Str → Option Value} {base : Heap} {k : Nat} {W : WX} {N : List Str} {sc : Scope}
variable {a b e tg : Expr} {es rest : List Expr} {fa fb fc : Env → R D} {fs : Env → R (List D)} {pos p p1 p2 p3 : Pos} {x y : Str} {i : Nat} {ta tb : TE} {tt tu : TT} {tr : TA}
def enumT : D → R (List D)
  | .tuple ds => .ok (enumI ds)
  | _ => .bad
theorem di_enumT {elts : List Expr} {kk : Nat} {tpos : Pos} (c : Cxs C P w K mg base k W N sc) (g : Gm sc "enumerate") (m : mg "enumerate" = none) (ha : DE C K mg W a fa)
    (hs : ∀ X, C X → starEach [a] X.env = [(false, eval a X.env)] := by intro _ _; rfl) : DI C K mg W (.Tuple elts kk tpos) (.Call (.Name "enumerate" p) [a] [] pos) (fun ρ => (fa ρ).bind enumT) := by
  obtain ⟨ta, pa, va⟩ := ha
  refine ⟨iEnumT K (tCons ta tNil), fun X h => ?_, ?_⟩
  · have e := c.hK X h
    subst e
    exact pi_enumT (g.gl c X h) (by rw [c.hmg X h]; exact m) (pa_cons (pa X h) pa_nil (hs X h)) (hs X h)
  · intro B0 H0 B H σ ρ Rr gd wx q
    refine va B0 H0 B H σ ρ _ gd wx.of_bind fun d B1 H1 v e1 g1 r1 => ?_
    have w1 := wx.then e1
    have e0 : (fa ρ).bind enumT = _ := bind_eq e1
    cases r1 with
    | @tup p xs ds hp ax => exact ⟨p, xs, rfl, SqT.of (g1.s _ _ hp), q _ B1 H1 _ e0 g1 (walk_enumT hp ax)⟩
    | _ => exact w1.elim
@[simp] theorem enumT_t {ds : List D} : enumT (.tuple ds) = .ok (enumI ds) := nrfl rfl
/-! unpacking a list -/
def tgL (n : Nat) (g : List D → Env → R Env) : D → Env → R Env := fun d ρ => match d with
  | .list ds => if ds.length = n then g ds ρ else .bad
  | _ => .bad
theorem dg_lst {g : List D → Env → R Env} {is : List Nat} {kk n : Nat} (c : Cxs C P w K mg base k W N sc) (h1 : DGs C K es g is)
    (hn : ∀ X, C X → (assignEach es X.env).length = n := by intro _ _; rfl) (hst : ∀ X, C X → (assignEach es X.env).findIdx? (·.1) = none := by intro _ _; rfl) : DG C K (.Tuple es kk pos) (tgL n g) is := by
  obtain ⟨t1, p1, v1⟩ := h1
  refine ⟨gLst K n t1, fun X h => ?_, ?_⟩
  · have e := c.hK X h
    subst e
    exact pg_lst (c.calm X h) (p1 X h) (hn X h) (hst X h)
  · intro B0 H0 B H σ ρ v d ρ' Q gd r e q
    cases r with
    | @lst p xs ds hp ax =>
      by_cases hl : ds.length = n
      · have e' : g ds ρ = .ok ρ' := by
          have z : tgL n g (.list ds) ρ = g ds ρ := if_pos hl
          rw [← z]; exact e
        exact ⟨p, xs, rfl, SqL.of (gd.sub _ _ hp), ax.length.trans hl, v1 B0 H0 B H σ ρ xs ds ρ' Q gd ax e' q⟩
      · have z : tgL n g (.list ds) ρ = .bad := if_neg hl
        rw [z] at e; cases e
    | _ => cases e
theorem nx_L {n : Nat} {g : List D → Env → R Env} (h2 : ∀ d ρ c, g d ρ ≠ .exc c) : ∀ d ρ c, tgL n g d ρ ≠ .exc c := fun d ρ c h => by
  unfold tgL at h
  split at h
  · split at h
    · exact h2 _ _ _ h
    · cases h
  · cases h
@[simp] theorem tgL3 {ρ : Env} {g : List D → Env → R Env} {a b c : D} : tgL 3 g (.list [a, b, c]) ρ = g [a, b, c] ρ := nrfl rfl
@[simp] theorem tgL2 {ρ : Env} {g : List D → Env → R Env} {a b : D} : tgL 2 g (.list [a, b]) ρ = g [a, b] ρ := nrfl rfl
@[simp] theorem tgT3 {ρ : Env} {g : List D → Env → R Env} {a b c : D} : tgT 3 g (.tuple [a, b, c]) ρ = g [a, b, c] ρ := nrfl rfl
theorem exm_of {K : PySem.W.Frag} {S E : Addr} (h1 : PySem.W.subIn K (.ref S) (.type "BaseException") = some true) (h2 : PySem.W.isClsIn K S = true) (h3 : PySem.W.typeIn K (.ref S) = some (.type "type")) (h4 : PySem.W.subIn K (.ref E) (.ref S) = some true) :
    PySem.W.exmOne K (.ref E) (.ref S) = some true := by
  have e1 : (PySem.W.subIn K (.ref S) (.type "BaseException") == some true) = true := by rw [h1] <;> rfl
  have e2 : ((PySem.W.clsIn K S).isSome && PySem.W.typeIn K (.ref S) == some (.type "type")) = true := by
    have h2' : (PySem.W.clsIn K S).isSome = true := h2
    rw [h2', h3] <;> rfl
  show (if (PySem.W.subIn K (.ref S) (.type "BaseException") == some true) = true then (if ((PySem.W.clsIn K S).isSome && PySem.W.typeIn K (.ref S) == some (.type "type")) = true then PySem.W.subIn K (.ref E) (.ref S) else none) else none) = some true
  rw [if_pos e1, if_pos e2]
  exact h4
/-! x is True -/
def isBD (n : Bool) (x y : D) : R D := match x, y with
  | .bool a, .bool b => .ok (.bool (if n then !decide (a = b) else decide (a = b)))
  | _, _ => .bad
theorem o2_isB : Op2 rIsB (isBD false) := by
  intro B H x y dx dy d Q s rx ry e q
  unfold isBD at e
  split at e
  · cases e
    cases rx; cases ry
    exact ⟨_, _, rfl, rfl, q B H _ (Gr.refl s) (.bl _)⟩
  · cases e
theorem pu_isB {n : Bool} : Pure2 (isBD n) := by intro x y c h; unfold isBD at h; split at h <;> cases h
theorem de_isB (ha : DE C K mg W a fa) (hb : DE C K mg W b fb) (hm : behindInMarks .Is b = false := by rfl) : DE C K mg W (.Compare a [.Is] [b] pos) (opR (isBD false) fa fb) :=
  de_cmp (r := fun _ => _) (fun _ _ => op_isBl) (fun _ _ => rfl) o2_isB pu_isB ha hb hm
theorem dt_isB (ha : DE C K mg W a fa) (hb : DE C K mg W b fb) (hm : behindInMarks .Is b = false := by rfl) : DT C K mg W (.Compare a [.Is] [b] pos) (toB (opR (isBD false) fa fb)) :=
  dt_cmp (r := fun _ => _) (fun _ _ => op_isBl) (fun _ _ => rfl) o2_isB pu_isB ha hb hm
@[simp] theorem isBD_b {x y : Bool} : isBD false (.bool x) (.bool y) = .ok (.bool (decide (x = y))) := nrfl rfl
end
end DL
set_option maxRecDepth 100000
set_option maxHeartbeats 1000000
namespace DL
open PySem L2
section
variable {C : Cx → Prop} {P : Program} {w : World} {K : PySem.W.Frag} {mg : Str → Option Value} {base : Heap} {k : Nat} {W : WX} {N : List Str} {sc : Scope}
variable {a b e tg : Expr} {es rest : List Expr} {fa fb fc : Env → R D} {fs : Env → R (List D)} {pos p p1 p2 p3 p4 p5 : Pos} {x y : Str} {i : Nat} {ta tb : TE} {tt tu : TT} {tr : TA}
/-! ### an empty dict as a datum -/
theorem de_dnew : DE C K mg W (.Dict [] [] pos) (fun _ => .ok (.dict [])) := by
  refine ⟨tDNewK, fun _ _ => pe_dnewK, fun B0 H0 B H σ ρ Q gd wx q => ?_⟩
  intro p hp
  exact q _ _ _ _ rfl (Gr.new gd.sub hp) (.dct upd_same)
/-! ### a dict of two words, looked up at once -/
def pick2 (k1 v1 k2 v2 : Str) : D → R D
  | .str s => if s = k1 then .ok (.str v1) else if s = k2 then .ok (.str v2) else .bad
  | _ => .bad
theorem pick2_str {k1 v1 k2 v2 s : Str} : pick2 k1 v1 k2 v2 (.str s) = if s = k1 then .ok (.str v1) else if s = k2 then .ok (.str v2) else .bad := nrfl rfl
theorem upd_twice {H : Hp} {p : Addr} {o o' : HO} : upd (upd H p o) p o' = upd H p o' := by
  funext x
  by_cases h : x = p
  · subst h; rw [upd_same, upd_same]
  · rw [upd_ne h, upd_ne h, upd_ne h]
theorem merge2 {k1 v1 k2 v2 : Str} (h : k1 ≠ k2) : mergeK [] [(Sum.inr k1, V.str v1), (Sum.inr k2, V.str v2)] = [((Sum.inr k1 : L2.Key), V.str v1), (Sum.inr k2, V.str v2)] := by
  have h' : ¬ (Sum.inr k1 : L2.Key) = Sum.inr k2 := fun e => h (Sum.inr.inj e)
  unfold mergeK
  simp [putK, h']
theorem de_pick2 {k1 v1 k2 v2 : Str} {j1 j2 j3 j4 : Nat} (c : Cxs C P w K mg base k W N sc) (hne : k1 ≠ k2) (ha : DE C K mg W a fa) (hs : NoSl a := by intro _ _; rfl) :
    DE C K mg W (.Subscript (.Dict [some (.Constant (.str k1) j1 p1), some (.Constant (.str k2) j2 p2)] [.Constant (.str v1) j3 p3, .Constant (.str v2) j4 p4] p5) a pos) (fun ρ => (fa ρ).bind (pick2 k1 v1 k2 v2)) := by
  obtain ⟨ta, pa, va⟩ := ha
  refine ⟨tDGet (tDisp [(tC (.str k1), tC (.str v1)), (tC (.str k2), tC (.str v2))]) ta, fun X h => pe_dget (by have := (c.room X h).un; omega) (pe_disp (pps_cons pe_str pe_str (pps_cons pe_str pe_str pps_nil)) rfl rfl (by simp) (show 2 ≤ 15 by decide)) (pa X h) hs, fun B0 H0 B H σ ρ Q gd wx q => ?_⟩
  intro p hp
  refine ⟨upd_same, [(.inr k1, .str v1), (.inr k2, .str v2)], rfl, show 2 ≤ 15 by decide, ?_⟩
  rw [upd_twice, merge2 hne]
  have g0 := Gr.new (o := .dK [((Sum.inr k1 : L2.Key), V.str v1), (Sum.inr k2, V.str v2)]) gd.sub hp
  refine va B0 H0 _ _ σ ρ _ (gd.grow g0) wx.of_bind fun d B1 H1 v e1 g1 r1 => ?_
  have w1 := wx.then e1
  have hp1 := g1.s _ _ (g1.b _ _ (upd_same (H := B) (a := p) (o := .dK [((Sum.inr k1 : L2.Key), V.str v1), (Sum.inr k2, V.str v2)])))
  have e0 : ∀ r, pick2 k1 v1 k2 v2 d = r → (fa ρ).bind (pick2 k1 v1 k2 v2) = r := fun r z => (bind_eq e1).trans z
  cases r1 with
  | str s =>
    have hg := DGet.k (k := .inr s) hp1
    by_cases h1 : s = k1
    · subst h1
      rw [valV_pos rfl] at hg
      exact ⟨p, _, rfl, hg, q _ B1 H1 _ (e0 _ (by rw [pick2_str, if_pos rfl])) (g0.trans g1) (.str _)⟩
    · by_cases h2 : s = k2
      · subst h2
        rw [valV_neg (fun z => h1 (Sum.inr.inj z).symm), valV_pos rfl] at hg
        exact ⟨p, _, rfl, hg, q _ B1 H1 _ (e0 _ (by rw [pick2_str, if_neg h1, if_pos rfl])) (g0.trans g1) (.str _)⟩
      · have : pick2 k1 v1 k2 v2 (.str s) = .bad := by rw [pick2_str, if_neg h1, if_neg h2]
        rw [this] at w1; exact w1.elim
  | _ => exact w1.elim
/-! ### one of two defs, picked from a list, called -/
def tPick (mg : Str → Option Value) (W : WX) (n : Nat) (fs : List (Addr × (List D → R D))) (tc : TE) (t : TA) : TE := fun σ H Q => tc σ H fun x H1 => ∃ f g, (f, g) ∈ fs ∧ x = .ref f ∧ tCallS (spD mg n g) (WE W) t σ H1 Q
theorem pe_callP {X : Cx} {o i' : Expr} {tc : TE} {t : TA} {n : Nat} {fs : List (Addr × (List D → R D))} {W : WX} (hc : PE X (.Subscript o i' p) tc) (hf : ∀ f g, (f, g) ∈ fs → ∃ fd ps, FnOk X.prog X.w X.K X.mg X.base (L2.CX X.prog X.w) k f fd ps (spD X.mg n g) ∧ PySem.W.keepIn X.K (.ref f) = true ∧ Binds X.K fd ps [])
    (hr : Room k X.A) (tk : Takes X W) (ha : PA X (e :: es) t)
    (he : starEach (e :: es) X.env = (false, eval e X.env) :: starEach es X.env) (hpl : (backTo pos (starEach es X.env)).any (·.1) = false) :
    PE X (.Call (.Subscript o i' p) (e :: es) [] pos) (tPick X.mg W n fs tc t) := by
  refine ⟨fun pins s σ H Q I h => ?_⟩
  have e0 : eval (.Call (.Subscript o i' p) (e :: es) [] pos) X.env = (do
    callWith pos (← eval (.Subscript o i' p) X.env) [] (backTo pos (starEach (e :: es) X.env)) (backToKw pos (keywordEach [] X.env))) := rfl
  rw [e0]
  refine wpAny_bind (thn (hc.run pins s σ H _ I h) fun u s1 ⟨x, H1, I1, rx, f, g, hm, ex, q⟩ => ?_)
  subst ex
  obtain rfl : u = Value.ref f := rx
  obtain ⟨fd, ps, F, hk, hb⟩ := hf f g hm
  refine PySem.W.callWith_K (h₀ := X.base) I.ok.mod.kin hk (thn (ha.run pos pins s1 σ H1 _ I1 q) fun us s2 ⟨vs, H2, I2, r, q2⟩ => ⟨I2.kIn, ?_⟩) he hpl
  exact run_fnS F hr hb (passAt tk σ) I2 r q2
def pickG (g1 g2 : List D → R D) : D → Option (List D → R D)
  | .int 0 => some g1
  | .int 1 => some g2
  | _ => none
def pickCall (g1 g2 : List D → R D) (fa : Env → R D) (fs : Env → R (List D)) : Env → R D := fun ρ => (fa ρ).bind fun d => match pickG g1 g2 d with
  | some g => callR g fs ρ
  | none => .bad
theorem de_callPick {j1 j2 n : Nat} {x1 x2 : Str} {g1 g2 : List D → R D} {q1 q2 q3 q4 : Pos} (c : Cxs C P w K mg base k W N sc) (F1 : Fn P w K mg base j1 x1 n g1) (F2 : Fn P w K mg base j2 x2 n g2) (h1 : j1 ≤ k) (h2 : j2 ≤ k) (gx1 : Gm sc x1) (gx2 : Gm sc x2)
    (hi : DE C K mg W a fa) (ha : DA C K mg W (e :: es) fs) (hpi : PlainIx a := by intro _ _; rfl)
    (he : ∀ X, C X → starEach (e :: es) X.env = (false, eval e X.env) :: starEach es X.env := by intro _ _; rfl) (hpl : ∀ X, C X → (backTo pos (starEach es X.env)).any (·.1) = false := by intro _ _; rfl) :
    DE C K mg W (.Call (.Subscript (.List [.Name x1 q1, .Name x2 q2] q3) a q4) (e :: es) [] pos) (pickCall g1 g2 fa fs) := by
  obtain ⟨ti, pi, vi⟩ := hi
  obtain ⟨tr, pa, va⟩ := ha
  obtain ⟨f1, fd1, ps1, a1, a2, a3, a4⟩ := (F1.mono h1).ex
  obtain ⟨f2, fd2, ps2, b1, b2, b3, b4⟩ := (F2.mono h2).ex
  refine ⟨tPick mg W n [(f1, g1), (f2, g2)] (tOp (rIxL K) (tLst (tCons (tC (.ref f1)) (tCons (tC (.ref f2)) tNil))) ti) tr, fun X h => ?_, fun B0 H0 B H σ ρ Q gd wx q => ?_⟩
  · have c1 := c.hP X h; have c2 := c.hw X h; have c3 := c.hK X h; have c4 := c.hmg X h; have c5 := c.hbase X h
    subst c1 c2 c3 c4 c5
    refine pe_callP (k := k) (pe_ix ix_list (pe_lst (pa_cons (pe_glob (gx1.gl c X h) a2 rfl gx1.d) (pa_cons (pe_glob (gx2.gl c X h) b2 rfl gx2.d) pa_nil))) (pi X h) hpi) (fun f g hm => ?_) (c.room X h) (c.takes X h) (pa X h) (he X h) (hpl X h)
    rcases List.mem_cons.1 hm with hm | hm
    · cases hm; exact ⟨fd1, ps1, a1, a3, a4⟩
    · rw [List.mem_singleton] at hm; cases hm; exact ⟨fd2, ps2, b1, b3, b4⟩
  · refine ⟨by rw [sizeLine_eq]; show 2 ≤ 16777216; decide, fun p hp => ?_⟩
    have g0 : Gr B H B (upd H p (.lst [.ref f1, .ref f2])) := ⟨Same.refl _, fun x u hx => by rw [upd_ne (ne_of_none (gd.sub _ _ hx) hp)]; exact gd.sub _ _ hx, fun x u hx => by rw [upd_ne (ne_of_none hx hp)]; exact hx, fun _ _ _ => rfl⟩
    refine vi B0 H0 _ _ σ ρ _ (gd.grow g0) wx.of_bind fun d B1 H1 v e1 g1' r1 => ?_
    have w1 := wx.then e1
    have hp1 := g1'.h _ _ (upd_same (H := H) (a := p) (o := .lst [.ref f1, .ref f2]))
    have e0 : pickCall g1 g2 fa fs ρ = (match pickG g1 g2 d with | some g => callR g fs ρ | none => .bad) := bind_eq e1
    cases hg : pickG g1 g2 d with
    | none => rw [hg] at w1; exact w1.elim
    | some g =>
      rw [hg] at w1 e0
      have fin : ∀ (f : Addr) (j : Int), d = .int j → (f, g) ∈ [(f1, g1), (f2, g2)] → atI [V.ref f1, V.ref f2] j = some (.ref f) → (∀ ds, g ds ≠ .bad → ds.length = n) → rIxL K (.ref p) v H1 (fun x H1 => ∃ f g, (f, g) ∈ [(f1, g1), (f2, g2)] ∧ x = .ref f ∧ tCallS (spD mg n g) (WE W) tr σ H1 Q) := fun f j hd hm ha hl => by
        subst hd
        cases r1 with
        | int _ => exact ⟨p, _, j, .ref f, rfl, rfl, SqL.of hp1, ha, f, g, hm, rfl, ev_call hl va B0 H0 B1 H1 σ ρ Q (gd.grow (g0.trans g1')) w1 fun d B2 H2 v e2 g2 r2 => q d B2 H2 v (e0.trans e2) ((g0.trans g1').trans g2) r2⟩
      unfold pickG at hg
      split at hg
      · cases hg; exact fin f1 0 rfl List.mem_cons_self rfl F1.len
      · cases hg; exact fin f2 1 rfl (List.mem_cons_of_mem _ List.mem_cons_self) rfl F2.len
      · cases hg
end
section
variable {ρ : Env} {g1 g2 : List D → R D} {fa : Env → R D} {fs : Env → R (List D)}
@[simp] theorem pickCall_at : pickCall g1 g2 fa fs ρ = (fa ρ).bind fun d => match pickG g1 g2 d with
  | some g => callR g fs ρ
  | none => .bad := nrfl rfl
end
end DL
set_option maxRecDepth 100000
set_option maxHeartbeats 1000000
namespace DL
open PySem L2
section
variable {C : Cx → Prop} {P : Program} {w : World} {K : PySem.W.Frag} {mg : Str → Option Value} {base : Heap} {k : Nat} {W : WX} {N : List Str} {sc : Scope}
variable {a b e tg : Expr} {es rest : List Expr} {fa fb fc : Env → R D} {fs : Env → R (List D)} {pos p p1 p2 p3 p4 p5 : Pos} {x y : Str} {i : Nat} {ta tb : TE} {tt tu : TT} {tr : TA}
/-! ### str of a whole number, int of a text -/
def strD : List D → R D
  | [.int i] => if decide (i.natAbs.log2 < 1920) = true then .ok (.str (Str.ofString (toString i))) else .bad
  | _ => .bad
theorem pu_str : Pure1 strD := by intro ds c; unfold strD; split <;> (try split) <;> simp
theorem cr_strD : CR1 (fun xs H Q => ∃ i, xs = [V.int i] ∧ i.natAbs.log2 < 1920 ∧ Q (V.str (Str.ofString (toString i))) H) strD := by
  intro B H xs ds d Q s ra e q
  unfold strD at e
  split at e
  · rename_i i
    obtain ⟨v, rfl, rv⟩ := ra.one
    cases rv
    split at e
    · rename_i h
      cases e
      exact ⟨i, rfl, of_decide_eq_true h, q B H _ (Gr.refl s) (.str _)⟩
    · cases e
  · cases e
theorem de_strc (c : Cxs C P w K mg base k W N sc) (g : Gm sc "str") (m : mg "str" = none) (ha : DA C K mg W [a] fs)
    (he : ∀ X, C X → starEach [a] X.env = (false, eval a X.env) :: starEach [] X.env := by intro _ _; rfl) (hpl : ∀ X, C X → (backTo pos (starEach [] X.env)).any (·.1) = false := by intro _ _; rfl) :
    DE C K mg W (.Call (.Name "str" p) [a] [] pos) (callR strD fs) :=
  de_bty (r := fun X => _) c g m (by decide +kernel) (by decide) (fun X h => call_str_int) (fun X h => rfl) cr_strD pu_str ha he hpl
def intSD : List D → R D
  | [.str s] => match intText? s with
    | some n => if decide (s.length ≤ 640) = true then .ok (.int n) else .bad
    | none => .bad
  | _ => .bad
theorem pu_intS : Pure1 intSD := by intro ds c; unfold intSD; split <;> (try split) <;> (try split) <;> simp
theorem cr_intSD : CR1 (fun xs H Q => ∃ a n, xs = [V.str a] ∧ intText? a = some n ∧ a.length ≤ 640 ∧ Q (V.int n) H) intSD := by
  intro B H xs ds d Q s ra e q
  unfold intSD at e
  split at e
  · rename_i z
    obtain ⟨v, rfl, rv⟩ := ra.one
    cases rv
    split at e
    · rename_i n hn
      split at e
      · rename_i h
        cases e
        exact ⟨z, n, rfl, hn, of_decide_eq_true h, q B H _ (Gr.refl s) (.int _)⟩
      · cases e
    · cases e
  · cases e
theorem de_intsc (c : Cxs C P w K mg base k W N sc) (g : Gm sc "int") (m : mg "int" = none) (ha : DA C K mg W [a] fs)
    (he : ∀ X, C X → starEach [a] X.env = (false, eval a X.env) :: starEach [] X.env := by intro _ _; rfl) (hpl : ∀ X, C X → (backTo pos (starEach [] X.env)).any (·.1) = false := by intro _ _; rfl) :
    DE C K mg W (.Call (.Name "int" p) [a] [] pos) (callR intSD fs) :=
  de_bty (r := fun X => _) c g m (by decide +kernel) (by decide) (fun X h => call_int_str) (fun X h => rfl) cr_intSD pu_intS ha he hpl
/-! ### join -/
def strsD : List D → Option (List Str)
  | [] => some []
  | .str s :: r => match strsD r with
    | some ss => some (s :: ss)
    | none => none
  | _ => none
theorem RpA.strs {B : Hp} : ∀ {ds : List D} {vs : List V} {ss : List Str}, RpA B vs ds → strsD ds = some ss → vs = ss.map V.str
  | [], _, ss, .nil, e => by rw [strsD] at e; cases e; rfl
  | .str s :: r, _, ss, .cons r1 r2, e => by
    rw [strsD] at e
    cases h : strsD r with
    | none => rw [h] at e; cases e
    | some us =>
      rw [h] at e; cases e
      cases r1
      rw [r2.strs h]; rfl
  | .int _ :: r, _, ss, _, e => by cases e
  | .bool _ :: r, _, ss, _, e => by cases e
  | .none :: r, _, ss, _, e => by cases e
  | .list _ :: r, _, ss, _, e => by cases e
  | .tuple _ :: r, _, ss, _, e => by cases e
  | .dict _ :: r, _, ss, _, e => by cases e
def joinD (x y : D) : R D := match x, y with
  | .str a, .list ds => match strsD ds with
    | some ys => if decide ((ys.map (fun x => x.length)).sum + ys.length * a.length ≤ 16777216) = true then .ok (.str (Txt.join a ys)) else .bad
    | none => .bad
  | _, _ => .bad
theorem joinD_noexc (x y : D) (c : Str) : joinD x y ≠ .exc c := by
  unfold joinD
  split
  · split
    · split <;> (intro h; cases h)
    · intro h; cases h
  · intro h; cases h
def joinR (fa fb : Env → R D) : Env → R D := fun ρ => (fa ρ).bind fun x => match x with
  | .str s => (fb ρ).bind (joinD (.str s))
  | _ => .bad
theorem de_join {apos : Pos} (c : Cxs C P w K mg base k W N sc) (ha : DE C K mg W a fa) (hb : DE C K mg W b fb)
    (h1 : ∀ X, C X → starEach [b] X.env = [(false, eval b X.env)] := by intro _ _; rfl)
    (h2 : ∀ X, C X → attributeBase a (Str.ofString "join") X.env (eval a X.env) = eval a X.env := by intro _ _; rfl)
    (h3 : (apos.endLine == pos.line) = true := by rfl) :
    DE C K mg W (.Call (.Attribute a "join" apos) [b] [] pos) (joinR fa fb) := by
  obtain ⟨ta, pa, va⟩ := ha; obtain ⟨tb, pb, vb⟩ := hb
  refine ⟨tM1 (fun x xs H Q => ∃ a p ys, x = V.str a ∧ xs = [V.ref p] ∧ (SqL K H p (List.map V.str ys) ∨ SqT K H p (List.map V.str ys)) ∧ (List.map (fun x => x.length) ys).sum + ys.length * a.length ≤ 16777216 ∧ Q (V.str (Txt.join a ys)) H) ta tb, fun X h => ?_, fun B0 H0 B H σ ρ Q gd wx q => ?_⟩
  · have e := c.hK X h; subst e
    exact pe_join (pa X h) (pb X h) (h1 X h) (h2 X h) h3
  · unfold joinR at wx
    refine va B0 H0 B H σ ρ _ gd wx.of_bind fun d B1 H1 v e1 g1 r1 => ?_
    have w1 := wx.then e1
    cases r1 with
    | str s =>
      refine ⟨⟨s, rfl⟩, vb B0 H0 B1 H1 σ ρ _ (gd.grow g1) w1.of_bind fun d2 B2 H2 u e2 g2 r2 => ?_⟩
      have w2 := w1.then e2
      have e0 : ∀ r, joinD (.str s) d2 = r → joinR fa fb ρ = r := fun r z => by
        unfold joinR
        rw [e1]
        show (fb ρ).bind (joinD (.str s)) = r
        rw [e2]; exact z
      cases e3 : joinD (.str s) d2 with
      | bad => rw [e3] at w2; exact w2.elim
      | exc c' => exact (joinD_noexc _ _ _ e3).elim
      | ok d3 =>
        have e4 := e3
        unfold joinD at e4
        split at e4
        · rename_i s' ds heq
          split at e4
          · rename_i ys hy
            split at e4
            · rename_i hz
              cases e4
              cases heq
              cases r2 with
              | @lst l xs _ hl ra =>
                have := ra.strs hy
                subst this
                exact ⟨s, l, ys, rfl, rfl, .inl (SqL.of (g2.s _ _ hl)), of_decide_eq_true hz, q _ B2 H2 _ (e0 _ e3) (g1.trans g2) (.str _)⟩
            · cases e4
          · cases e4
        · cases e4
    | _ => exact w1.elim
/-! ### a module's dict of two words -/
structure KD2 (K : PySem.W.Frag) (w : World) (d : Addr) (k1 v1 k2 v2 : Str) : Prop where
  ex : ∃ (h1 h2 : Int) (n : Nat) (t1 t2 t3 t4 : Tok), K.lookup d = some ⟨.type "dict", none, .dict #[⟨h1, .str k1 t1, .str v1 t3⟩, ⟨h2, .str k2 t2, .str v2 t4⟩] n, #[]⟩ ∧ h1 = PyData.keyHash w.params k1 ∧ h2 = PyData.keyHash w.params k2
  low : (d == sysModules) = false
section
variable {d : Addr} {k1 v1 k2 v2 : Str}
theorem KD2.kd (h : KD2 K w d k1 v1 k2 v2) : ∃ es n, KDict K w d es n := by
  obtain ⟨h1, h2, n, t1, t2, t3, t4, e, e1, e2⟩ := h.ex
  exact ⟨_, _, e, ⟨⟨_, _, rfl, e1⟩, ⟨_, _, rfl, e2⟩, trivial⟩, h.low⟩
theorem KD2.ns (h : KD2 K w d k1 v1 k2 v2) (z : Str) : ∃ t3 t4 : Tok, PySem.W.nsIn K d z = some (if z = k1 then some (.str v1 t3) else if z = k2 then some (.str v2 t4) else none) := by
  obtain ⟨h1, h2, n, t1, t2, t3, t4, e, e1, e2⟩ := h.ex
  refine ⟨t3, t4, ?_⟩
  unfold PySem.W.nsIn
  rw [e]
  dsimp only
  have i1 : (Value.str k1 t1).isStr z = decide (z = k1) := by
    rw [PySem.W.isStr_of]; show (k1 == z) = _
    by_cases q : z = k1
    · subst q; simp
    · have q' : ¬ k1 = z := fun e => q e.symm
      simp [q, q']
  have i2 : (Value.str k2 t2).isStr z = decide (z = k2) := by
    rw [PySem.W.isStr_of]; show (k2 == z) = _
    by_cases q : z = k2
    · subst q; simp
    · have q' : ¬ k2 = z := fun e => q e.symm
      simp [q, q']
  rw [List.find?_cons, List.find?_cons, List.find?_nil]
  dsimp only
  rw [i1, i2]
  by_cases q1 : z = k1
  · rw [decide_eq_true q1, if_pos q1]
  · rw [decide_eq_false q1, if_neg q1]
    by_cases q2 : z = k2
    · rw [decide_eq_true q2, if_pos q2]
    · rw [decide_eq_false q2, if_neg q2]; rfl
end
def kdInD (neg : Bool) (k1 k2 : Str) : D → R D
  | .str z => .ok (.bool (if neg then !(decide (z = k1) || decide (z = k2)) else (decide (z = k1) || decide (z = k2))))
  | _ => .bad
theorem kdInD_str {neg : Bool} {k1 k2 z : Str} : kdInD neg k1 k2 (.str z) = .ok (.bool (if neg then !(decide (z = k1) || decide (z = k2)) else (decide (z = k1) || decide (z = k2)))) := nrfl rfl
theorem KD2.some {d : Addr} {k1 v1 k2 v2 : Str} (h : KD2 K w d k1 v1 k2 v2) (z : Str) : ∃ r, PySem.W.nsIn K d z = some r ∧ r.isSome = (decide (z = k1) || decide (z = k2)) := by
  obtain ⟨t3, t4, e⟩ := h.ns z
  refine ⟨_, e, ?_⟩
  by_cases q1 : z = k1
  · simp [q1]
  · by_cases q2 : z = k2
    · rw [if_neg q1, if_pos q2, decide_eq_false q1, decide_eq_true q2]; rfl
    · rw [if_neg q1, if_neg q2, decide_eq_false q1, decide_eq_false q2]; rfl
theorem ev_kdin {neg : Bool} {d : Addr} {k1 v1 k2 v2 : Str} (h : KD2 K w d k1 v1 k2 v2) (va : Ev K mg W ta fa) :
    Ev K mg W (tOp (fun x y H Q => ∃ (z : Str) (r : Option Value), x = .str z ∧ y = .ref d ∧ PySem.W.nsIn K d z = some r ∧ Q (.bl (if neg then !r.isSome else r.isSome)) H) ta (tC (.ref d))) (fun ρ => (fa ρ).bind (kdInD neg k1 k2)) := by
  intro B0 H0 B H σ ρ Q gd wx q
  refine va B0 H0 B H σ ρ _ gd wx.of_bind fun dd B1 H1 v e1 g1 r1 => ?_
  have w1 := wx.then e1
  have e0 : (fa ρ).bind (kdInD neg k1 k2) = kdInD neg k1 k2 dd := bind_eq e1
  cases r1 with
  | str z =>
    obtain ⟨r, e2, e3⟩ := h.some z
    refine ⟨z, r, rfl, rfl, e2, ?_⟩
    rw [e3]
    exact q _ B1 H1 _ (e0.trans kdInD_str) g1 (.bl _)
  | _ => exact w1.elim
theorem de_kdin {d : Addr} {k1 v1 k2 v2 : Str} (c : Cxs C P w K mg base k W N sc) (h : KD2 K w d k1 v1 k2 v2) (ha : DE C K mg W a fa) (g : Gm sc y) (m : mg y = some (.ref d)) (hm : behindInMarks .In (.Name y p1) = false := by rfl) :
    DE C K mg W (.Compare a [.In] [.Name y p1] pos) (fun ρ => (fa ρ).bind (kdInD false k1 k2)) := by
  obtain ⟨ta, pa, va⟩ := ha
  obtain ⟨es, n, hd⟩ := h.kd
  refine ⟨_, fun X hX => ?_, ev_kdin (neg := false) h va⟩
  have c1 := c.hw X hX; have c3 := c.hK X hX
  subst c1 c3
  exact pe_cmpR (op_in_kd hd) (pa X hX) (pe_glob (g.gl c X hX) (by rw [c.hmg X hX]; exact m) rfl g.d) hm
theorem de_kdnotin {d : Addr} {k1 v1 k2 v2 : Str} (c : Cxs C P w K mg base k W N sc) (h : KD2 K w d k1 v1 k2 v2) (ha : DE C K mg W a fa) (g : Gm sc y) (m : mg y = some (.ref d)) (hm : behindInMarks .NotIn (.Name y p1) = false := by rfl) :
    DE C K mg W (.Compare a [.NotIn] [.Name y p1] pos) (fun ρ => (fa ρ).bind (kdInD true k1 k2)) := by
  obtain ⟨ta, pa, va⟩ := ha
  obtain ⟨es, n, hd⟩ := h.kd
  refine ⟨_, fun X hX => ?_, ev_kdin (neg := true) h va⟩
  have c1 := c.hw X hX; have c3 := c.hK X hX
  subst c1 c3
  exact pe_cmpR (op_notIn_kd hd) (pa X hX) (pe_glob (g.gl c X hX) (by rw [c.hmg X hX]; exact m) rfl g.d) hm
theorem dt_kdin {d : Addr} {k1 v1 k2 v2 : Str} (c : Cxs C P w K mg base k W N sc) (h : KD2 K w d k1 v1 k2 v2) (ha : DE C K mg W a fa) (g : Gm sc y) (m : mg y = some (.ref d)) (hm : behindInMarks .In (.Name y p1) = false := by rfl) :
    DT C K mg W (.Compare a [.In] [.Name y p1] pos) (toB (fun ρ => (fa ρ).bind (kdInD false k1 k2))) := by
  obtain ⟨ta, pa, va⟩ := ha
  obtain ⟨es, n, hd⟩ := h.kd
  refine ⟨_, fun X hX => ?_, evt_test (ev_kdin (neg := false) h va)⟩
  have c1 := c.hw X hX; have c3 := c.hK X hX
  subst c1 c3
  exact pt_cmpR (op_in_kd hd) (pa X hX) (pe_glob (g.gl c X hX) (by rw [c.hmg X hX]; exact m) rfl g.d) hm
theorem dt_kdnotin {d : Addr} {k1 v1 k2 v2 : Str} (c : Cxs C P w K mg base k W N sc) (h : KD2 K w d k1 v1 k2 v2) (ha : DE C K mg W a fa) (g : Gm sc y) (m : mg y = some (.ref d)) (hm : behindInMarks .NotIn (.Name y p1) = false := by rfl) :
    DT C K mg W (.Compare a [.NotIn] [.Name y p1] pos) (toB (fun ρ => (fa ρ).bind (kdInD true k1 k2))) := by
  obtain ⟨ta, pa, va⟩ := ha
  obtain ⟨es, n, hd⟩ := h.kd
  refine ⟨_, fun X hX => ?_, evt_test (ev_kdin (neg := true) h va)⟩
  have c1 := c.hw X hX; have c3 := c.hK X hX
  subst c1 c3
  exact pt_cmpR (op_notIn_kd hd) (pa X hX) (pe_glob (g.gl c X hX) (by rw [c.hmg X hX]; exact m) rfl g.d) hm
theorem de_kdix {d : Addr} {k1 v1 k2 v2 : Str} (c : Cxs C P w K mg base k W N sc) (h : KD2 K w d k1 v1 k2 v2) (ha : DE C K mg W a fa) (g : Gm sc y) (m : mg y = some (.ref d)) (hs : PlainIx a := by intro _ _; rfl) :
    DE C K mg W (.Subscript (.Name y p1) a pos) (fun ρ => (fa ρ).bind (pick2 k1 v1 k2 v2)) := by
  obtain ⟨ta, pa, va⟩ := ha
  obtain ⟨es, n, hd⟩ := h.kd
  refine ⟨tOp (rIxD K w) (tC (.ref d)) ta, fun X hX => ?_, fun B0 H0 B H σ ρ Q gd wx q => ?_⟩
  · have c1 := c.hw X hX; have c3 := c.hK X hX
    subst c1 c3
    exact pe_ix ix_kdict (pe_glob (g.gl c X hX) (by rw [c.hmg X hX]; exact m) rfl g.d) (pa X hX) hs
  · refine va B0 H0 B H σ ρ _ gd wx.of_bind fun dd B1 H1 v e1 g1 r1 => ?_
    have w1 := wx.then e1
    have e0 : (fa ρ).bind (pick2 k1 v1 k2 v2) = pick2 k1 v1 k2 v2 dd := bind_eq e1
    cases r1 with
    | str z =>
      obtain ⟨t3, t4, e2⟩ := h.ns z
      by_cases q1 : z = k1
      · rw [if_pos q1] at e2
        exact ⟨d, z, .str v1, rfl, rfl, ⟨es, n, _, hd.at_, hd.lit, e2, ⟨t3, rfl⟩⟩, q _ B1 H1 _ (e0.trans (by rw [pick2_str, if_pos q1])) g1 (.str _)⟩
      · by_cases q2 : z = k2
        · rw [if_neg q1, if_pos q2] at e2
          exact ⟨d, z, .str v2, rfl, rfl, ⟨es, n, _, hd.at_, hd.lit, e2, ⟨t4, rfl⟩⟩, q _ B1 H1 _ (e0.trans (by rw [pick2_str, if_neg q1, if_pos q2])) g1 (.str _)⟩
        · have : pick2 k1 v1 k2 v2 (.str z) = .bad := by rw [pick2_str, if_neg q1, if_neg q2]
          rw [this] at w1; exact w1.elim
    | _ => exact w1.elim
end
end DL
set_option maxRecDepth 100000
set_option maxHeartbeats 1000000
/-! trees of guests: in plain Lean -/
namespace TT
open PySem L2 DL
inductive T where
  | leaf (g : Int)
  | node (b : Bool) (ts : List T)
theorem T.ind {P : T → Prop} (hl : ∀ g, P (.leaf g)) (hn : ∀ b ts, (∀ t ∈ ts, P t) → P (.node b ts)) : ∀ t, P t := by
  intro t
  refine T.rec (motive_1 := P) (motive_2 := fun ts => ∀ t ∈ ts, P t) hl hn (by simp) (fun t ts h1 h2 => ?_) t
  intro x hx
  rcases List.mem_cons.1 hx with rfl | hx
  · exact h1
  · exact h2 x hx
def wd (b : Bool) : Str := if b then "bench" else "stools"
mutual
def toD : T → D
  | .leaf g => .int g
  | .node b ts => .tuple [.str (wd b), .tuple (toDs ts)]
def toDs : List T → List D
  | [] => []
  | t :: r => toD t :: toDs r
end
theorem toDs_map : ∀ ts : List T, toDs ts = ts.map toD
  | [] => rfl
  | t :: r => by rw [toDs, List.map_cons, toDs_map r]
/-! the guests, from the left -/
mutual
def seat : T → List Int
  | .leaf g => [g]
  | .node _ ts => seats ts
def seats : List T → List Int
  | [] => []
  | t :: r => seat t ++ seats r
end
mutual
def dep : T → Nat
  | .leaf _ => 0
  | .node _ ts => deps ts + 1
def deps : List T → Nat
  | [] => 0
  | t :: r => max (dep t) (deps r)
end
theorem deps_le {ts : List T} {t : T} (h : t ∈ ts) : dep t ≤ deps ts := by
  induction ts with
  | nil => cases h
  | cons x r ih =>
    rw [deps]
    rcases List.mem_cons.1 h with rfl | h
    · omega
    · have := ih h; omega
/-! a tree by its form: guests 0 .. 11, two parts at least, a bench three -/
mutual
def Ok : T → Prop
  | .leaf g => 0 ≤ g ∧ g ≤ 11
  | .node b ts => (if b then 3 else 2) ≤ ts.length ∧ Oks ts
def Oks : List T → Prop
  | [] => True
  | t :: r => Ok t ∧ Oks r
end
theorem oks_iff : ∀ {ts : List T}, Oks ts ↔ ∀ t ∈ ts, Ok t
  | [] => by simp [Oks]
  | t :: r => by rw [Oks, oks_iff (ts := r)]; simp
theorem seats_app : ∀ ts us : List T, seats (ts ++ us) = seats ts ++ seats us
  | [], us => rfl
  | t :: r, us => by rw [List.cons_append, seats, seats, seats_app r us, List.append_assoc]
theorem seats_flat : ∀ ts : List T, seats ts = (ts.map seat).flatten
  | [] => rfl
  | t :: r => by rw [seats, List.map_cons, List.flatten_cons, seats_flat r]
theorem mem_seats {g : Int} {ts : List T} : g ∈ seats ts ↔ ∃ t ∈ ts, g ∈ seat t := by
  rw [seats_flat, List.mem_flatten]
  constructor
  · rintro ⟨l, h1, h2⟩
    obtain ⟨t, h3, rfl⟩ := List.mem_map.1 h1
    exact ⟨t, h3, h2⟩
  · rintro ⟨t, h1, h2⟩
    exact ⟨_, List.mem_map.2 ⟨t, h1, rfl⟩, h2⟩
theorem seats_perm {ts us : List T} (h : ts.Perm us) : (seats ts).Perm (seats us) := by
  rw [seats_flat, seats_flat]
  exact (h.map seat).flatten
theorem seat_ne {t : T} (h : Ok t) : seat t ≠ [] := by
  induction t using T.ind with
  | hl g => simp [seat]
  | hn b ts ih =>
    cases ts with
    | nil => rw [Ok] at h; have := h.1; simp at this; split at this <;> omega
    | cons x r =>
      rw [Ok, Oks] at h
      rw [seat, seats]
      intro e
      exact ih x List.mem_cons_self h.2.1 (List.append_eq_nil_iff.1 e).1
theorem seat_b {t : T} (h : Ok t) : ∀ g ∈ seat t, 0 ≤ g ∧ g ≤ 11 := by
  induction t using T.ind with
  | hl g => intro x hx; rw [seat, List.mem_singleton] at hx; subst hx; exact h
  | hn b ts ih =>
    intro x hx
    rw [seat, mem_seats] at hx
    obtain ⟨t, h1, h2⟩ := hx
    rw [Ok] at h
    exact ih t h1 (oks_iff.1 h.2 t h1) x h2
theorem seat_pos {t : T} (h : Ok t) : 1 ≤ (seat t).length := by
  cases e : seat t with
  | nil => exact absurd e (seat_ne h)
  | cons x r => rw [List.length_cons]; omega
theorem seats_len_le {t : T} {ts : List T} (h : t ∈ ts) : (seat t).length ≤ (seats ts).length := by
  induction ts with
  | nil => cases h
  | cons x r ih =>
    rw [seats, List.length_append]
    rcases List.mem_cons.1 h with rfl | h
    · omega
    · have := ih h; omega
theorem seats_len_ge : ∀ {ts : List T}, Oks ts → ts.length ≤ (seats ts).length
  | [], _ => Nat.le_refl _
  | t :: r, h => by
    rw [Oks] at h
    have h1 := seat_pos h.1
    have h2 := seats_len_ge h.2
    rw [seats, List.length_append, List.length_cons]; omega
/-- the depth is less than the number of guests -/
theorem dep_lt {t : T} (h : Ok t) : dep t < (seat t).length := by
  induction t using T.ind with
  | hl g => simp [dep, seat]
  | hn b ts ih =>
    rw [Ok] at h
    obtain ⟨h1, h2⟩ := h
    have h3 : 2 ≤ ts.length := by split at h1 <;> omega
    rw [dep, seat]
    have key : ∀ us : List T, (∀ t ∈ us, t ∈ ts) → us ≠ [] → deps us + us.length ≤ (seats us).length := by
      intro us
      induction us with
      | nil => intro _ h; exact absurd rfl h
      | cons x r ihr =>
        intro hm _
        have a1 := ih x (hm x List.mem_cons_self) (oks_iff.1 h2 x (hm x List.mem_cons_self))
        rw [deps, seats, List.length_append, List.length_cons]
        by_cases hr : r = []
        · subst hr; simp [deps, seats]; omega
        · have a2 := ihr (fun t ht => hm t (List.mem_cons_of_mem _ ht)) hr
          have a3 : 1 ≤ r.length := by cases r with
            | nil => exact absurd rfl hr
            | cons _ _ => simp
          omega
    have := key ts (fun _ h => h) (by intro e; rw [e] at h3; simp at h3)
    omega
/-! least guest -/
def least (t : T) : Int := match seat t with
  | [] => 0
  | n :: r => r.foldl min n
theorem foldl_min_le : ∀ (r : List Int) (n : Int), r.foldl min n ≤ n ∧ ∀ m ∈ r, r.foldl min n ≤ m
  | [], n => ⟨Int.le_refl _, by simp⟩
  | x :: r, n => by
    obtain ⟨h1, h2⟩ := foldl_min_le r (min n x)
    rw [List.foldl_cons]
    refine ⟨by omega, fun m hm => ?_⟩
    rcases List.mem_cons.1 hm with rfl | hm
    · omega
    · exact h2 m hm
theorem foldl_min_mem : ∀ (r : List Int) (n : Int), r.foldl min n ∈ n :: r
  | [], n => List.mem_cons_self
  | x :: r, n => by
    rw [List.foldl_cons]
    have := foldl_min_mem r (min n x)
    rcases List.mem_cons.1 this with h | h
    · rw [h]
      by_cases hx : n ≤ x
      · rw [show min n x = n by omega]; exact List.mem_cons_self
      · rw [show min n x = x by omega]; exact List.mem_cons_of_mem _ List.mem_cons_self
    · exact List.mem_cons_of_mem _ (List.mem_cons_of_mem _ h)
theorem least_mem {t : T} (h : Ok t) : least t ∈ seat t := by
  unfold least
  cases e : seat t with
  | nil => exact absurd e (seat_ne h)
  | cons n r => exact foldl_min_mem r n
theorem least_le {t : T} : ∀ g ∈ seat t, least t ≤ g := by
  unfold least
  cases e : seat t with
  | nil => intro g hg; cases hg
  | cons n r =>
    intro g hg
    obtain ⟨h1, h2⟩ := foldl_min_le r n
    rcases List.mem_cons.1 hg with rfl | hg
    · exact h1
    · exact h2 g hg
theorem least_perm {t u : T} (h : (seat t).Perm (seat u)) (ht : seat t ≠ []) : least t = least u := by
  have h1 : ∀ {t u : T}, (seat t).Perm (seat u) → seat t ≠ [] → least t ≤ least u := fun {t u} h ht => by
    have : least u ∈ seat u := by
      unfold least
      cases e : seat u with
      | nil => rw [e] at h; exact absurd h.eq_nil ht
      | cons n r => exact foldl_min_mem r n
    exact least_le _ (h.mem_iff.2 this)
  have hu : seat u ≠ [] := fun e => ht (by rw [e] at h; exact h.eq_nil)
  exact Int.le_antisymm (h1 h ht) (h1 h.symm hu)
/-! tidy -/
def Asc : List Int → Prop := List.Pairwise (· ≤ ·)
mutual
def Tidy : T → Prop
  | .leaf _ => True
  | .node b ts => (if b then ∀ x y, (ts.map least).head? = some x → (ts.map least).getLast? = some y → x ≤ y else Asc (ts.map least)) ∧ Tidys ts
def Tidys : List T → Prop
  | [] => True
  | t :: r => Tidy t ∧ Tidys r
end
theorem tidys_iff : ∀ {ts : List T}, Tidys ts ↔ ∀ t ∈ ts, Tidy t
  | [] => by simp [Tidys]
  | t :: r => by rw [Tidys, tidys_iff (ts := r)]; simp
def sortT (ts : List T) : List T := sortV ts (ts.map least)
def turn (ts : List T) : List T := match (ts.map least).head?, (ts.map least).getLast? with
  | some x, some y => if x > y then ts.reverse else ts
  | _, _ => ts
mutual
def tidy : T → T
  | .leaf g => .leaf g
  | .node b ts => .node b (if b then turn (tidys ts) else sortT (tidys ts))
def tidys : List T → List T
  | [] => []
  | t :: r => tidy t :: tidys r
end
theorem tidys_map : ∀ ts : List T, tidys ts = ts.map tidy
  | [] => rfl
  | t :: r => by rw [tidys, List.map_cons, tidys_map r]
theorem zip_map_self {α β : Type} (f : α → β) : ∀ l : List α, l.zip (l.map f) = l.map fun x => (x, f x)
  | [] => rfl
  | x :: r => by rw [List.map_cons, List.zip_cons_cons, zip_map_self f r, List.map_cons]
theorem sortT_eq (ts : List T) : sortT ts = ts.mergeSort fun a b => decide (least a ≤ least b) := by
  unfold sortT sortV
  rw [zip_map_self, ← List.map_mergeSort (r := fun a b : T => decide (least a ≤ least b)) (s := fun a b : T × Int => decide (a.2 ≤ b.2)) (f := fun x => (x, least x)) (fun a _ b _ => rfl), List.map_map]
  exact List.map_id _
theorem sortT_perm (ts : List T) : (sortT ts).Perm ts := by rw [sortT_eq]; exact List.mergeSort_perm _ _
theorem sortT_asc (ts : List T) : Asc ((sortT ts).map least) := by
  rw [sortT_eq]
  have := List.pairwise_mergeSort (le := fun a b : T => decide (least a ≤ least b)) (fun a b c h1 h2 => by simp at *; omega) (fun a b => by simp; omega) ts
  unfold Asc
  rw [List.pairwise_map]
  exact this.imp fun h => by simpa using h
theorem sortT_id {ts : List T} (h : Asc (ts.map least)) : sortT ts = ts := by
  rw [sortT_eq]
  unfold Asc at h
  rw [List.pairwise_map] at h
  exact List.mergeSort_of_pairwise (h.imp fun h => by simpa using h)
theorem turn_perm (ts : List T) : (turn ts).Perm ts := by
  unfold turn
  split
  · split
    · exact List.reverse_perm _
    · exact List.Perm.refl _
  · exact List.Perm.refl _
theorem tidy_seat {t : T} : (seat (tidy t)).Perm (seat t) := by
  induction t using T.ind with
  | hl g => exact List.Perm.refl _
  | hn b ts ih =>
    have h1 : (seats (tidys ts)).Perm (seats ts) := by
      rw [tidys_map]
      clear b
      induction ts with
      | nil => exact List.Perm.refl _
      | cons x r ihr =>
        rw [List.map_cons, seats, seats]
        exact (ih x List.mem_cons_self).append (ihr fun t ht => ih t (List.mem_cons_of_mem _ ht))
    rw [tidy, seat, seat]
    cases b
    · exact (seats_perm (sortT_perm _)).trans h1
    · exact (seats_perm (turn_perm _)).trans h1
theorem tidy_ok {t : T} (h : Ok t) : Ok (tidy t) := by
  induction t using T.ind with
  | hl g => exact h
  | hn b ts ih =>
    rw [Ok] at h
    obtain ⟨h1, h2⟩ := h
    have hm : ∀ t ∈ tidys ts, Ok t := by
      rw [tidys_map]
      intro t ht
      obtain ⟨u, hu, rfl⟩ := List.mem_map.1 ht
      exact ih u hu (oks_iff.1 h2 u hu)
    have hl : (tidys ts).length = ts.length := by rw [tidys_map, List.length_map]
    rw [tidy, Ok]
    cases b
    · rw [if_neg (by decide)] at h1
      exact ⟨by rw [if_neg (by decide), if_neg (by decide), (sortT_perm _).length_eq, hl]; exact h1, oks_iff.2 fun t ht => hm t ((sortT_perm _).mem_iff.1 ht)⟩
    · rw [if_pos rfl] at h1
      exact ⟨by rw [if_pos rfl, if_pos rfl, (turn_perm _).length_eq, hl]; exact h1, oks_iff.2 fun t ht => hm t ((turn_perm _).mem_iff.1 ht)⟩
theorem turn_asc (ts : List T) : ∀ x y, ((turn ts).map least).head? = some x → ((turn ts).map least).getLast? = some y → x ≤ y := by
  intro x y
  unfold turn
  split
  · rename_i a b ha hb
    split
    · intro h1 h2
      rw [List.map_reverse, List.head?_reverse, hb] at h1
      rw [List.map_reverse, List.getLast?_reverse, ha] at h2
      cases h1; cases h2; omega
    · intro h1 h2
      rw [ha] at h1; rw [hb] at h2
      cases h1; cases h2; omega
  · rename_i h
    intro h1 h2
    exact (h x y h1 h2).elim
theorem tidy_tidy (t : T) : Tidy (tidy t) := by
  induction t using T.ind with
  | hl g => rw [tidy, Tidy]; trivial
  | hn b ts ih =>
    have hm : ∀ t ∈ tidys ts, Tidy t := by
      rw [tidys_map]
      intro t ht
      obtain ⟨u, hu, rfl⟩ := List.mem_map.1 ht
      exact ih u hu
    rw [tidy, Tidy]
    cases b
    · exact ⟨sortT_asc _, tidys_iff.2 fun t ht => hm t ((sortT_perm _).mem_iff.1 ht)⟩
    · exact ⟨turn_asc _, tidys_iff.2 fun t ht => hm t ((turn_perm _).mem_iff.1 ht)⟩
theorem turn_id {ts : List T} (h : ∀ x y, (ts.map least).head? = some x → (ts.map least).getLast? = some y → x ≤ y) : turn ts = ts := by
  unfold turn
  split
  · rename_i a b ha hb
    have := h a b ha hb
    rw [if_neg (by omega)]
  · rfl
theorem tidy_id {t : T} (h : Tidy t) : tidy t = t := by
  induction t using T.ind with
  | hl g => rfl
  | hn b ts ih =>
    rw [Tidy] at h
    obtain ⟨h1, h2⟩ := h
    have e : tidys ts = ts := by
      rw [tidys_map]
      have : ts.map tidy = ts.map id := List.map_congr_left fun t ht => ih t ht (tidys_iff.1 h2 t ht)
      rw [this, List.map_id]
    rw [tidy, e]
    cases b
    · rw [if_neg (by decide), sortT_id h1]
    · rw [if_pos rfl, turn_id h1]
theorem tidy_iff {t : T} : tidy t = t ↔ Tidy t := ⟨fun h => h ▸ tidy_tidy t, tidy_id⟩
/-! how many rows -/
def prodI : List Int → Int
  | [] => 1
  | x :: r => x * prodI r
def facI : Nat → Int
  | 0 => 1
  | n + 1 => facI n * (n + 1 : Int)
mutual
def count : T → Int
  | .leaf _ => 1
  | .node b ts => (if b then 2 else facI ts.length) * counts ts
def counts : List T → Int
  | [] => 1
  | t :: r => count t * counts r
end
end TT
set_option maxRecDepth 100000
set_option maxHeartbeats 1000000
namespace TT
open PySem L2 DL
theorem shaped_str {x : Str} (h : PyData.strOk x = true) : SeqAt.shaped (.str x) = true := by simp [SeqAt.shaped, PyData.canLay0, PyData.depth, h]
theorem eqD_str {x y : Str} (hx : PyData.strOk x = true) (hy : PyData.strOk y = true) : eqD (.str x) (.str y) = .ok (.bool (decide (x = y))) := by
  unfold eqD
  rw [if_pos ⟨shaped_str hx, shaped_str hy⟩]
  show R.ok (PyData.bool (x == y)) = _
  rw [show (x == y) = decide (x = y) by by_cases h : x = y <;> simp [h]]
theorem neD_str {x y : Str} (hx : PyData.strOk x = true) (hy : PyData.strOk y = true) : neD (.str x) (.str y) = .ok (.bool (!decide (x = y))) := by
  unfold neD
  rw [if_pos ⟨shaped_str hx, shaped_str hy⟩]
  show R.ok (PyData.bool (!(x == y))) = _
  rw [show (x == y) = decide (x = y) by by_cases h : x = y <;> simp [h]]
theorem wd_ok (b : Bool) : PyData.strOk (wd b) = true := by cases b <;> decide +kernel
theorem wd_stools (b : Bool) : decide (wd b = "stools") = !b := by cases b <;> decide +kernel
theorem wd_bench (b : Bool) : decide (wd b = "bench") = b := by cases b <;> decide +kernel
theorem eq_stools (b : Bool) : eqD (.str (wd b)) (.str "stools") = .ok (.bool (!b)) := by
  rw [eqD_str (wd_ok b) (by decide +kernel), wd_stools]
theorem eq_bench (b : Bool) : eqD (.str (wd b)) (.str "bench") = .ok (.bool b) := by
  rw [eqD_str (wd_ok b) (by decide +kernel), wd_bench]
theorem wd_inj {b c : Bool} (h : wd b = wd c) : b = c := by
  revert h; cases b <;> cases c <;> decide +kernel
mutual
theorem lay_toD : ∀ t : T, PyData.canLay0 (toD t) = true
  | .leaf g => by rw [toD]; simp [PyData.canLay0]
  | .node b ts => by rw [toD]; simp [PyData.canLay0, PyData.canLayAll0, lay_toDs ts, wd_ok]
theorem lay_toDs : ∀ ts : List T, PyData.canLayAll0 (toDs ts) = true
  | [] => by rw [toDs]; simp [PyData.canLayAll0]
  | t :: r => by rw [toDs]; simp [PyData.canLayAll0, lay_toD t, lay_toDs r]
end
mutual
theorem depth_toD : ∀ t : T, PyData.depth (toD t) ≤ 2 * dep t
  | .leaf g => by rw [toD]; simp [PyData.depth]
  | .node b ts => by
    have := depth_toDs ts
    rw [toD, dep]; simp [PyData.depth, PyData.depthAll]; omega
theorem depth_toDs : ∀ ts : List T, PyData.depthAll (toDs ts) ≤ 2 * deps ts
  | [] => by rw [toDs]; simp [PyData.depthAll]
  | t :: r => by
    have h1 := depth_toD t
    have h2 := depth_toDs r
    rw [toDs, deps]; simp [PyData.depthAll]; omega
end
theorem shaped_toD {t : T} (h : dep t ≤ 32) : SeqAt.shaped (toD t) = true := by
  have h1 := lay_toD t
  have h2 := depth_toD t
  unfold SeqAt.shaped
  simp only [h1, Bool.true_and, decide_eq_true_eq]
  omega
mutual
theorem eqv_toD : ∀ s t : T, PyData.eqv (toD s) (toD t) = true → s = t
  | .leaf g, .leaf h, e => by
    rw [toD, toD] at e
    have : g = h := by simpa [PyData.eqv] using e
    rw [this]
  | .leaf g, .node _ _, e => by rw [toD, toD] at e; simp [PyData.eqv] at e
  | .node _ _, .leaf g, e => by rw [toD, toD] at e; simp [PyData.eqv] at e
  | .node b ts, .node c us, e => by
    rw [toD, toD] at e
    simp only [PyData.eqv, PyData.eqvAll, Bool.and_true, Bool.and_eq_true] at e
    have h1 : wd b = wd c := by simpa using e.1
    rw [wd_inj h1, eqv_toDs ts us e.2]
theorem eqv_toDs : ∀ ss ts : List T, PyData.eqvAll (toDs ss) (toDs ts) = true → ss = ts
  | [], [], _ => rfl
  | [], t :: r, e => by rw [toDs, toDs] at e; simp [PyData.eqvAll] at e
  | t :: r, [], e => by rw [toDs, toDs] at e; simp [PyData.eqvAll] at e
  | s :: ss, t :: ts, e => by
    rw [toDs, toDs] at e
    simp only [PyData.eqvAll, Bool.and_eq_true] at e
    rw [eqv_toD s t e.1, eqv_toDs ss ts e.2]
end
theorem eqv_self {d : D} (h : SeqAt.shaped d = true) : PyData.eqv d d = true := by
  have := eqD_self h
  unfold eqD at this
  rw [if_pos ⟨h, h⟩] at this
  simpa using this
theorem eqD_toD {s t : T} (hs : dep s ≤ 32) (ht : dep t ≤ 32) (b : Bool) (e : b = true ↔ s = t) : eqD (toD s) (toD t) = .ok (.bool b) := by
  unfold eqD
  rw [if_pos ⟨shaped_toD hs, shaped_toD ht⟩]
  congr 2
  cases b with
  | true => rw [e.1 rfl]; exact eqv_self (shaped_toD ht)
  | false =>
    cases z : PyData.eqv (toD s) (toD t) with
    | false => rfl
    | true => exact absurd (e.2 (eqv_toD s t z)) (by decide)
theorem toDs_length (ts : List T) : (toDs ts).length = ts.length := by rw [toDs_map, List.length_map]
theorem toDs_rev (ts : List T) : (toDs ts).reverse = toDs ts.reverse := by rw [toDs_map, toDs_map, List.map_reverse]
theorem intsD_map : ∀ ns : List Int, intsD (ns.map .int) = some ns
  | [] => rfl
  | n :: r => by rw [List.map_cons]; unfold intsD; rw [intsD_map r]; rfl
theorem minD_ints {n : Int} {r : List Int} : minD [.list ((n :: r).map .int)] = .ok (.int (r.foldl min n)) := by
  show (match intsD ((n :: r).map .int) with | some (n :: r) => R.ok (PyData.int (r.foldl min n)) | _ => R.bad) = _
  rw [intsD_map]
theorem sortD_ints (ns : List Int) : sortD [.list (ns.map .int)] = .ok ((isort ns).map .int) := by
  show (match intsD (ns.map .int) with | some ns => R.ok ((isort ns).map PyData.int) | none => R.bad) = _
  rw [intsD_map]
theorem insI_asc (n : Int) : ∀ l : List Int, Asc l → Asc (insI n l)
  | [], _ => by unfold insI Asc; exact List.pairwise_singleton _ _
  | m :: r, h => by
    unfold insI
    unfold Asc at h ⊢
    rw [List.pairwise_cons] at h
    split
    · rename_i hn
      rw [List.pairwise_cons, List.pairwise_cons]
      exact ⟨fun x hx => by
        rcases List.mem_cons.1 hx with rfl | hx
        · exact hn
        · exact Int.le_trans hn (h.1 x hx), h⟩
    · rename_i hn
      rw [List.pairwise_cons]
      refine ⟨fun x hx => ?_, insI_asc n r h.2⟩
      rcases List.mem_cons.1 ((insI_perm n r).mem_iff.1 hx) with rfl | hx
      · omega
      · exact h.1 x hx
theorem isort_asc : ∀ l : List Int, Asc (isort l)
  | [] => List.Pairwise.nil
  | n :: r => insI_asc n _ (isort_asc r)
theorem isort_p : ∀ l : List Int, (isort l).Perm l
  | [] => List.Perm.refl _
  | n :: r => (insI_perm n _).trans ((isort_p r).cons n)
theorem asc_unique {a b : List Int} (p : a.Perm b) (ha : Asc a) (hb : Asc b) : a = b :=
  List.Perm.eq_of_pairwise (le := fun a b : Int => a ≤ b) (fun a b _ _ h1 h2 => Int.le_antisymm h1 h2) ha hb p
def rangeZ (n : Nat) : List Int := (List.range n).map fun i => ((i : Nat) : Int)
theorem rangeZ_asc (n : Nat) : Asc (rangeZ n) := by
  unfold rangeZ Asc
  rw [List.pairwise_map]
  exact (List.pairwise_lt_range (n := n)).imp fun h => by omega
theorem rangeZ_len (n : Nat) : (rangeZ n).length = n := by unfold rangeZ; rw [List.length_map, List.length_range]
theorem isort_range {l : List Int} {n : Nat} (h : l.Perm (rangeZ n)) : isort l = rangeZ n := asc_unique ((isort_p l).trans h) (isort_asc l) (rangeZ_asc n)
theorem rangeZ_nodup (n : Nat) : (rangeZ n).Nodup := by
  unfold rangeZ
  rw [List.Nodup, List.pairwise_map]
  exact (List.nodup_range (n := n)).imp fun h e => h (Int.ofNat.inj e)
theorem rangeZ_mem {n : Nat} {i : Int} : i ∈ rangeZ n ↔ 0 ≤ i ∧ i < n := by
  unfold rangeZ
  rw [List.mem_map]
  constructor
  · rintro ⟨j, hj, rfl⟩
    rw [List.mem_range] at hj; omega
  · intro h
    exact ⟨i.toNat, List.mem_range.2 (by omega), by omega⟩
theorem rangeI_rangeZ (n : Nat) : rangeI 0 n = (rangeZ n).map .int := by
  unfold rangeI rangeZ
  rw [List.map_map]
  refine List.map_congr_left fun i _ => ?_
  show PyData.int (0 + (i : Int)) = _
  rw [Int.zero_add]; rfl
/-! sorting parts by their least guest -/
theorem keysR_toDs {g : List D → R D} : ∀ {ts : List T}, (∀ t ∈ ts, g [toD t] = .ok (.int (least t))) → keysR g (toDs ts) = .ok (ts.map least)
  | [], _ => rfl
  | t :: r, h => by
    rw [toDs]
    unfold keysR
    rw [h t List.mem_cons_self]
    simp only
    rw [keysR_toDs fun u hu => h u (List.mem_cons_of_mem _ hu)]; rfl
theorem sortV_toDs (ts : List T) (ks : List Int) : sortV (toDs ts) ks = toDs (sortV ts ks) := by
  rw [toDs_map, toDs_map]
  unfold sortV
  rw [List.map_map]
  have e : (ts.map toD).zip ks = (ts.zip ks).map fun p => (toD p.1, p.2) := by
    induction ts generalizing ks with
    | nil => simp
    | cons t r ih => cases ks with
      | nil => simp
      | cons k ks => simp [ih]
  rw [e, ← List.map_mergeSort (r := fun a b : T × Int => decide (a.2 ≤ b.2)) (s := fun a b : D × Int => decide (a.2 ≤ b.2)) (f := fun p : T × Int => (toD p.1, p.2)) (fun a _ b _ => rfl), List.map_map]
  rfl
theorem sortKD_toDs {g : List D → R D} {ts : List T} (h : ∀ t ∈ ts, g [toD t] = .ok (.int (least t))) : sortKD g (.list (toDs ts)) = .ok (toDs (sortT ts)) := by
  unfold sortKD
  simp only
  rw [keysR_toDs h]
  show R.ok (sortV (toDs ts) (ts.map least)) = _
  rw [sortV_toDs]; rfl
theorem deps_iff : ∀ {ts : List T} {n : Nat}, deps ts ≤ n ↔ ∀ t ∈ ts, dep t ≤ n
  | [], n => by simp [deps]
  | t :: r, n => by
    have ih := deps_iff (ts := r) (n := n)
    rw [deps]
    constructor
    · intro h x hx
      rcases List.mem_cons.1 hx with rfl | hx
      · omega
      · exact ih.1 (by omega) x hx
    · intro h
      have h1 := h t List.mem_cons_self
      have h2 := ih.2 fun x hx => h x (List.mem_cons_of_mem _ hx)
      omega
theorem dep_tidy (t : T) : dep (tidy t) ≤ dep t := by
  induction t using T.ind with
  | hl g => exact Nat.le_refl _
  | hn b ts ih =>
    have h1 : ∀ u ∈ tidys ts, dep u ≤ deps ts := by
      rw [tidys_map]
      intro u hu
      obtain ⟨t, ht, rfl⟩ := List.mem_map.1 hu
      exact Nat.le_trans (ih t ht) (deps_le ht)
    rw [tidy, dep, dep]
    refine Nat.succ_le_succ (deps_iff.2 fun u hu => h1 u ?_)
    cases b
    · exact (sortT_perm _).mem_iff.1 hu
    · exact (turn_perm _).mem_iff.1 hu
/-! rows counted: less than 2^64 -/
theorem facI_b : ∀ n : Nat, 1 ≤ n → n ≤ 12 → 1 ≤ facI n ∧ facI n ≤ 12 ^ (n - 1)
  | 0, h, _ => by omega
  | 1, _, _ => by decide
  | n + 2, _, h => by
    have ih := facI_b (n + 1) (by omega) (by omega)
    have e : (12 : Int) ^ (n + 2 - 1) = 12 ^ (n + 1 - 1) * 12 := by rw [show n + 2 - 1 = n + 1 - 1 + 1 by omega, Int.pow_succ]
    rw [facI, e]
    obtain ⟨h1, h2⟩ := ih
    have h3 : (1 : Int) * 1 ≤ facI (n + 1) * ((n + 1 : Nat) + 1 : Int) := Int.mul_le_mul h1 (by omega) (by omega) (by omega)
    have h4 : facI (n + 1) * ((n + 1 : Nat) + 1 : Int) ≤ 12 ^ (n + 1 - 1) * 12 := Int.mul_le_mul h2 (by omega) (by omega) (by omega)
    exact ⟨by omega, h4⟩
theorem pow12_pos (n : Nat) : (1 : Int) ≤ 12 ^ n := Int.pow_pos (by decide)
theorem count_b {t : T} (h : Ok t) (hl : (seat t).length ≤ 12) : 1 ≤ count t ∧ count t ≤ 12 ^ ((seat t).length - 1) := by
  induction t using T.ind with
  | hl g => rw [count, seat]; exact ⟨by decide, by show (1 : Int) ≤ 12 ^ 0; decide⟩
  | hn b ts ih =>
    rw [Ok] at h
    obtain ⟨h1, h2⟩ := h
    rw [seat] at hl
    rw [count, seat]
    have h3 : 2 ≤ ts.length := by split at h1 <;> omega
    have h4 := seats_len_ge h2
    have key : ∀ us : List T, (∀ t ∈ us, t ∈ ts) → 1 ≤ counts us ∧ counts us ≤ 12 ^ ((seats us).length - us.length) := by
      intro us
      induction us with
      | nil => intro _; rw [counts]; exact ⟨by omega, pow12_pos _⟩
      | cons x r ihr =>
        intro hm
        have hx := hm x List.mem_cons_self
        obtain ⟨a1, a2⟩ := ih x hx (oks_iff.1 h2 x hx) (Nat.le_trans (seats_len_le hx) hl)
        obtain ⟨b1, b2⟩ := ihr fun t ht => hm t (List.mem_cons_of_mem _ ht)
        have c1 := seat_pos (oks_iff.1 h2 x hx)
        have c2 : r.length ≤ (seats r).length := seats_len_ge (oks_iff.2 fun t ht => oks_iff.1 h2 t (hm t (List.mem_cons_of_mem _ ht)))
        rw [counts, seats, List.length_append, List.length_cons, show (seat x).length + (seats r).length - (r.length + 1) = ((seat x).length - 1) + ((seats r).length - r.length) by omega, Int.pow_add]
        have d1 : (1 : Int) * 1 ≤ count x * counts r := Int.mul_le_mul a1 b1 (by omega) (by omega)
        exact ⟨by omega, Int.mul_le_mul a2 b2 (by omega) (by have := pow12_pos ((seat x).length - 1); omega)⟩
    obtain ⟨k1, k2⟩ := key ts fun _ h => h
    have f : 1 ≤ (if b = true then 2 else facI ts.length) ∧ (if b = true then 2 else facI ts.length) ≤ (12 : Int) ^ (ts.length - 1) := by
      cases b
      · rw [if_neg (by decide)]; exact facI_b _ (by omega) (by omega)
      · rw [if_pos rfl]
        refine ⟨by decide, ?_⟩
        have := pow12_pos (ts.length - 2)
        rw [show ts.length - 1 = ts.length - 2 + 1 by omega, Int.pow_succ]; omega
    rw [show (seats ts).length - 1 = (ts.length - 1) + ((seats ts).length - ts.length) by omega, Int.pow_add]
    have d1 : (1 : Int) * 1 ≤ (if b = true then 2 else facI ts.length) * counts ts := Int.mul_le_mul f.1 k1 (by omega) (by omega)
    exact ⟨by omega, Int.mul_le_mul f.2 k2 (by omega) (by have := pow12_pos (ts.length - 1); omega)⟩
theorem pow12_le {n : Nat} (h : n ≤ 16) : (12 : Int) ^ n ≤ 12 ^ 16 := by
  obtain ⟨m, hm⟩ : ∃ m, 16 = n + m := ⟨16 - n, by omega⟩
  rw [hm, Int.pow_add]
  have h1 := pow12_pos n
  have h2 := pow12_pos m
  have := Int.mul_le_mul (Int.le_refl (12 ^ n)) h2 (by omega) (by omega)
  omega
theorem count_64 {t : T} (h : Ok t) (hl : (seat t).length ≤ 12) : 1 ≤ count t ∧ count t < 18446744073709551616 := by
  obtain ⟨h1, h2⟩ := count_b h hl
  have h3 := pow12_le (n := (seat t).length - 1) (by omega)
  exact ⟨h1, by have : (12 : Int) ^ 16 = 184884258895036416 := by decide
                omega⟩
theorem inD_strs (n : Bool) (x : Str) (ss : List Str) : inD n (.str x) (.tuple (ss.map .str)) = .ok (.bool (if n then !ss.any (· == x) else ss.any (· == x))) := by
  have h : (ss.map PyData.str).all flatD = true := by rw [List.all_map]; exact List.all_eq_true.2 fun _ _ => rfl
  have h2 : (ss.map PyData.str).any (fun z => PyData.eqv z (.str x)) = ss.any (· == x) := by rw [List.any_map]; rfl
  show (if flatD (.str x) = true ∧ (ss.map PyData.str).all flatD = true then R.ok (PyData.bool (if n = true then !(ss.map PyData.str).any (fun z => PyData.eqv z (.str x)) else (ss.map PyData.str).any (fun z => PyData.eqv z (.str x)))) else R.bad) = _
  rw [if_pos ⟨rfl, h⟩, h2]
theorem wd_in (b : Bool) : inD true (.str (wd b)) (.tuple [.str "stools", .str "bench"]) = .ok (.bool false) := by
  have := inD_strs true (wd b) ["stools", "bench"]
  rw [show ([("stools" : Str), "bench"].map PyData.str) = [.str "stools", .str "bench"] from rfl] at this
  rw [this, if_pos rfl, show (!([("stools" : Str), "bench"].any (· == wd b))) = false by cases b <;> decide +kernel]
theorem andT_ok {ga gb : DL.Env → R Bool} {ρ : DL.Env} {a b : Bool} (h1 : ga ρ = .ok a) (h2 : gb ρ = .ok b) : andT ga gb ρ = .ok (a && b) := by
  rw [andT_at, h1, R.bind_ok]
  cases a
  · rfl
  · rw [if_pos rfl, h2]; rfl
theorem orT_ok {ga gb : DL.Env → R Bool} {ρ : DL.Env} {a b : Bool} (h1 : ga ρ = .ok a) (h2 : gb ρ = .ok b) : orT ga gb ρ = .ok (a || b) := by
  rw [orT_at, h1, R.bind_ok]
  cases a
  · rw [if_neg (by decide), h2]; rfl
  · rfl
theorem andT_ok2 {ga gb : DL.Env → R Bool} {ρ : DL.Env} {a b : Bool} (h1 : ga ρ = .ok a) (h2 : a = true → gb ρ = .ok b) : andT ga gb ρ = .ok (a && b) := by
  rw [andT_at, h1, R.bind_ok]
  cases a
  · rfl
  · rw [if_pos rfl, h2 rfl]; rfl
theorem orT_ok2 {ga gb : DL.Env → R Bool} {ρ : DL.Env} {a b : Bool} (h1 : ga ρ = .ok a) (h2 : a = false → gb ρ = .ok b) : orT ga gb ρ = .ok (a || b) := by
  rw [orT_at, h1, R.bind_ok]
  cases a
  · rw [if_neg (by decide), h2 rfl]; rfl
  · rfl
theorem addD_lists {xs ys : List D} (h : xs.length + ys.length ≤ 16777216) : addD (.list xs) (.list ys) = .ok (.list (xs ++ ys)) := if_pos (fits_of h)
theorem compR_cons {tf : D → DL.Env → R DL.Env} {ft : DL.Env → R Bool} {fe : DL.Env → R D} {ρ ρ1 : DL.Env} {d x : D} {ds r : List D} (e1 : tf d ρ = .ok ρ1) (e2 : ft ρ1 = .ok true) (e3 : fe ρ1 = .ok x) (e : compR tf ft fe ρ ds = .ok r) : compR tf ft fe ρ (d :: ds) = .ok (x :: r) := by
  unfold compR
  simp only [e1, e2, e3, e, R.bind_ok]
theorem compR_skip {tf : D → DL.Env → R DL.Env} {ft : DL.Env → R Bool} {fe : DL.Env → R D} {ρ ρ1 : DL.Env} {d : D} {ds r : List D} (e1 : tf d ρ = .ok ρ1) (e2 : ft ρ1 = .ok false) (e : compR tf ft fe ρ ds = .ok r) : compR tf ft fe ρ (d :: ds) = .ok r := by
  unfold compR
  simp only [e1, e2, e]
end TT
set_option maxRecDepth 100000
set_option maxHeartbeats 1000000
/-! the rows of a tree, and how many begin so -/
namespace TT
open PySem L2 DL
/-- one out, with the rest in its order -/
def picks {α : Type} : List α → List (α × List α)
  | [] => []
  | x :: r => (x, r) :: (picks r).map fun p => (p.1, x :: p.2)
def sbs : List (List (List Int)) → List (List Int)
  | [] => [[]]
  | L :: r => L.flatMap fun x => (sbs r).map (x ++ ·)
def anyO : Nat → List (List (List Int)) → List (List Int)
  | 0, _ => [[]]
  | n + 1, Ls => (picks Ls).flatMap fun p => p.1.flatMap fun x => (anyO n p.2).map (x ++ ·)
mutual
def rows : T → List (List Int)
  | .leaf g => [[g]]
  | .node b ts => if b then sbs (rowss ts) ++ sbs (rowss ts).reverse else anyO ts.length (rowss ts)
def rowss : List T → List (List (List Int))
  | [] => []
  | t :: r => rows t :: rowss r
end
theorem rowss_map : ∀ ts : List T, rowss ts = ts.map rows
  | [] => rfl
  | t :: r => by rw [rowss, List.map_cons, rowss_map r]
/-- how many of these rows begin so -/
def cnt (a : List Int) (L : List (List Int)) : Int := ((L.filter fun r => a.isPrefixOf r).length : Nat)
theorem cnt_nil (L : List (List Int)) : cnt [] L = L.length := by
  unfold cnt
  rw [List.filter_eq_self.2 fun r _ => by simp]
theorem cnt_app (a : List Int) (L M : List (List Int)) : cnt a (L ++ M) = cnt a L + cnt a M := by
  unfold cnt
  rw [List.filter_append, List.length_append]; omega
theorem cnt_cons (a r : List Int) (L : List (List Int)) : cnt a (r :: L) = (if a.isPrefixOf r then 1 else 0) + cnt a L := by
  unfold cnt
  rw [List.filter_cons]
  split
  · rw [List.length_cons]; omega
  · omega
theorem pre_app {a x y : List Int} : a.isPrefixOf (x ++ y) = ((a.take x.length).isPrefixOf x && (a.drop x.length).isPrefixOf y) := by
  induction x generalizing a with
  | nil => simp
  | cons z x ih =>
    cases a with
    | nil => simp
    | cons c a =>
      rw [List.cons_append, List.length_cons, List.take_succ_cons, List.drop_succ_cons]
      show (c == z && a.isPrefixOf (x ++ y)) = ((c == z && (a.take x.length).isPrefixOf x) && (a.drop x.length).isPrefixOf y)
      rw [ih, Bool.and_assoc]
theorem cnt_map (a x : List Int) (R : List (List Int)) : cnt a (R.map (x ++ ·)) = if (a.take x.length).isPrefixOf x then cnt (a.drop x.length) R else 0 := by
  induction R with
  | nil => unfold cnt; split <;> rfl
  | cons y R ih =>
    rw [List.map_cons, cnt_cons, ih, pre_app, cnt_cons]
    by_cases h : (a.take x.length).isPrefixOf x = true
    · simp only [h, Bool.true_and, if_true]
    · simp only [h, Bool.false_and, if_false, Bool.false_eq_true]; omega
/-- rows of m guests ahead of others -/
theorem cnt_prod (a : List Int) (m : Nat) (R : List (List Int)) : ∀ L : List (List Int), (∀ x ∈ L, x.length = m) → cnt a (L.flatMap fun x => R.map (x ++ ·)) = cnt (a.take m) L * cnt (a.drop m) R
  | [], _ => by rw [List.flatMap_nil]; unfold cnt; simp
  | x :: L, h => by
    have hx := h x List.mem_cons_self
    rw [List.flatMap_cons, cnt_app, cnt_prod a m R L fun y hy => h y (List.mem_cons_of_mem _ hy), cnt_map, cnt_cons, hx]
    by_cases z : (a.take m).isPrefixOf x = true
    · rw [if_pos z, if_pos z, Int.add_mul, Int.one_mul]
    · rw [if_neg z, if_neg z, Int.add_mul, Int.zero_mul]
theorem cnt_none {a : List Int} {L : List (List Int)} (h : ∀ r ∈ L, a.isPrefixOf r = false) : cnt a L = 0 := by
  unfold cnt
  rw [List.filter_eq_nil_iff.2 fun r hr => by simp [h r hr]]; rfl
theorem pre_mem {x : Int} {a r : List Int} (h : (x :: a).isPrefixOf r = true) : x ∈ r := by
  cases r with
  | nil => simp at h
  | cons y r =>
    have : (x == y && a.isPrefixOf r) = true := h
    rw [Bool.and_eq_true, beq_iff_eq] at this
    rw [this.1]; exact List.mem_cons_self
end TT
set_option maxRecDepth 100000
set_option maxHeartbeats 1000000
namespace TT
open PySem L2 DL
theorem picks_perm {α : Type} : ∀ {l : List α} {p : α × List α}, p ∈ picks l → (p.1 :: p.2).Perm l
  | [], _, h => by cases h
  | x :: r, p, h => by
    rw [picks] at h
    rcases List.mem_cons.1 h with rfl | h
    · exact List.Perm.refl _
    · obtain ⟨q, hq, rfl⟩ := List.mem_map.1 h
      exact (List.Perm.swap _ _ _).trans ((picks_perm hq).cons x)
theorem picks_len {α : Type} : ∀ l : List α, (picks l).length = l.length
  | [] => rfl
  | x :: r => by rw [picks, List.length_cons, List.length_map, picks_len r, List.length_cons]
theorem picks_map {α β : Type} (f : α → β) : ∀ l : List α, picks (l.map f) = (picks l).map fun p => (f p.1, p.2.map f)
  | [] => rfl
  | x :: r => by
    rw [List.map_cons, picks, picks, picks_map f r, List.map_cons, List.map_map, List.map_map]
    rfl
/-- all rows of Ls hold what S holds -/
def RowsOf (L : List (List Int)) (S : List Int) : Prop := ∀ x ∈ L, x.Perm S
theorem sbs_rows {Ls : List (List (List Int))} {Ss : List (List Int)} (h : Ls.length = Ss.length) (hr : ∀ (i : Nat) (L : List (List Int)) (S : List Int), Ls[i]? = some L → Ss[i]? = some S → RowsOf L S) : RowsOf (sbs Ls) Ss.flatten := by
  induction Ls generalizing Ss with
  | nil =>
    cases Ss with
    | nil => intro x hx; rw [sbs, List.mem_singleton] at hx; subst hx; exact List.Perm.refl _
    | cons _ _ => simp at h
  | cons L Ls ih =>
    cases Ss with
    | nil => simp at h
    | cons S Ss =>
      intro x hx
      rw [sbs, List.mem_flatMap] at hx
      obtain ⟨u, hu, hx⟩ := hx
      obtain ⟨v, hv, rfl⟩ := List.mem_map.1 hx
      rw [List.flatten_cons]
      exact (hr 0 L S rfl rfl u hu).append (ih (by simpa using h) (fun i L' S' h1 h2 => hr (i + 1) L' S' h1 h2) v hv)
theorem anyO_rows (f : T → List (List Int)) : ∀ (n : Nat) (ts : List T), ts.length = n → (∀ t ∈ ts, RowsOf (f t) (seat t)) → RowsOf (anyO n (ts.map f)) (seats ts)
  | 0, ts, h, _ => by
    have : ts = [] := List.eq_nil_of_length_eq_zero h
    subst this
    intro x hx
    rw [anyO, List.mem_singleton] at hx
    subst hx; exact List.Perm.refl _
  | n + 1, ts, h, hr => by
    intro x hx
    rw [anyO, List.mem_flatMap] at hx
    obtain ⟨p, hp, hx⟩ := hx
    rw [picks_map] at hp
    obtain ⟨q, hq, rfl⟩ := List.mem_map.1 hp
    rw [List.mem_flatMap] at hx
    obtain ⟨u, hu, hx⟩ := hx
    obtain ⟨v, hv, rfl⟩ := List.mem_map.1 hx
    have hperm := picks_perm hq
    have hl : q.2.length = n := by have := hperm.length_eq; rw [List.length_cons] at this; omega
    have h1 := hr q.1 (hperm.mem_iff.1 List.mem_cons_self) u hu
    have h2 := anyO_rows f n q.2 hl (fun t ht => hr t (hperm.mem_iff.1 (List.mem_cons_of_mem _ ht))) v hv
    exact (h1.append h2).trans (show (seat q.1 ++ seats q.2).Perm (seats ts) from seats_perm hperm)
theorem rows_perm (t : T) : RowsOf (rows t) (seat t) := by
  induction t using T.ind with
  | hl g => intro x hx; rw [rows, List.mem_singleton] at hx; subst hx; exact List.Perm.refl _
  | hn b ts ih =>
    rw [rows, seat]
    cases b
    · rw [if_neg (by decide), rowss_map]
      exact anyO_rows rows ts.length ts rfl ih
    · rw [if_pos rfl, rowss_map]
      have key : ∀ us : List T, (∀ t ∈ us, t ∈ ts) → RowsOf (sbs (us.map rows)) (seats us) := fun us hus => by
        rw [seats_flat]
        refine sbs_rows (by rw [List.length_map, List.length_map]) fun i L S h1 h2 => ?_
        rw [List.getElem?_map] at h1 h2
        cases e : us[i]? with
        | none => rw [e] at h1; cases h1
        | some t =>
          rw [e] at h1 h2
          cases h1; cases h2
          exact ih t (hus t (List.mem_of_getElem? e))
      intro x hx
      rcases List.mem_append.1 hx with hx | hx
      · exact key ts (fun _ h => h) x hx
      · rw [← List.map_reverse] at hx
        exact (key ts.reverse (fun t ht => List.mem_reverse.1 ht) x hx).trans (seats_perm (List.reverse_perm ts))
theorem rows_len {t : T} {x : List Int} (h : x ∈ rows t) : x.length = (seat t).length := (rows_perm t x h).length_eq
/-! parts side by side -/
def prodC : List T → List Int → Int
  | [], _ => 1
  | t :: r, a => cnt (a.take (seat t).length) (rows t) * prodC r (a.drop (seat t).length)
theorem cnt_sbs : ∀ (ts : List T) (a : List Int), a.length ≤ (seats ts).length → cnt a (sbs (ts.map rows)) = prodC ts a
  | [], a, h => by
    have : a = [] := List.eq_nil_of_length_eq_zero (by rw [seats] at h; simpa using h)
    subst this
    rfl
  | t :: r, a, h => by
    rw [seats, List.length_append] at h
    rw [List.map_cons, sbs, cnt_prod a (seat t).length _ _ fun x hx => rows_len hx, prodC, cnt_sbs r _ (by rw [List.length_drop]; omega)]
/-! parts in any order -/
def noX (x : Int) (L : List (List Int)) : Prop := ∀ r ∈ L, x ∉ r
theorem cnt_noX {x : Int} {a : List Int} {L : List (List Int)} (h : noX x L) : cnt (x :: a) L = 0 := cnt_none fun r hr => by
  cases z : (x :: a).isPrefixOf r with
  | false => rfl
  | true => exact absurd (pre_mem z) (h r hr)
/-- the part with x, and the others -/
theorem picks_split (x : Int) (a : List Int) (n : Nat) (f : T → List (List Int)) (hf : ∀ t, ∀ r ∈ f t, r.Perm (seat t)) : ∀ (ts : List T) (pre : List T), (∀ t ∈ ts, seat t ≠ []) → (seats ts).Nodup → ∀ p ∈ ts, x ∈ seat p →
    ∀ (g : T × List T → List T), cnt (x :: a) ((picks ts).flatMap fun q => (f q.1).flatMap fun u => (anyO n ((g q).map f)).map (u ++ ·)) = cnt ((x :: a).take (seat p).length) (f p) * cnt ((x :: a).drop (seat p).length) (anyO n ((g (p, ts.filter fun t => !decide (x ∈ seat t))).map f))
  | [], _, _, _, p, hp, _, _ => by cases hp
  | t :: r, pre, hne, hnd, p, hp, hx, g => by
    rw [seats, List.nodup_append] at hnd
    obtain ⟨n1, n2, n3⟩ := hnd
    have hprod : ∀ (q : T × List T) (M : List (List Int)), cnt (x :: a) ((f q.1).flatMap fun u => M.map (u ++ ·)) = cnt ((x :: a).take (seat q.1).length) (f q.1) * cnt ((x :: a).drop (seat q.1).length) M := fun q M => cnt_prod _ _ _ _ fun u hu => (hf q.1 u hu).length_eq
    have hzero : ∀ (q : T × List T) (M : List (List Int)), seat q.1 ≠ [] → x ∉ seat q.1 → cnt (x :: a) ((f q.1).flatMap fun u => M.map (u ++ ·)) = 0 := fun q M h1 h2 => by
      rw [hprod]
      obtain ⟨m, hm⟩ : ∃ m, (seat q.1).length = m + 1 := ⟨(seat q.1).length - 1, by have := List.length_pos_iff.2 h1; omega⟩
      rw [hm, List.take_succ_cons, cnt_noX (fun u hu z => h2 ((hf q.1 u hu).mem_iff.1 z)), Int.zero_mul]
    rw [picks, List.flatMap_cons, cnt_app, List.flatMap_map]
    by_cases hxt : x ∈ seat t
    · have hpt : p = t := by
        rcases List.mem_cons.1 hp with h | h
        · exact h
        · exact absurd rfl (n3 x hxt x (mem_seats.2 ⟨p, h, hx⟩))
      subst hpt
      have hrest : r.filter (fun t => !decide (x ∈ seat t)) = r := List.filter_eq_self.2 fun t ht => by
        have : x ∉ seat t := fun z => n3 x hxt x (mem_seats.2 ⟨t, ht, z⟩) rfl
        simp [this]
      rw [hprod, List.filter_cons, if_neg (by simp [hxt]), hrest]
      have z : ∀ l : List (T × List T), (∀ q ∈ l, q.1 ∈ r) → cnt (x :: a) (l.flatMap fun q => (f q.1).flatMap fun u => (anyO n ((g (q.1, p :: q.2)).map f)).map (u ++ ·)) = 0 := fun l => by
        induction l with
        | nil => intro _; rfl
        | cons q l ih =>
          intro hl
          have hq := hl q List.mem_cons_self
          rw [List.flatMap_cons, cnt_app, hzero q _ (hne q.1 (List.mem_cons_of_mem _ hq)) (fun z => n3 x hxt x (mem_seats.2 ⟨q.1, hq, z⟩) rfl), ih fun q' hq' => hl q' (List.mem_cons_of_mem _ hq')]
          rfl
      have := z (picks r) fun q hq => (picks_perm hq).mem_iff.1 List.mem_cons_self
      rw [this, Int.add_zero]
    · have hpr : p ∈ r := by
        rcases List.mem_cons.1 hp with h | h
        · subst h; exact absurd hx hxt
        · exact h
      rw [hzero (t, r) _ (hne t List.mem_cons_self) hxt, Int.zero_add]
      have ih := picks_split x a n f hf r [] (fun t ht => hne t (List.mem_cons_of_mem _ ht)) n2 p hpr hx fun q => g (q.1, t :: q.2)
      rw [ih, List.filter_cons, if_pos (by simp [hxt])]
end TT
set_option maxRecDepth 100000
set_option maxHeartbeats 1000000
namespace TT
open PySem L2 DL
theorem cnt_anyO (x : Int) (a : List Int) {ts : List T} (hne : ∀ t ∈ ts, seat t ≠ []) (hnd : (seats ts).Nodup) {p : T} (hp : p ∈ ts) (hx : x ∈ seat p) :
    cnt (x :: a) (anyO ts.length (ts.map rows)) = cnt ((x :: a).take (seat p).length) (rows p) * cnt ((x :: a).drop (seat p).length) (anyO (ts.length - 1) ((ts.filter fun t => !decide (x ∈ seat t)).map rows)) := by
  obtain ⟨n, hn⟩ : ∃ n, ts.length = n + 1 := ⟨ts.length - 1, by have := List.length_pos_of_mem hp; omega⟩
  rw [hn, anyO, picks_map, List.flatMap_map]
  exact picks_split x a n rows (fun t r hr => rows_perm t r hr) ts [] hne hnd p hp hx fun q => q.2
theorem anyO_one (L : List (List Int)) : anyO 1 [L] = L := by
  show ([(L, [])].flatMap fun p => p.1.flatMap fun x => (anyO 0 p.2).map (x ++ ·)) = L
  rw [List.flatMap_cons, List.flatMap_nil, List.append_nil]
  show (L.flatMap fun x => [x ++ []]) = L
  induction L with
  | nil => rfl
  | cons x L ih => rw [List.flatMap_cons, ih, List.append_nil]; rfl
/-! how many rows -/
def prodL (ts : List T) : Int := prodI (ts.map fun t => ((rows t).length : Int))
theorem prodI_perm {a b : List Int} (h : a.Perm b) : prodI a = prodI b := by
  induction h with
  | nil => rfl
  | cons x _ ih => rw [prodI, prodI, ih]
  | swap x y l => rw [prodI, prodI, prodI, prodI, ← Int.mul_assoc, ← Int.mul_assoc, Int.mul_comm y x]
  | trans _ _ h1 h2 => exact h1.trans h2
theorem prodL_perm {ts us : List T} (h : ts.Perm us) : prodL ts = prodL us := prodI_perm (h.map _)
theorem prodL_cons (t : T) (ts : List T) : prodL (t :: ts) = (rows t).length * prodL ts := rfl
theorem len_prod (L R : List (List Int)) : ((L.flatMap fun x => R.map (x ++ ·)).length : Int) = L.length * R.length := by
  induction L with
  | nil => simp
  | cons x L ih =>
    rw [List.flatMap_cons, List.length_append, List.length_map, List.length_cons]
    push_cast
    rw [ih, Int.add_mul, Int.one_mul, Int.add_comm]
theorem len_sbs : ∀ ts : List T, ((sbs (ts.map rows)).length : Int) = prodL ts
  | [] => rfl
  | t :: r => by rw [List.map_cons, sbs, len_prod, len_sbs r, prodL_cons]
theorem len_anyO : ∀ (n : Nat) (ts : List T), ts.length = n → ((anyO n (ts.map rows)).length : Int) = facI n * prodL ts
  | 0, ts, h => by
    have : ts = [] := List.eq_nil_of_length_eq_zero h
    subst this; rfl
  | n + 1, ts, h => by
    rw [anyO, picks_map, List.flatMap_map]
    have key : ∀ l : List (T × List T), (∀ q ∈ l, q ∈ picks ts) → ((l.flatMap fun q => (rows q.1).flatMap fun x => (anyO n (q.2.map rows)).map (x ++ ·)).length : Int) = l.length * (facI n * prodL ts) := fun l => by
      induction l with
      | nil => intro _; simp
      | cons q l ih =>
        intro hl
        have hq := picks_perm (hl q List.mem_cons_self)
        have hlen : q.2.length = n := by have := hq.length_eq; rw [List.length_cons] at this; omega
        rw [List.flatMap_cons, List.length_append, List.length_cons]
        push_cast
        rw [len_prod, len_anyO n q.2 hlen, ih fun q' hq' => hl q' (List.mem_cons_of_mem _ hq'), ← prodL_perm hq, prodL_cons]
        rw [Int.add_mul, Int.one_mul, Int.add_comm, ← Int.mul_assoc ((rows q.1).length : Int), Int.mul_comm ((rows q.1).length : Int) (facI n), Int.mul_assoc (facI n)]
    rw [key _ fun _ h => h, picks_len, h, facI]
    push_cast
    rw [← Int.mul_assoc, Int.mul_comm ((n : Int) + 1)]
theorem rows_length (t : T) : ((rows t).length : Int) = count t := by
  induction t using T.ind with
  | hl g => rw [rows, count]; rfl
  | hn b ts ih =>
    have hc : prodL ts = counts ts := by
      clear b
      induction ts with
      | nil => rfl
      | cons t r ihr => rw [prodL_cons, counts, ih t List.mem_cons_self, ihr fun u hu => ih u (List.mem_cons_of_mem _ hu)]
    rw [rows, count]
    cases b
    · rw [if_neg (by decide), if_neg (by decide), rowss_map, len_anyO _ ts rfl, hc]
    · rw [if_pos rfl, if_pos rfl, rowss_map, List.length_append, ← List.map_reverse]
      push_cast
      rw [len_sbs, len_sbs, prodL_perm (List.reverse_perm ts), hc]; omega
/-! a guest more -/
theorem pre_snoc {a r : List Int} (h : a.isPrefixOf r = true) (hl : a.length < r.length) (g : Int) : (a ++ [g]).isPrefixOf r = decide (r.getD a.length 0 = g) := by
  induction a generalizing r with
  | nil =>
    cases r with
    | nil => simp at hl
    | cons y r =>
      show (g == y && ([] : List Int).isPrefixOf r) = _
      rw [show ([] : List Int).isPrefixOf r = true by simp, Bool.and_true]
      show (g == y) = decide (y = g)
      by_cases z : g = y
      · simp [z]
      · simp [z, Ne.symm z]
  | cons c a ih =>
    cases r with
    | nil => simp at hl
    | cons y r =>
      have h' : (c == y && a.isPrefixOf r) = true := h
      rw [Bool.and_eq_true] at h'
      show (c == y && (a ++ [g]).isPrefixOf r) = _
      rw [h'.1, Bool.true_and, ih h'.2 (by simpa using hl)]; rfl
theorem pre_snoc_no {a r : List Int} (h : a.isPrefixOf r = false) (g : Int) : (a ++ [g]).isPrefixOf r = false := by
  induction a generalizing r with
  | nil => simp at h
  | cons c a ih =>
    cases r with
    | nil => rfl
    | cons y r =>
      have h' : (c == y && a.isPrefixOf r) = false := h
      show (c == y && (a ++ [g]).isPrefixOf r) = false
      cases hc : c == y
      · rfl
      · rw [hc, Bool.true_and] at h'
        rw [Bool.true_and, ih h']
theorem pre_sub {a r : List Int} (h : a.isPrefixOf r = true) : ∀ g ∈ a, g ∈ r := by
  intro g hg
  have := List.isPrefixOf_iff_prefix.1 h
  exact this.subset hg
theorem sum_one {S : List Int} (hS : S.Nodup) {x : Int} (hx : x ∈ S) : (S.map fun g => if x = g then (1 : Int) else 0).sum = 1 := by
  induction S with
  | nil => cases hx
  | cons y S ih =>
    rw [List.nodup_cons] at hS
    rw [List.map_cons, List.sum_cons]
    by_cases h : x = y
    · rw [if_pos h]
      have : (S.map fun g => if x = g then (1 : Int) else 0).sum = 0 := by
        have z : ∀ l : List Int, x ∉ l → (l.map fun g => if x = g then (1 : Int) else 0).sum = 0 := fun l => by
          induction l with
          | nil => intro _; rfl
          | cons w l ihl =>
            intro hw
            rw [List.map_cons, List.sum_cons, if_neg (fun e => hw (by rw [e]; exact List.mem_cons_self)), ihl fun z => hw (List.mem_cons_of_mem _ z)]; rfl
        exact z S (by rw [h]; exact hS.1)
      rw [this]; rfl
    · rw [if_neg h, ih hS.2 (by rcases List.mem_cons.1 hx with z | z; exact absurd z h; exact z)]; rfl
theorem sum_zero {α : Type} (S : List α) : (S.map fun _ => (0 : Int)).sum = 0 := by
  induction S with
  | nil => rfl
  | cons x S ih => rw [List.map_cons, List.sum_cons, ih]; rfl
theorem sum_add {α : Type} (f g : α → Int) (S : List α) : (S.map fun x => f x + g x).sum = (S.map f).sum + (S.map g).sum := by
  induction S with
  | nil => rfl
  | cons x S ih => rw [List.map_cons, List.sum_cons, ih, List.map_cons, List.sum_cons, List.map_cons, List.sum_cons]; omega
/-- the rows that begin with a, by the guest behind it -/
theorem cnt_more {U : List Int} (hU : U.Nodup) {a : List Int} : ∀ {L : List (List Int)}, (∀ r ∈ L, r.Perm U) → a.length < U.length → cnt a L = ((U.filter fun g => !decide (g ∈ a)).map fun g => cnt (a ++ [g]) L).sum
  | [], _, _ => by
    have : ∀ b, cnt b [] = 0 := fun b => rfl
    simp only [this]
    exact (sum_zero _).symm
  | r :: L, h, hl => by
    have hr := h r List.mem_cons_self
    have ih := cnt_more hU (L := L) (fun r' hr' => h r' (List.mem_cons_of_mem _ hr')) hl
    have e : (fun g => cnt (a ++ [g]) (r :: L)) = fun g => (if (a ++ [g]).isPrefixOf r then (1 : Int) else 0) + cnt (a ++ [g]) L := by funext g; rw [cnt_cons]
    rw [cnt_cons, e, sum_add, ← ih]
    congr 1
    cases hp : a.isPrefixOf r with
    | false =>
      simp only [pre_snoc_no hp, Bool.false_eq_true, if_false]
      exact (sum_zero _).symm
    | true =>
      have hrl : a.length < r.length := by rw [hr.length_eq]; exact hl
      simp only [pre_snoc hp hrl, decide_eq_true_eq, if_true]
      refine (sum_one (hU.filter _) ?_).symm
      rw [List.mem_filter]
      have hm : r.getD a.length 0 = r[a.length] := by rw [List.getD_eq_getElem?_getD, List.getElem?_eq_getElem hrl]; rfl
      refine ⟨hr.mem_iff.1 (by rw [hm]; exact List.getElem_mem _), ?_⟩
      have hrn : r.Nodup := hr.nodup_iff.2 hU
      have : r.getD a.length 0 ∉ a := fun z => by
        obtain ⟨s, hs⟩ := List.isPrefixOf_iff_prefix.1 hp
        rw [hm] at z
        obtain ⟨i, hi, he⟩ := List.getElem_of_mem z
        have e1 : r[i]'(by omega) = a[i] := by
          have : r[i]? = a[i]? := by rw [← hs, List.getElem?_append_left hi]
          rw [List.getElem?_eq_getElem (by omega), List.getElem?_eq_getElem hi] at this
          exact Option.some.inj this
        have := (List.getElem_inj (xs := r) (h₀ := by omega) (h₁ := hrl) hrn).1 (e1.trans he)
        omega
      rw [decide_eq_false this]; rfl
end TT
set_option maxRecDepth 100000
set_option maxHeartbeats 1000000
/-! no row stands twice -/
namespace TT
open PySem L2 DL
theorem nodup_flat {α β : Type} {f : α → List β} : ∀ {l : List α}, (∀ x ∈ l, (f x).Nodup) → l.Pairwise (fun x y => ∀ z ∈ f x, ∀ w ∈ f y, z ≠ w) → (l.flatMap f).Nodup
  | [], _, _ => List.nodup_nil
  | x :: l, h, hp => by
    rw [List.pairwise_cons] at hp
    rw [List.flatMap_cons, List.nodup_append]
    refine ⟨h x List.mem_cons_self, nodup_flat (fun y hy => h y (List.mem_cons_of_mem _ hy)) hp.2, fun z hz w hw => ?_⟩
    obtain ⟨y, hy, hw⟩ := List.mem_flatMap.1 hw
    exact hp.1 y hy z hz w hw
theorem nodup_prod {L R : List (List Int)} {m : Nat} (hL : L.Nodup) (hm : ∀ x ∈ L, x.length = m) (hR : R.Nodup) : (L.flatMap fun x => R.map (x ++ ·)).Nodup := by
  refine nodup_flat (fun x _ => ?_) ?_
  · rw [List.Nodup, List.pairwise_map]
    exact hR.imp fun h e => h (List.append_cancel_left e)
  · have h2 : L.Pairwise fun x y => x ≠ y := hL
    refine (List.pairwise_iff_forall_sublist.2 fun {x y} hs => ?_)
    have hxy : x ≠ y := (List.pairwise_iff_forall_sublist.1 h2) hs
    have hx := hm x (hs.subset List.mem_cons_self)
    have hy := hm y (hs.subset (List.mem_cons_of_mem _ List.mem_cons_self))
    intro z hz w hw e
    obtain ⟨u, _, rfl⟩ := List.mem_map.1 hz
    obtain ⟨v, _, rfl⟩ := List.mem_map.1 hw
    exact hxy (List.append_inj_left e (by rw [hx, hy]))
theorem nodup_sbs : ∀ ts : List T, (∀ t ∈ ts, (rows t).Nodup) → (sbs (ts.map rows)).Nodup
  | [], _ => by rw [List.map_nil, sbs]; exact List.nodup_cons.2 ⟨by simp, List.nodup_nil⟩
  | t :: r, h => by
    rw [List.map_cons, sbs]
    exact nodup_prod (h t List.mem_cons_self) (fun x hx => rows_len hx) (nodup_sbs r fun u hu => h u (List.mem_cons_of_mem _ hu))
theorem picks_apart : ∀ {ts : List T}, (seats ts).Nodup → (picks ts).Pairwise fun p q => ∀ g ∈ seat p.1, g ∉ seat q.1
  | [], _ => List.Pairwise.nil
  | t :: r, h => by
    rw [seats, List.nodup_append] at h
    obtain ⟨h1, h2, h3⟩ := h
    rw [picks, List.pairwise_cons]
    refine ⟨fun q hq g hg hg2 => ?_, ?_⟩
    · obtain ⟨p, hp, rfl⟩ := List.mem_map.1 hq
      exact h3 g hg g (mem_seats.2 ⟨p.1, (picks_perm hp).mem_iff.1 List.mem_cons_self, hg2⟩) rfl
    · rw [List.pairwise_map]
      exact picks_apart h2
theorem nodup_anyO : ∀ (n : Nat) (ts : List T), ts.length = n → (∀ t ∈ ts, seat t ≠ [] ∧ (rows t).Nodup) → (seats ts).Nodup → (anyO n (ts.map rows)).Nodup
  | 0, _, _, _, _ => by rw [anyO]; exact List.nodup_cons.2 ⟨by simp, List.nodup_nil⟩
  | n + 1, ts, h, hr, hnd => by
    rw [anyO, picks_map, List.flatMap_map]
    refine nodup_flat (fun q hq => ?_) ?_
    · have hp := picks_perm hq
      have hl : q.2.length = n := by have := hp.length_eq; rw [List.length_cons] at this; omega
      have hs : (seat q.1 ++ seats q.2).Perm (seats ts) := seats_perm hp
      have hn2 := (List.nodup_append.1 (hs.nodup_iff.2 hnd)).2.1
      exact nodup_prod (hr q.1 (hp.mem_iff.1 List.mem_cons_self)).2 (fun x hx => rows_len hx) (nodup_anyO n q.2 hl (fun t ht => hr t (hp.mem_iff.1 (List.mem_cons_of_mem _ ht))) hn2)
    · refine List.pairwise_iff_forall_sublist.2 fun {p q} hs => ?_
      have hap := (List.pairwise_iff_forall_sublist.1 (picks_apart hnd)) hs
      have hpm : p ∈ picks ts := hs.subset List.mem_cons_self
      intro z hz w hw e
      obtain ⟨x, hx, hz⟩ := List.mem_flatMap.1 hz
      obtain ⟨u, _, rfl⟩ := List.mem_map.1 hz
      obtain ⟨y, hy, hw⟩ := List.mem_flatMap.1 hw
      obtain ⟨v, _, rfl⟩ := List.mem_map.1 hw
      have hqm : q ∈ picks ts := hs.subset (List.mem_cons_of_mem _ List.mem_cons_self)
      have px := rows_perm p.1 x hx
      have py := rows_perm q.1 y hy
      have n1 := (hr p.1 ((picks_perm hpm).mem_iff.1 List.mem_cons_self)).1
      have n2 := (hr q.1 ((picks_perm hqm).mem_iff.1 List.mem_cons_self)).1
      cases x with
      | nil => exact n1 px.symm.eq_nil
      | cons c x =>
        cases y with
        | nil => exact n2 py.symm.eq_nil
        | cons d y =>
          rw [List.cons_append, List.cons_append] at e
          have := (List.cons.inj e).1
          subst this
          exact hap c (px.mem_iff.1 List.mem_cons_self) (py.mem_iff.1 List.mem_cons_self)
theorem rows_nodup {t : T} (h : Ok t) (hnd : (seat t).Nodup) : (rows t).Nodup := by
  induction t using T.ind with
  | hl g => rw [rows]; exact List.nodup_cons.2 ⟨by simp, List.nodup_nil⟩
  | hn b ts ih =>
    rw [Ok] at h
    rw [seat] at hnd
    have hts : ∀ t ∈ ts, seat t ≠ [] ∧ (rows t).Nodup := fun t ht => by
      have o := oks_iff.1 h.2 t ht
      obtain ⟨l1, l2, e⟩ := List.append_of_mem ht
      refine ⟨seat_ne o, ih t ht o ?_⟩
      rw [e, seats_app, seats] at hnd
      exact (List.nodup_append.1 (List.nodup_append.1 hnd).2.1).1
    rw [rows]
    cases b
    · rw [if_neg (by decide), rowss_map]
      exact nodup_anyO _ ts rfl hts hnd
    · rw [if_pos rfl, rowss_map, ← List.map_reverse, List.nodup_append]
      refine ⟨nodup_sbs ts fun t ht => (hts t ht).2, nodup_sbs ts.reverse fun t ht => (hts t (List.mem_reverse.1 ht)).2, fun z hz w hw e => ?_⟩
      have h3 := h.1
      rw [if_pos rfl] at h3
      obtain ⟨t, r, rfl⟩ : ∃ t r, ts = t :: r := by
        cases ts with
        | nil => simp at h3
        | cons t r => exact ⟨t, r, rfl⟩
      obtain ⟨s, l, hl⟩ : ∃ s l, r = l ++ [s] := by
        have hr : r ≠ [] := by intro e; rw [e] at h3; simp at h3
        exact ⟨r.getLast hr, r.dropLast, (List.dropLast_concat_getLast hr).symm⟩
      rw [List.map_cons, sbs] at hz
      have hrev : (t :: r).reverse = s :: (t :: l).reverse := by rw [hl]; simp
      rw [hrev, List.map_cons, sbs] at hw
      obtain ⟨x, hx, hz⟩ := List.mem_flatMap.1 hz
      obtain ⟨u, _, rfl⟩ := List.mem_map.1 hz
      obtain ⟨y, hy, hw⟩ := List.mem_flatMap.1 hw
      obtain ⟨v, _, rfl⟩ := List.mem_map.1 hw
      have px := rows_perm t x hx
      have py := rows_perm s y hy
      have hsm : s ∈ r := by rw [hl]; simp
      have n1 := (hts t List.mem_cons_self).1
      have n2 := (hts s (List.mem_cons_of_mem _ hsm)).1
      cases x with
      | nil => exact n1 px.symm.eq_nil
      | cons c x =>
        cases y with
        | nil => exact n2 py.symm.eq_nil
        | cons d y =>
          rw [List.cons_append, List.cons_append] at e
          have := (List.cons.inj e).1
          subst this
          rw [seats, List.nodup_append] at hnd
          exact hnd.2.2 c (px.mem_iff.1 List.mem_cons_self) c (mem_seats.2 ⟨s, hsm, py.mem_iff.1 List.mem_cons_self⟩) rfl
/-- a whole row stands once or not at all -/
theorem cnt_whole {a : List Int} : ∀ {L : List (List Int)}, L.Nodup → (∀ r ∈ L, r.length = a.length) → cnt a L = if a ∈ L then 1 else 0
  | [], _, _ => rfl
  | r :: L, h, hl => by
    rw [List.nodup_cons] at h
    have ih := cnt_whole h.2 fun r' hr' => hl r' (List.mem_cons_of_mem _ hr')
    have hp : a.isPrefixOf r = decide (a = r) := by
      by_cases e : a = r
      · rw [decide_eq_true e, e]; exact List.isPrefixOf_iff_prefix.2 (List.prefix_refl _)
      · rw [decide_eq_false e]
        cases z : a.isPrefixOf r with
        | false => rfl
        | true => exact absurd ((List.isPrefixOf_iff_prefix.1 z).eq_of_length (hl r List.mem_cons_self).symm) e
    rw [cnt_cons, hp, ih]
    by_cases e : a = r
    · subst e
      rw [if_neg h.1]; simp
    · by_cases m : a ∈ L
      · simp [e, m]
      · simp [e, m]
end TT
set_option maxRecDepth 100000
set_option maxHeartbeats 1000000
/-! rows in their order, by numbers -/
namespace TT
open PySem L2 DL
/-- strictly ahead, as lists are ordered -/
def ltL : List Int → List Int → Bool
  | _, [] => false
  | [], _ :: _ => true
  | a :: r, b :: s => decide (a < b) || (decide (a = b) && ltL r s)
theorem ltL_irr : ∀ a : List Int, ltL a a = false
  | [] => rfl
  | a :: r => by rw [ltL, ltL_irr r]; simp
theorem ltL_trans : ∀ {a b c : List Int}, ltL a b = true → ltL b c = true → ltL a c = true
  | _, _, [], _, h => by unfold ltL at h; cases h
  | [], _, _ :: _, _, _ => rfl
  | a :: r, [], c :: t, h, _ => by unfold ltL at h; cases h
  | a :: r, b :: s, c :: t, h1, h2 => by
    rw [ltL] at h1 h2 ⊢
    simp only [Bool.or_eq_true, decide_eq_true_eq, Bool.and_eq_true] at h1 h2 ⊢
    rcases h1 with h1 | ⟨h1, h1'⟩ <;> rcases h2 with h2 | ⟨h2, h2'⟩
    · left; omega
    · left; omega
    · left; omega
    · right; exact ⟨by omega, ltL_trans h1' h2'⟩
theorem ltL_tot : ∀ {a b : List Int}, a.length = b.length → a ≠ b → ltL a b = true ∨ ltL b a = true
  | [], [], _, h => absurd rfl h
  | [], _ :: _, h, _ => by simp at h
  | _ :: _, [], h, _ => by simp at h
  | a :: r, b :: s, h, hn => by
    rw [ltL, ltL]
    simp only [Bool.or_eq_true, decide_eq_true_eq, Bool.and_eq_true]
    by_cases e : a = b
    · subst e
      have hrs : r ≠ s := fun e => hn (by rw [e])
      rcases ltL_tot (a := r) (b := s) (by simpa using h) hrs with h | h
      · left; right; exact ⟨rfl, h⟩
      · right; right; exact ⟨rfl, h⟩
    · by_cases l : a < b
      · left; left; exact l
      · right; left; omega
/-- how many rows are ahead -/
def rank (L : List (List Int)) (row : List Int) : Int := ((L.filter fun r => ltL r row).length : Nat)
/-- how many rows that begin with pre go on with one of these -/
def inSum (t : T) (pre : List Int) : List Int → Int
  | [] => 0
  | o :: r => (if o ∈ pre then 0 else cnt (pre ++ [o]) (rows t)) + inSum t pre r
def outSum (t : T) (row : List Int) : Nat → List Int → Int
  | _, [] => 0
  | k, g :: r => inSum t (row.take k) (rangeZ g.toNat) + outSum t row (k + 1) r
theorem inSum_app (t : T) (pre : List Int) : ∀ a b : List Int, inSum t pre (a ++ b) = inSum t pre a + inSum t pre b
  | [], b => by rw [List.nil_append, inSum, Int.zero_add]
  | x :: a, b => by rw [List.cons_append, inSum, inSum, inSum_app t pre a b, Int.add_assoc]
theorem cnt_nn (a : List Int) (L : List (List Int)) : 0 ≤ cnt a L := by unfold cnt; omega
theorem inSum_nn (t : T) (pre : List Int) : ∀ a : List Int, 0 ≤ inSum t pre a
  | [] => Int.le_refl _
  | x :: a => by
    have := inSum_nn t pre a
    have := cnt_nn (pre ++ [x]) (rows t)
    rw [inSum]; split <;> omega
theorem inSum_filter (t : T) (pre : List Int) : ∀ os : List Int, inSum t pre os = ((os.filter fun g => !decide (g ∈ pre)).map fun g => cnt (pre ++ [g]) (rows t)).sum
  | [] => rfl
  | o :: r => by
    rw [inSum, inSum_filter t pre r, List.filter_cons]
    by_cases h : o ∈ pre
    · rw [if_pos h, if_neg (by simp [h]), Int.zero_add]
    · rw [if_neg h, if_pos (by simp [h]), List.map_cons, List.sum_cons]
/-- all of them -/
theorem inSum_all {t : T} {n : Nat} (hp : (seat t).Perm (rangeZ n)) {pre : List Int} (hl : pre.length < n) : inSum t pre (rangeZ n) = cnt pre (rows t) := by
  rw [inSum_filter, ← cnt_more (rangeZ_nodup n) (fun r hr => (rows_perm t r hr).trans hp) (by rw [rangeZ_len]; exact hl)]
/-- a row's part in the sum -/
def hitS (r pre : List Int) : List Int → Int
  | [] => 0
  | o :: os => (if o ∈ pre then 0 else if (pre ++ [o]).isPrefixOf r then 1 else 0) + hitS r pre os
def inSumL (L : List (List Int)) (pre : List Int) : List Int → Int
  | [] => 0
  | o :: r => (if o ∈ pre then 0 else cnt (pre ++ [o]) L) + inSumL L pre r
theorem inSumL_t (t : T) (pre : List Int) : ∀ os, inSum t pre os = inSumL (rows t) pre os
  | [] => rfl
  | o :: os => by rw [inSum, inSumL, inSumL_t t pre os]
theorem inSumL_cons (r : List Int) (L : List (List Int)) (pre : List Int) : ∀ os, inSumL (r :: L) pre os = hitS r pre os + inSumL L pre os
  | [] => rfl
  | o :: os => by
    rw [inSumL, inSumL, hitS, inSumL_cons r L pre os, cnt_cons]
    split <;> omega
theorem hitS_no {r pre : List Int} (h : pre.isPrefixOf r = false) : ∀ os, hitS r pre os = 0
  | [] => rfl
  | o :: os => by rw [hitS, hitS_no h os, pre_snoc_no h]; simp
theorem hitS_yes {r pre : List Int} (h : pre.isPrefixOf r = true) (hl : pre.length < r.length) (hn : r.getD pre.length 0 ∉ pre) : ∀ {os : List Int}, os.Nodup → hitS r pre os = if r.getD pre.length 0 ∈ os then 1 else 0
  | [], _ => by simp [hitS]
  | o :: os, hd => by
    rw [List.nodup_cons] at hd
    rw [hitS, hitS_yes h hl hn hd.2, pre_snoc h hl]
    by_cases e : r.getD pre.length 0 = o
    · have h1 : o ∉ pre := e ▸ hn
      have h2 : r.getD pre.length 0 ∉ os := e ▸ hd.1
      rw [if_neg h1, if_neg h2, decide_eq_true e, if_pos rfl, if_pos (List.mem_cons.2 (.inl e))]; rfl
    · have e' : ¬ o = r.getD pre.length 0 := fun z => e z.symm
      simp only [e, decide_false, Bool.false_eq_true, if_false, ite_self, Int.zero_add, List.mem_cons, false_or]
theorem split_pre {r pre : List Int} (h : pre.isPrefixOf r = true) (hl : pre.length < r.length) : ∃ g x, r = pre ++ g :: x := by
  obtain ⟨s, rfl⟩ := List.isPrefixOf_iff_prefix.1 h
  cases s with
  | nil => simp at hl
  | cons g x => exact ⟨g, x, rfl⟩
theorem ltL_app (pre a b : List Int) : ltL (pre ++ a) (pre ++ b) = ltL a b := by
  induction pre with
  | nil => rfl
  | cons x p ih => rw [List.cons_append, List.cons_append, ltL, ih]; simp
/-- ahead of a beginning: one that begins so is not -/
theorem ltL_self_app (pre a : List Int) : ltL (pre ++ a) pre = false := by
  have := ltL_app pre a []
  rw [List.append_nil] at this
  rw [this]; cases a <;> rfl
theorem ltL_step {r pre : List Int} {g : Int} (hl : pre.length < r.length) : ltL r (pre ++ [g]) = (ltL r pre || (pre.isPrefixOf r && decide (r.getD pre.length 0 < g))) := by
  induction pre generalizing r with
  | nil =>
    cases r with
    | nil => simp at hl
    | cons y r =>
      rw [List.nil_append, ltL]
      have e1 : ltL r [] = false := by cases r <;> rfl
      show (decide (y < g) || (decide (y = g) && ltL r [])) = (false || (true && decide (y < g)))
      rw [e1]; simp
  | cons c pre ih =>
    cases r with
    | nil => simp at hl
    | cons y r =>
      rw [List.cons_append, ltL, ltL, ih (by simpa using hl)]
      show _ = (_ || ((c == y && pre.isPrefixOf r) && _))
      by_cases e : c = y
      · subst e; simp
      · have e' : ¬ y = c := fun z => e z.symm
        have e3 : (c == y) = false := by simp [e]
        simp [e', e3]
/-- rows: each holds just the guests from 0 on -/
def RowsN (n : Nat) (L : List (List Int)) : Prop := ∀ r ∈ L, r.Perm (rangeZ n)
theorem RowsN.len {n : Nat} {L : List (List Int)} (h : RowsN n L) {r : List Int} (hr : r ∈ L) : r.length = n := by rw [(h r hr).length_eq, rangeZ_len]
theorem rank_nil (L : List (List Int)) : rank L [] = 0 := by
  unfold rank
  rw [List.filter_eq_nil_iff.2 fun r _ => by cases r <;> simp [ltL]]; rfl
theorem rank_cons (r : List Int) (L : List (List Int)) (a : List Int) : rank (r :: L) a = (if ltL r a = true then 1 else 0) + rank L a := by
  unfold rank
  rw [List.filter_cons]
  split
  · rw [List.length_cons]; omega
  · omega
theorem next_mem {r pre : List Int} {n : Nat} (hr : r.Perm (rangeZ n)) (hp : pre.isPrefixOf r = true) (hl : pre.length < r.length) : r.getD pre.length 0 ∉ pre ∧ 0 ≤ r.getD pre.length 0 ∧ r.getD pre.length 0 < n := by
  obtain ⟨g, x, rfl⟩ := split_pre hp hl
  have e : (pre ++ g :: x).getD pre.length 0 = g := by rw [List.getD_eq_getElem?_getD, List.getElem?_append_right (Nat.le_refl _), Nat.sub_self]; rfl
  rw [e]
  have hnd := hr.nodup_iff.2 (rangeZ_nodup n)
  have hm : g ∈ rangeZ n := hr.mem_iff.1 (by simp)
  rw [List.nodup_append] at hnd
  exact ⟨fun z => hnd.2.2 g z g List.mem_cons_self rfl, rangeZ_mem.1 hm⟩
theorem rank_step {n : Nat} {L : List (List Int)} (h : RowsN n L) {pre : List Int} {g : Int} (hl : pre.length < n) (hg : 0 ≤ g) : rank L (pre ++ [g]) = rank L pre + inSumL L pre (rangeZ g.toNat) := by
  induction L with
  | nil =>
    have : ∀ os, inSumL [] pre os = 0 := fun os => by
      induction os with
      | nil => rfl
      | cons o os ih => rw [inSumL, ih]; simp [cnt]
    rw [this]; rfl
  | cons r L ih =>
    have hr := h r List.mem_cons_self
    have hrl : pre.length < r.length := by rw [h.len List.mem_cons_self]; exact hl
    rw [rank_cons, rank_cons, inSumL_cons, ih fun x hx => h x (List.mem_cons_of_mem _ hx), ltL_step hrl]
    cases hp : pre.isPrefixOf r with
    | false =>
      rw [hitS_no hp]
      simp only [Bool.false_and, Bool.or_false]
      omega
    | true =>
      obtain ⟨n1, n2, n3⟩ := next_mem hr hp hrl
      rw [hitS_yes hp hrl n1 (rangeZ_nodup _)]
      have e0 : ltL r pre = false := by
        obtain ⟨s, rfl⟩ := List.isPrefixOf_iff_prefix.1 hp
        exact ltL_self_app pre s
      have e1 : (r.getD pre.length 0 ∈ rangeZ g.toNat) ↔ r.getD pre.length 0 < g := by rw [rangeZ_mem]; omega
      rw [e0]
      simp only [Bool.true_and, Bool.false_or, decide_eq_true_eq, e1, Bool.false_eq_true, if_false]
      omega
theorem outSum_rank (t : T) {n : Nat} (h : RowsN n (rows t)) (row : List Int) (hl : row.length = n) (hb : ∀ g ∈ row, 0 ≤ g) : ∀ (suf : List Int) (k : Nat), row = row.take k ++ suf → k + suf.length = n → rank (rows t) row = rank (rows t) (row.take k) + outSum t row k suf
  | [], k, e, hk => by
    have : row.take k = row := List.take_of_length_le (by simp at hk; omega)
    rw [this, outSum, Int.add_zero]
  | g :: s, k, e, hk => by
    rw [List.length_cons] at hk
    have hgm : g ∈ row := by rw [e]; simp
    have et : row.take (k + 1) = row.take k ++ [g] := by
      have h1 : (row.take k).length = k := by rw [List.length_take]; omega
      conv => lhs; rw [e]
      rw [List.take_append, h1, List.take_of_length_le (by omega), show k + 1 - k = 1 by omega]; rfl
    have e2 : row = row.take (k + 1) ++ s := by rw [et, List.append_assoc]; exact e
    rw [outSum_rank t h row hl hb s (k + 1) e2 (by omega), et, rank_step h (by rw [List.length_take]; omega) (hb g hgm), outSum, inSumL_t, Int.add_assoc]
theorem outSum_eq (t : T) {n : Nat} (h : RowsN n (rows t)) (row : List Int) (hl : row.length = n) (hb : ∀ g ∈ row, 0 ≤ g) : outSum t row 0 row = rank (rows t) row := by
  rw [outSum_rank t h row hl hb row 0 rfl (by omega)]
  show _ = rank (rows t) [] + _
  rw [rank_nil, Int.zero_add]
theorem rank_mono {L : List (List Int)} {a b : List Int} (h : ltL a b = true) : rank L a ≤ rank L b := by
  unfold rank
  have : (L.filter fun r => ltL r a).Sublist (L.filter fun r => ltL r b) := by
    have e : (L.filter fun r => ltL r a) = (L.filter fun r => ltL r b).filter fun r => ltL r a := by
      rw [List.filter_filter]
      refine List.filter_congr fun r _ => ?_
      cases z : ltL r a with
      | false => rfl
      | true => rw [ltL_trans z h]; rfl
    rw [e]; exact List.filter_sublist
  have := this.length_le
  omega
theorem rank_lt {L : List (List Int)} {a b : List Int} (ha : a ∈ L) (h : ltL a b = true) : rank L a < rank L b := by
  induction L with
  | nil => cases ha
  | cons r L ih =>
    rw [rank_cons, rank_cons]
    rcases List.mem_cons.1 ha with rfl | ha
    · rw [ltL_irr, h]
      have := rank_mono (L := L) h
      simp; omega
    · have := ih ha
      cases z : ltL r a with
      | false => simp only [Bool.false_eq_true, if_false]; split <;> omega
      | true => rw [ltL_trans z h, if_pos rfl]; omega
theorem rank_nn (L : List (List Int)) (a : List Int) : 0 ≤ rank L a := by unfold rank; omega
theorem rank_b {L : List (List Int)} {a : List Int} (ha : a ∈ L) : rank L a < L.length := by
  have h : (L.filter fun r => ltL r a).length < L.length := by
    induction L with
    | nil => cases ha
    | cons r L ih =>
      rw [List.filter_cons]
      rcases List.mem_cons.1 ha with rfl | ha
      · rw [ltL_irr, if_neg (by decide), List.length_cons]
        have := List.length_filter_le (fun r => ltL r a) L
        omega
      · have := ih ha
        split
        · rw [List.length_cons, List.length_cons]; omega
        · rw [List.length_cons]; omega
  unfold rank; omega
theorem rank_inj {L : List (List Int)} {n : Nat} (h : RowsN n L) {a b : List Int} (ha : a ∈ L) (hb : b ∈ L) (e : rank L a = rank L b) : a = b := by
  apply Classical.byContradiction
  intro hne
  rcases ltL_tot (show a.length = b.length by rw [h.len ha, h.len hb]) hne with z | z
  · have := rank_lt ha z; omega
  · have := rank_lt hb z; omega
/-- the guest that stands next in the row of a number -/
theorem pick_next (t : T) (pre : List Int) : ∀ (os : List Int) (left : Int), 0 ≤ left → left < inSum t pre os → ∃ os1 o os2, os = os1 ++ o :: os2 ∧ o ∉ pre ∧ 0 ≤ left - inSum t pre os1 ∧ left - inSum t pre os1 < cnt (pre ++ [o]) (rows t)
  | [], left, h0, h1 => by rw [inSum] at h1; omega
  | o :: os, left, h0, h1 => by
    rw [inSum] at h1
    by_cases ho : o ∈ pre
    · rw [if_pos ho, Int.zero_add] at h1
      obtain ⟨os1, x, os2, e, h2, h3, h4⟩ := pick_next t pre os left h0 h1
      refine ⟨o :: os1, x, os2, by rw [e]; rfl, h2, ?_, ?_⟩ <;> rw [inSum, if_pos ho, Int.zero_add] <;> assumption
    · rw [if_neg ho] at h1
      by_cases hl : left < cnt (pre ++ [o]) (rows t)
      · exact ⟨[], o, os, rfl, ho, by rw [inSum]; omega, by rw [inSum]; omega⟩
      · obtain ⟨os1, x, os2, e, h2, h3, h4⟩ := pick_next t pre os (left - cnt (pre ++ [o]) (rows t)) (by omega) (by omega)
        refine ⟨o :: os1, x, os2, by rw [e]; rfl, h2, ?_, ?_⟩ <;> rw [inSum, if_neg ho] <;> omega
end TT
set_option maxRecDepth 100000
set_option maxHeartbeats 1000000
/-! small helpers -/
namespace TT
open PySem L2 DL
theorem compR_ints {tf : D → DL.Env → R DL.Env} {ft : DL.Env → R Bool} {fe : DL.Env → R D} {ρ : DL.Env} (p : Int → Bool) (h : Int → D) : ∀ os : List Int, (∀ o ∈ os, ∃ ρ1, tf (.int o) ρ = .ok ρ1 ∧ ft ρ1 = .ok (p o) ∧ (p o = true → fe ρ1 = .ok (h o))) → compR tf ft fe ρ (os.map .int) = .ok ((os.filter p).map h)
  | [], _ => rfl
  | o :: os, hs => by
    obtain ⟨ρ1, e1, e2, e3⟩ := hs o List.mem_cons_self
    have ih := compR_ints p h os fun d hd => hs d (List.mem_cons_of_mem _ hd)
    rw [List.map_cons]
    cases hp : p o with
    | true =>
      rw [List.filter_cons_of_pos hp, List.map_cons]
      exact compR_cons e1 (by rw [e2, hp]) (e3 hp) ih
    | false =>
      rw [List.filter_cons_of_neg (by rw [hp]; exact Bool.false_ne_true)]
      exact compR_skip e1 (by rw [e2, hp]) ih
theorem eqI_nil (a : List Int) : eqD (.list (a.map .int)) (.list []) = .ok (.bool (decide (a = []))) := eqD_ints a []
theorem neI_nil (a : List Int) : neD (.list (a.map .int)) (.list []) = .ok (.bool (!decide (a = []))) := neD_ints a []
theorem sumD_ints (a : List Int) : sumD [.list (a.map .int)] = .ok (.int a.sum) := by
  show (match intsD (a.map .int) with | some ns => R.ok (PyData.int ns.sum) | _ => R.bad) = _
  rw [intsD_map]
theorem enF_mem {d : D} : ∀ (r : List Int) (n : Nat), d ∈ enF n (r.map .int) → ∃ (i : Nat) (c : Int), d = .tuple [.int (i : Nat), .int c] ∧ i < n + r.length
  | [], _, h => by cases h
  | c :: r, n, h => by
    rcases List.mem_cons.1 h with rfl | h
    · exact ⟨n, c, rfl, by rw [List.length_cons]; omega⟩
    · obtain ⟨i, c', e, hi⟩ := enF_mem r (n + 1) h
      exact ⟨i, c', e, by rw [List.length_cons]; omega⟩
theorem len_filter_not {α : Type} (p : α → Bool) : ∀ l : List α, (l.filter p).length + (l.filter fun x => !p x).length = l.length
  | [] => rfl
  | x :: l => by
    have ih := len_filter_not p l
    rw [List.filter_cons, List.filter_cons]
    cases p x <;> simp <;> omega
/-- guests from 0 on, none twice -/
structure Pre (A : List Int) (n : Nat) : Prop where
  nd : A.Nodup
  b : ∀ i ∈ A, 0 ≤ i ∧ i ≤ (n : Int) - 1
theorem Pre.mem {A : List Int} {n : Nat} (h : Pre A n) {i : Int} (hi : i ∈ A) : i ∈ rangeZ n := rangeZ_mem.2 (by have := h.b i hi; omega)
theorem Pre.rest {A : List Int} {n : Nat} (h : Pre A n) : A.length + ((rangeZ n).filter fun g => !decide (g ∈ A)).length = n := by
  have e := len_filter_not (fun g => decide (g ∈ A)) (rangeZ n)
  have p : ((rangeZ n).filter fun g => decide (g ∈ A)).Perm A := (List.perm_ext_iff_of_nodup ((rangeZ_nodup n).filter _) h.nd).2 fun g => by
    rw [List.mem_filter]
    constructor
    · intro z; simpa using z.2
    · intro z; exact ⟨h.mem z, by simpa using z⟩
  rw [p.length_eq, rangeZ_len] at e
  exact e
theorem Pre.len {A : List Int} {n : Nat} (h : Pre A n) : A.length ≤ n := by have := h.rest; omega
theorem Pre.full {A : List Int} {n : Nat} (h : Pre A n) (hl : A.length = n) : A.Perm (rangeZ n) := by
  refine (List.perm_ext_iff_of_nodup h.nd (rangeZ_nodup n)).2 fun g => ⟨fun z => h.mem z, fun z => ?_⟩
  have e := h.rest
  have e0 : ((rangeZ n).filter fun g => !decide (g ∈ A)) = [] := List.eq_nil_of_length_eq_zero (by omega)
  apply Classical.byContradiction
  intro hn
  have : g ∈ ((rangeZ n).filter fun g => !decide (g ∈ A)) := List.mem_filter.2 ⟨z, by simp [hn]⟩
  rw [e0] at this; cases this
theorem Pre.of_perm {A : List Int} {n : Nat} (h : A.Perm (rangeZ n)) : Pre A n := ⟨h.nodup_iff.2 (rangeZ_nodup n), fun i hi => by have := rangeZ_mem.1 (h.mem_iff.1 hi); omega⟩
theorem Pre.sub {A B : List Int} {n : Nat} (h : Pre A n) (s : B.Sublist A) : Pre B n := ⟨s.nodup h.nd, fun i hi => h.b i (s.subset hi)⟩
theorem Pre.snoc {A : List Int} {n : Nat} (h : Pre A n) {g : Int} (hg : g ∈ rangeZ n) (hn : g ∉ A) : Pre (A ++ [g]) n := by
  refine ⟨?_, fun i hi => ?_⟩
  · rw [List.nodup_append]
    exact ⟨h.nd, by simp, fun a ha b hb e => hn (by rw [List.mem_singleton] at hb; rw [← hb, ← e]; exact ha)⟩
  · rcases List.mem_append.1 hi with hi | hi
    · exact h.b i hi
    · rw [List.mem_singleton] at hi; subst hi; have := rangeZ_mem.1 hg; omega
/-- the last one otherwise -/
theorem Pre.last {A : List Int} {n : Nat} (h : Pre A n) {g : Int} (hg : g ∈ rangeZ n) (hn : g ∉ A) : Pre (A.dropLast ++ [g]) n := (h.sub (List.dropLast_sublist A)).snoc hg fun z => hn ((List.dropLast_sublist A).subset z)
theorem set_last {A : List Int} (h : A ≠ []) (g : Int) : (A.map PyData.int).set (A.length - 1) (.int g) = (A.dropLast ++ [g]).map .int := by
  obtain ⟨r, x, rfl⟩ : ∃ r x, A = r ++ [x] := ⟨A.dropLast, A.getLast h, (List.dropLast_concat_getLast h).symm⟩
  rw [List.dropLast_concat, List.map_append, List.map_append, List.length_append, List.length_singleton, Nat.add_sub_cancel]
  have : r.length = (r.map PyData.int).length := by rw [List.length_map]
  rw [this, List.set_append_right _ _ (Nat.le_refl _), Nat.sub_self]; rfl
end TT
set_option maxRecDepth 100000
set_option maxHeartbeats 1000000
/-! rows by the order of the parts -/
namespace TT
open PySem L2 DL
theorem mem_sbs_cons {x : List Int} {L : List (List Int)} {Ls : List (List (List Int))} : x ∈ sbs (L :: Ls) ↔ ∃ a ∈ L, ∃ b ∈ sbs Ls, x = a ++ b := by
  rw [sbs, List.mem_flatMap]
  constructor
  · rintro ⟨a, ha, hx⟩
    obtain ⟨b, hb, rfl⟩ := List.mem_map.1 hx
    exact ⟨a, ha, b, hb, rfl⟩
  · rintro ⟨a, ha, b, hb, rfl⟩
    exact ⟨a, ha, List.mem_map.2 ⟨b, hb, rfl⟩⟩
theorem mem_sbs_nil {x : List Int} : x ∈ sbs [] ↔ x = [] := by rw [sbs, List.mem_singleton]
theorem picks_mem {α : Type} : ∀ {l : List α} {x : α} {r : List α}, (x :: r).Perm l → ∃ r', (x, r') ∈ picks l ∧ r'.Perm r
  | [], x, r, h => by have := h.length_eq; simp at this
  | y :: l, x, r, h => by
    rcases List.mem_cons.1 (h.mem_iff.1 List.mem_cons_self) with e | e
    · subst e
      exact ⟨l, by rw [picks]; exact List.mem_cons_self, ((List.perm_cons _).1 h).symm⟩
    · obtain ⟨l1, l2, rfl⟩ := List.append_of_mem e
      have h2 : (x :: (l1 ++ l2)).Perm (l1 ++ x :: l2) := List.perm_middle.symm
      obtain ⟨r', h3, h4⟩ := picks_mem h2
      refine ⟨y :: r', ?_, ?_⟩
      · rw [picks]
        exact List.mem_cons_of_mem _ (List.mem_map.2 ⟨(x, r'), h3, rfl⟩)
      · have h5 : (x :: r).Perm (x :: y :: (l1 ++ l2)) := h.trans ((h2.symm.cons y).trans (List.Perm.swap _ _ _))
        exact (h4.cons y).trans ((List.perm_cons _).1 h5).symm
theorem mem_anyO {x : List Int} (f : T → List (List Int)) : ∀ (n : Nat) (ts : List T), ts.length = n → (x ∈ anyO n (ts.map f) ↔ ∃ us : List T, us.Perm ts ∧ x ∈ sbs (us.map f))
  | 0, ts, h => by
    have : ts = [] := List.eq_nil_of_length_eq_zero h
    subst this
    rw [anyO]
    constructor
    · intro hx; exact ⟨[], List.Perm.refl _, by rw [List.map_nil, sbs]; exact hx⟩
    · rintro ⟨us, hu, hx⟩
      rw [hu.eq_nil, List.map_nil, sbs] at hx; exact hx
  | n + 1, ts, h => by
    rw [anyO, picks_map, List.flatMap_map, List.mem_flatMap]
    constructor
    · rintro ⟨p, hp, hx⟩
      obtain ⟨u, hu, hx⟩ := List.mem_flatMap.1 hx
      obtain ⟨v, hv, rfl⟩ := List.mem_map.1 hx
      have hperm := picks_perm hp
      have hl : p.2.length = n := by have := hperm.length_eq; rw [List.length_cons] at this; omega
      obtain ⟨us, h1, h2⟩ := (mem_anyO f n p.2 hl).1 hv
      exact ⟨p.1 :: us, (h1.cons p.1).trans hperm, by rw [List.map_cons]; exact mem_sbs_cons.2 ⟨u, hu, v, h2, rfl⟩⟩
    · rintro ⟨us, hu, hx⟩
      cases us with
      | nil => have := hu.length_eq; rw [h] at this; simp at this
      | cons p us =>
        obtain ⟨r', h1, h2⟩ := picks_mem hu
        rw [List.map_cons] at hx
        obtain ⟨u, hu1, v, hv, rfl⟩ := mem_sbs_cons.1 hx
        have hl : r'.length = n := by have h9 : (p :: r').length = ts.length := (picks_perm h1).length_eq; rw [List.length_cons] at h9; omega
        exact ⟨(p, r'), h1, List.mem_flatMap.2 ⟨u, hu1, List.mem_map.2 ⟨v, (mem_anyO f n r' hl).2 ⟨us, h2.symm, hv⟩, rfl⟩⟩⟩
/-- an order of the parts that a tree lets stand -/
def Ordr (b : Bool) (us ts : List T) : Prop := if b then us = ts ∨ us = ts.reverse else us.Perm ts
theorem Ordr.perm {b : Bool} {us ts : List T} (h : Ordr b us ts) : us.Perm ts := by
  unfold Ordr at h
  cases b with
  | false => exact h
  | true =>
    rw [if_pos rfl] at h
    rcases h with rfl | rfl
    · exact List.Perm.refl _
    · exact List.reverse_perm _
theorem mem_rows {b : Bool} {ts : List T} {x : List Int} : x ∈ rows (.node b ts) ↔ ∃ us, Ordr b us ts ∧ x ∈ sbs (us.map rows) := by
  rw [rows]
  cases b with
  | false =>
    rw [if_neg (by decide), rowss_map, mem_anyO rows _ ts rfl]
    exact Iff.rfl
  | true =>
    rw [if_pos rfl, rowss_map, List.mem_append, ← List.map_reverse]
    constructor
    · rintro (h | h)
      · exact ⟨ts, .inl rfl, h⟩
      · exact ⟨ts.reverse, .inr rfl, h⟩
    · rintro ⟨us, h, hx⟩
      rcases h with rfl | rfl
      · exact .inl hx
      · exact .inr hx
theorem mem_sbs_app {x : List Int} : ∀ {Ls Ms : List (List (List Int))}, x ∈ sbs (Ls ++ Ms) ↔ ∃ a ∈ sbs Ls, ∃ b ∈ sbs Ms, x = a ++ b
  | [], Ms => by
    constructor
    · intro h; exact ⟨[], by rw [sbs]; exact List.mem_singleton_self _, x, h, rfl⟩
    · rintro ⟨a, ha, b, hb, rfl⟩
      rw [mem_sbs_nil] at ha; subst ha; exact hb
  | L :: Ls, Ms => by
    rw [List.cons_append, mem_sbs_cons]
    constructor
    · rintro ⟨a, ha, b, hb, rfl⟩
      obtain ⟨c, hc, d, hd, rfl⟩ := mem_sbs_app.1 hb
      exact ⟨a ++ c, mem_sbs_cons.2 ⟨a, ha, c, hc, rfl⟩, d, hd, by rw [List.append_assoc]⟩
    · rintro ⟨a, ha, b, hb, rfl⟩
      obtain ⟨c, hc, d, hd, rfl⟩ := mem_sbs_cons.1 ha
      exact ⟨c, hc, d ++ b, mem_sbs_app.2 ⟨d, hd, b, hb, rfl⟩, by rw [List.append_assoc]⟩
theorem sbs_perm {us : List T} {x : List Int} (h : x ∈ sbs (us.map rows)) : x.Perm (seats us) := by
  induction us generalizing x with
  | nil => rw [List.map_nil, mem_sbs_nil] at h; subst h; exact List.Perm.refl _
  | cons t us ih =>
    rw [List.map_cons] at h
    obtain ⟨a, ha, b, hb, rfl⟩ := mem_sbs_cons.1 h
    rw [seats]
    exact (rows_perm t a ha).append (ih hb)
/-- where a part stands in a row -/
theorem block {us : List T} {p : T} (hp : p ∈ us) {x : List Int} (h : x ∈ sbs (us.map rows)) : ∃ l r A B C, us = l ++ p :: r ∧ x = A ++ B ++ C ∧ A.Perm (seats l) ∧ B ∈ rows p ∧ C.Perm (seats r) := by
  obtain ⟨l, r, rfl⟩ := List.append_of_mem hp
  rw [List.map_append, List.map_cons] at h
  obtain ⟨A, hA, y, hy, rfl⟩ := mem_sbs_app.1 h
  obtain ⟨B, hB, C, hC, rfl⟩ := mem_sbs_cons.1 hy
  exact ⟨l, r, A, B, C, rfl, by rw [List.append_assoc], sbs_perm hA, hB, sbs_perm hC⟩
/-- the place where the guests of a part begin -/
def begin' (x : List Int) (S : List Int) : Nat := (x.takeWhile fun g => !decide (g ∈ S)).length
theorem begin_eq {A B C S : List Int} (hB : B.Perm S) (hn : S ≠ []) (hA : ∀ g ∈ A, g ∉ S) : begin' (A ++ B ++ C) S = A.length := by
  unfold begin'
  have h1 : ∀ g ∈ A, (!decide (g ∈ S)) = true := fun g hg => by simp [hA g hg]
  rw [List.append_assoc, List.takeWhile_append_of_pos h1]
  cases B with
  | nil => exact absurd hB.symm.eq_nil hn
  | cons y B =>
    have : y ∈ S := hB.mem_iff.1 List.mem_cons_self
    rw [List.cons_append, List.takeWhile_cons]
    simp [this]
/-- the parts' places in their own order -/
theorem begins_asc {x : List Int} : ∀ {us pre : List T} {A : List Int}, x ∈ sbs ((pre ++ us).map rows) → (seats (pre ++ us)).Nodup → (∀ t ∈ us, seat t ≠ []) → Asc (us.map fun t => (begin' x (seat t) : Int)) ∧ ∀ t ∈ us, (seats pre).length ≤ begin' x (seat t)
  | [], pre, A, _, _, _ => ⟨List.Pairwise.nil, by simp⟩
  | t :: us, pre, A, h, hnd, hne => by
    have e : pre ++ t :: us = (pre ++ [t]) ++ us := by rw [List.append_assoc]; rfl
    have ih := begins_asc (x := x) (us := us) (pre := pre ++ [t]) (A := []) (by rw [← e]; exact h) (by rw [← e]; exact hnd) (fun u hu => hne u (List.mem_cons_of_mem _ hu))
    have hb : begin' x (seat t) = (seats pre).length := by
      rw [List.map_append, List.map_cons] at h
      obtain ⟨A', hA, y, hy, rfl⟩ := mem_sbs_app.1 h
      obtain ⟨B, hB, C, hC, rfl⟩ := mem_sbs_cons.1 hy
      rw [← List.append_assoc, begin_eq (rows_perm t B hB) (hne t List.mem_cons_self), (sbs_perm hA).length_eq]
      intro g hg hgt
      rw [seats_app, seats, List.nodup_append] at hnd
      exact hnd.2.2 g ((sbs_perm hA).mem_iff.1 hg) g (List.mem_append_left _ hgt) rfl
    have hlen : (seats (pre ++ [t])).length = (seats pre).length + (seat t).length := by rw [seats_app, List.length_append, seats, seats, List.append_nil]
    refine ⟨?_, fun u hu => ?_⟩
    · rw [List.map_cons]
      refine List.pairwise_cons.2 ⟨fun z hz => ?_, ih.1⟩
      obtain ⟨u, hu, rfl⟩ := List.mem_map.1 hz
      have := ih.2 u hu
      rw [hb]; omega
    · rcases List.mem_cons.1 hu with rfl | hu
      · omega
      · have := ih.2 u hu
        omega
/-! ### a loop by places -/
theorem for_thenI {tf : D → DL.Env → R DL.Env} {body G : DL.Env → Out} {X : Out} (I : Nat → DL.Env → Prop) : ∀ (ds : List D) (n : Nat) (ρ : DL.Env), I n ρ → (∀ i d, ds[i]? = some d → ∀ ρ, I (n + i) ρ → ∃ ρ1, tf d ρ = .ok ρ1 ∧ okO (I (n + i + 1)) (body ρ1)) → (∀ ρ', I (n + ds.length) ρ' → G ρ' = X) → (forS tf body ds ρ).then G = X
  | [], n, ρ, h, _, hG => hG ρ h
  | d :: ds, n, ρ, h, hs, hG => by
    obtain ⟨ρ1, e1, h1⟩ := hs 0 d rfl ρ h
    rw [forS_cons, e1, R.out_ok]
    have rest : ∀ ρ2, I (n + 1) ρ2 → (forS tf body ds ρ2).then G = X := fun ρ2 h2 =>
      for_thenI I ds (n + 1) ρ2 h2 (fun i d' hd ρ hI => by
        have := hs (i + 1) d' hd ρ (by rw [show n + (i + 1) = n + 1 + i by omega]; exact hI)
        rwa [show n + (i + 1) = n + 1 + i by omega] at this) fun ρ' h' => hG ρ' (by rw [List.length_cons, show n + (ds.length + 1) = n + 1 + ds.length by omega]; exact h')
    cases e : body ρ1 with
    | nx ρ2 => rw [e] at h1; rw [turnS_nx]; exact rest ρ2 h1
    | ct ρ2 => rw [e] at h1; rw [turnS_ct]; exact rest ρ2 h1
    | bk ρ2 => rw [e] at h1; exact h1.elim
    | rt d => rw [e] at h1; exact h1.elim
    | exc c => rw [e] at h1; exact h1.elim
    | bad => rw [e] at h1; exact h1.elim
/-! ### order of lists, at the data -/
theorem ltL_lt : ∀ a b : List Int, ltL a b = decide (a < b)
  | [], [] => by simp [ltL]
  | _ :: _, [] => by simp [ltL]
  | [], _ :: _ => by simp [ltL]
  | a :: r, b :: s => by
    rw [ltL, ltL_lt r s]
    by_cases h : a < b
    · simp [h, List.cons_lt_cons_iff]
    · by_cases e : a = b
      · simp [h, e, List.cons_lt_cons_iff]
      · simp [h, e, List.cons_lt_cons_iff]
theorem noDictA_ints : ∀ a : List Int, noDictA (a.map .int) = true
  | [] => rfl
  | _ :: r => by rw [List.map_cons, noDictA, noDictA_ints r]; rfl
theorem noDict_ints (a : List Int) : noDict (.list (a.map .int)) = true := by rw [noDict]; exact noDictA_ints a
theorem alike_il (a b : List Int) : PySem.W.alike (.list (a.map .int)) (.list (b.map .int)) = true := by rw [PySem.W.alike]; exact PySem.W.alike_ints a b
theorem depth_il (a : List Int) : PyData.depth (.list (a.map .int)) = 1 := by rw [PyData.depth, DL.depth_ints]
theorem dataLt_il (a b : List Int) : PySem.W.dataLt (.list (a.map .int)) (.list (b.map .int)) = ltL a b := by
  rw [PySem.W.dataLt_list]
  show PySem.W.rowLt _ _ = _
  rw [PySem.W.dataLt_ints, ltL_lt]
theorem ltAD_ints (a b : List Int) : ltAD (.list (a.map .int)) (.list (b.map .int)) = .ok (.bool (ltL a b)) := by
  unfold ltAD
  rw [if_pos ⟨noDict_ints a, noDict_ints b, alike_il a b, rfl, by rw [depth_il]; omega⟩, dataLt_il]
/-- pairs of a number and a row -/
def prI (p : Int × List Int) : D := .tuple [.int p.1, .list (p.2.map .int)]
theorem alike_pr (p q : Int × List Int) : PySem.W.alike (prI p) (prI q) = true := by
  unfold prI
  simp only [PySem.W.alike, PySem.W.alikeAll, Bool.true_and, Bool.and_true]
  exact PySem.W.alike_ints p.2 q.2
theorem sortOk_pr (ps : List (Int × List Int)) : sortOk (ps.map prI) = true := by
  unfold sortOk
  simp only [Bool.and_eq_true, Bool.or_eq_true, List.all_eq_true, decide_eq_true_eq, List.mem_map]
  refine ⟨⟨?_, .inl ?_⟩, ?_⟩
  · rintro _ ⟨p, _, rfl⟩ _ ⟨q, _, rfl⟩; exact alike_pr p q
  · rintro _ ⟨p, _, rfl⟩; rfl
  · rintro _ ⟨p, _, rfl⟩
    refine ⟨?_, ?_⟩
    · show noDict (.tuple _) = true
      rw [noDict, noDictA, noDictA, noDict_ints]; rfl
    · unfold prI
      simp only [PyData.depth, PyData.depthAll, DL.depth_ints]; omega
theorem dataLt_pr (p q : Int × List Int) (h : p.1 < q.1) : PySem.W.dataLt (prI p) (prI q) = true := by
  unfold prI
  rw [PySem.W.dataLt_pair (by simp [PySem.W.alike]) (alike_il _ _), if_neg (by simp [PyData.eqv]; omega), PySem.W.dataLt_int]
  exact decide_eq_true h
/-- sorted pairs rise by their numbers -/
theorem sortAD_pr (ps : List (Int × List Int)) : ∃ qs : List (Int × List Int), sortAD false [.list (ps.map prI)] = .ok (qs.map prI) ∧ qs.Perm ps ∧ qs.Pairwise fun p q => p.1 ≤ q.1 := by
  let le : (Int × List Int) → (Int × List Int) → Bool := PySem.W.dataLe false prI
  have hto := PySem.W.sortLe_total (PyProof.Rows.listOrd PyProof.Rows.itemOrd) false (fun p : Int × List Int => PySem.W.keyToks (prI p))
  refine ⟨ps.mergeSort le, ?_, List.mergeSort_perm _ _, ?_⟩
  · show (if sortOk (ps.map prI) = true then R.ok ((ps.map prI).mergeSort (leD' false)) else .bad) = _
    rw [if_pos (sortOk_pr ps), ← List.map_mergeSort (r := le) (s := leD' false) (f := prI) (fun a _ b _ => rfl)]
  · have h1 := List.pairwise_mergeSort (le := le) (fun a b c h1 h2 => hto.trans a b c h1 h2) (fun a b => by rw [Bool.or_eq_true]; exact hto.total a b) ps
    refine h1.imp fun {p q} h => ?_
    apply Classical.byContradiction
    intro hn
    have h2 : PySem.W.dataLt (prI q) (prI p) = true := dataLt_pr q p (by omega)
    have h3 : (!PySem.W.dataLt (prI q) (prI p)) = true := h
    rw [h2] at h3
    cases h3
theorem sortOk_ints (ns : List Int) : sortOk (ns.map .int) = true := by
  unfold sortOk
  simp only [Bool.and_eq_true, Bool.or_eq_true, List.all_eq_true, decide_eq_true_eq, List.mem_map]
  refine ⟨⟨?_, .inr ?_⟩, ?_⟩
  · rintro _ ⟨p, _, rfl⟩ _ ⟨q, _, rfl⟩; rfl
  · rintro _ ⟨p, _, rfl⟩; rfl
  · rintro _ ⟨p, _, rfl⟩; exact ⟨rfl, by simp [PyData.depth]⟩
theorem sortRD_ints (ns : List Int) : sortRD (.list (ns.map .int)) = .ok ((ns.mergeSort fun a b => decide (b ≤ a)).map .int) := by
  show (if sortOk (ns.map .int) = true then R.ok ((ns.map PyData.int).mergeSort (leD' true)) else .bad) = _
  rw [if_pos (sortOk_ints ns)]
  have e := List.map_mergeSort (r := fun a b : Int => decide (b ≤ a)) (s := leD' true) (f := PyData.int) (l := ns) (fun a _ b _ => by
    have := congrFun (congrFun (PySem.W.dataGe_int (fun b : Int => b)) a) b
    exact this.symm)
  rw [e]
end TT
set_option maxRecDepth 100000
set_option maxHeartbeats 1000000
/-! a group put into a tree: in plain Lean -/
namespace TT
open PySem L2 DL
abbrev Row := List Int
/-! ### rows turned about -/
theorem sbs_rev {Ls : List (List Row)} (h : ∀ L ∈ Ls, ∀ r ∈ L, r.reverse ∈ L) {x : Row} (hx : x ∈ sbs Ls) : x.reverse ∈ sbs Ls.reverse := by
  induction Ls generalizing x with
  | nil => rw [mem_sbs_nil] at hx; subst hx; exact mem_sbs_nil.2 rfl
  | cons L Ls ih =>
    obtain ⟨a, ha, b, hb, rfl⟩ := mem_sbs_cons.1 hx
    rw [List.reverse_cons, List.reverse_append]
    exact mem_sbs_app.2 ⟨b.reverse, ih (fun M hM => h M (List.mem_cons_of_mem _ hM)) hb, a.reverse, mem_sbs_cons.2 ⟨a.reverse, h L List.mem_cons_self a ha, [], mem_sbs_nil.2 rfl, by rw [List.append_nil]⟩, rfl⟩
theorem rows_rev (t : T) : ∀ r ∈ rows t, r.reverse ∈ rows t := by
  induction t using T.ind with
  | hl g => intro r hr; rw [rows, List.mem_singleton] at hr; subst hr; rw [rows]; exact List.mem_singleton_self _
  | hn b ts ih =>
    intro r hr
    obtain ⟨us, hu, hx⟩ := mem_rows.1 hr
    have hp := hu.perm
    have h1 := sbs_rev (Ls := us.map rows) (fun L hL => by
      obtain ⟨t, ht, rfl⟩ := List.mem_map.1 hL
      exact ih t (hp.mem_iff.1 ht)) hx
    rw [← List.map_reverse] at h1
    refine mem_rows.2 ⟨us.reverse, ?_, h1⟩
    unfold Ordr at hu ⊢
    cases b with
    | false => exact (List.reverse_perm us).trans hu
    | true =>
      rw [if_pos rfl] at hu ⊢
      rcases hu with rfl | rfl
      · exact .inr rfl
      · exact .inl (List.reverse_reverse _)
theorem sbsT_rev {us : List T} {x : Row} : x ∈ sbs (us.map rows) ↔ x.reverse ∈ sbs (us.reverse.map rows) := by
  have key : ∀ {us : List T} {x : Row}, x ∈ sbs (us.map rows) → x.reverse ∈ sbs (us.reverse.map rows) := fun {us x} h => by
    rw [List.map_reverse]
    exact sbs_rev (fun L hL => by obtain ⟨t, _, rfl⟩ := List.mem_map.1 hL; exact rows_rev t) h
  refine ⟨key, fun h => ?_⟩
  have := key h
  rwa [List.reverse_reverse, List.reverse_reverse] at this
/-! ### sitting together -/
def Non (g x : Row) : Prop := ∀ i ∈ x, i ∉ g
def All (g x : Row) : Prop := ∀ i ∈ x, i ∈ g
/-- those of the group at the end -/
def EndR (g r : Row) : Prop := ∃ A B, r = A ++ B ∧ Non g A ∧ All g B
def Tog (g r : Row) : Prop := ∃ A B C, r = A ++ B ++ C ∧ Non g A ∧ All g B ∧ Non g C
def EndL (g r : Row) : Prop := EndR g r.reverse
theorem Non.nil {g : Row} : Non g [] := by intro i hi; cases hi
theorem All.nil {g : Row} : All g [] := by intro i hi; cases hi
theorem Non.app {g x y : Row} : Non g (x ++ y) ↔ Non g x ∧ Non g y := by
  unfold Non
  constructor
  · intro h; exact ⟨fun i hi => h i (List.mem_append_left _ hi), fun i hi => h i (List.mem_append_right _ hi)⟩
  · intro h i hi
    rcases List.mem_append.1 hi with hi | hi
    · exact h.1 i hi
    · exact h.2 i hi
theorem All.app {g x y : Row} : All g (x ++ y) ↔ All g x ∧ All g y := by
  unfold All
  constructor
  · intro h; exact ⟨fun i hi => h i (List.mem_append_left _ hi), fun i hi => h i (List.mem_append_right _ hi)⟩
  · intro h i hi
    rcases List.mem_append.1 hi with hi | hi
    · exact h.1 i hi
    · exact h.2 i hi
theorem Non.perm {g x y : Row} (p : x.Perm y) : Non g x ↔ Non g y := ⟨fun h i hi => h i (p.mem_iff.2 hi), fun h i hi => h i (p.mem_iff.1 hi)⟩
theorem All.perm {g x y : Row} (p : x.Perm y) : All g x ↔ All g y := ⟨fun h i hi => h i (p.mem_iff.2 hi), fun h i hi => h i (p.mem_iff.1 hi)⟩
theorem EndR.tog {g r : Row} (h : EndR g r) : Tog g r := by
  obtain ⟨A, B, rfl, h1, h2⟩ := h
  exact ⟨A, B, [], by rw [List.append_nil], h1, h2, .nil⟩
theorem Tog.rev {g r : Row} (h : Tog g r) : Tog g r.reverse := by
  obtain ⟨A, B, C, rfl, h1, h2, h3⟩ := h
  refine ⟨C.reverse, B.reverse, A.reverse, by rw [List.reverse_append, List.reverse_append, List.append_assoc], ?_, ?_, ?_⟩
  · exact (Non.perm (List.reverse_perm C)).2 h3
  · exact (All.perm (List.reverse_perm B)).2 h2
  · exact (Non.perm (List.reverse_perm A)).2 h1
theorem Tog.rev_iff {g r : Row} : Tog g r.reverse ↔ Tog g r := ⟨fun h => by have := h.rev; rwa [List.reverse_reverse] at this, Tog.rev⟩
theorem Non.end {g r : Row} (h : Non g r) : EndR g r := ⟨r, [], by rw [List.append_nil], h, .nil⟩
theorem All.end {g r : Row} (h : All g r) : EndR g r := ⟨[], r, rfl, .nil, h⟩
/-- the end of two -/
theorem EndR.app {g x y : Row} : EndR g (x ++ y) ↔ (Non g x ∧ EndR g y) ∨ (EndR g x ∧ All g y) := by
  constructor
  · rintro ⟨A, B, e, h1, h2⟩
    rcases List.append_eq_append_iff.1 e with ⟨as, e1, e2⟩ | ⟨bs, e1, e2⟩
    · -- A = x ++ as, y = as ++ B
      left
      rw [e1] at h1
      exact ⟨(Non.app.1 h1).1, as, B, e2, (Non.app.1 h1).2, h2⟩
    · -- x = A ++ bs, B = bs ++ y
      right
      rw [e2] at h2
      exact ⟨⟨A, bs, e1, h1, (All.app.1 h2).1⟩, (All.app.1 h2).2⟩
  · rintro (⟨h1, A, B, rfl, h2, h3⟩ | ⟨⟨A, B, rfl, h1, h2⟩, h3⟩)
    · exact ⟨x ++ A, B, by rw [List.append_assoc], Non.app.2 ⟨h1, h2⟩, h3⟩
    · exact ⟨A, B ++ y, by rw [List.append_assoc], h1, All.app.2 ⟨h2, h3⟩⟩
theorem EndL.app {g x y : Row} : EndL g (x ++ y) ↔ (EndL g x ∧ Non g y) ∨ (All g x ∧ EndL g y) := by
  unfold EndL
  rw [List.reverse_append, EndR.app, Non.perm (List.reverse_perm y), All.perm (List.reverse_perm x)]
  constructor
  · rintro (⟨h1, h2⟩ | ⟨h1, h2⟩)
    · exact .inl ⟨h2, h1⟩
    · exact .inr ⟨h2, h1⟩
  · rintro (⟨h1, h2⟩ | ⟨h1, h2⟩)
    · exact .inl ⟨h2, h1⟩
    · exact .inr ⟨h2, h1⟩
theorem Tog.app {g x y : Row} : Tog g (x ++ y) ↔ (Non g x ∧ Tog g y) ∨ (Tog g x ∧ Non g y) ∨ (EndR g x ∧ EndL g y) := by
  constructor
  · rintro ⟨A, B, C, e, h1, h2, h3⟩
    rw [List.append_assoc] at e
    rcases List.append_eq_append_iff.1 e with ⟨as, e1, e2⟩ | ⟨bs, e1, e2⟩
    · left
      rw [e1] at h1
      exact ⟨(Non.app.1 h1).1, as, B, C, by rw [e2, List.append_assoc], (Non.app.1 h1).2, h2, h3⟩
    · rcases List.append_eq_append_iff.1 e2.symm with ⟨cs, e3, e4⟩ | ⟨cs, e3, e4⟩
      · -- B = bs ++ cs, y = cs ++ C
        right; right
        rw [e3] at h2
        refine ⟨⟨A, bs, e1, h1, (All.app.1 h2).1⟩, ?_⟩
        exact ⟨C.reverse, cs.reverse, by rw [e4, List.reverse_append], (Non.perm (List.reverse_perm C)).2 h3, (All.perm (List.reverse_perm cs)).2 (All.app.1 h2).2⟩
      · -- bs = B ++ cs, C = cs ++ y
        right; left
        rw [e4] at h3
        exact ⟨⟨A, B, cs, by rw [e1, e3, List.append_assoc], h1, h2, (Non.app.1 h3).1⟩, (Non.app.1 h3).2⟩
  · rintro (⟨h1, A, B, C, rfl, h2, h3, h4⟩ | ⟨⟨A, B, C, rfl, h1, h2, h3⟩, h4⟩ | ⟨⟨A, B, rfl, h1, h2⟩, h3⟩)
    · exact ⟨x ++ A, B, C, by simp only [List.append_assoc], Non.app.2 ⟨h1, h2⟩, h3, h4⟩
    · exact ⟨A, B, C ++ y, by simp only [List.append_assoc], h1, h2, Non.app.2 ⟨h3, h4⟩⟩
    · obtain ⟨C, D', e, h5, h6⟩ := h3
      have ey : y = D'.reverse ++ C.reverse := by rw [← List.reverse_append, ← e, List.reverse_reverse]
      exact ⟨A, B ++ D'.reverse, C.reverse, by rw [ey]; simp only [List.append_assoc], h1, All.app.2 ⟨h2, (All.perm (List.reverse_perm D')).2 h6⟩, (Non.perm (List.reverse_perm C)).2 h5⟩
end TT
set_option maxRecDepth 100000
set_option maxHeartbeats 1000000
namespace TT
open PySem L2 DL
/-! ### how much of a tree is of the group -/
def isNon (g : Row) (t : T) : Bool := (seat t).all fun i => !decide (i ∈ g)
def isAll (g : Row) (t : T) : Bool := (seat t).all fun i => decide (i ∈ g)
def isMix (g : Row) (t : T) : Bool := !isNon g t && !isAll g t
theorem isNon_iff {g : Row} {t : T} : isNon g t = true ↔ Non g (seat t) := by unfold isNon Non; simp
theorem isAll_iff {g : Row} {t : T} : isAll g t = true ↔ All g (seat t) := by unfold isAll All; simp
theorem isMix_iff {g : Row} {t : T} : isMix g t = true ↔ ¬ Non g (seat t) ∧ ¬ All g (seat t) := by
  unfold isMix
  rw [Bool.and_eq_true, Bool.not_eq_true', Bool.not_eq_true', ← isNon_iff, ← isAll_iff]
  simp
theorem not_both {g x : Row} (hx : x ≠ []) (h1 : Non g x) (h2 : All g x) : False := by
  cases x with
  | nil => exact hx rfl
  | cons i x => exact h1 i List.mem_cons_self (h2 i List.mem_cons_self)
theorem rows_ne (t : T) : ∃ r, r ∈ rows t := by
  induction t using T.ind with
  | hl g => exact ⟨[g], by rw [rows]; exact List.mem_singleton_self _⟩
  | hn b ts ih =>
    have key : ∀ us : List T, (∀ t ∈ us, ∃ r, r ∈ rows t) → ∃ r, r ∈ sbs (us.map rows) := fun us => by
      induction us with
      | nil => intro _; exact ⟨[], mem_sbs_nil.2 rfl⟩
      | cons t us ihu =>
        intro h
        obtain ⟨a, ha⟩ := h t List.mem_cons_self
        obtain ⟨b, hb⟩ := ihu fun u hu => h u (List.mem_cons_of_mem _ hu)
        exact ⟨a ++ b, mem_sbs_cons.2 ⟨a, ha, b, hb, rfl⟩⟩
    obtain ⟨r, hr⟩ := key ts ih
    refine ⟨r, mem_rows.2 ⟨ts, ?_, hr⟩⟩
    unfold Ordr
    cases b
    · exact List.Perm.refl _
    · exact .inl rfl
theorem sbs_ne (us : List T) : ∃ r, r ∈ sbs (us.map rows) := by
  induction us with
  | nil => exact ⟨[], mem_sbs_nil.2 rfl⟩
  | cons t us ih =>
    obtain ⟨a, ha⟩ := rows_ne t
    obtain ⟨b, hb⟩ := ih
    exact ⟨a ++ b, mem_sbs_cons.2 ⟨a, ha, b, hb, rfl⟩⟩
section
variable {g : Row} {p : T} {a : Row}
theorem row_non (ha : a ∈ rows p) : Non g a ↔ Non g (seat p) := Non.perm (rows_perm p a ha)
theorem row_all (ha : a ∈ rows p) : All g a ↔ All g (seat p) := All.perm (rows_perm p a ha)
theorem row_nn (ho : Ok p) (ha : a ∈ rows p) : a ≠ [] := fun e => by
  have := rows_len ha
  have := seat_pos ho
  rw [e] at *; simp at *; omega
end
/-! ### stools of parts -/
def stoolsT : List T → T
  | [t] => t
  | ts => .node false ts
theorem stoolsT_two {t u : T} {r : List T} : stoolsT (t :: u :: r) = .node false (t :: u :: r) := rfl
theorem mem_st {L : List T} (hL : L ≠ []) {r : Row} : r ∈ rows (stoolsT L) ↔ ∃ us : List T, us.Perm L ∧ r ∈ sbs (us.map rows) := by
  match L, hL with
  | [t], _ =>
    show r ∈ rows t ↔ _
    constructor
    · intro h; exact ⟨[t], List.Perm.refl _, mem_sbs_cons.2 ⟨r, h, [], mem_sbs_nil.2 rfl, by rw [List.append_nil]⟩⟩
    · rintro ⟨us, hu, h⟩
      rw [List.perm_singleton.1 hu] at h
      obtain ⟨a, ha, b, hb, rfl⟩ := mem_sbs_cons.1 h
      rw [mem_sbs_nil.1 hb, List.append_nil]; exact ha
  | t :: u :: q, _ => exact mem_rows
theorem stoolsT_ok {L : List T} (hL : L ≠ []) (h : Oks L) : Ok (stoolsT L) := by
  match L, hL with
  | [t], _ => exact h.1
  | t :: u :: q, _ =>
    show Ok (.node false (t :: u :: q))
    rw [Ok]
    exact ⟨by rw [if_neg (by decide)]; simp, h⟩
/-- no part at all, or these as one -/
def some1 (L : List T) : List T := match L with
  | [] => []
  | L => [stoolsT L]
theorem some1_ne {L : List T} (h : L ≠ []) : some1 L = [stoolsT L] := by
  cases L with
  | nil => exact absurd rfl h
  | cons t r => rfl
theorem mem_some1 {L : List T} {r : Row} : r ∈ sbs ((some1 L).map rows) ↔ ∃ us : List T, us.Perm L ∧ r ∈ sbs (us.map rows) := by
  by_cases h : L = []
  · subst h
    show r ∈ sbs [] ↔ _
    constructor
    · intro h; exact ⟨[], List.Perm.refl _, h⟩
    · rintro ⟨us, hu, h⟩
      rw [hu.eq_nil] at h; exact h
  · rw [some1_ne h, ← mem_st h]
    constructor
    · intro hr
      obtain ⟨a, ha, b, hb, rfl⟩ := mem_sbs_cons.1 hr
      rw [mem_sbs_nil.1 hb, List.append_nil]; exact ha
    · intro hr; exact mem_sbs_cons.2 ⟨r, hr, [], mem_sbs_nil.2 rfl, by rw [List.append_nil]⟩
theorem some1_ok {L : List T} (h : Oks L) : Oks (some1 L) := by
  by_cases e : L = []
  · subst e; exact trivial
  · rw [some1_ne e]; exact ⟨stoolsT_ok e h, trivial⟩
theorem oks_app {L M : List T} : Oks (L ++ M) ↔ Oks L ∧ Oks M := by
  rw [oks_iff, oks_iff, oks_iff]
  constructor
  · intro h; exact ⟨fun t ht => h t (List.mem_append_left _ ht), fun t ht => h t (List.mem_append_right _ ht)⟩
  · intro h t ht
    rcases List.mem_append.1 ht with ht | ht
    · exact h.1 t ht
    · exact h.2 t ht
/-! ### the shape of an order whose row has the group at its end -/
def NonL (g : Row) (L : List T) : Prop := ∀ t ∈ L, Non g (seat t)
def AllL (g : Row) (L : List T) : Prop := ∀ t ∈ L, All g (seat t)
theorem sbs_non {g : Row} {L : List T} {r : Row} (h : r ∈ sbs (L.map rows)) : Non g r ↔ NonL g L := by
  rw [Non.perm (sbs_perm h)]
  unfold Non NonL
  constructor
  · intro h t ht i hi; exact h i (mem_seats.2 ⟨t, ht, hi⟩)
  · intro h i hi
    obtain ⟨t, ht, hi⟩ := mem_seats.1 hi
    exact h t ht i hi
theorem sbs_all {g : Row} {L : List T} {r : Row} (h : r ∈ sbs (L.map rows)) : All g r ↔ AllL g L := by
  rw [All.perm (sbs_perm h)]
  unfold All AllL
  constructor
  · intro h t ht i hi; exact h i (mem_seats.2 ⟨t, ht, hi⟩)
  · intro h i hi
    obtain ⟨t, ht, hi⟩ := mem_seats.1 hi
    exact h t ht i hi
/-- at most one, and it is mixed -/
def One (g : Row) (M : List T) : Prop := M = [] ∨ ∃ m, M = [m] ∧ isMix g m = true
theorem NonL.nil {g : Row} : NonL g [] := by intro t ht; cases ht
theorem AllL.nil {g : Row} : AllL g [] := by intro t ht; cases ht
theorem shapeR {g : Row} : ∀ {us : List T} {r : Row}, Oks us → r ∈ sbs (us.map rows) → EndR g r → ∃ N M F a b c, us = N ++ M ++ F ∧ r = a ++ b ++ c ∧ a ∈ sbs (N.map rows) ∧ b ∈ sbs (M.map rows) ∧ c ∈ sbs (F.map rows) ∧ NonL g N ∧ One g M ∧ AllL g F ∧ EndR g b
  | [], r, _, h, _ => by
    rw [List.map_nil, mem_sbs_nil] at h
    subst h
    exact ⟨[], [], [], [], [], [], rfl, rfl, mem_sbs_nil.2 rfl, mem_sbs_nil.2 rfl, mem_sbs_nil.2 rfl, .nil, .inl rfl, .nil, Non.nil.end⟩
  | p :: us, r, ho, h, he => by
    obtain ⟨x, hx, y, hy, rfl⟩ := mem_sbs_cons.1 h
    have hxn := row_nn ho.1 hx
    have second : EndR g x → All g y → ¬ Non g x → ∃ N M F a b c, p :: us = N ++ M ++ F ∧ x ++ y = a ++ b ++ c ∧ a ∈ sbs (N.map rows) ∧ b ∈ sbs (M.map rows) ∧ c ∈ sbs (F.map rows) ∧ NonL g N ∧ One g M ∧ AllL g F ∧ EndR g b := fun h1 h2 h3 => by
      by_cases ha : All g x
      · refine ⟨[], [], p :: us, [], [], x ++ y, rfl, rfl, mem_sbs_nil.2 rfl, mem_sbs_nil.2 rfl, h, .nil, .inl rfl, ?_, Non.nil.end⟩
        exact (sbs_all h).1 (All.app.2 ⟨ha, h2⟩)
      · refine ⟨[], [p], us, [], x, y, rfl, rfl, mem_sbs_nil.2 rfl, mem_sbs_cons.2 ⟨x, hx, [], mem_sbs_nil.2 rfl, by rw [List.append_nil]⟩, hy, .nil, .inr ⟨p, rfl, isMix_iff.2 ⟨fun z => h3 ((row_non hx).2 z), fun z => ha ((row_all hx).2 z)⟩⟩, (sbs_all hy).1 h2, h1⟩
    rcases EndR.app.1 he with ⟨h1, h2⟩ | ⟨h1, h2⟩
    · obtain ⟨N, M, F, a, b, c, e1, e2, k1, k2, k3, k4, k5, k6, k7⟩ := shapeR ho.2 hy h2
      refine ⟨p :: N, M, F, x ++ a, b, c, by rw [e1]; rfl, by rw [e2]; simp only [List.append_assoc], mem_sbs_cons.2 ⟨x, hx, a, k1, rfl⟩, k2, k3, ?_, k5, k6, k7⟩
      intro t ht
      rcases List.mem_cons.1 ht with rfl | ht
      · exact (row_non hx).1 h1
      · exact k4 t ht
    · by_cases h3 : Non g x
      · -- the first one has none: the others are all of it
        refine ⟨[p], [], us, x, [], y, rfl, by rw [List.append_nil], mem_sbs_cons.2 ⟨x, hx, [], mem_sbs_nil.2 rfl, by rw [List.append_nil]⟩, mem_sbs_nil.2 rfl, hy, ?_, .inl rfl, (sbs_all hy).1 h2, Non.nil.end⟩
        intro t ht
        rw [List.mem_singleton] at ht; subst ht
        exact (row_non hx).1 h3
      · exact second h1 h2 h3
theorem shapeR_back {g : Row} {N M F : List T} {a b c : Row} (ha : a ∈ sbs (N.map rows)) (hc : c ∈ sbs (F.map rows)) (hN : NonL g N) (hF : AllL g F) (hb : EndR g b) : EndR g (a ++ b ++ c) := by
  rw [List.append_assoc]
  exact EndR.app.2 (.inl ⟨(sbs_non ha).2 hN, EndR.app.2 (.inr ⟨hb, (sbs_all hc).2 hF⟩)⟩)
theorem oks_rev {us : List T} : Oks us.reverse ↔ Oks us := by
  rw [oks_iff, oks_iff]; simp
theorem shapeL {g : Row} {us : List T} {r : Row} (ho : Oks us) (h : r ∈ sbs (us.map rows)) (he : EndL g r) : ∃ F M N c b a, us = F ++ M ++ N ∧ r = c ++ b ++ a ∧ c ∈ sbs (F.map rows) ∧ b ∈ sbs (M.map rows) ∧ a ∈ sbs (N.map rows) ∧ AllL g F ∧ One g M ∧ NonL g N ∧ EndL g b := by
  obtain ⟨N, M, F, a, b, c, e1, e2, k1, k2, k3, k4, k5, k6, k7⟩ := shapeR (oks_rev.2 ho) (sbsT_rev.1 h) he
  have kM : M.reverse = M := by
    rcases k5 with rfl | ⟨m, rfl, _⟩ <;> rfl
  refine ⟨F.reverse, M, N.reverse, c.reverse, b.reverse, a.reverse, ?_, ?_, ?_, ?_, ?_, ?_, k5, ?_, ?_⟩
  · rw [← List.reverse_reverse us, e1, List.reverse_append, List.reverse_append, kM, List.append_assoc]
  · rw [← List.reverse_reverse r, e2, List.reverse_append, List.reverse_append, List.append_assoc]
  · exact sbsT_rev.1 k3
  · have := sbsT_rev.1 k2; rwa [kM] at this
  · exact sbsT_rev.1 k1
  · intro t ht; exact k6 t (List.mem_reverse.1 ht)
  · intro t ht; exact k4 t (List.mem_reverse.1 ht)
  · unfold EndL; rw [List.reverse_reverse]; exact k7
/-! ### the parts by their shares -/
def fN (g : Row) (ts : List T) : List T := ts.filter (isNon g)
def fM (g : Row) (ts : List T) : List T := ts.filter (isMix g)
def fA (g : Row) (ts : List T) : List T := ts.filter (isAll g)
theorem f_perm {g : Row} : ∀ {ts : List T}, Oks ts → ts.Perm (fN g ts ++ fM g ts ++ fA g ts)
  | [], _ => List.Perm.refl _
  | t :: r, h => by
    have ih := f_perm (g := g) h.2
    unfold fN fM fA at ih ⊢
    rw [List.filter_cons, List.filter_cons, List.filter_cons]
    have hn := seat_ne h.1
    by_cases h1 : Non g (seat t)
    · have a1 : isNon g t = true := isNon_iff.2 h1
      have a2 : isAll g t = false := by cases z : isAll g t with | false => rfl | true => exact (not_both hn h1 (isAll_iff.1 z)).elim
      have a3 : isMix g t = false := by unfold isMix; rw [a1]; rfl
      rw [a1, a2, a3, if_pos rfl, if_neg (by decide), if_neg (by decide)]
      exact ih.cons t
    · have a1 : isNon g t = false := by cases z : isNon g t with | false => rfl | true => exact absurd (isNon_iff.1 z) h1
      by_cases h2 : All g (seat t)
      · have a2 : isAll g t = true := isAll_iff.2 h2
        have a3 : isMix g t = false := by unfold isMix; rw [a1, a2]; rfl
        rw [a1, a2, a3, if_pos rfl, if_neg (by decide), if_neg (by decide)]
        exact (ih.cons t).trans List.perm_middle.symm
      · have a2 : isAll g t = false := by cases z : isAll g t with | false => rfl | true => exact absurd (isAll_iff.1 z) h2
        have a3 : isMix g t = true := by unfold isMix; rw [a1, a2]; rfl
        rw [a1, a2, a3, if_pos rfl, if_neg (by decide), if_neg (by decide)]
        refine (ih.cons t).trans ?_
        rw [List.append_assoc, List.append_assoc]
        exact List.perm_middle.symm
theorem fN_of {g : Row} {N M F : List T} (hN : NonL g N) (hM : ∀ m ∈ M, isMix g m = true) (hF : AllL g F) (hO : Oks F) : fN g (N ++ M ++ F) = N ∧ fM g (N ++ M ++ F) = M ∧ fA g (N ++ M ++ F) = F ∨ ¬ (Oks N) := by
  by_cases hON : Oks N
  · left
    have n1 : ∀ t ∈ N, isNon g t = true := fun t ht => isNon_iff.2 (hN t ht)
    have n2 : ∀ t ∈ N, ¬ isAll g t = true := fun t ht z => not_both (seat_ne (oks_iff.1 hON t ht)) (hN t ht) (isAll_iff.1 z)
    have n3 : ∀ t ∈ N, ¬ isMix g t = true := fun t ht z => (isMix_iff.1 z).1 (hN t ht)
    have m1 : ∀ t ∈ M, ¬ isNon g t = true := fun t ht z => (isMix_iff.1 (hM t ht)).1 (isNon_iff.1 z)
    have m2 : ∀ t ∈ M, ¬ isAll g t = true := fun t ht z => (isMix_iff.1 (hM t ht)).2 (isAll_iff.1 z)
    have a1 : ∀ t ∈ F, isAll g t = true := fun t ht => isAll_iff.2 (hF t ht)
    have a2 : ∀ t ∈ F, ¬ isNon g t = true := fun t ht z => not_both (seat_ne (oks_iff.1 hO t ht)) (isNon_iff.1 z) (hF t ht)
    have a3 : ∀ t ∈ F, ¬ isMix g t = true := fun t ht z => (isMix_iff.1 z).2 (hF t ht)
    unfold fN fM fA
    simp only [List.filter_append]
    rw [List.filter_eq_self.2 n1, List.filter_eq_nil_iff.2 m1, List.filter_eq_nil_iff.2 a2, List.filter_eq_nil_iff.2 n3, List.filter_eq_self.2 hM, List.filter_eq_nil_iff.2 a3, List.filter_eq_nil_iff.2 n2, List.filter_eq_nil_iff.2 m2, List.filter_eq_self.2 a1]
    simp
  · exact .inr hON
theorem f_ok {g : Row} {ts : List T} (h : Oks ts) : Oks (fN g ts) ∧ Oks (fM g ts) ∧ Oks (fA g ts) := by
  rw [oks_iff] at h
  refine ⟨oks_iff.2 fun t ht => h t (List.mem_filter.1 ht).1, oks_iff.2 fun t ht => h t (List.mem_filter.1 ht).1, oks_iff.2 fun t ht => h t (List.mem_filter.1 ht).1⟩
theorem f_props {g : Row} (ts : List T) : NonL g (fN g ts) ∧ (∀ m ∈ fM g ts, isMix g m = true) ∧ AllL g (fA g ts) :=
  ⟨fun t ht => isNon_iff.1 (List.mem_filter.1 ht).2, fun t ht => (List.mem_filter.1 ht).2, fun t ht => isAll_iff.1 (List.mem_filter.1 ht).2⟩
end TT
set_option maxRecDepth 100000
set_option maxHeartbeats 1000000
namespace TT
open PySem L2 DL
/-! ### led -/
def ledRow (f : T → Option (List T)) (g : Row) : Bool → List T → Option (List T)
  | _, [] => some []
  | w, p :: r =>
    if (w && !isAll g p) = true then none
    else if isMix g p = true then
      match f p with
      | none => none
      | some L => (ledRow f g true r).map (L ++ ·)
    else (ledRow f g (!isNon g p) r).map (p :: ·)
def ledN (g : Row) : Nat → T → Option (List T)
  | 0, _ => none
  | _ + 1, .leaf _ => none
  | n + 1, .node true ts => match ledRow (ledN g n) g false ts with
    | some L => some L
    | none => ledRow (ledN g n) g false ts.reverse
  | n + 1, .node false ts => match fM g ts with
    | [] => some (some1 (fN g ts) ++ some1 (fA g ts))
    | [m] => match ledN g n m with
      | none => none
      | some L => some (some1 (fN g ts) ++ L ++ some1 (fA g ts))
    | _ => none
/-- what led tells -/
def LedSpec (g : Row) (t : T) : Option (List T) → Prop
  | none => ∀ r ∈ rows t, ¬ EndR g r
  | some L => Oks L ∧ ∀ r, r ∈ sbs (L.map rows) ↔ r ∈ rows t ∧ EndR g r
def RowSpec (g : Row) (ts : List T) : Option (List T) → Prop
  | none => ∀ r ∈ sbs (ts.map rows), ¬ EndR g r
  | some L => Oks L ∧ ∀ r, r ∈ sbs (L.map rows) ↔ r ∈ sbs (ts.map rows) ∧ EndR g r
theorem isAll_mix {g : Row} {p : T} (h : isAll g p = true) : isMix g p = false := by unfold isMix; rw [h]; simp
theorem isNon_mix {g : Row} {p : T} (h : isNon g p = true) : isMix g p = false := by unfold isMix; rw [h]; simp
theorem isAll_non {g : Row} {p : T} (ho : Ok p) (h : isAll g p = true) : isNon g p = false := by
  cases z : isNon g p with
  | false => rfl
  | true => exact (not_both (seat_ne ho) (isNon_iff.1 z) (isAll_iff.1 h)).elim
theorem ledRow_true {f : T → Option (List T)} {g : Row} : ∀ {ts : List T}, Oks ts → (AllL g ts → ledRow f g true ts = some ts) ∧ (¬ AllL g ts → ledRow f g true ts = none)
  | [], _ => ⟨fun _ => rfl, fun h => absurd (AllL.nil) h⟩
  | p :: r, ho => by
    have ih := ledRow_true (f := f) (g := g) ho.2
    constructor
    · intro h
      have hp : isAll g p = true := isAll_iff.2 (h p List.mem_cons_self)
      rw [ledRow, hp, isAll_mix hp, isAll_non ho.1 hp]
      simp only [Bool.not_true, Bool.and_false, Bool.false_eq_true, if_false, Bool.not_false]
      rw [ih.1 fun t ht => h t (List.mem_cons_of_mem _ ht)]; rfl
    · intro h
      rw [ledRow]
      by_cases hp : isAll g p = true
      · rw [hp, isAll_mix hp, isAll_non ho.1 hp]
        simp only [Bool.not_true, Bool.and_false, Bool.false_eq_true, if_false, Bool.not_false]
        rw [ih.2 fun z => h fun t ht => ?_]
        · rfl
        · rcases List.mem_cons.1 ht with rfl | ht
          · exact isAll_iff.1 hp
          · exact z t ht
      · have : isAll g p = false := by simpa using hp
        rw [this]; rfl
/-- the first part and the others -/
theorem end_non {g : Row} {a b : Row} (ha : Non g a) : EndR g (a ++ b) ↔ EndR g b := by
  rw [EndR.app]
  constructor
  · rintro (h | h)
    · exact h.2
    · exact h.2.end
  · intro h; exact .inl ⟨ha, h⟩
theorem end_nn {g : Row} {a b : Row} (ha : ¬ Non g a) : EndR g (a ++ b) ↔ EndR g a ∧ All g b := by
  rw [EndR.app]
  constructor
  · rintro (h | h)
    · exact absurd h.1 ha
    · exact h
  · intro h; exact .inr h
theorem cons_sbs {p : T} {L : List T} {r : Row} : r ∈ sbs ((p :: L).map rows) ↔ ∃ a ∈ rows p, ∃ b ∈ sbs (L.map rows), r = a ++ b := mem_sbs_cons
theorem app_sbs {L M : List T} {r : Row} : r ∈ sbs ((L ++ M).map rows) ↔ ∃ a ∈ sbs (L.map rows), ∃ b ∈ sbs (M.map rows), r = a ++ b := by rw [List.map_append]; exact mem_sbs_app
theorem ledRow_false {f : T → Option (List T)} {g : Row} : ∀ {ts : List T}, Oks ts → (∀ p ∈ ts, isMix g p = true → LedSpec g p (f p)) → RowSpec g ts (ledRow f g false ts)
  | [], _, _ => ⟨trivial, fun r => ⟨fun h => ⟨h, by rw [List.map_nil, mem_sbs_nil] at h; subst h; exact Non.nil.end⟩, fun h => h.1⟩⟩
  | p :: q, ho, hf => by
    have hpo := ho.1
    rw [ledRow]
    simp only [Bool.false_and, Bool.false_eq_true, if_false]
    by_cases hm : isMix g p = true
    · rw [if_pos hm]
      have hs := hf p List.mem_cons_self hm
      obtain ⟨m1, m2⟩ := isMix_iff.1 hm
      cases e : f p with
      | none =>
        rw [e] at hs
        intro r hr he
        obtain ⟨a, ha, b, hb, rfl⟩ := cons_sbs.1 hr
        exact hs a ha ((end_nn fun z => m1 ((row_non ha).1 z)).1 he).1
      | some L =>
        rw [e] at hs
        by_cases hq : AllL g q
        · show RowSpec g (p :: q) ((ledRow f g true q).map (L ++ ·))
          rw [(ledRow_true ho.2).1 hq]
          refine ⟨oks_app.2 ⟨hs.1, ho.2⟩, fun r => ?_⟩
          rw [app_sbs, cons_sbs]
          constructor
          · rintro ⟨a, ha, b, hb, rfl⟩
            obtain ⟨h1, h2⟩ := (hs.2 a).1 ha
            exact ⟨⟨a, h1, b, hb, rfl⟩, (end_nn fun z => m1 ((row_non h1).1 z)).2 ⟨h2, (sbs_all hb).2 hq⟩⟩
          · rintro ⟨⟨a, ha, b, hb, rfl⟩, he⟩
            obtain ⟨h1, h2⟩ := (end_nn fun z => m1 ((row_non ha).1 z)).1 he
            exact ⟨a, (hs.2 a).2 ⟨ha, h1⟩, b, hb, rfl⟩
        · show RowSpec g (p :: q) ((ledRow f g true q).map (L ++ ·))
          rw [(ledRow_true ho.2).2 hq]
          intro r hr he
          obtain ⟨a, ha, b, hb, rfl⟩ := cons_sbs.1 hr
          exact hq ((sbs_all hb).1 ((end_nn fun z => m1 ((row_non ha).1 z)).1 he).2)
    · rw [if_neg hm]
      by_cases hn : isNon g p = true
      · rw [hn, Bool.not_true]
        have hN := isNon_iff.1 hn
        have ih := ledRow_false ho.2 fun u hu => hf u (List.mem_cons_of_mem _ hu)
        cases e : ledRow f g false q with
        | none =>
          rw [e] at ih
          intro r hr he
          obtain ⟨a, ha, b, hb, rfl⟩ := cons_sbs.1 hr
          exact ih b hb ((end_non ((row_non ha).2 hN)).1 he)
        | some L =>
          rw [e] at ih
          refine ⟨⟨hpo, ih.1⟩, fun r => ?_⟩
          rw [cons_sbs, cons_sbs]
          constructor
          · rintro ⟨a, ha, b, hb, rfl⟩
            obtain ⟨h1, h2⟩ := (ih.2 b).1 hb
            exact ⟨⟨a, ha, b, h1, rfl⟩, (end_non ((row_non ha).2 hN)).2 h2⟩
          · rintro ⟨⟨a, ha, b, hb, rfl⟩, he⟩
            exact ⟨a, ha, b, (ih.2 b).2 ⟨hb, (end_non ((row_non ha).2 hN)).1 he⟩, rfl⟩
      · have hn' : isNon g p = false := by simpa using hn
        have hA : All g (seat p) := by
          have : isAll g p = true := by
            unfold isMix at hm
            rw [hn'] at hm
            simpa using hm
          exact isAll_iff.1 this
        have hnn : ∀ a ∈ rows p, ¬ Non g a := fun a ha z => not_both (row_nn hpo ha) z ((row_all ha).2 hA)
        rw [hn', Bool.not_false]
        by_cases hq : AllL g q
        · rw [(ledRow_true ho.2).1 hq]
          refine ⟨ho, fun r => ?_⟩
          constructor
          · intro h
            refine ⟨h, ?_⟩
            obtain ⟨a, ha, b, hb, rfl⟩ := cons_sbs.1 h
            exact (end_nn (hnn a ha)).2 ⟨((row_all ha).2 hA).end, (sbs_all hb).2 hq⟩
          · exact fun h => h.1
        · rw [(ledRow_true ho.2).2 hq]
          intro r hr he
          obtain ⟨a, ha, b, hb, rfl⟩ := cons_sbs.1 hr
          exact hq ((sbs_all hb).1 ((end_nn (hnn a ha)).1 he).2)
/-- of an order and the order turned about, at most one has the group at its end -/
theorem end_one_way {g : Row} {ts : List T} (ho : Oks ts) (h2 : 2 ≤ ts.length) (hn : ¬ NonL g ts) (ha : ¬ AllL g ts) {r s : Row} (hr : r ∈ sbs (ts.map rows)) (hs : s ∈ sbs (ts.reverse.map rows)) (er : EndR g r) (es : EndR g s) : False := by
  obtain ⟨N, M, F, _, _, _, e1, _, _, _, _, k4, k5, k6, _⟩ := shapeR ho hr er
  obtain ⟨N', M', F', _, _, _, e2, _, _, _, _, j4, j5, j6, _⟩ := shapeR (oks_rev.2 ho) hs es
  have e3 : ts = F'.reverse ++ (M'.reverse ++ N'.reverse) := by rw [← List.reverse_reverse ts, e2, List.reverse_append, List.reverse_append]
  -- the first part
  cases ts with
  | nil => simp at h2
  | cons p q =>
    have hpo := ho.1
    cases N with
    | cons n N =>
      -- the first part is of none: the turned order ends with it
      have hp : p = n := by rw [List.cons_append, List.cons_append] at e1; exact (List.cons.inj e1).1
      have pn : Non g (seat p) := by rw [hp]; exact k4 n List.mem_cons_self
      have f0 : F' = [] := by
        cases hF : F'.reverse with
        | nil => exact List.reverse_eq_nil_iff.1 hF
        | cons f fs =>
          rw [hF, List.cons_append] at e3
          have : p = f := (List.cons.inj e3).1
          have hm : f ∈ F' := List.mem_reverse.1 (by rw [hF]; exact List.mem_cons_self)
          exact (not_both (seat_ne hpo) pn (by rw [this]; exact j6 f hm)).elim
      subst f0
      rw [List.reverse_nil, List.nil_append] at e3
      rcases j5 with rfl | ⟨m, rfl, hm⟩
      · rw [List.reverse_nil, List.nil_append] at e3
        exact hn fun t ht => j4 t (List.mem_reverse.1 (by rw [← e3]; exact ht))
      · rw [List.reverse_singleton, List.singleton_append] at e3
        have : p = m := (List.cons.inj e3).1
        rw [← this] at hm
        exact (isMix_iff.1 hm).1 pn
    | nil =>
      rw [List.nil_append] at e1
      rcases k5 with rfl | ⟨m, rfl, hm⟩
      · rw [List.nil_append] at e1
        exact ha (e1 ▸ k6)
      · rw [List.singleton_append] at e1
        have hp : p = m := (List.cons.inj e1).1
        have hq : q = F := (List.cons.inj e1).2
        rw [← hp] at hm
        obtain ⟨m1, m2⟩ := isMix_iff.1 hm
        have f0 : F' = [] := by
          cases hF : F'.reverse with
          | nil => exact List.reverse_eq_nil_iff.1 hF
          | cons f fs =>
            rw [hF, List.cons_append] at e3
            have : p = f := (List.cons.inj e3).1
            have hm : f ∈ F' := List.mem_reverse.1 (by rw [hF]; exact List.mem_cons_self)
            exact (m2 (by rw [this]; exact j6 f hm)).elim
        subst f0
        rw [List.reverse_nil, List.nil_append] at e3
        rcases j5 with rfl | ⟨m', rfl, _⟩
        · rw [List.reverse_nil, List.nil_append] at e3
          exact m1 (j4 p (List.mem_reverse.1 (by rw [← e3]; exact List.mem_cons_self)))
        · rw [List.reverse_singleton, List.singleton_append] at e3
          have hq2 : q = N'.reverse := (List.cons.inj e3).2
          cases q with
          | nil => simp at h2
          | cons u q =>
            have u1 : All g (seat u) := k6 u (by rw [← hq]; exact List.mem_cons_self)
            have u2 : Non g (seat u) := j4 u (List.mem_reverse.1 (by rw [← hq2]; exact List.mem_cons_self))
            exact not_both (seat_ne ho.2.1) u2 u1
theorem seats_nonL {g : Row} {ts : List T} : NonL g ts ↔ Non g (seats ts) := by
  unfold NonL Non
  constructor
  · intro h i hi
    obtain ⟨t, ht, hi⟩ := mem_seats.1 hi
    exact h t ht i hi
  · intro h t ht i hi; exact h i (mem_seats.2 ⟨t, ht, hi⟩)
theorem seats_allL {g : Row} {ts : List T} : AllL g ts ↔ All g (seats ts) := by
  unfold AllL All
  constructor
  · intro h i hi
    obtain ⟨t, ht, hi⟩ := mem_seats.1 hi
    exact h t ht i hi
  · intro h t ht i hi; exact h i (mem_seats.2 ⟨t, ht, hi⟩)
theorem One.mem {g : Row} {M : List T} (h : One g M) : ∀ m ∈ M, isMix g m = true := by
  rcases h with rfl | ⟨m, rfl, hm⟩
  · intro m hm; cases hm
  · intro x hx; rw [List.mem_singleton] at hx; subst hx; exact hm
/-- the parts of an order, by their shares -/
theorem f_perm_of {g : Row} {ts us N M F : List T} (ho : Oks ts) (hp : us.Perm ts) (e : us = N ++ M ++ F) (hN : NonL g N) (hM : ∀ m ∈ M, isMix g m = true) (hF : AllL g F) : N.Perm (fN g ts) ∧ M.Perm (fM g ts) ∧ F.Perm (fA g ts) := by
  have hou : Oks us := oks_iff.2 fun t ht => oks_iff.1 ho t (hp.mem_iff.1 ht)
  rw [e] at hou
  have hF' : Oks F := (oks_app.1 hou).2
  have hN' : Oks N := (oks_app.1 (oks_app.1 hou).1).1
  rcases fN_of hN hM hF hF' with ⟨h1, h2, h3⟩ | h
  · rw [← e] at h1 h2 h3
    refine ⟨?_, ?_, ?_⟩
    · rw [← h1]; exact hp.filter _
    · rw [← h2]; exact hp.filter _
    · rw [← h3]; exact hp.filter _
  · exact absurd hN' h
theorem led_spec {g : Row} : ∀ (n : Nat) (t : T), Ok t → dep t < n → ¬ Non g (seat t) → ¬ All g (seat t) → LedSpec g t (ledN g n t)
  | 0, t, _, h, _, _ => by omega
  | n + 1, .leaf i, ho, _, h1, h2 => by
    exfalso
    by_cases hi : i ∈ g
    · exact h2 fun j hj => by rw [seat, List.mem_singleton] at hj; subst hj; exact hi
    · exact h1 fun j hj => by rw [seat, List.mem_singleton] at hj; subst hj; exact hi
  | n + 1, .node true ts, ho, hd, h1, h2 => by
    rw [Ok, if_pos rfl] at ho
    rw [dep] at hd
    rw [seat] at h1 h2
    have hf : ∀ us : List T, (∀ t ∈ us, t ∈ ts) → ∀ p ∈ us, isMix g p = true → LedSpec g p (ledN g n p) := fun us hus p hp hm => by
      have hpt := hus p hp
      obtain ⟨m1, m2⟩ := isMix_iff.1 hm
      exact led_spec n p (oks_iff.1 ho.2 p hpt) (by have := deps_le hpt; omega) m1 m2
    have a1 := ledRow_false (f := ledN g n) (g := g) ho.2 (hf ts fun _ h => h)
    have a2 := ledRow_false (f := ledN g n) (g := g) (oks_rev.2 ho.2) (hf ts.reverse fun t ht => List.mem_reverse.1 ht)
    have hno : ∀ {r s : Row}, r ∈ sbs (ts.map rows) → s ∈ sbs (ts.reverse.map rows) → EndR g r → EndR g s → False := fun hr hs er es =>
      end_one_way ho.2 (by omega) (fun z => h1 (seats_nonL.1 z)) (fun z => h2 (seats_allL.1 z)) hr hs er es
    have hrows : ∀ r, r ∈ rows (.node true ts) ↔ r ∈ sbs (ts.map rows) ∨ r ∈ sbs (ts.reverse.map rows) := fun r => by
      rw [mem_rows]
      constructor
      · rintro ⟨us, hu, h⟩
        rcases hu with rfl | rfl
        · exact .inl h
        · exact .inr h
      · rintro (h | h)
        · exact ⟨ts, .inl rfl, h⟩
        · exact ⟨ts.reverse, .inr rfl, h⟩
    rw [ledN]
    cases e1 : ledRow (ledN g n) g false ts with
    | some L =>
      rw [e1] at a1
      obtain ⟨r1, hr1⟩ := sbs_ne L
      obtain ⟨q1, q2⟩ := (a1.2 r1).1 hr1
      refine ⟨a1.1, fun r => ?_⟩
      rw [a1.2 r, hrows]
      constructor
      · rintro ⟨x1, x2⟩; exact ⟨.inl x1, x2⟩
      · rintro ⟨x1 | x1, x2⟩
        · exact ⟨x1, x2⟩
        · exact (hno q1 x1 q2 x2).elim
    | none =>
      rw [e1] at a1
      show LedSpec g _ (ledRow (ledN g n) g false ts.reverse)
      cases e2 : ledRow (ledN g n) g false ts.reverse with
      | some L =>
        rw [e2] at a2
        refine ⟨a2.1, fun r => ?_⟩
        rw [a2.2 r, hrows]
        constructor
        · rintro ⟨x1, x2⟩; exact ⟨.inr x1, x2⟩
        · rintro ⟨x1 | x1, x2⟩
          · exact (a1 r x1 x2).elim
          · exact ⟨x1, x2⟩
      | none =>
        rw [e2] at a2
        intro r hr he
        rcases (hrows r).1 hr with h | h
        · exact a1 r h he
        · exact a2 r h he
  | n + 1, .node false ts, ho, hd, h1, h2 => by
    rw [Ok, if_neg (by decide)] at ho
    rw [dep] at hd
    obtain ⟨o1, o2, o3⟩ := f_ok (g := g) ho.2
    obtain ⟨p1, p2, p3⟩ := f_props (g := g) ts
    have hall := f_perm (g := g) ho.2
    have hou : ∀ {us : List T}, us.Perm ts → Oks us := fun {us} hu => oks_iff.2 fun t ht => oks_iff.1 ho.2 t (hu.mem_iff.1 ht)
    have hback : ∀ {N M F : List T}, N.Perm (fN g ts) → M.Perm (fM g ts) → F.Perm (fA g ts) → (N ++ M ++ F).Perm ts := fun h1 h2 h3 => ((h1.append h2).append h3).trans hall.symm
    rw [ledN]
    split
    · -- none is mixed
      rename_i e
      refine ⟨oks_app.2 ⟨some1_ok o1, some1_ok o3⟩, fun r => ?_⟩
      rw [app_sbs, mem_rows]
      constructor
      · rintro ⟨a, ha, c, hc, rfl⟩
        obtain ⟨N, hN, ha⟩ := mem_some1.1 ha
        obtain ⟨F, hF, hc⟩ := mem_some1.1 hc
        refine ⟨⟨N ++ F, ?_, app_sbs.2 ⟨a, ha, c, hc, rfl⟩⟩, ?_⟩
        · have := hback hN (M := []) (by rw [e]) hF
          rwa [List.append_nil] at this
        · have := shapeR_back (M := []) (b := []) ha hc (fun t ht => p1 t (hN.mem_iff.1 ht)) (fun t ht => p3 t (hF.mem_iff.1 ht)) Non.nil.end
          rwa [List.append_nil] at this
      · rintro ⟨⟨us, hu, hx⟩, he⟩
        obtain ⟨N, M, F, a, b, c, e1, e2, k1, k2, k3, k4, k5, k6, k7⟩ := shapeR (hou hu) hx he
        obtain ⟨q1, q2, q3⟩ := f_perm_of ho.2 hu e1 k4 k5.mem k6
        rw [e] at q2
        rw [q2.eq_nil, List.map_nil, mem_sbs_nil] at k2
        subst k2
        rw [List.append_nil] at e2
        exact ⟨a, mem_some1.2 ⟨N, q1, k1⟩, c, mem_some1.2 ⟨F, q3, k3⟩, e2⟩
    · rename_i m e
      have hmm : m ∈ ts := (List.mem_filter.1 (show m ∈ fM g ts by rw [e]; exact List.mem_cons_self)).1
      have hmx : isMix g m = true := p2 m (by rw [e]; exact List.mem_cons_self)
      obtain ⟨m1, m2⟩ := isMix_iff.1 hmx
      have ih := led_spec n m (oks_iff.1 ho.2 m hmm) (by have := deps_le hmm; omega) m1 m2
      have hfwd : ∀ r ∈ rows (.node false ts), EndR g r → ∃ (N F : List T) (a b c : Row), N.Perm (fN g ts) ∧ F.Perm (fA g ts) ∧ r = a ++ b ++ c ∧ a ∈ sbs (N.map rows) ∧ b ∈ rows m ∧ c ∈ sbs (F.map rows) ∧ EndR g b := fun r hr he => by
        obtain ⟨us, hu, hx⟩ := mem_rows.1 hr
        obtain ⟨N, M, F, a, b, c, e1, e2, k1, k2, k3, k4, k5, k6, k7⟩ := shapeR (hou hu) hx he
        obtain ⟨q1, q2, q3⟩ := f_perm_of ho.2 hu e1 k4 k5.mem k6
        rw [e] at q2
        rw [List.perm_singleton.1 q2] at k2
        obtain ⟨b', hb', z, hz, rfl⟩ := cons_sbs.1 k2
        rw [List.map_nil, mem_sbs_nil] at hz
        subst hz
        rw [List.append_nil] at e2 k7
        exact ⟨N, F, a, b', c, q1, q3, e2, k1, hb', k3, k7⟩
      cases el : ledN g n m with
      | none =>
        rw [el] at ih
        intro r hr he
        obtain ⟨N, F, a, b, c, _, _, _, _, hb, _, hbe⟩ := hfwd r hr he
        exact ih b hb hbe
      | some L =>
        rw [el] at ih
        refine ⟨oks_app.2 ⟨oks_app.2 ⟨some1_ok o1, ih.1⟩, some1_ok o3⟩, fun r => ?_⟩
        constructor
        · intro h
          obtain ⟨ab, hab, c, hc, rfl⟩ := app_sbs.1 h
          obtain ⟨a, ha, b, hb, rfl⟩ := app_sbs.1 hab
          obtain ⟨N, hN, ha⟩ := mem_some1.1 ha
          obtain ⟨F, hF, hc⟩ := mem_some1.1 hc
          obtain ⟨hb1, hb2⟩ := (ih.2 b).1 hb
          refine ⟨mem_rows.2 ⟨N ++ [m] ++ F, hback hN (by rw [e]) hF, app_sbs.2 ⟨a ++ b, app_sbs.2 ⟨a, ha, b, cons_sbs.2 ⟨b, hb1, [], mem_sbs_nil.2 rfl, by rw [List.append_nil]⟩, rfl⟩, c, hc, rfl⟩⟩, ?_⟩
          exact shapeR_back (M := []) ha hc (fun t ht => p1 t (hN.mem_iff.1 ht)) (fun t ht => p3 t (hF.mem_iff.1 ht)) hb2
        · rintro ⟨hr, he⟩
          obtain ⟨N, F, a, b, c, hN, hF, rfl, ha, hb, hc, hbe⟩ := hfwd r hr he
          exact app_sbs.2 ⟨a ++ b, app_sbs.2 ⟨a, mem_some1.2 ⟨N, hN, ha⟩, b, (ih.2 b).2 ⟨hb, hbe⟩, rfl⟩, c, mem_some1.2 ⟨F, hF, hc⟩, rfl⟩
    · rename_i e1 e2
      intro r hr he
      obtain ⟨us, hu, hx⟩ := mem_rows.1 hr
      obtain ⟨N, M, F, a, b, c, e3, _, _, _, _, k4, k5, k6, _⟩ := shapeR (hou hu) hx he
      obtain ⟨_, q2, _⟩ := f_perm_of ho.2 hu e3 k4 k5.mem k6
      rcases k5 with rfl | ⟨m, rfl, _⟩
      · exact e1 q2.symm.eq_nil
      · exact e2 m (List.perm_singleton.1 q2.symm)
end TT
set_option maxRecDepth 100000
set_option maxHeartbeats 1000000
namespace TT
open PySem L2 DL
theorem rows_rev_iff {t : T} {r : Row} : r.reverse ∈ rows t ↔ r ∈ rows t := ⟨fun h => by have := rows_rev t _ h; rwa [List.reverse_reverse] at this, rows_rev t r⟩
theorem led_rev {g : Row} {t : T} {L : List T} (h : LedSpec g t (some L)) (r : Row) : r ∈ sbs (L.reverse.map rows) ↔ r ∈ rows t ∧ EndL g r := by
  rw [sbsT_rev, List.reverse_reverse, h.2, rows_rev_iff]; exact Iff.rfl
theorem led_len {g : Row} {t : T} {L : List T} (ho : Ok t) (h : LedSpec g t (some L)) (h1 : ¬ Non g (seat t)) (h2 : ¬ All g (seat t)) : 2 ≤ L.length := by
  match L, h with
  | [], h =>
    have := ((h.2 []).1 (mem_sbs_nil.2 rfl)).1
    exact absurd rfl (row_nn ho this)
  | [x], h =>
    exfalso
    obtain ⟨r, hr⟩ := rows_ne x
    have hone : ∀ {s}, s ∈ rows x → s ∈ sbs ([x].map rows) := fun {s} hs => cons_sbs.2 ⟨s, hs, [], mem_sbs_nil.2 rfl, by rw [List.append_nil]⟩
    obtain ⟨a1, A, B, e, a2, a3⟩ := (h.2 r).1 (hone hr)
    obtain ⟨b1, A', B', e', b2, b3⟩ := (h.2 r.reverse).1 (hone (rows_rev x r hr))
    have hA : A ≠ [] := fun z => h2 ((row_all a1).1 (by rw [e, z]; exact a3))
    have hB : B ≠ [] := fun z => h1 ((row_non a1).1 (by rw [e, z, List.append_nil]; exact a2))
    rw [e, List.reverse_append] at e'
    obtain ⟨i, B2, hB2⟩ : ∃ i B2, B.reverse = i :: B2 := by
      cases hz : B.reverse with
      | nil => exact absurd (List.reverse_eq_nil_iff.1 hz) hB
      | cons i B2 => exact ⟨i, B2, rfl⟩
    have hig : i ∈ g := a3 i (List.mem_reverse.1 (by rw [hB2]; exact List.mem_cons_self))
    cases A' with
    | nil =>
      rw [List.nil_append] at e'
      have : All g A := fun j hj => b3 j (by rw [← e']; exact List.mem_append_right _ (List.mem_reverse.2 hj))
      exact not_both hA a2 this
    | cons j A' =>
      rw [hB2, List.cons_append, List.cons_append] at e'
      have : i = j := (List.cons.inj e').1
      exact b2 j List.mem_cons_self (this ▸ hig)
  | _ :: _ :: _, _ => simp
/-! ### a bench -/
def benchT (L : List T) : T := if L.length < 3 then stoolsT L else .node true L
theorem benchT_three {L : List T} (h : 3 ≤ L.length) : benchT L = .node true L := by unfold benchT; rw [if_neg (by omega)]
theorem mem_bench {L : List T} {r : Row} : r ∈ rows (.node true L) ↔ r ∈ sbs (L.map rows) ∨ r.reverse ∈ sbs (L.map rows) := by
  rw [mem_rows]
  constructor
  · rintro ⟨us, hu, h⟩
    rcases hu with rfl | rfl
    · exact .inl h
    · right
      have := sbsT_rev.1 h
      rwa [List.reverse_reverse] at this
  · rintro (h | h)
    · exact ⟨L, .inl rfl, h⟩
    · refine ⟨L.reverse, .inr rfl, ?_⟩
      have := sbsT_rev.1 h
      rwa [List.reverse_reverse] at this
theorem bench_ok {L : List T} (h : 3 ≤ L.length) (o : Oks L) : Ok (.node true L) := by rw [Ok]; exact ⟨by rw [if_pos rfl]; exact h, o⟩
/-- the parts of a bench with the group together -/
def topB (f : T → Option (List T)) (g : Row) : Nat → List T → Option (List T)
  | _, [] => some []
  | s, p :: r =>
    if isNon g p = true then (topB f g (if s = 1 then 2 else s) r).map (p :: ·)
    else if s = 2 then none
    else if isAll g p = true then (topB f g 1 r).map (p :: ·)
    else match f p with
      | none => none
      | some L => (topB f g (s + 1) r).map ((if s = 1 then L.reverse else L) ++ ·)
theorem not_non {g : Row} {p : T} (h : ¬ isNon g p = true) : ¬ Non g (seat p) := fun z => h (isNon_iff.2 z)
theorem not_all {g : Row} {p : T} (h : ¬ isAll g p = true) : ¬ All g (seat p) := fun z => h (isAll_iff.2 z)
theorem topB2 {f : T → Option (List T)} {g : Row} : ∀ ts : List T, (NonL g ts → topB f g 2 ts = some ts) ∧ (¬ NonL g ts → topB f g 2 ts = none)
  | [] => ⟨fun _ => rfl, fun h => absurd (NonL.nil) h⟩
  | p :: r => by
    have ih := topB2 (f := f) (g := g) r
    rw [topB]
    by_cases hp : isNon g p = true
    · rw [if_pos hp, if_neg (by decide)]
      constructor
      · intro h
        rw [ih.1 fun t ht => h t (List.mem_cons_of_mem _ ht)]; rfl
      · intro h
        rw [ih.2 fun z => h fun t ht => ?_]
        · rfl
        · rcases List.mem_cons.1 ht with rfl | ht
          · exact isNon_iff.1 hp
          · exact z t ht
    · rw [if_neg hp, if_pos rfl]
      exact ⟨fun h => absurd (isNon_iff.2 (h p List.mem_cons_self)) hp, fun _ => rfl⟩
def BSpec (P : Row → Prop) (ts : List T) : Option (List T) → Prop
  | none => ∀ r ∈ sbs (ts.map rows), ¬ P r
  | some L => Oks L ∧ ts.length ≤ L.length ∧ ∀ r, r ∈ sbs (L.map rows) ↔ r ∈ sbs (ts.map rows) ∧ P r
theorem Non.endL {g r : Row} (h : Non g r) : EndL g r := ((Non.perm (List.reverse_perm r)).2 h).end
theorem All.endL {g r : Row} (h : All g r) : EndL g r := ((All.perm (List.reverse_perm r)).2 h).end
theorem EndL.tog {g r : Row} (h : EndL g r) : Tog g r := by
  have h2 : EndR g r.reverse := h
  exact Tog.rev_iff.1 h2.tog
theorem topB1 {f : T → Option (List T)} {g : Row} : ∀ {ts : List T}, Oks ts → (∀ p ∈ ts, isMix g p = true → LedSpec g p (f p)) → BSpec (EndL g) ts (topB f g 1 ts)
  | [], _, _ => ⟨trivial, Nat.le_refl _, fun r => ⟨fun h => ⟨h, by rw [List.map_nil, mem_sbs_nil] at h; subst h; exact Non.nil.endL⟩, fun h => h.1⟩⟩
  | p :: q, ho, hf => by
    rw [topB]
    by_cases hp : isNon g p = true
    · have hN := isNon_iff.1 hp
      have key : ∀ {a b : Row}, a ∈ rows p → (EndL g (a ++ b) ↔ Non g b) := fun {a b} ha => by
        have an := (row_non ha).2 hN
        rw [EndL.app]
        constructor
        · rintro (h | h)
          · exact h.2
          · exact (not_both (row_nn ho.1 ha) an h.1).elim
        · intro h; exact .inl ⟨an.endL, h⟩
      rw [if_pos hp, if_pos rfl]
      by_cases hq : NonL g q
      · rw [(topB2 q).1 hq]
        refine ⟨ho, Nat.le_refl _, fun r => ?_⟩
        refine ⟨fun h => ⟨h, ?_⟩, fun h => h.1⟩
        obtain ⟨a, ha, b, hb, rfl⟩ := cons_sbs.1 h
        exact (key ha).2 ((sbs_non hb).2 hq)
      · rw [(topB2 q).2 hq]
        intro r hr he
        obtain ⟨a, ha, b, hb, rfl⟩ := cons_sbs.1 hr
        exact hq ((sbs_non hb).1 ((key ha).1 he))
    · rw [if_neg hp, if_neg (by decide)]
      have hpn := not_non hp
      by_cases hA : isAll g p = true
      · rw [if_pos hA]
        have hAl := isAll_iff.1 hA
        have key : ∀ {a b : Row}, a ∈ rows p → (EndL g (a ++ b) ↔ EndL g b) := fun {a b} ha => by
          have aa := (row_all ha).2 hAl
          rw [EndL.app]
          constructor
          · rintro (h | h)
            · exact h.2.endL
            · exact h.2
          · intro h; exact .inr ⟨aa, h⟩
        have ih := topB1 (f := f) (g := g) ho.2 fun u hu => hf u (List.mem_cons_of_mem _ hu)
        cases e : topB f g 1 q with
        | none =>
          rw [e] at ih
          intro r hr he
          obtain ⟨a, ha, b, hb, rfl⟩ := cons_sbs.1 hr
          exact ih b hb ((key ha).1 he)
        | some L =>
          rw [e] at ih
          refine ⟨⟨ho.1, ih.1⟩, by rw [List.length_cons, List.length_cons]; exact Nat.succ_le_succ ih.2.1, fun r => ?_⟩
          rw [cons_sbs, cons_sbs]
          constructor
          · rintro ⟨a, ha, b, hb, rfl⟩
            obtain ⟨h1, h2⟩ := (ih.2.2 b).1 hb
            exact ⟨⟨a, ha, b, h1, rfl⟩, (key ha).2 h2⟩
          · rintro ⟨⟨a, ha, b, hb, rfl⟩, he⟩
            exact ⟨a, ha, b, (ih.2.2 b).2 ⟨hb, (key ha).1 he⟩, rfl⟩
      · rw [if_neg hA]
        have hm : isMix g p = true := isMix_iff.2 ⟨hpn, not_all hA⟩
        have hs := hf p List.mem_cons_self hm
        have key : ∀ {a b : Row}, a ∈ rows p → (EndL g (a ++ b) ↔ EndL g a ∧ Non g b) := fun {a b} ha => by
          rw [EndL.app]
          constructor
          · rintro (h | h)
            · exact h
            · exact absurd ((row_all ha).1 h.1) (not_all hA)
          · intro h; exact .inl h
        cases e : f p with
        | none =>
          rw [e] at hs
          intro r hr he
          obtain ⟨a, ha, b, hb, rfl⟩ := cons_sbs.1 hr
          exact hs a.reverse (rows_rev p a ha) ((key ha).1 he).1
        | some L =>
          rw [e] at hs
          show BSpec (EndL g) (p :: q) ((topB f g 2 q).map ((if 1 = 1 then L.reverse else L) ++ ·))
          rw [if_pos rfl]
          have hl := led_len ho.1 hs hpn (not_all hA)
          by_cases hq : NonL g q
          · rw [(topB2 q).1 hq]
            refine ⟨oks_app.2 ⟨oks_rev.2 hs.1, ho.2⟩, by rw [List.length_append, List.length_reverse, List.length_cons]; omega, fun r => ?_⟩
            rw [app_sbs, cons_sbs]
            constructor
            · rintro ⟨a, ha, b, hb, rfl⟩
              obtain ⟨h1, h2⟩ := (led_rev hs a).1 ha
              exact ⟨⟨a, h1, b, hb, rfl⟩, (key h1).2 ⟨h2, (sbs_non hb).2 hq⟩⟩
            · rintro ⟨⟨a, ha, b, hb, rfl⟩, he⟩
              exact ⟨a, (led_rev hs a).2 ⟨ha, ((key ha).1 he).1⟩, b, hb, rfl⟩
          · rw [(topB2 q).2 hq]
            intro r hr he
            obtain ⟨a, ha, b, hb, rfl⟩ := cons_sbs.1 hr
            exact hq ((sbs_non hb).1 ((key ha).1 he).2)
/-- whether all of a group are in a part -/
def hasAll (g : Row) (p : T) : Bool := g.all fun i => decide (i ∈ seat p)
theorem hasAll_iff {g : Row} {p : T} : hasAll g p = true ↔ ∀ i ∈ g, i ∈ seat p := by unfold hasAll; simp
theorem tog_in {g : Row} {p : T} {q : List T} {a b : Row} (ha : a ∈ rows p) (hb : b ∈ sbs (q.map rows)) (hg : ∀ i ∈ g, i ∈ seats (p :: q)) (hn : Non g b) : hasAll g p = true := by
  rw [hasAll_iff]
  intro i hi
  have := hg i hi
  rw [seats] at this
  rcases List.mem_append.1 this with h | h
  · exact h
  · exact absurd hi (hn i ((sbs_perm hb).mem_iff.2 h))
theorem tail_in {g : Row} {p : T} {q : List T} (hg : ∀ i ∈ g, i ∈ seats (p :: q)) (hn : Non g (seat p)) : ∀ i ∈ g, i ∈ seats q := fun i hi => by
  have := hg i hi
  rw [seats] at this
  rcases List.mem_append.1 this with h | h
  · exact absurd hi (hn i h)
  · exact h
theorem topB0 {f : T → Option (List T)} {g : Row} : ∀ {ts : List T}, Oks ts → (∀ p ∈ ts, isMix g p = true → LedSpec g p (f p)) → (∀ i ∈ g, i ∈ seats ts) → (∀ p ∈ ts, ¬ hasAll g p = true) → BSpec (Tog g) ts (topB f g 0 ts)
  | [], _, _, _, _ => ⟨trivial, Nat.le_refl _, fun r => ⟨fun h => ⟨h, by rw [List.map_nil, mem_sbs_nil] at h; subst h; exact Non.nil.end.tog⟩, fun h => h.1⟩⟩
  | p :: q, ho, hf, hg, hh => by
    have hno : ∀ {a b : Row}, a ∈ rows p → b ∈ sbs (q.map rows) → ¬ Non g b := fun ha hb hn => hh p List.mem_cons_self (tog_in ha hb hg hn)
    rw [topB]
    by_cases hp : isNon g p = true
    · have hN := isNon_iff.1 hp
      rw [if_pos hp, if_neg (by decide)]
      have key : ∀ {a b : Row}, a ∈ rows p → b ∈ sbs (q.map rows) → (Tog g (a ++ b) ↔ Tog g b) := fun {a b} ha hb => by
        have an := (row_non ha).2 hN
        rw [Tog.app]
        constructor
        · rintro (h | h | h)
          · exact h.2
          · exact absurd h.2 (hno ha hb)
          · exact h.2.tog
        · intro h; exact .inl ⟨an, h⟩
      have ih := topB0 (f := f) (g := g) ho.2 (fun u hu => hf u (List.mem_cons_of_mem _ hu)) (tail_in hg hN) fun u hu => hh u (List.mem_cons_of_mem _ hu)
      cases e : topB f g 0 q with
      | none =>
        rw [e] at ih
        intro r hr he
        obtain ⟨a, ha, b, hb, rfl⟩ := cons_sbs.1 hr
        exact ih b hb ((key ha hb).1 he)
      | some L =>
        rw [e] at ih
        refine ⟨⟨ho.1, ih.1⟩, by rw [List.length_cons, List.length_cons]; exact Nat.succ_le_succ ih.2.1, fun r => ?_⟩
        rw [cons_sbs, cons_sbs]
        constructor
        · rintro ⟨a, ha, b, hb, rfl⟩
          obtain ⟨h1, h2⟩ := (ih.2.2 b).1 hb
          exact ⟨⟨a, ha, b, h1, rfl⟩, (key ha h1).2 h2⟩
        · rintro ⟨⟨a, ha, b, hb, rfl⟩, he⟩
          exact ⟨a, ha, b, (ih.2.2 b).2 ⟨hb, (key ha hb).1 he⟩, rfl⟩
    · rw [if_neg hp, if_neg (by decide)]
      have hpn := not_non hp
      have key : ∀ {a b : Row}, a ∈ rows p → b ∈ sbs (q.map rows) → (Tog g (a ++ b) ↔ EndR g a ∧ EndL g b) := fun {a b} ha hb => by
        rw [Tog.app]
        constructor
        · rintro (h | h | h)
          · exact absurd ((row_non ha).1 h.1) hpn
          · exact absurd h.2 (hno ha hb)
          · exact h
        · intro h; exact .inr (.inr h)
      have ih := topB1 (f := f) (g := g) ho.2 fun u hu => hf u (List.mem_cons_of_mem _ hu)
      by_cases hA : isAll g p = true
      · rw [if_pos hA]
        have hAl := isAll_iff.1 hA
        cases e : topB f g 1 q with
        | none =>
          rw [e] at ih
          intro r hr he
          obtain ⟨a, ha, b, hb, rfl⟩ := cons_sbs.1 hr
          exact ih b hb ((key ha hb).1 he).2
        | some L =>
          rw [e] at ih
          refine ⟨⟨ho.1, ih.1⟩, by rw [List.length_cons, List.length_cons]; exact Nat.succ_le_succ ih.2.1, fun r => ?_⟩
          rw [cons_sbs, cons_sbs]
          constructor
          · rintro ⟨a, ha, b, hb, rfl⟩
            obtain ⟨h1, h2⟩ := (ih.2.2 b).1 hb
            exact ⟨⟨a, ha, b, h1, rfl⟩, (key ha h1).2 ⟨((row_all ha).2 hAl).end, h2⟩⟩
          · rintro ⟨⟨a, ha, b, hb, rfl⟩, he⟩
            exact ⟨a, ha, b, (ih.2.2 b).2 ⟨hb, ((key ha hb).1 he).2⟩, rfl⟩
      · rw [if_neg hA]
        have hm : isMix g p = true := isMix_iff.2 ⟨hpn, not_all hA⟩
        have hs := hf p List.mem_cons_self hm
        cases e : f p with
        | none =>
          rw [e] at hs
          intro r hr he
          obtain ⟨a, ha, b, hb, rfl⟩ := cons_sbs.1 hr
          exact hs a ha ((key ha hb).1 he).1
        | some L =>
          rw [e] at hs
          have hl := led_len ho.1 hs hpn (not_all hA)
          show BSpec (Tog g) (p :: q) ((topB f g 1 q).map ((if 0 = 1 then L.reverse else L) ++ ·))
          rw [if_neg (by decide)]
          cases e : topB f g 1 q with
          | none =>
            rw [e] at ih
            intro r hr he
            obtain ⟨a, ha, b, hb, rfl⟩ := cons_sbs.1 hr
            exact ih b hb ((key ha hb).1 he).2
          | some M =>
            rw [e] at ih
            refine ⟨oks_app.2 ⟨hs.1, ih.1⟩, by have := ih.2.1; rw [List.length_append, List.length_cons]; omega, fun r => ?_⟩
            rw [app_sbs, cons_sbs]
            constructor
            · rintro ⟨a, ha, b, hb, rfl⟩
              obtain ⟨h1, h2⟩ := (hs.2 a).1 ha
              obtain ⟨h3, h4⟩ := (ih.2.2 b).1 hb
              exact ⟨⟨a, h1, b, h3, rfl⟩, (key h1 h3).2 ⟨h2, h4⟩⟩
            · rintro ⟨⟨a, ha, b, hb, rfl⟩, he⟩
              obtain ⟨h1, h2⟩ := (key ha hb).1 he
              exact ⟨a, (hs.2 a).2 ⟨ha, h1⟩, b, (ih.2.2 b).2 ⟨hb, h2⟩, rfl⟩
def TopSpec (g : Row) (t : T) : Option T → Prop
  | none => ∀ r ∈ rows t, ¬ Tog g r
  | some u => Ok u ∧ ∀ r, r ∈ rows u ↔ r ∈ rows t ∧ Tog g r
theorem bench_spec {f : T → Option (List T)} {g : Row} {ts : List T} (h3 : 3 ≤ ts.length) (ho : Oks ts) (hf : ∀ p ∈ ts, isMix g p = true → LedSpec g p (f p)) (hg : ∀ i ∈ g, i ∈ seats ts) (hh : ∀ p ∈ ts, ¬ hasAll g p = true) :
    TopSpec g (.node true ts) ((topB f g 0 ts).map benchT) := by
  have h := topB0 ho hf hg hh
  cases e : topB f g 0 ts with
  | none =>
    rw [e] at h
    intro r hr ht
    rcases mem_bench.1 hr with z | z
    · exact h r z ht
    · exact h r.reverse z ht.rev
  | some L =>
    rw [e] at h
    have hl : 3 ≤ L.length := by have := h.2.1; omega
    show TopSpec g _ (some (benchT L))
    rw [benchT_three hl]
    refine ⟨bench_ok hl h.1, fun r => ?_⟩
    rw [mem_bench, mem_bench, h.2.2, h.2.2, Tog.rev_iff]
    constructor
    · rintro (⟨h1, h2⟩ | ⟨h1, h2⟩)
      · exact ⟨.inl h1, h2⟩
      · exact ⟨.inr h1, h2⟩
    · rintro ⟨h1 | h1, h2⟩
      · exact .inl ⟨h1, h2⟩
      · exact .inr ⟨h1, h2⟩
end TT
set_option maxRecDepth 100000
set_option maxHeartbeats 1000000
namespace TT
open PySem L2 DL
/-- an order whose row has the group together, parted within the group -/
theorem split_tog {g : Row} : ∀ {us : List T} {r : Row}, Oks us → r ∈ sbs (us.map rows) → Tog g r → (∀ i ∈ g, i ∈ seats us) → (∀ p ∈ us, ¬ hasAll g p = true) → ∃ (X Y : List T) (x y : Row), us = X ++ Y ∧ r = x ++ y ∧ x ∈ sbs (X.map rows) ∧ y ∈ sbs (Y.map rows) ∧ EndR g x ∧ EndL g y
  | [], r, _, h, _, _, _ => by
    rw [List.map_nil, mem_sbs_nil] at h
    subst h
    exact ⟨[], [], [], [], rfl, rfl, mem_sbs_nil.2 rfl, mem_sbs_nil.2 rfl, Non.nil.end, Non.nil.endL⟩
  | p :: us, r, ho, h, ht, hg, hh => by
    obtain ⟨a, ha, b, hb, rfl⟩ := cons_sbs.1 h
    rcases Tog.app.1 ht with ⟨h1, h2⟩ | ⟨h1, h2⟩ | ⟨h1, h2⟩
    · obtain ⟨X, Y, x, y, e1, e2, k1, k2, k3, k4⟩ := split_tog ho.2 hb h2 (tail_in hg ((row_non ha).1 h1)) fun u hu => hh u (List.mem_cons_of_mem _ hu)
      exact ⟨p :: X, Y, a ++ x, y, by rw [e1]; rfl, by rw [e2, List.append_assoc], cons_sbs.2 ⟨a, ha, x, k1, rfl⟩, k2, EndR.app.2 (.inl ⟨h1, k3⟩), k4⟩
    · exact absurd (tog_in ha hb hg h2) (hh p List.mem_cons_self)
    · exact ⟨[p], us, a, b, rfl, rfl, cons_sbs.2 ⟨a, ha, [], mem_sbs_nil.2 rfl, by rw [List.append_nil]⟩, hb, h1, h2⟩
theorem one_sbs {m : T} {b : Row} : b ∈ sbs ([m].map rows) ↔ b ∈ rows m := by
  rw [cons_sbs]
  constructor
  · rintro ⟨a, ha, z, hz, rfl⟩
    rw [List.map_nil, mem_sbs_nil] at hz
    subst hz
    rw [List.append_nil]; exact ha
  · intro h; exact ⟨b, h, [], mem_sbs_nil.2 rfl, by rw [List.append_nil]⟩
/-- what stands between in an order with the group together: from mixed parts M1, M2 at both ends -/
def Mid (g : Row) (A : List T) (M1 M2 : List T) (b : Row) : Prop := ∃ (b1 c b2 : Row) (F : List T), b = b1 ++ c ++ b2 ∧ b1 ∈ sbs (M1.map rows) ∧ EndR g b1 ∧ F.Perm A ∧ c ∈ sbs (F.map rows) ∧ b2 ∈ sbs (M2.map rows) ∧ EndL g b2
theorem nonL_app {g : Row} {L M : List T} : NonL g (L ++ M) ↔ NonL g L ∧ NonL g M := by
  unfold NonL
  constructor
  · intro h; exact ⟨fun t ht => h t (List.mem_append_left _ ht), fun t ht => h t (List.mem_append_right _ ht)⟩
  · intro h t ht
    rcases List.mem_append.1 ht with ht | ht
    · exact h.1 t ht
    · exact h.2 t ht
theorem allL_app {g : Row} {L M : List T} : AllL g (L ++ M) ↔ AllL g L ∧ AllL g M := by
  unfold AllL
  constructor
  · intro h; exact ⟨fun t ht => h t (List.mem_append_left _ ht), fun t ht => h t (List.mem_append_right _ ht)⟩
  · intro h t ht
    rcases List.mem_append.1 ht with ht | ht
    · exact h.1 t ht
    · exact h.2 t ht
theorem stools_fwd {g : Row} {ts : List T} (ho : Oks ts) (hg : ∀ i ∈ g, i ∈ seats ts) (hh : ∀ p ∈ ts, ¬ hasAll g p = true) {r : Row} (hr : r ∈ rows (.node false ts)) (ht : Tog g r) :
    ∃ (N1 N2 M1 M2 : List T) (a b d : Row), r = a ++ b ++ d ∧ (N1 ++ N2).Perm (fN g ts) ∧ (M1 ++ M2).Perm (fM g ts) ∧ One g M1 ∧ One g M2 ∧ a ∈ sbs (N1.map rows) ∧ d ∈ sbs (N2.map rows) ∧ Mid g (fA g ts) M1 M2 b := by
  obtain ⟨us, hu, hx⟩ := mem_rows.1 hr
  have hu : us.Perm ts := hu
  have hou : Oks us := oks_iff.2 fun t ht => oks_iff.1 ho t (hu.mem_iff.1 ht)
  obtain ⟨X, Y, x, y, e1, e2, k1, k2, k3, k4⟩ := split_tog hou hx ht (fun i hi => (seats_perm hu).mem_iff.2 (hg i hi)) fun p hp => hh p (hu.mem_iff.1 hp)
  have hoX : Oks X := (oks_app.1 (e1 ▸ hou)).1
  have hoY : Oks Y := (oks_app.1 (e1 ▸ hou)).2
  obtain ⟨N1, M1, F1, a, b1, c1, f1, f2, f3, f4, f5, f6, f7, f8, f9⟩ := shapeR hoX k1 k3
  obtain ⟨F2, M2, N2, c2, b2, d, g1, g2, g3, g4, g5, g6, g7, g8, g9⟩ := shapeL hoY k2 k4
  have hperm : ((N1 ++ N2) ++ (M1 ++ M2) ++ (F1 ++ F2)).Perm ts := by
    refine List.Perm.trans ?_ hu
    rw [e1, f1, g1]
    have h1 : ((N1 ++ N2) ++ (M1 ++ M2) ++ (F1 ++ F2)).Perm (N1 ++ (M1 ++ (F1 ++ (F2 ++ (M2 ++ N2))))) := by
      simp only [List.append_assoc]
      refine List.Perm.append_left N1 ?_
      have q1 : (N2 ++ (M1 ++ (M2 ++ (F1 ++ F2)))).Perm ((M1 ++ (M2 ++ (F1 ++ F2))) ++ N2) := List.perm_append_comm
      refine q1.trans ?_
      simp only [List.append_assoc]
      refine List.Perm.append_left M1 ?_
      have q2 : (M2 ++ (F1 ++ (F2 ++ N2))).Perm ((F1 ++ F2) ++ (M2 ++ N2)) := by
        have : ((M2 ++ (F1 ++ F2)) ++ N2).Perm (((F1 ++ F2) ++ M2) ++ N2) := List.Perm.append_right N2 List.perm_append_comm
        simpa only [List.append_assoc] using this
      simpa only [List.append_assoc] using q2
    simpa only [List.append_assoc] using h1
  have hM : ∀ m ∈ M1 ++ M2, isMix g m = true := fun m hm => by
    rcases List.mem_append.1 hm with hm | hm
    · exact f7.mem m hm
    · exact g7.mem m hm
  obtain ⟨q1, q2, q3⟩ := f_perm_of ho hperm rfl (nonL_app.2 ⟨f6, g8⟩) hM (allL_app.2 ⟨f8, g6⟩)
  refine ⟨N1, N2, M1, M2, a, b1 ++ (c1 ++ c2) ++ b2, d, ?_, q1, q2, f7, g7, f3, g5, b1, c1 ++ c2, b2, F1 ++ F2, rfl, f4, f9, q3, app_sbs.2 ⟨c1, f5, c2, g3, rfl⟩, g4, g9⟩
  rw [e2, f2, g2]; simp only [List.append_assoc]
theorem Mid.tog {g : Row} {A M1 M2 : List T} {b : Row} (hA : AllL g A) (h : Mid g A M1 M2 b) : Tog g b := by
  obtain ⟨b1, c, b2, F, rfl, h1, h2, h3, h4, h5, h6⟩ := h
  have hc : All g c := (sbs_all h4).2 fun t ht => hA t (h3.mem_iff.1 ht)
  refine Tog.app.2 (.inr (.inr ⟨EndR.app.2 (.inr ⟨h2, hc⟩), h6⟩))
theorem stools_back {g : Row} {ts N1 N2 M1 M2 : List T} {a b d : Row} (ho : Oks ts) (hN : (N1 ++ N2).Perm (fN g ts)) (hM : (M1 ++ M2).Perm (fM g ts)) (ha : a ∈ sbs (N1.map rows)) (hd : d ∈ sbs (N2.map rows)) (hb : Mid g (fA g ts) M1 M2 b) :
    a ++ b ++ d ∈ rows (.node false ts) ∧ Tog g (a ++ b ++ d) := by
  obtain ⟨p1, p2, p3⟩ := f_props (g := g) ts
  have htb := hb.tog p3
  obtain ⟨b1, c, b2, F, rfl, h1, h2, h3, h4, h5, h6⟩ := hb
  constructor
  · refine mem_rows.2 ⟨N1 ++ (M1 ++ F ++ M2) ++ N2, ?_, app_sbs.2 ⟨a ++ (b1 ++ c ++ b2), app_sbs.2 ⟨a, ha, _, app_sbs.2 ⟨b1 ++ c, app_sbs.2 ⟨b1, h1, c, h4, rfl⟩, b2, h5, rfl⟩, rfl⟩, d, hd, rfl⟩⟩
    refine List.Perm.trans ?_ (f_perm (g := g) ho).symm
    refine List.Perm.trans ?_ ((hN.append hM).append h3)
    simp only [List.append_assoc]
    refine List.Perm.append_left N1 ?_
    have q1 : (M1 ++ (F ++ (M2 ++ N2))).Perm (N2 ++ (M1 ++ (F ++ M2))) := by
      have : ((M1 ++ (F ++ M2)) ++ N2).Perm (N2 ++ (M1 ++ (F ++ M2))) := List.perm_append_comm
      simpa only [List.append_assoc] using this
    refine q1.trans (List.Perm.append_left N2 (List.Perm.append_left M1 List.perm_append_comm))
  · have n1 : Non g a := (sbs_non ha).2 fun t ht => p1 t (hN.mem_iff.1 (List.mem_append_left _ ht))
    have n2 : Non g d := (sbs_non hd).2 fun t ht => p1 t (hN.mem_iff.1 (List.mem_append_right _ ht))
    rw [List.append_assoc]
    exact Tog.app.2 (.inl ⟨n1, Tog.app.2 (.inr (.inl ⟨htb, n2⟩))⟩)
/-- stools of the parts of none, and one thing between -/
theorem mem_around {L : List T} {X : T} {r : Row} : r ∈ rows (stoolsT (L ++ [X])) ↔ ∃ (N1 N2 : List T) (a b d : Row), r = a ++ b ++ d ∧ (N1 ++ N2).Perm L ∧ a ∈ sbs (N1.map rows) ∧ b ∈ rows X ∧ d ∈ sbs (N2.map rows) := by
  rw [mem_st (by simp)]
  constructor
  · rintro ⟨us, hu, hx⟩
    have hX : X ∈ us := hu.mem_iff.2 (by simp)
    obtain ⟨N1, N2, rfl⟩ := List.append_of_mem hX
    obtain ⟨a, ha, y, hy, rfl⟩ := app_sbs.1 hx
    obtain ⟨b, hb, d, hd, rfl⟩ := cons_sbs.1 hy
    refine ⟨N1, N2, a, b, d, by rw [List.append_assoc], ?_, ha, hb, hd⟩
    have h1 : (X :: (N1 ++ N2)).Perm (X :: L) := (List.perm_middle.symm.trans hu).trans (List.perm_append_singleton X L)
    exact (List.perm_cons X).1 h1
  · rintro ⟨N1, N2, a, b, d, rfl, hp, ha, hb, hd⟩
    refine ⟨N1 ++ X :: N2, ?_, app_sbs.2 ⟨a, ha, b ++ d, cons_sbs.2 ⟨b, hb, d, hd, rfl⟩, by rw [List.append_assoc]⟩⟩
    exact (List.perm_middle.trans (hp.cons X)).trans (List.perm_append_singleton X L).symm
def topStools (f : T → Option (List T)) (g : Row) (ts : List T) : Option T := match fM g ts with
  | [] => some (stoolsT (fN g ts ++ [stoolsT (fA g ts)]))
  | [m] => match f m with
    | none => none
    | some L => some (stoolsT (fN g ts ++ [benchT (L ++ some1 (fA g ts))]))
  | [m1, m2] => match f m1 with
    | none => none
    | some L1 => match f m2 with
      | none => none
      | some L2 => some (stoolsT (fN g ts ++ [benchT (L1 ++ some1 (fA g ts) ++ L2.reverse)]))
  | _ => none
theorem snoc_ok {L : List T} {X : T} (h : Oks L) (o : Ok X) : Ok (stoolsT (L ++ [X])) := stoolsT_ok (by simp) (oks_app.2 ⟨h, o, trivial⟩)
/-- the middle: from a mixed part, over the full ones, to another mixed part -/
theorem mid_two {g : Row} {A : List T} {m1 m2 : T} {L1 L2 : List T} (h1 : LedSpec g m1 (some L1)) (h2 : LedSpec g m2 (some L2)) {b : Row} : b ∈ sbs ((L1 ++ some1 A ++ L2.reverse).map rows) ↔ Mid g A [m1] [m2] b := by
  rw [app_sbs]
  constructor
  · rintro ⟨x, hx, b2, hb2, rfl⟩
    obtain ⟨b1, hb1, c, hc, rfl⟩ := app_sbs.1 hx
    obtain ⟨F, hF, hc⟩ := mem_some1.1 hc
    obtain ⟨q1, q2⟩ := (h1.2 b1).1 hb1
    obtain ⟨q3, q4⟩ := (led_rev h2 b2).1 hb2
    exact ⟨b1, c, b2, F, rfl, one_sbs.2 q1, q2, hF, hc, one_sbs.2 q3, q4⟩
  · rintro ⟨b1, c, b2, F, rfl, k1, k2, k3, k4, k5, k6⟩
    exact ⟨b1 ++ c, app_sbs.2 ⟨b1, (h1.2 b1).2 ⟨one_sbs.1 k1, k2⟩, c, mem_some1.2 ⟨F, k3, k4⟩, rfl⟩, b2, (led_rev h2 b2).2 ⟨one_sbs.1 k5, k6⟩, rfl⟩
theorem mid_one {g : Row} {A : List T} {m1 : T} {L1 : List T} (h1 : LedSpec g m1 (some L1)) {b : Row} : b ∈ sbs ((L1 ++ some1 A).map rows) ↔ Mid g A [m1] [] b := by
  rw [app_sbs]
  constructor
  · rintro ⟨b1, hb1, c, hc, rfl⟩
    obtain ⟨F, hF, hc⟩ := mem_some1.1 hc
    obtain ⟨q1, q2⟩ := (h1.2 b1).1 hb1
    exact ⟨b1, c, [], F, by rw [List.append_nil], one_sbs.2 q1, q2, hF, hc, mem_sbs_nil.2 rfl, Non.nil.endL⟩
  · rintro ⟨b1, c, b2, F, rfl, k1, k2, k3, k4, k5, k6⟩
    rw [List.map_nil, mem_sbs_nil] at k5
    subst k5
    exact ⟨b1, (h1.2 b1).2 ⟨one_sbs.1 k1, k2⟩, c, mem_some1.2 ⟨F, k3, k4⟩, by rw [List.append_nil]⟩
theorem mid_rev {g : Row} {A M1 M2 : List T} {b : Row} (h1 : M1.reverse = M1) (h2 : M2.reverse = M2) (h : Mid g A M1 M2 b) : Mid g A M2 M1 b.reverse := by
  obtain ⟨b1, c, b2, F, rfl, k1, k2, k3, k4, k5, k6⟩ := h
  refine ⟨b2.reverse, c.reverse, b1.reverse, F.reverse, by rw [List.reverse_append, List.reverse_append, List.append_assoc], ?_, k6, (List.reverse_perm F).trans k3, sbsT_rev.1 k4, ?_, ?_⟩
  · have := sbsT_rev.1 k5; rwa [h2] at this
  · have := sbsT_rev.1 k1; rwa [h1] at this
  · unfold EndL; rw [List.reverse_reverse]; exact k2
theorem One.rev {g : Row} {M : List T} (h : One g M) : M.reverse = M := by rcases h with rfl | ⟨m, rfl, _⟩ <;> rfl
theorem perm_two {α : Type} {l : List α} {a b : α} (h : l.Perm [a, b]) : l = [a, b] ∨ l = [b, a] := by
  have hl := h.length_eq
  match l, hl, h with
  | [x, y], _, h =>
    have hx : x ∈ [a, b] := h.mem_iff.1 List.mem_cons_self
    rcases List.mem_cons.1 hx with e | e
    · subst e
      have := (List.perm_cons x).1 h
      rw [List.perm_singleton.1 this]; exact .inl rfl
    · rw [List.mem_singleton] at e
      subst e
      have h2 : [x, y].Perm [x, a] := h.trans (List.Perm.swap _ _ _)
      have := (List.perm_cons x).1 h2
      rw [List.perm_singleton.1 this]; exact .inr rfl
theorem some1_len {A : List T} : (some1 A).length = if A = [] then 0 else 1 := by
  by_cases h : A = []
  · subst h; rfl
  · rw [some1_ne h, if_neg h]; rfl
theorem stools_spec {f : T → Option (List T)} {g : Row} {ts : List T} (ho : Oks ts) (hf : ∀ p ∈ ts, isMix g p = true → LedSpec g p (f p)) (hg0 : g ≠ []) (hg : ∀ i ∈ g, i ∈ seats ts) (hh : ∀ p ∈ ts, ¬ hasAll g p = true) :
    TopSpec g (.node false ts) (topStools f g ts) := by
  obtain ⟨o1, o2, o3⟩ := f_ok (g := g) ho
  obtain ⟨p1, p2, p3⟩ := f_props (g := g) ts
  have hmt : ∀ m, m ∈ fM g ts → m ∈ ts := fun m hm => (List.mem_filter.1 hm).1
  -- a part of the group is in a part that isn't of none
  have hsome : fM g ts ≠ [] ∨ fA g ts ≠ [] := by
    cases hgc : g with
    | nil => exact absurd hgc hg0
    | cons i g' =>
      have hi : i ∈ g := by rw [hgc]; exact List.mem_cons_self
      obtain ⟨t, ht, hit⟩ := mem_seats.1 (hg i hi)
      have hn : ¬ isNon g t = true := fun z => isNon_iff.1 z i hit hi
      have hm := (f_perm (g := g) ho).mem_iff.1 ht
      rw [List.mem_append, List.mem_append] at hm
      rw [← hgc]
      rcases hm with (hm | hm) | hm
      · exact absurd (isNon_iff.2 (p1 t hm)) hn
      · exact .inl fun e => by rw [e] at hm; cases hm
      · exact .inr fun e => by rw [e] at hm; cases hm
  unfold topStools
  split
  · -- none is mixed
    rename_i e
    have hA : fA g ts ≠ [] := by rcases hsome with h | h; exact absurd e h; exact h
    refine ⟨snoc_ok o1 (stoolsT_ok hA o3), fun r => ?_⟩
    rw [mem_around]
    constructor
    · rintro ⟨N1, N2, a, b, d, rfl, hN, ha, hb, hd⟩
      obtain ⟨F, hF, hb⟩ := (mem_st hA).1 hb
      exact stools_back ho hN (M1 := []) (M2 := []) (by rw [e]; exact List.Perm.refl _) ha hd ⟨[], b, [], F, by rw [List.append_nil]; rfl, mem_sbs_nil.2 rfl, Non.nil.end, hF, hb, mem_sbs_nil.2 rfl, Non.nil.endL⟩
    · rintro ⟨hr, ht⟩
      obtain ⟨N1, N2, M1, M2, a, b, d, rfl, hN, hM, _, _, ha, hd, b1, c, b2, F, rfl, k1, k2, k3, k4, k5, k6⟩ := stools_fwd ho hg hh hr ht
      rw [e] at hM
      have hM0 := hM.eq_nil
      rw [List.append_eq_nil_iff] at hM0
      obtain ⟨rfl, rfl⟩ := hM0
      rw [List.map_nil, mem_sbs_nil] at k1 k5
      subst k1; subst k5
      exact ⟨N1, N2, a, c, d, by rw [List.append_nil]; rfl, hN, ha, (mem_st hA).2 ⟨F, k3, k4⟩, hd⟩
  · rename_i m e
    have hmm : m ∈ fM g ts := by rw [e]; exact List.mem_cons_self
    have hmx := p2 m hmm
    obtain ⟨m1, m2⟩ := isMix_iff.1 hmx
    have hs := hf m (hmt m hmm) hmx
    have hfw : ∀ r ∈ rows (.node false ts), Tog g r → ∃ (N1 N2 : List T) (a b d : Row), r = a ++ b ++ d ∧ (N1 ++ N2).Perm (fN g ts) ∧ a ∈ sbs (N1.map rows) ∧ d ∈ sbs (N2.map rows) ∧ (Mid g (fA g ts) [m] [] b ∨ Mid g (fA g ts) [] [m] b) := fun r hr ht => by
      obtain ⟨N1, N2, M1, M2, a, b, d, rfl, hN, hM, j1, j2, ha, hd, hb⟩ := stools_fwd ho hg hh hr ht
      rw [e] at hM
      have hM1 := List.perm_singleton.1 hM
      refine ⟨N1, N2, a, b, d, rfl, hN, ha, hd, ?_⟩
      rcases j1 with rfl | ⟨x, rfl, _⟩
      · rw [List.nil_append] at hM1
        subst hM1; exact .inr hb
      · rw [List.singleton_append] at hM1
        have e1 := (List.cons.inj hM1).1
        have e2 := (List.cons.inj hM1).2
        subst e1; subst e2; exact .inl hb
    cases el : f m with
    | none =>
      rw [el] at hs
      intro r hr ht
      obtain ⟨N1, N2, a, b, d, rfl, hN, ha, hd, hb⟩ := hfw r hr ht
      rcases hb with ⟨b1, c, b2, F, rfl, k1, k2, k3, k4, k5, k6⟩ | ⟨b1, c, b2, F, rfl, k1, k2, k3, k4, k5, k6⟩
      · exact hs b1 (one_sbs.1 k1) k2
      · exact hs b2.reverse (rows_rev m b2 (one_sbs.1 k5)) k6
    | some L =>
      rw [el] at hs
      have hl := led_len (oks_iff.1 ho m (hmt m hmm)) hs m1 m2
      have hA : fA g ts ≠ [] := fun z => by
        -- all of the group would be in m
        refine hh m (hmt m hmm) (hasAll_iff.2 fun i hi => ?_)
        obtain ⟨t, ht, hit⟩ := mem_seats.1 (hg i hi)
        have hm := (f_perm (g := g) ho).mem_iff.1 ht
        rw [e, z, List.append_nil, List.mem_append, List.mem_singleton] at hm
        rcases hm with hm | hm
        · exact absurd hi (p1 t hm i hit)
        · rw [← hm]; exact hit
      have hl3 : 3 ≤ (L ++ some1 (fA g ts)).length := by rw [List.length_append, some1_len, if_neg hA]; omega
      show TopSpec g _ (some (stoolsT (fN g ts ++ [benchT (L ++ some1 (fA g ts))])))
      rw [benchT_three hl3]
      refine ⟨snoc_ok o1 (bench_ok hl3 (oks_app.2 ⟨hs.1, some1_ok o3⟩)), fun r => ?_⟩
      rw [mem_around]
      constructor
      · rintro ⟨N1, N2, a, b, d, rfl, hN, ha, hb, hd⟩
        rcases mem_bench.1 hb with hb | hb
        · exact stools_back ho hN (M1 := [m]) (M2 := []) (by rw [e]; exact List.Perm.refl _) ha hd ((mid_one hs).1 hb)
        · have := mid_rev rfl rfl ((mid_one hs).1 hb)
          rw [List.reverse_reverse] at this
          exact stools_back ho hN (M1 := []) (M2 := [m]) (by rw [e]; exact List.Perm.refl _) ha hd this
      · rintro ⟨hr, ht⟩
        obtain ⟨N1, N2, a, b, d, rfl, hN, ha, hd, hb⟩ := hfw r hr ht
        refine ⟨N1, N2, a, b, d, rfl, hN, ha, mem_bench.2 ?_, hd⟩
        rcases hb with hb | hb
        · exact .inl ((mid_one hs).2 hb)
        · exact .inr ((mid_one hs).2 (mid_rev rfl rfl hb))
  · rename_i x y e
    have hx : x ∈ fM g ts := by rw [e]; exact List.mem_cons_self
    have hy : y ∈ fM g ts := by rw [e]; exact List.mem_cons_of_mem _ List.mem_cons_self
    obtain ⟨x1, x2⟩ := isMix_iff.1 (p2 x hx)
    obtain ⟨y1, y2⟩ := isMix_iff.1 (p2 y hy)
    have hsx := hf x (hmt x hx) (p2 x hx)
    have hsy := hf y (hmt y hy) (p2 y hy)
    have hfw : ∀ r ∈ rows (.node false ts), Tog g r → ∃ (N1 N2 : List T) (a b d : Row), r = a ++ b ++ d ∧ (N1 ++ N2).Perm (fN g ts) ∧ a ∈ sbs (N1.map rows) ∧ d ∈ sbs (N2.map rows) ∧ (Mid g (fA g ts) [x] [y] b ∨ Mid g (fA g ts) [y] [x] b) := fun r hr ht => by
      obtain ⟨N1, N2, M1, M2, a, b, d, rfl, hN, hM, j1, j2, ha, hd, hb⟩ := stools_fwd ho hg hh hr ht
      rw [e] at hM
      refine ⟨N1, N2, a, b, d, rfl, hN, ha, hd, ?_⟩
      rcases j1 with rfl | ⟨m, rfl, _⟩
      · exfalso
        rw [List.nil_append] at hM
        have hl := hM.length_eq
        rcases j2 with rfl | ⟨m, rfl, _⟩ <;> simp at hl
      · rcases j2 with rfl | ⟨m', rfl, _⟩
        · exfalso
          have hl := hM.length_eq
          simp at hl
        · rcases perm_two hM with h | h
          · cases h; exact .inl hb
          · cases h; exact .inr hb
    have hM : ∀ {M1 M2 : List T}, M1 = [x] → M2 = [y] → (M1 ++ M2).Perm (fM g ts) := by rintro _ _ rfl rfl; rw [e]; exact List.Perm.refl _
    cases e1 : f x with
    | none =>
      rw [e1] at hsx
      intro r hr ht
      obtain ⟨N1, N2, a, b, d, rfl, hN, ha, hd, hb⟩ := hfw r hr ht
      rcases hb with ⟨b1, c, b2, F, rfl, k1, k2, k3, k4, k5, k6⟩ | ⟨b1, c, b2, F, rfl, k1, k2, k3, k4, k5, k6⟩
      · exact hsx b1 (one_sbs.1 k1) k2
      · exact hsx b2.reverse (rows_rev x b2 (one_sbs.1 k5)) k6
    | some L1 =>
      rw [e1] at hsx
      cases e2 : f y with
      | none =>
        rw [e2] at hsy
        intro r hr ht
        obtain ⟨N1, N2, a, b, d, rfl, hN, ha, hd, hb⟩ := hfw r hr ht
        rcases hb with ⟨b1, c, b2, F, rfl, k1, k2, k3, k4, k5, k6⟩ | ⟨b1, c, b2, F, rfl, k1, k2, k3, k4, k5, k6⟩
        · exact hsy b2.reverse (rows_rev y b2 (one_sbs.1 k5)) k6
        · exact hsy b1 (one_sbs.1 k1) k2
      | some L2 =>
        rw [e2] at hsy
        have l1 := led_len (oks_iff.1 ho x (hmt x hx)) hsx x1 x2
        have l2 := led_len (oks_iff.1 ho y (hmt y hy)) hsy y1 y2
        have hl3 : 3 ≤ (L1 ++ some1 (fA g ts) ++ L2.reverse).length := by rw [List.length_append, List.length_append, List.length_reverse]; omega
        show TopSpec g _ (some (stoolsT (fN g ts ++ [benchT (L1 ++ some1 (fA g ts) ++ L2.reverse)])))
        rw [benchT_three hl3]
        refine ⟨snoc_ok o1 (bench_ok hl3 (oks_app.2 ⟨oks_app.2 ⟨hsx.1, some1_ok o3⟩, oks_rev.2 hsy.1⟩)), fun r => ?_⟩
        rw [mem_around]
        constructor
        · rintro ⟨N1, N2, a, b, d, rfl, hN, ha, hb, hd⟩
          rcases mem_bench.1 hb with hb | hb
          · exact stools_back ho hN (hM rfl rfl) ha hd ((mid_two hsx hsy).1 hb)
          · have := mid_rev rfl rfl ((mid_two hsx hsy).1 hb)
            rw [List.reverse_reverse] at this
            exact stools_back ho hN (M1 := [y]) (M2 := [x]) (by rw [e]; exact List.Perm.swap _ _ _) ha hd this
        · rintro ⟨hr, ht⟩
          obtain ⟨N1, N2, a, b, d, rfl, hN, ha, hd, hb⟩ := hfw r hr ht
          refine ⟨N1, N2, a, b, d, rfl, hN, ha, mem_bench.2 ?_, hd⟩
          rcases hb with hb | hb
          · exact .inl ((mid_two hsx hsy).2 hb)
          · exact .inr ((mid_two hsx hsy).2 (mid_rev rfl rfl hb))
  · rename_i e1 e2 e3
    intro r hr ht
    obtain ⟨N1, N2, M1, M2, a, b, d, rfl, hN, hM, j1, j2, ha, hd, hb⟩ := stools_fwd ho hg hh hr ht
    rcases j1 with rfl | ⟨m, rfl, _⟩
    · rcases j2 with rfl | ⟨m, rfl, _⟩
      · exact e1 hM.symm.eq_nil
      · exact e2 m (List.perm_singleton.1 hM.symm)
    · rcases j2 with rfl | ⟨m', rfl, _⟩
      · exact e2 m (List.perm_singleton.1 hM.symm)
      · rcases perm_two hM.symm with h | h
        · exact e3 _ _ h
        · exact e3 _ _ h
/-! ### top -/
def findP (g : Row) : List T → Option (List T × T × List T)
  | [] => none
  | p :: r => if hasAll g p = true then some ([], p, r) else (findP g r).map fun z => (p :: z.1, z.2.1, z.2.2)
theorem findP_some {g : Row} : ∀ {ts l q : List T} {p : T}, findP g ts = some (l, p, q) → ts = l ++ p :: q ∧ hasAll g p = true ∧ ∀ u ∈ l, ¬ hasAll g u = true
  | [], _, _, _, h => by cases h
  | x :: r, l, q, p, h => by
    rw [findP] at h
    by_cases hx : hasAll g x = true
    · rw [if_pos hx] at h
      cases h
      exact ⟨rfl, hx, by simp⟩
    · rw [if_neg hx] at h
      cases e : findP g r with
      | none => rw [e] at h; cases h
      | some z =>
        rw [e] at h
        obtain ⟨l', p', q'⟩ := z
        cases h
        obtain ⟨h1, h2, h3⟩ := findP_some e
        refine ⟨by rw [h1]; rfl, h2, fun u hu => ?_⟩
        rcases List.mem_cons.1 hu with rfl | hu
        · exact hx
        · exact h3 u hu
theorem findP_none {g : Row} : ∀ {ts : List T}, findP g ts = none → ∀ p ∈ ts, ¬ hasAll g p = true
  | [], _, p, hp => by cases hp
  | x :: r, h, p, hp => by
    rw [findP] at h
    by_cases hx : hasAll g x = true
    · rw [if_pos hx] at h; cases h
    · rw [if_neg hx] at h
      cases e : findP g r with
      | none =>
        rcases List.mem_cons.1 hp with rfl | hp
        · exact hx
        · exact findP_none e p hp
      | some z => rw [e] at h; cases h
def topN (g : Row) : Nat → T → Option T
  | 0, _ => none
  | n + 1, t => if isAll g t = true then some t else match t with
    | .leaf _ => none
    | .node b ts => match findP g ts with
      | some (l, p, q) => (topN g n p).map fun u => .node b (l ++ u :: q)
      | none => if b = true then (topB (ledN g 20) g 0 ts).map benchT else topStools (ledN g 20) g ts
/-- a part changed to one with fewer rows -/
theorem repl {g : Row} {p u : T} (hu : ∀ r, r ∈ rows u ↔ r ∈ rows p ∧ Tog g r) {l q : List T} (hl : NonL g l) (hq : NonL g q) {r : Row} : r ∈ sbs ((l ++ u :: q).map rows) ↔ r ∈ sbs ((l ++ p :: q).map rows) ∧ Tog g r := by
  have key : ∀ {a b c : Row}, a ∈ sbs (l.map rows) → c ∈ sbs (q.map rows) → (Tog g (a ++ (b ++ c)) ↔ Tog g b) := fun {a b c} ha hc => by
    have na := (sbs_non ha).2 hl
    have nc := (sbs_non hc).2 hq
    constructor
    · intro h
      have h2 : Tog g (b ++ c) := by
        rcases Tog.app.1 h with h | h | h
        · exact h.2
        · exact h.2.end.tog
        · exact h.2.tog
      rcases Tog.app.1 h2 with h | h | h
      · exact h.2 |> fun _ => h.1.end.tog
      · exact h.1
      · exact h.1.tog
    · intro h
      exact Tog.app.2 (.inl ⟨na, Tog.app.2 (.inr (.inl ⟨h, nc⟩))⟩)
  constructor
  · intro h
    obtain ⟨a, ha, y, hy, rfl⟩ := app_sbs.1 h
    obtain ⟨b, hb, c, hc, rfl⟩ := cons_sbs.1 hy
    obtain ⟨h1, h2⟩ := (hu b).1 hb
    exact ⟨app_sbs.2 ⟨a, ha, b ++ c, cons_sbs.2 ⟨b, h1, c, hc, rfl⟩, rfl⟩, (key ha hc).2 h2⟩
  · rintro ⟨h, ht⟩
    obtain ⟨a, ha, y, hy, rfl⟩ := app_sbs.1 h
    obtain ⟨b, hb, c, hc, rfl⟩ := cons_sbs.1 hy
    exact app_sbs.2 ⟨a, ha, b ++ c, cons_sbs.2 ⟨b, (hu b).2 ⟨hb, (key ha hc).1 ht⟩, c, hc, rfl⟩, rfl⟩
theorem top_spec {g : Row} (hg0 : g ≠ []) : ∀ (n : Nat) (t : T), Ok t → (seat t).Nodup → dep t < n → dep t < 20 → (∀ i ∈ g, i ∈ seat t) → TopSpec g t (topN g n t)
  | 0, t, _, _, h, _, _ => by omega
  | n + 1, t, ho, hnd, hd, hd2, hg => by
    unfold topN
    by_cases hA : isAll g t = true
    · rw [if_pos hA]
      refine ⟨ho, fun r => ⟨fun h => ⟨h, ?_⟩, fun h => h.1⟩⟩
      exact ((row_all h).2 (isAll_iff.1 hA)).end.tog
    · rw [if_neg hA]
      cases t with
      | leaf i =>
        exfalso
        refine hA (isAll_iff.2 fun j hj => ?_)
        rw [seat, List.mem_singleton] at hj
        subst hj
        cases g with
        | nil => exact absurd rfl hg0
        | cons k g =>
          have := hg k List.mem_cons_self
          rw [seat, List.mem_singleton] at this
          rw [this]; exact List.mem_cons_self
      | node b ts =>
        have hok := ho
        rw [Ok] at ho
        rw [dep] at hd hd2
        rw [seat] at hnd hg
        have hled : ∀ p ∈ ts, isMix g p = true → LedSpec g p (ledN g 20 p) := fun p hp hm => by
          obtain ⟨m1, m2⟩ := isMix_iff.1 hm
          exact led_spec 20 p (oks_iff.1 ho.2 p hp) (by have := deps_le hp; omega) m1 m2
        show TopSpec g (.node b ts) (match findP g ts with
          | some (l, p, q) => (topN g n p).map fun u => .node b (l ++ u :: q)
          | none => if b = true then (topB (ledN g 20) g 0 ts).map benchT else topStools (ledN g 20) g ts)
        cases e : findP g ts with
        | none =>
          have hh := findP_none e
          cases b with
          | true =>
            rw [if_pos rfl] at ho
            exact bench_spec ho.1 ho.2 hled hg hh
          | false => exact stools_spec ho.2 hled hg0 hg hh
        | some z =>
          obtain ⟨l, p, q⟩ := z
          obtain ⟨e1, e2, _⟩ := findP_some e
          have hgp := hasAll_iff.1 e2
          have hp : p ∈ ts := by rw [e1]; simp
          have hop := oks_iff.1 ho.2 p hp
          have hdp := deps_le hp
          have hnp : (seat p).Nodup ∧ NonL g l ∧ NonL g q := by
            rw [e1, seats_app, seats, List.nodup_append] at hnd
            obtain ⟨_, h2, h3⟩ := hnd
            rw [List.nodup_append] at h2
            refine ⟨h2.1, fun t ht i hi hig => ?_, fun t ht i hi hig => ?_⟩
            · exact h3 i (mem_seats.2 ⟨t, ht, hi⟩) i (List.mem_append_left _ (hgp i hig)) rfl
            · exact h2.2.2 i (hgp i hig) i (mem_seats.2 ⟨t, ht, hi⟩) rfl
          obtain ⟨n1, n2, n3⟩ := hnp
          have ih := top_spec hg0 n p hop n1 (by omega) (by omega) hgp
          show TopSpec g (.node b ts) ((topN g n p).map fun u => .node b (l ++ u :: q))
          -- in any order of the parts
          have hord : ∀ {us : List T}, Ordr b us ts → ∃ l' q', us = l' ++ p :: q' ∧ NonL g l' ∧ NonL g q' ∧ ∀ u : T, Ordr b (l' ++ u :: q') (l ++ u :: q) := fun {us} hu => by
            cases b with
            | true =>
              unfold Ordr at hu
              rw [if_pos rfl] at hu
              rcases hu with rfl | rfl
              · exact ⟨l, q, e1, n2, n3, fun u => .inl rfl⟩
              · refine ⟨q.reverse, l.reverse, by rw [e1]; simp, fun t ht => n3 t (List.mem_reverse.1 ht), fun t ht => n2 t (List.mem_reverse.1 ht), fun u => .inr (by simp)⟩
            | false =>
              have hu : us.Perm ts := hu
              obtain ⟨l', q', rfl⟩ := List.append_of_mem (hu.mem_iff.2 hp)
              rw [e1] at hu
              have h1 : (p :: (l' ++ q')).Perm (p :: (l ++ q)) := (List.perm_middle.symm.trans hu).trans List.perm_middle
              have h2 := (List.perm_cons p).1 h1
              refine ⟨l', q', rfl, fun t ht => ?_, fun t ht => ?_, fun u => ?_⟩
              · rcases List.mem_append.1 (h2.mem_iff.1 (List.mem_append_left _ ht)) with h | h
                · exact n2 t h
                · exact n3 t h
              · rcases List.mem_append.1 (h2.mem_iff.1 (List.mem_append_right _ ht)) with h | h
                · exact n2 t h
                · exact n3 t h
              · show (l' ++ u :: q').Perm (l ++ u :: q)
                exact (List.perm_middle.trans (h2.cons u)).trans List.perm_middle.symm
          cases eu : topN g n p with
          | none =>
            rw [eu] at ih
            intro r hr ht
            obtain ⟨us, hu, hx⟩ := mem_rows.1 hr
            obtain ⟨l', q', rfl, m2, m3, _⟩ := hord hu
            obtain ⟨a, ha, y, hy, rfl⟩ := app_sbs.1 hx
            obtain ⟨c, hc, d, hd, rfl⟩ := cons_sbs.1 hy
            refine ih c hc ?_
            have na := (sbs_non ha).2 m2
            have nd := (sbs_non hd).2 m3
            have h2 : Tog g (c ++ d) := by
              rcases Tog.app.1 ht with h | h | h
              · exact h.2
              · exact h.2.end.tog
              · exact h.2.tog
            rcases Tog.app.1 h2 with h | h | h
            · exact h.1.end.tog
            · exact h.1
            · exact h.1.tog
          | some u =>
            rw [eu] at ih
            refine ⟨?_, fun r => ?_⟩
            · rw [Ok]
              refine ⟨by have := ho.1; rw [e1] at this; rw [List.length_append, List.length_cons] at this ⊢; exact this, ?_⟩
              have h2 := ho.2
              rw [e1] at h2
              obtain ⟨x1, x2⟩ := oks_app.1 h2
              exact oks_app.2 ⟨x1, ih.1, x2.2⟩
            · constructor
              · intro hr
                obtain ⟨us, hu, hx⟩ := mem_rows.1 hr
                -- an order of the changed parts
                cases b with
                | true =>
                  unfold Ordr at hu
                  rw [if_pos rfl] at hu
                  rcases hu with rfl | rfl
                  · obtain ⟨h1, h2⟩ := (repl ih.2 n2 n3).1 hx
                    exact ⟨mem_rows.2 ⟨ts, .inl rfl, by rw [e1]; exact h1⟩, h2⟩
                  · rw [List.reverse_append, List.reverse_cons, List.append_assoc, List.singleton_append] at hx
                    obtain ⟨h1, h2⟩ := (repl ih.2 (l := q.reverse) (q := l.reverse) (fun t ht => n3 t (List.mem_reverse.1 ht)) (fun t ht => n2 t (List.mem_reverse.1 ht))).1 hx
                    refine ⟨mem_rows.2 ⟨ts.reverse, .inr rfl, ?_⟩, h2⟩
                    rw [e1, List.reverse_append, List.reverse_cons, List.append_assoc, List.singleton_append]; exact h1
                | false =>
                  have hu : us.Perm (l ++ u :: q) := hu
                  obtain ⟨l', q', rfl⟩ := List.append_of_mem (hu.mem_iff.2 (show u ∈ l ++ u :: q by simp))
                  have h1 : (u :: (l' ++ q')).Perm (u :: (l ++ q)) := (List.perm_middle.symm.trans hu).trans List.perm_middle
                  have h2 := (List.perm_cons u).1 h1
                  have m2 : NonL g l' := fun t ht => by
                    rcases List.mem_append.1 (h2.mem_iff.1 (List.mem_append_left _ ht)) with h | h
                    · exact n2 t h
                    · exact n3 t h
                  have m3 : NonL g q' := fun t ht => by
                    rcases List.mem_append.1 (h2.mem_iff.1 (List.mem_append_right _ ht)) with h | h
                    · exact n2 t h
                    · exact n3 t h
                  obtain ⟨h3, h4⟩ := (repl ih.2 m2 m3).1 hx
                  refine ⟨mem_rows.2 ⟨l' ++ p :: q', ?_, h3⟩, h4⟩
                  show (l' ++ p :: q').Perm ts
                  rw [e1]
                  exact (List.perm_middle.trans (h2.cons p)).trans List.perm_middle.symm
              · rintro ⟨hr, ht⟩
                obtain ⟨us, hu, hx⟩ := mem_rows.1 hr
                obtain ⟨l', q', rfl, m2, m3, m4⟩ := hord hu
                exact mem_rows.2 ⟨l' ++ u :: q', m4 u, (repl ih.2 m2 m3).2 ⟨hx, ht⟩⟩
/-! ### tidied, the same rows -/
theorem sbs_tidy {f : T → T} : ∀ {us : List T}, (∀ t ∈ us, ∀ r, r ∈ rows (f t) ↔ r ∈ rows t) → ∀ r, r ∈ sbs ((us.map f).map rows) ↔ r ∈ sbs (us.map rows)
  | [], _, r => Iff.rfl
  | t :: us, h, r => by
    have ih := sbs_tidy (f := f) (us := us) fun u hu => h u (List.mem_cons_of_mem _ hu)
    rw [List.map_cons, cons_sbs, cons_sbs]
    constructor
    · rintro ⟨a, ha, b, hb, rfl⟩
      exact ⟨a, (h t List.mem_cons_self a).1 ha, b, (ih b).1 hb, rfl⟩
    · rintro ⟨a, ha, b, hb, rfl⟩
      exact ⟨a, (h t List.mem_cons_self a).2 ha, b, (ih b).2 hb, rfl⟩
theorem ordr_of {b : Bool} {us vs ts : List T} (h : Ordr b us ts) (h2 : Ordr b ts vs) : Ordr b us vs := by
  unfold Ordr at h h2 ⊢
  cases b with
  | false => exact h.trans h2
  | true =>
    rw [if_pos rfl] at h h2 ⊢
    rcases h with rfl | rfl <;> rcases h2 with rfl | rfl
    · exact .inl rfl
    · exact .inr rfl
    · exact .inr rfl
    · exact .inl (List.reverse_reverse _)
theorem ordr_symm {b : Bool} {us ts : List T} (h : Ordr b us ts) : Ordr b ts us := by
  unfold Ordr at h ⊢
  cases b with
  | false => exact h.symm
  | true =>
    rw [if_pos rfl] at h ⊢
    rcases h with rfl | rfl
    · exact .inl rfl
    · exact .inr (List.reverse_reverse _).symm
theorem rows_ordr {b : Bool} {us ts : List T} (h : Ordr b us ts) (r : Row) : r ∈ rows (.node b us) ↔ r ∈ rows (.node b ts) := by
  rw [mem_rows, mem_rows]
  constructor
  · rintro ⟨vs, hv, hx⟩; exact ⟨vs, ordr_of hv h, hx⟩
  · rintro ⟨vs, hv, hx⟩; exact ⟨vs, ordr_of hv (ordr_symm h), hx⟩
theorem turn_ordr (ts : List T) : Ordr true (turn ts) ts := by
  unfold turn
  split
  · split
    · exact .inr rfl
    · exact .inl rfl
  · exact .inl rfl
theorem perm_map_inv {α β : Type} (f : α → β) {us ms : List β} (hu : us.Perm ms) : ∀ {ts : List α}, ts.map f = ms → ∃ vs : List α, vs.Perm ts ∧ us = vs.map f := by
  induction hu with
  | nil => intro ts hm; exact ⟨[], by rw [List.map_eq_nil_iff.1 hm], rfl⟩
  | cons x _ ih =>
    intro ts hm
    cases ts with
    | nil => cases hm
    | cons t ts =>
      rw [List.map_cons] at hm
      obtain ⟨h1, h2⟩ := List.cons.inj hm
      obtain ⟨vs, hv, e⟩ := ih h2
      exact ⟨t :: vs, hv.cons t, by rw [List.map_cons, h1, e]⟩
  | swap x y l =>
    intro ts hm
    match ts, hm with
    | t1 :: t2 :: ts, hm =>
      rw [List.map_cons, List.map_cons] at hm
      obtain ⟨h1, h2⟩ := List.cons.inj hm
      obtain ⟨h3, h4⟩ := List.cons.inj h2
      exact ⟨t2 :: t1 :: ts, List.Perm.swap _ _ _, by rw [List.map_cons, List.map_cons, h1, h3, h4]⟩
  | trans _ _ ih1 ih2 =>
    intro ts hm
    obtain ⟨vs, hv, e⟩ := ih2 hm
    obtain ⟨ws, hw, e2⟩ := ih1 e.symm
    exact ⟨ws, hw.trans hv, e2⟩
theorem rows_tidy (t : T) : ∀ r, r ∈ rows (tidy t) ↔ r ∈ rows t := by
  induction t using T.ind with
  | hl g => intro r; exact Iff.rfl
  | hn b ts ih =>
    intro r
    have h1 : r ∈ rows (tidy (.node b ts)) ↔ r ∈ rows (.node b (ts.map tidy)) := by
      rw [tidy]
      refine rows_ordr ?_ r
      rw [tidys_map]
      cases b with
      | true => exact turn_ordr _
      | false => exact sortT_perm _
    rw [h1, mem_rows, mem_rows]
    constructor
    · rintro ⟨us, hu, hx⟩
      cases b with
      | true =>
        unfold Ordr at hu
        rw [if_pos rfl] at hu
        rcases hu with rfl | rfl
        · exact ⟨ts, .inl rfl, (sbs_tidy ih r).1 hx⟩
        · refine ⟨ts.reverse, .inr rfl, ?_⟩
          rw [← List.map_reverse] at hx
          exact (sbs_tidy (fun t ht => ih t (List.mem_reverse.1 ht)) r).1 hx
      | false =>
        have hu : us.Perm (ts.map tidy) := hu
        obtain ⟨vs, hv, rfl⟩ := perm_map_inv tidy hu rfl
        exact ⟨vs, hv, (sbs_tidy (fun t ht => ih t (hv.mem_iff.1 ht)) r).1 hx⟩
    · rintro ⟨us, hu, hx⟩
      have hx2 := (sbs_tidy (f := tidy) (us := us) (fun t ht => ih t (hu.perm.mem_iff.1 ht)) r).2 hx
      refine ⟨us.map tidy, ?_, hx2⟩
      unfold Ordr at hu ⊢
      cases b with
      | true =>
        rw [if_pos rfl] at hu ⊢
        rcases hu with rfl | rfl
        · exact .inl rfl
        · exact .inr (by rw [List.map_reverse])
      | false => exact hu.map tidy
end TT
set_option maxRecDepth 100000
set_option maxHeartbeats 1000000
/-! helpers for walks over parts -/
namespace TT
open PySem L2 DL
theorem compR_enc {β : Type} {tf : D → DL.Env → R DL.Env} {ft : DL.Env → R Bool} {fe : DL.Env → R D} {ρ : DL.Env} (enc : β → D) (p : β → Bool) (h : β → D) : ∀ os : List β, (∀ o ∈ os, ∃ ρ1, tf (enc o) ρ = .ok ρ1 ∧ ft ρ1 = .ok (p o) ∧ (p o = true → fe ρ1 = .ok (h o))) → compR tf ft fe ρ (os.map enc) = .ok ((os.filter p).map h)
  | [], _ => rfl
  | o :: os, hs => by
    obtain ⟨ρ1, e1, e2, e3⟩ := hs o List.mem_cons_self
    have ih := compR_enc enc p h os fun d hd => hs d (List.mem_cons_of_mem _ hd)
    rw [List.map_cons]
    cases hp : p o with
    | true =>
      rw [List.filter_cons_of_pos hp, List.map_cons]
      exact compR_cons e1 (by rw [e2, hp]) (e3 hp) ih
    | false =>
      rw [List.filter_cons_of_neg (by rw [hp]; exact Bool.false_ne_true)]
      exact compR_skip e1 (by rw [e2, hp]) ih
theorem compR_encA {β : Type} {tf : D → DL.Env → R DL.Env} {fe : DL.Env → R D} {ρ : DL.Env} (enc : β → D) (h : β → D) (os : List β) (hs : ∀ o ∈ os, ∃ ρ1, tf (enc o) ρ = .ok ρ1 ∧ fe ρ1 = .ok (h o)) : compR tf (fun _ => .ok true) fe ρ (os.map enc) = .ok (os.map h) := by
  have := compR_enc (tf := tf) (ft := fun _ => .ok true) (fe := fe) (ρ := ρ) enc (fun _ => true) h os fun o ho => let ⟨ρ1, e1, e2⟩ := hs o ho; ⟨ρ1, e1, rfl, fun _ => e2⟩
  rwa [List.filter_eq_self.2 fun _ _ => rfl] at this
/-! the word of a share -/
def shr (g : Row) (t : T) : Str := if isAll g t = true then "all" else if isNon g t = true then "none" else "some"
theorem w_all : PyData.strOk ("all" : Str) = true := by decide +kernel
theorem w_some : PyData.strOk ("some" : Str) = true := by decide +kernel
theorem w_none : PyData.strOk ("none" : Str) = true := by decide +kernel
theorem shr_ok (g : Row) (t : T) : PyData.strOk (shr g t) = true := by unfold shr; split; exact w_all; split; exact w_none; exact w_some
theorem shr_all (g : Row) (t : T) : decide (shr g t = "all") = isAll g t := by
  unfold shr
  cases h : isAll g t with
  | true => rw [if_pos rfl]; decide +kernel
  | false =>
    rw [if_neg (by decide)]
    split <;> decide +kernel
theorem shr_some (g : Row) (t : T) : decide (shr g t = "some") = isMix g t := by
  unfold shr isMix
  cases h : isAll g t with
  | true => rw [if_pos rfl, Bool.not_true, Bool.and_false]; decide +kernel
  | false =>
    rw [if_neg (by decide)]
    cases h2 : isNon g t with
    | true => rw [if_pos rfl]; decide +kernel
    | false => rw [if_neg (by decide)]; decide +kernel
theorem shr_none {g : Row} {t : T} (ho : Ok t) : decide (shr g t = "none") = isNon g t := by
  unfold shr
  cases h : isAll g t with
  | true => rw [if_pos rfl, isAll_non ho h]; decide +kernel
  | false =>
    rw [if_neg (by decide)]
    cases h2 : isNon g t with
    | true => rw [if_pos rfl]; decide +kernel
    | false => rw [if_neg (by decide)]; decide +kernel
theorem eq_all (g : Row) (t : T) : eqD (.str (shr g t)) (.str "all") = .ok (.bool (isAll g t)) := by rw [eqD_str (shr_ok g t) w_all, shr_all]
theorem ne_all (g : Row) (t : T) : neD (.str (shr g t)) (.str "all") = .ok (.bool (!isAll g t)) := by rw [neD_str (shr_ok g t) w_all, shr_all]
theorem eq_some (g : Row) (t : T) : eqD (.str (shr g t)) (.str "some") = .ok (.bool (isMix g t)) := by rw [eqD_str (shr_ok g t) w_some, shr_some]
theorem eq_none {g : Row} {t : T} (ho : Ok t) : eqD (.str (shr g t)) (.str "none") = .ok (.bool (isNon g t)) := by rw [eqD_str (shr_ok g t) w_none, shr_none ho]
theorem ne_none {g : Row} {t : T} (ho : Ok t) : neD (.str (shr g t)) (.str "none") = .ok (.bool (!isNon g t)) := by rw [neD_str (shr_ok g t) w_none, shr_none ho]
/-! depths and lengths -/
theorem deps_app {L M : List T} {n : Nat} : deps (L ++ M) ≤ n ↔ deps L ≤ n ∧ deps M ≤ n := by
  rw [deps_iff, deps_iff, deps_iff]
  constructor
  · intro h; exact ⟨fun t ht => h t (List.mem_append_left _ ht), fun t ht => h t (List.mem_append_right _ ht)⟩
  · intro h t ht
    rcases List.mem_append.1 ht with ht | ht
    · exact h.1 t ht
    · exact h.2 t ht
theorem dep_stools {L : List T} {n : Nat} (h : deps L ≤ n) : dep (stoolsT L) ≤ n + 1 := by
  match L, h with
  | [], h => show dep (.node false []) ≤ _; rw [dep, deps]; omega
  | [t], h => have := deps_iff.1 h t List.mem_cons_self; show dep t ≤ _; omega
  | t :: u :: r, h => show dep (.node false (t :: u :: r)) ≤ _; rw [dep]; omega
theorem deps_some1 {L : List T} {n : Nat} (h : deps L ≤ n) : deps (some1 L) ≤ n + 1 := by
  by_cases e : L = []
  · subst e; show deps [] ≤ _; rw [deps]; omega
  · rw [some1_ne e, deps_iff]
    intro t ht
    rw [List.mem_singleton] at ht
    subst ht
    exact dep_stools h
theorem deps_sub {L M : List T} {n : Nat} (h : deps L ≤ n) (s : ∀ t ∈ M, t ∈ L) : deps M ≤ n := deps_iff.2 fun t ht => deps_iff.1 h t (s t ht)
theorem ledRow_dep {f : T → Option (List T)} {g : Row} {n : Nat} : ∀ {ts L : List T} {w : Bool}, deps ts ≤ n → (∀ p ∈ ts, ∀ M, f p = some M → deps M ≤ n) → ledRow f g w ts = some L → deps L ≤ n
  | [], L, w, _, _, h => by cases h; rw [deps]; omega
  | p :: r, L, w, hd, hf, h => by
    have hp := deps_iff.1 hd p List.mem_cons_self
    have hr : deps r ≤ n := deps_sub hd fun t ht => List.mem_cons_of_mem _ ht
    rw [ledRow] at h
    split at h
    · cases h
    · split at h
      · cases e : f p with
        | none => rw [e] at h; cases h
        | some M =>
          rw [e] at h
          obtain ⟨M2, e2, rfl⟩ := Option.map_eq_some_iff.1 h
          exact deps_app.2 ⟨hf p List.mem_cons_self M e, ledRow_dep hr (fun u hu => hf u (List.mem_cons_of_mem _ hu)) e2⟩
      · obtain ⟨M2, e2, rfl⟩ := Option.map_eq_some_iff.1 h
        have := ledRow_dep hr (fun u hu => hf u (List.mem_cons_of_mem _ hu)) e2
        rw [deps]; omega
theorem deps_rev {ts : List T} {n : Nat} : deps ts.reverse ≤ n ↔ deps ts ≤ n := by rw [deps_iff, deps_iff]; simp
theorem led_dep {g : Row} : ∀ (n : Nat) (t : T) (L : List T), ledN g n t = some L → deps L ≤ dep t
  | 0, t, L, h => by cases h
  | n + 1, .leaf _, L, h => by cases h
  | n + 1, .node true ts, L, h => by
    rw [ledN] at h
    have hf : ∀ p ∈ ts, ∀ M, ledN g n p = some M → deps M ≤ deps ts + 1 := fun p hp M e => by
      have := led_dep n p M e
      have := deps_le hp
      omega
    rw [dep]
    cases e : ledRow (ledN g n) g false ts with
    | some M => rw [e] at h; cases h; exact ledRow_dep (by omega) hf e
    | none =>
      rw [e] at h
      exact ledRow_dep (ts := ts.reverse) (deps_rev.2 (by omega)) (fun p hp => hf p (List.mem_reverse.1 hp)) h
  | n + 1, .node false ts, L, h => by
    rw [ledN] at h
    rw [dep]
    have hN : deps (fN g ts) ≤ deps ts := deps_sub (Nat.le_refl _) fun t ht => (List.mem_filter.1 ht).1
    have hA : deps (fA g ts) ≤ deps ts := deps_sub (Nat.le_refl _) fun t ht => (List.mem_filter.1 ht).1
    split at h
    · cases h
      exact deps_app.2 ⟨deps_some1 hN, deps_some1 hA⟩
    · rename_i m e
      have hm : m ∈ ts := (List.mem_filter.1 (show m ∈ fM g ts by rw [e]; exact List.mem_cons_self)).1
      cases e2 : ledN g n m with
      | none => rw [e2] at h; cases h
      | some M =>
        rw [e2] at h
        cases h
        have := led_dep n m M e2
        have := deps_le hm
        exact deps_app.2 ⟨deps_app.2 ⟨deps_some1 hN, by omega⟩, deps_some1 hA⟩
    · cases h
/-- as many guests -/
theorem led_seats {g : Row} {t : T} {L : List T} (h : LedSpec g t (some L)) : (seats L).length = (seat t).length := by
  obtain ⟨r, hr⟩ := sbs_ne L
  rw [← (sbs_perm hr).length_eq, ← rows_len ((h.2 r).1 hr).1]
theorem led_le {g : Row} {t : T} {L : List T} (h : LedSpec g t (some L)) : L.length ≤ (seat t).length := by
  rw [← led_seats h]; exact seats_len_ge h.1
theorem top_perm {g : Row} {t u : T} (h : TopSpec g t (some u)) : (seat u).Perm (seat t) := by
  obtain ⟨r, hr⟩ := rows_ne u
  exact (rows_perm u r hr).symm.trans (rows_perm t r ((h.2 r).1 hr).1)
def optL : Option (List T) → D
  | none => .none
  | some L => .list (toDs L)
def optT : Option T → D
  | none => .none
  | some u => toD u
end TT
set_option maxRecDepth 100000
set_option maxHeartbeats 4000000
namespace TT
open PySem L2 DL
/-! ### the rows one by one, in the law's order -/
theorem fm_perm {α β : Type} {f g : α → List β} : ∀ l : List α, (∀ a ∈ l, (f a).Perm (g a)) → (l.flatMap f).Perm (l.flatMap g)
  | [], _ => .refl _
  | a :: l, h => by
    rw [List.flatMap_cons, List.flatMap_cons]
    exact (h a List.mem_cons_self).append (fm_perm l fun b hb => h b (List.mem_cons_of_mem _ hb))
theorem prod_perm {A B C D : List Row} (h1 : A.Perm B) (h2 : C.Perm D) : (A.flatMap fun x => C.map (x ++ ·)).Perm (B.flatMap fun x => D.map (x ++ ·)) :=
  (h1.flatMap_right _).trans (fm_perm B fun x _ => h2.map _)
theorem anyO_perm {f g : T → List Row} : ∀ (n : Nat) (ts : List T), (∀ t ∈ ts, (f t).Perm (g t)) → (anyO n (ts.map f)).Perm (anyO n (ts.map g))
  | 0, _, _ => .refl _
  | n + 1, ts, h => by
    rw [anyO, anyO, picks_map, picks_map, List.flatMap_map, List.flatMap_map]
    refine fm_perm _ fun q hq => ?_
    have hp := picks_perm hq
    exact prod_perm (h q.1 (hp.mem_iff.1 List.mem_cons_self)) (anyO_perm n q.2 fun t ht => h t (hp.mem_iff.1 (List.mem_cons_of_mem _ ht)))
theorem sbs_permL {f g : T → List Row} : ∀ ts : List T, (∀ t ∈ ts, (f t).Perm (g t)) → (sbs (ts.map f)).Perm (sbs (ts.map g))
  | [], _ => .refl _
  | t :: ts, h => by
    rw [List.map_cons, List.map_cons, sbs, sbs]
    exact prod_perm (h t List.mem_cons_self) (sbs_permL ts fun u hu => h u (List.mem_cons_of_mem _ hu))
def sbsF (F : List Row) : List (List Row) → List Row
  | [] => F
  | L :: r => sbsF (L.flatMap fun x => F.map (· ++ x)) r
theorem swap_perm {α β γ : Type} (g : α → β → γ) (F : List α) : ∀ L : List β, (L.flatMap fun x => F.map fun f => g f x).Perm (F.flatMap fun f => L.map fun x => g f x)
  | [] => by
    have : (F.flatMap fun f => ([] : List β).map fun x => g f x) = [] := by simp
    rw [this]; exact .refl _
  | x :: L => by
    rw [List.flatMap_cons]
    refine ((List.Perm.refl _).append (swap_perm g F L)).trans ?_
    induction F with
    | nil => exact .refl _
    | cons f F ih =>
      rw [List.flatMap_cons, List.flatMap_cons, List.map_cons, List.map_cons]
      show (g f x :: (F.map (fun f => g f x) ++ (L.map (fun x => g f x) ++ F.flatMap fun f => L.map fun x => g f x))).Perm (g f x :: (L.map (fun x => g f x) ++ F.flatMap fun f => (x :: L).map fun x => g f x))
      refine List.Perm.cons _ ?_
      refine List.Perm.trans ?_ (ih.append_left _)
      rw [← List.append_assoc, ← List.append_assoc]
      exact List.perm_append_comm.append_right _
theorem sbsF_perm : ∀ (Ls : List (List Row)) (F : List Row), (sbsF F Ls).Perm (F.flatMap fun f => (sbs Ls).map (f ++ ·))
  | [], F => by
    have : (F.flatMap fun f => (sbs []).map (f ++ ·)) = F := by
      induction F with
      | nil => rfl
      | cons f F ih => rw [List.flatMap_cons, ih, sbs]; simp
    rw [this]; exact .refl _
  | L :: r, F => by
    rw [sbsF]
    refine (sbsF_perm r _).trans ?_
    refine ((swap_perm (fun f x : Row => f ++ x) F L).flatMap_right _).trans ?_
    have e : ((F.flatMap fun f => L.map fun x => f ++ x).flatMap fun f => (sbs r).map (f ++ ·)) = F.flatMap fun f => (sbs (L :: r)).map (f ++ ·) := by
      rw [List.flatMap_assoc]
      congr 1
      funext f
      rw [sbs, List.map_flatMap, List.flatMap_map]
      congr 1
      funext x
      rw [List.map_map]
      congr 1
      funext y
      exact List.append_assoc f x y
    rw [e]
theorem sbsF_one (Ls : List (List Row)) : (sbsF [[]] Ls).Perm (sbs Ls) := by
  refine (sbsF_perm Ls [[]]).trans ?_
  rw [List.flatMap_cons, List.flatMap_nil, List.append_nil]
  have : (sbs Ls).map (([] : Row) ++ ·) = sbs Ls := by
    conv => rhs; rw [← List.map_id (sbs Ls)]
    rfl
  rw [this]
mutual
def rowsF : T → List Row
  | .leaf g => [[g]]
  | .node b ts => if b then sbsF [[]] (rowsFs ts) ++ sbsF [[]] (rowsFs ts).reverse else anyO ts.length (rowsFs ts)
def rowsFs : List T → List (List Row)
  | [] => []
  | t :: r => rowsF t :: rowsFs r
end
theorem rowsFs_map : ∀ ts : List T, rowsFs ts = ts.map rowsF
  | [] => rfl
  | t :: r => by rw [rowsFs, List.map_cons, rowsFs_map r]
theorem rowsF_perm (t : T) : (rowsF t).Perm (rows t) := by
  induction t using T.ind with
  | hl g => rw [rowsF, rows]
  | hn b ts ih =>
    rw [rowsF, rows, rowsFs_map, rowss_map]
    cases b with
    | false => exact anyO_perm _ ts ih
    | true =>
      rw [if_pos rfl, if_pos rfl, ← List.map_reverse, ← List.map_reverse]
      exact ((sbsF_one _).trans (sbs_permL ts ih)).append ((sbsF_one _).trans (sbs_permL _ fun t ht => ih t (List.mem_reverse.1 ht)))
theorem rowsF_len {t : T} {x : Row} (h : x ∈ rowsF t) : x.length = (seat t).length := rows_len ((rowsF_perm t).mem_iff.1 h)
theorem prodL_b : ∀ {ts : List T}, Oks ts → (seats ts).length ≤ 12 → 1 ≤ prodL ts ∧ prodL ts ≤ 12 ^ ((seats ts).length - ts.length)
  | [], _, _ => by decide
  | t :: r, h, hl => by
    have hge := seats_len_ge h
    rw [Oks] at h
    rw [seats, List.length_append] at hl hge ⊢
    have hge2 := seats_len_ge h.2
    have hpos : 1 ≤ (seat t).length := List.length_pos_iff.2 (seat_ne h.1)
    obtain ⟨a1, a2⟩ := count_b h.1 (by omega)
    obtain ⟨b1, b2⟩ := prodL_b h.2 (by omega)
    rw [prodL_cons, rows_length, List.length_cons, show (seat t).length + (seats r).length - (r.length + 1) = ((seat t).length - 1) + ((seats r).length - r.length) by omega, Int.pow_add]
    have d1 : (1 : Int) * 1 ≤ count t * prodL r := Int.mul_le_mul a1 b1 (by omega) (by omega)
    exact ⟨by omega, Int.mul_le_mul a2 b2 (by omega) (by have := pow12_pos ((seat t).length - 1); omega)⟩
theorem pow12_5 {n : Nat} (h : n ≤ 5) : (12 : Int) ^ n ≤ 248832 := by
  have : n = 0 ∨ n = 1 ∨ n = 2 ∨ n = 3 ∨ n = 4 ∨ n = 5 := by omega
  rcases this with rfl | rfl | rfl | rfl | rfl | rfl <;> decide
theorem prodL_6 {ts : List T} (h : Oks ts) (hl : (seats ts).length ≤ 6) : 1 ≤ prodL ts ∧ prodL ts ≤ 248832 := by
  obtain ⟨h1, h2⟩ := prodL_b h (by omega)
  refine ⟨h1, ?_⟩
  cases ts with
  | nil => decide
  | cons t r =>
    have := pow12_5 (n := (seats (t :: r)).length - (t :: r).length) (by rw [List.length_cons]; omega)
    omega
theorem anyF_b {ts : List T} (h : Oks ts) (hl : (seats ts).length ≤ 6) : (anyO ts.length (ts.map rowsF)).length ≤ 248832 := by
  rw [(anyO_perm ts.length ts fun t _ => rowsF_perm t).length_eq]
  have e := len_anyO ts.length ts rfl
  obtain ⟨h1, h2⟩ := prodL_b h (by omega)
  have hge := seats_len_ge h
  cases ts with
  | nil => decide
  | cons t r =>
    obtain ⟨f1, f2⟩ := facI_b (t :: r).length (by rw [List.length_cons]; omega) (by omega)
    have hm : facI (t :: r).length * prodL (t :: r) ≤ 12 ^ ((t :: r).length - 1) * 12 ^ ((seats (t :: r)).length - (t :: r).length) := Int.mul_le_mul f2 h2 (by omega) (by have := pow12_pos ((t :: r).length - 1); omega)
    rw [← Int.pow_add] at hm
    have := pow12_5 (n := (t :: r).length - 1 + ((seats (t :: r)).length - (t :: r).length)) (by rw [List.length_cons] at hge ⊢; omega)
    omega
theorem sbsF_len (ts : List T) (F : List Row) : ((sbsF F (ts.map rowsF)).length : Int) = F.length * prodL ts := by
  rw [(sbsF_perm _ F).length_eq, len_prod, (sbs_permL ts fun t _ => rowsF_perm t).length_eq, len_sbs]
theorem anyF_row {ts : List T} {x : Row} (h : x ∈ anyO ts.length (ts.map rowsF)) : x.length = (seats ts).length := by
  obtain ⟨us, hu, hx⟩ := (mem_anyO rows ts.length ts rfl).1 ((anyO_perm ts.length ts fun t _ => rowsF_perm t).mem_iff.1 h)
  rw [(sbs_perm hx).length_eq, (seats_perm hu).length_eq]
/-! picks, one behind the other -/
def pickF {α : Type} (pre : List α) : List α → List (α × List α)
  | [] => []
  | x :: r => (x, pre ++ r) :: pickF (pre ++ [x]) r
theorem pickF_eq {α : Type} : ∀ (l pre : List α), pickF pre l = (picks l).map fun p => (p.1, pre ++ p.2)
  | [], _ => rfl
  | x :: r, pre => by
    rw [pickF, picks, List.map_cons, List.map_map, pickF_eq r]
    congr 1
    refine List.map_congr_left fun p _ => ?_
    show (p.1, pre ++ [x] ++ p.2) = (p.1, pre ++ x :: p.2)
    rw [List.append_assoc]; rfl
theorem picks_F {α : Type} (l : List α) : picks l = pickF [] l := by
  rw [pickF_eq]
  conv => lhs; rw [← List.map_id (picks l)]
  rfl
/-! ### as data -/
def rowD (r : Row) : D := .list (r.map .int)
def llD (L : List Row) : D := .list (L.map rowD)
theorem canLay_rows : ∀ L : List Row, PyData.canLayAll0 (L.map rowD) = true
  | [] => rfl
  | r :: L => by
    rw [List.map_cons, PyData.canLayAll0, canLay_rows L, rowD, PyData.canLay0, canLay_ints]; rfl
theorem depth_rows : ∀ L : List Row, PyData.depthAll (L.map rowD) ≤ 1
  | [] => by decide
  | r :: L => by
    have := depth_rows L
    rw [List.map_cons, PyData.depthAll, rowD, depth_il]; omega
theorem canLay_ll : ∀ Ls : List (List Row), PyData.canLayAll0 (Ls.map llD) = true
  | [] => rfl
  | r :: L => by
    rw [List.map_cons, PyData.canLayAll0, canLay_ll L, llD, PyData.canLay0, canLay_rows]; rfl
theorem depth_ll : ∀ Ls : List (List Row), PyData.depthAll (Ls.map llD) ≤ 2
  | [] => by decide
  | r :: L => by
    have := depth_ll L
    have h2 := depth_rows r
    rw [List.map_cons, PyData.depthAll, llD, PyData.depth]; omega
theorem shaped_llD (L : List Row) : SeqAt.shaped (llD L) = true := by
  have h := depth_rows L
  unfold SeqAt.shaped llD
  rw [PyData.canLay0, canLay_rows, PyData.depth]
  simp; omega
theorem shaped_lll (Ls : List (List Row)) : SeqAt.shaped (.list (Ls.map llD)) = true := by
  have h := depth_ll Ls
  unfold SeqAt.shaped
  rw [PyData.canLay0, canLay_ll, PyData.depth]
  simp; omega
theorem eqv_l0 : ∀ ds : List D, PyData.eqv (.list ds) (.list []) = ds.isEmpty
  | [] => by simp [PyData.eqv, PyData.eqvAll]
  | _ :: _ => by simp [PyData.eqv, PyData.eqvAll]
theorem eqD_ll0 (L : List Row) : eqD (llD L) (.list []) = .ok (.bool L.isEmpty) := by
  unfold eqD
  rw [if_pos ⟨shaped_llD _, shaped_ints []⟩, llD, eqv_l0, List.isEmpty_map]
theorem eqD_lll0 (Ls : List (List Row)) : eqD (.list (Ls.map llD)) (.list []) = .ok (.bool Ls.isEmpty) := by
  unfold eqD
  rw [if_pos ⟨shaped_lll _, shaped_ints []⟩, eqv_l0, List.isEmpty_map]
/-! rows sorted -/
theorem ltL_anti : ∀ {a b : Row}, ltL a b = false → ltL b a = false → a = b
  | [], [], _, _ => rfl
  | [], _ :: _, h, _ => by unfold ltL at h; cases h
  | _ :: _, [], _, h => by unfold ltL at h; cases h
  | x :: a, y :: b, h1, h2 => by
    rw [ltL] at h1 h2
    simp only [Bool.or_eq_false_iff, decide_eq_false_iff_not, Bool.and_eq_false_iff] at h1 h2
    have e : x = y := by omega
    subst e
    have h3 : ltL a b = false := by rcases h1.2 with h | h; exact absurd rfl h; exact h
    have h4 : ltL b a = false := by rcases h2.2 with h | h; exact absurd rfl h; exact h
    rw [ltL_anti h3 h4]
theorem sortOk_rows (L : List Row) : sortOk (L.map rowD) = true := by
  unfold sortOk
  simp only [Bool.and_eq_true, Bool.or_eq_true, List.all_eq_true, decide_eq_true_eq, List.mem_map]
  refine ⟨⟨?_, .inr ?_⟩, ?_⟩
  · rintro _ ⟨p, _, rfl⟩ _ ⟨q, _, rfl⟩; exact alike_il p q
  · rintro _ ⟨p, _, rfl⟩; rfl
  · rintro _ ⟨p, _, rfl⟩
    exact ⟨noDict_ints p, by rw [rowD, depth_il]; decide⟩
def sortRows (L : List Row) : List Row := L.mergeSort (PySem.W.dataLe false rowD)
theorem sortAD_rows (L : List Row) : sortAD false [llD L] = .ok ((sortRows L).map rowD) := by
  show (if sortOk (L.map rowD) = true then R.ok ((L.map rowD).mergeSort (leD' false)) else .bad) = _
  unfold sortRows
  rw [if_pos (sortOk_rows L), ← List.map_mergeSort (r := PySem.W.dataLe false rowD) (s := leD' false) (f := rowD) (fun a _ b _ => rfl)]
theorem sortRows_perm (L : List Row) : (sortRows L).Perm L := List.mergeSort_perm _ _
theorem sortRows_sorted (L : List Row) : (sortRows L).Pairwise fun a b => ltL b a = false := by
  have hto := PySem.W.sortLe_total (PyProof.Rows.listOrd PyProof.Rows.itemOrd) false (fun p : Row => PySem.W.keyToks (rowD p))
  have h1 := List.pairwise_mergeSort (le := PySem.W.dataLe false rowD) (fun a b c h1 h2 => hto.trans a b c h1 h2) (fun a b => by rw [Bool.or_eq_true]; exact hto.total a b) L
  refine h1.imp fun {p q} h => ?_
  have h3 : (!PySem.W.dataLt (rowD q) (rowD p)) = true := h
  have h4 : PySem.W.dataLt (rowD q) (rowD p) = ltL q p := dataLt_il q p
  rw [h4] at h3
  simpa using h3
theorem sortRows_same {L M : List Row} (h : L.Perm M) : sortRows L = sortRows M :=
  List.Perm.eq_of_pairwise (le := fun a b => ltL b a = false) (fun a b _ _ h1 h2 => ltL_anti h2 h1) (sortRows_sorted L) (sortRows_sorted M) (((sortRows_perm L).trans h).trans (sortRows_perm M).symm)
/-! ### together -/
def plc (g : Row) (n : Nat) (r : Row) : List Int := ((r.zipIdx n).filter fun p => decide (p.1 ∈ g)).map fun p => (p.2 : Int)
theorem plc_nil (g : Row) (n : Nat) : plc g n [] = [] := rfl
theorem plc_in {g : Row} {n : Nat} {x : Int} {r : Row} (h : x ∈ g) : plc g n (x :: r) = (n : Int) :: plc g (n + 1) r := by
  unfold plc; rw [List.zipIdx_cons, List.filter_cons_of_pos (by simpa using h)]; rfl
theorem plc_out {g : Row} {n : Nat} {x : Int} {r : Row} (h : x ∉ g) : plc g n (x :: r) = plc g (n + 1) r := by
  unfold plc; rw [List.zipIdx_cons, List.filter_cons_of_neg (by simpa using h)]
def togP : List Int → Bool
  | [] => true
  | a :: l => decide (l.getLastD a - a = l.length)
theorem plc_ge {g : Row} : ∀ (r : Row) (n : Nat) (a : Int) (l : List Int), plc g n r = a :: l → (n : Int) ≤ a ∧ a + l.length ≤ l.getLastD a
  | [], n, a, l, h => by rw [plc_nil] at h; cases h
  | x :: r, n, a, l, h => by
    by_cases hx : x ∈ g
    · rw [plc_in hx] at h
      injection h with h1 h2
      subst h1
      cases l with
      | nil => exact ⟨by omega, by simp⟩
      | cons b l =>
        obtain ⟨k1, k2⟩ := plc_ge r (n + 1) b l h2
        refine ⟨by omega, ?_⟩
        rw [List.getLastD_cons, List.length_cons]
        omega
    · rw [plc_out hx] at h
      obtain ⟨k1, k2⟩ := plc_ge r (n + 1) a l h
      exact ⟨by omega, k2⟩
theorem plc_non {g : Row} : ∀ (r : Row) (n : Nat), plc g n r = [] ↔ Non g r
  | [], n => ⟨fun _ => Non.nil, fun _ => rfl⟩
  | x :: r, n => by
    by_cases hx : x ∈ g
    · rw [plc_in hx]
      exact ⟨fun h => (by cases h), fun h => absurd hx (h x List.mem_cons_self)⟩
    · rw [plc_out hx, plc_non r]
      constructor
      · intro h i hi
        rcases List.mem_cons.1 hi with rfl | hi
        · exact hx
        · exact h i hi
      · intro h i hi; exact h i (List.mem_cons_of_mem _ hi)
def PreS (g r : Row) : Prop := ∃ B C, r = B ++ C ∧ All g B ∧ Non g C
theorem pre_is {g : Row} : ∀ (r : Row) (n : Nat), (plc g (n + 1) r).getLastD (n : Int) - n = (plc g (n + 1) r).length ↔ PreS g r
  | [], n => by
    rw [plc_nil]
    exact ⟨fun _ => ⟨[], [], rfl, All.nil, Non.nil⟩, fun _ => by simp⟩
  | y :: r, n => by
    by_cases hy : y ∈ g
    · rw [plc_in hy, List.getLastD_cons, List.length_cons]
      have ih := pre_is (g := g) r (n + 1)
      have e : PreS g (y :: r) ↔ PreS g r := by
        constructor
        · rintro ⟨B, C, e, h1, h2⟩
          cases B with
          | nil =>
            rw [List.nil_append] at e
            subst e
            exact absurd hy (h2 y List.mem_cons_self)
          | cons b B =>
            injection e with e1 e2
            exact ⟨B, C, e2, fun i hi => h1 i (List.mem_cons_of_mem _ hi), h2⟩
        · rintro ⟨B, C, rfl, h1, h2⟩
          refine ⟨y :: B, C, rfl, fun i hi => ?_, h2⟩
          rcases List.mem_cons.1 hi with rfl | hi
          · exact hy
          · exact h1 i hi
      rw [e, ← ih]
      omega
    · rw [plc_out hy]
      have e : PreS g (y :: r) ↔ Non g (y :: r) := by
        constructor
        · rintro ⟨B, C, e, h1, h2⟩
          cases B with
          | nil => rw [List.nil_append] at e; subst e; exact h2
          | cons b B =>
            injection e with e1 e2
            subst e1
            exact absurd (h1 y List.mem_cons_self) hy
        · intro h; exact ⟨[], _, rfl, All.nil, h⟩
      rw [e, ← plc_non (y :: r) 0, plc_out hy, plc_non r (0 + 1), ← plc_non r (n + 1 + 1)]
      cases hl : plc g (n + 1 + 1) r with
      | nil => simp
      | cons b l =>
        obtain ⟨k1, k2⟩ := plc_ge r _ b l hl
        rw [List.getLastD_cons, List.length_cons]
        constructor
        · intro h; omega
        · intro h; cases h
theorem togP_is {g : Row} : ∀ (r : Row) (n : Nat), togP (plc g n r) = true ↔ Tog g r
  | [], n => ⟨fun _ => (Non.nil).end.tog, fun _ => rfl⟩
  | x :: r, n => by
    by_cases hx : x ∈ g
    · rw [plc_in hx, togP, decide_eq_true_iff, pre_is]
      constructor
      · rintro ⟨B, C, rfl, h1, h2⟩
        refine ⟨[], x :: B, C, rfl, Non.nil, fun i hi => ?_, h2⟩
        rcases List.mem_cons.1 hi with rfl | hi
        · exact hx
        · exact h1 i hi
      · rintro ⟨A, B, C, e, h1, h2, h3⟩
        cases A with
        | cons a A =>
          injection e with e1 e2
          subst e1
          exact absurd hx (h1 x List.mem_cons_self)
        | nil =>
          cases B with
          | nil =>
            have e : x :: r = C := e
            subst e
            exact absurd hx (h3 x List.mem_cons_self)
          | cons b B =>
            injection e with e1 e2
            exact ⟨B, C, e2, fun i hi => h2 i (List.mem_cons_of_mem _ hi), h3⟩
    · rw [plc_out hx, togP_is r (n + 1)]
      constructor
      · rintro ⟨A, B, C, rfl, h1, h2, h3⟩
        refine ⟨x :: A, B, C, rfl, fun i hi => ?_, h2, h3⟩
        rcases List.mem_cons.1 hi with rfl | hi
        · exact hx
        · exact h1 i hi
      · intro h
        have h : Tog g ([x] ++ r) := h
        rcases Tog.app.1 h with h | h | h
        · exact h.2
        · exact h.2.end.tog
        · exact Tog.rev_iff.1 (EndR.tog h.2)
end TT
set_option maxRecDepth 100000
set_option maxHeartbeats 4000000
namespace TT
open PySem L2 DL
/-! ### the rows in order, and their ranks -/
theorem rank_perm {L M : List Row} (h : L.Perm M) (r : Row) : rank L r = rank M r := by
  unfold rank; rw [(h.filter _).length_eq]
theorem ltL_of_ne {a b : Row} (h : ltL b a = false) (hn : a ≠ b) : ltL a b = true := by
  cases hab : ltL a b with
  | true => rfl
  | false => exact absurd (ltL_anti hab h) hn
theorem rank_sorted {L A B : List Row} {r : Row} (hn : L.Nodup) (e : sortRows L = A ++ r :: B) : rank L r = A.length := by
  rw [← rank_perm (sortRows_perm L)]
  have hs := sortRows_sorted L
  have hd := (sortRows_perm L).nodup_iff.2 hn
  rw [e] at hs hd ⊢
  obtain ⟨h1, h2, h3⟩ := List.pairwise_append.1 hs
  rw [List.pairwise_cons] at h2
  rw [List.nodup_append] at hd
  unfold rank
  rw [List.filter_append, List.filter_cons_of_neg (by rw [ltL_irr]; simp), List.filter_eq_self.2 fun x hx => ltL_of_ne (h3 x hx r List.mem_cons_self) (hd.2.2 x hx r List.mem_cons_self), (List.filter_eq_nil_iff).2 fun x hx => by rw [h2.1 x hx]; simp]
  rw [List.append_nil]
theorem rank_nth {L : List Row} (hn : L.Nodup) {i : Nat} {r : Row} (h : (sortRows L)[i]? = some r) : rank L r = i := by
  have hi := (List.getElem?_eq_some_iff.1 h).1
  have e : sortRows L = (sortRows L).take i ++ r :: (sortRows L).drop (i + 1) := by
    have := (List.getElem?_eq_some_iff.1 h).2
    rw [← this, ← List.drop_eq_getElem_cons hi, List.take_append_drop]
  rw [rank_sorted hn e, List.length_take]; omega
theorem enF_rows {L : List Row} {i : Nat} {d : D} (h : (enF 0 (L.map rowD))[i]? = some d) : ∃ r, L[i]? = some r ∧ d = .tuple [.int (i : Nat), rowD r] := by
  rw [enF_eq, List.getElem?_map, List.getElem?_zipIdx, List.getElem?_map] at h
  cases hc : L[i]? with
  | none => rw [hc] at h; cases h
  | some r => rw [hc] at h; exact ⟨r, rfl, by simpa using h.symm⟩
theorem enF_rows_mem {L : List Row} {d : D} (h : d ∈ enF 0 (L.map rowD)) : ∃ (i : Nat) (r : Row), L[i]? = some r ∧ d = .tuple [.int (i : Nat), rowD r] := by
  obtain ⟨i, hi⟩ := List.getElem?_of_mem h
  obtain ⟨r, h1, h2⟩ := enF_rows hi
  exact ⟨i, r, h1, h2⟩
theorem enF_length : ∀ (ds : List D) (n : Nat), (enF n ds).length = ds.length
  | [], _ => rfl
  | d :: r, n => by rw [enF, List.length_cons, List.length_cons, enF_length r]
/-! a dict of rows -/
theorem getL_none {kvs : List (List Int × D)} {k : List Int} (h : (kvs.any fun p => decide (p.1 = k)) = false) : getL kvs k = none := by
  unfold getL
  rw [List.find?_eq_none.2 fun x hx => by
    have := List.any_eq_false.1 h x hx
    exact this]
  rfl
theorem find_upd (k r : List Int) (d : D) : ∀ kvs : List (List Int × D), (kvs.map (fun p => if p.1 = k then (p.1, d) else p)).find? (fun p => decide (p.1 = r)) = (kvs.find? fun p => decide (p.1 = r)).map fun p => if p.1 = k then (p.1, d) else p
  | [] => rfl
  | p :: kvs => by
    rw [List.map_cons, List.find?_cons, List.find?_cons]
    have e : (if p.1 = k then (p.1, d) else p).1 = p.1 := by split <;> rfl
    rw [e]
    by_cases hp : p.1 = r
    · rw [decide_eq_true hp]; rfl
    · rw [decide_eq_false hp]; exact find_upd k r d kvs
theorem getL_putL (kvs : List (List Int × D)) (k r : List Int) (d : D) : getL (putL kvs k d) r = if r = k then some d else getL kvs r := by
  unfold putL
  by_cases ha : (kvs.any fun p => decide (p.1 = k)) = true
  · rw [if_pos ha]
    have e : getL (kvs.map (fun p => if p.1 = k then (p.1, d) else p)) r = ((kvs.find? fun p => decide (p.1 = r)).map fun p => if p.1 = k then (p.1, d) else p).map (·.2) := by
      unfold getL; rw [find_upd]
    rw [e]
    by_cases hr : r = k
    · subst hr
      rw [if_pos rfl]
      obtain ⟨p, hp, hpk⟩ := List.any_eq_true.1 ha
      cases hf : kvs.find? (fun p => decide (p.1 = r)) with
      | none =>
        exact absurd hpk (List.find?_eq_none.1 hf p hp)
      | some q =>
        have hq : q.1 = r := by simpa using List.find?_some hf
        simp [hq]
    · rw [if_neg hr]
      unfold getL
      cases hf : kvs.find? (fun p => decide (p.1 = r)) with
      | none => rfl
      | some q =>
        have hq : q.1 = r := by simpa using List.find?_some hf
        simp [hq, hr]
  · rw [if_neg ha]
    have hz := getL_none (Bool.eq_false_iff.2 ha)
    by_cases hr : r = k
    · subst hr
      rw [if_pos rfl]
      unfold getL at hz ⊢
      rw [List.find?_append]
      cases hf : kvs.find? (fun p => decide (p.1 = r)) with
      | none => simp
      | some q => rw [hf] at hz; cases hz
    · rw [if_neg hr]
      unfold getL
      rw [List.find?_append]
      cases hf : kvs.find? (fun p => decide (p.1 = r)) with
      | none =>
        have : ¬ k = r := fun e => hr e.symm
        simp [this]
      | some q => rfl
theorem putL_len (kvs : List (List Int × D)) (k : List Int) (d : D) : (putL kvs k d).length ≤ kvs.length + 1 := by
  unfold putL; split
  · rw [List.length_map]; omega
  · rw [List.length_append, List.length_singleton]; omega
/-! all rows of so many guests -/
def nextR (n : Nat) (r : Row) : List Row := ((rangeZ n).filter fun g => !decide (g ∈ r)).map fun g => r ++ [g]
theorem nextR_len (n : Nat) (r : Row) : (nextR n r).length ≤ n := by
  unfold nextR
  rw [List.length_map]
  exact Nat.le_trans (List.length_filter_le _ _) (by rw [rangeZ_len]; omega)
theorem nextsR_len (n : Nat) : ∀ F : List Row, (F.flatMap (nextR n)).length ≤ F.length * n
  | [] => by simp
  | r :: F => by
    have h1 := nextR_len n r
    have h2 := nextsR_len n F
    rw [List.flatMap_cons, List.length_append, List.length_cons, Nat.add_mul]; omega
theorem nextR_pre {n : Nat} {r s : Row} (h : Pre r n) (hs : s ∈ nextR n r) : Pre s n ∧ s.length = r.length + 1 := by
  obtain ⟨g, hg, rfl⟩ := List.mem_map.1 hs
  rw [List.mem_filter] at hg
  refine ⟨h.snoc hg.1 (by simpa using hg.2), by rw [List.length_append, List.length_singleton]⟩
end TT
set_option maxRecDepth 100000
set_option maxHeartbeats 4000000
namespace TT
open PySem L2 DL
/-! ### what tree a thing is -/
def asTs (f : D → Option T) : List D → Option (List T)
  | [] => some []
  | d :: r => match f d with
    | none => none
    | some t => match asTs f r with
      | none => none
      | some ts => some (t :: ts)
def fewP (b : Bool) : Nat := if b then 3 else 2
def asN (f : D → Option T) : D → Option T
  | .tuple [.str s, .tuple ds] =>
    if s = "stools" then (if ds.length < 2 then none else (asTs f ds).map (.node false))
    else if s = "bench" then (if ds.length < 3 then none else (asTs f ds).map (.node true))
    else none
  | _ => none
def asT : Nat → D → Option T
  | n, .int i => if 0 ≤ i ∧ i ≤ 11 then some (.leaf i) else none
  | 0, _ => none
  | n + 1, d => asN (asT n) d
theorem asT_int (n : Nat) (i : Int) : asT n (.int i) = if 0 ≤ i ∧ i ≤ 11 then some (.leaf i) else none := by cases n <;> rfl
theorem asTs_some {f : D → Option T} : ∀ {ds : List D} {ts : List T}, asTs f ds = some ts → ds.length = ts.length ∧ (∀ t ∈ ts, ∃ d ∈ ds, f d = some t)
  | [], ts, h => by
    rw [asTs] at h; cases h; exact ⟨rfl, by simp⟩
  | d :: r, ts, h => by
    rw [asTs] at h
    cases h1 : f d with
    | none => rw [h1] at h; cases h
    | some t =>
      rw [h1] at h
      cases h2 : asTs f r with
      | none => rw [h2] at h; cases h
      | some us =>
        rw [h2] at h; cases h
        obtain ⟨e, k⟩ := asTs_some h2
        refine ⟨by rw [List.length_cons, List.length_cons, e], fun u hu => ?_⟩
        rcases List.mem_cons.1 hu with rfl | hu
        · exact ⟨d, List.mem_cons_self, h1⟩
        · obtain ⟨d', h3, h4⟩ := k u hu
          exact ⟨d', List.mem_cons_of_mem _ h3, h4⟩
theorem asTs_toDs {f : D → Option T} (hf : ∀ d t, f d = some t → d = toD t) : ∀ {ds : List D} {ts : List T}, asTs f ds = some ts → ds = toDs ts
  | [], ts, h => by rw [asTs] at h; cases h; rfl
  | d :: r, ts, h => by
    rw [asTs] at h
    cases h1 : f d with
    | none => rw [h1] at h; cases h
    | some t =>
      rw [h1] at h
      cases h2 : asTs f r with
      | none => rw [h2] at h; cases h
      | some us =>
        rw [h2] at h; cases h
        rw [toDs, ← hf d t h1, ← asTs_toDs hf h2]
theorem asT_some : ∀ {n : Nat} {d : D} {t : T}, asT n d = some t → d = toD t ∧ Ok t ∧ dep t ≤ n := by
  intro n
  induction n with
  | zero =>
    intro d t h
    cases d with
    | int i =>
      rw [asT_int] at h
      split at h
      · rename_i hi; cases h; exact ⟨rfl, by rw [Ok]; omega, by rw [dep]; omega⟩
      · cases h
    | _ => cases h
  | succ n ih =>
    intro d t h
    have key : ∀ (b : Bool) (ds : List D), fewP b ≤ ds.length → (asTs (asT n) ds).map (.node b) = some t → PyData.tuple [.str (wd b), .tuple ds] = toD t ∧ Ok t ∧ dep t ≤ n + 1 := fun b ds hl h => by
      cases h2 : asTs (asT n) ds with
      | none => rw [h2] at h; cases h
      | some ts =>
        rw [h2] at h; cases h
        obtain ⟨e, k⟩ := asTs_some h2
        have e2 := asTs_toDs (fun d t h => (ih h).1) h2
        refine ⟨by rw [toD, e2], ?_, ?_⟩
        · rw [Ok]
          refine ⟨by unfold fewP at hl; rw [e] at hl; exact hl, oks_iff.2 fun u hu => ?_⟩
          obtain ⟨d', h3, h4⟩ := k u hu
          exact (ih h4).2.1
        · rw [dep]
          have : deps ts ≤ n := deps_iff.2 fun u hu => by
            obtain ⟨d', h3, h4⟩ := k u hu
            exact (ih h4).2.2
          omega
    cases d with
    | int i =>
      rw [asT_int] at h
      split at h
      · rename_i hi; cases h; exact ⟨rfl, by rw [Ok]; omega, by rw [dep]; omega⟩
      · cases h
    | tuple l =>
      rw [asT] at h
      · unfold asN at h
        split at h
        · rename_i s ds heq
          cases heq
          split at h
          · rename_i hs
            split at h
            · cases h
            · rename_i hl
              subst hs
              exact key false ds (by unfold fewP; rw [if_neg (by decide)]; omega) h
          · split at h
            · rename_i hs
              split at h
              · cases h
              · rename_i hl
                subst hs
                exact key true ds (by unfold fewP; rw [if_pos rfl]; omega) h
            · cases h
        · cases h
      · intro i hi; cases hi
    | _ =>
      first
        | (cases h)
        | (rw [asT] at h <;> first | (cases h; done) | (intro i hi; cases hi))
/-! how wide -/
mutual
def wid : T → Bool
  | .leaf _ => true
  | .node _ ts => decide (ts.length ≤ 12) && wids ts
def wids : List T → Bool
  | [] => true
  | t :: r => wid t && wids r
end
theorem wids_iff : ∀ {ts : List T}, wids ts = true ↔ ∀ t ∈ ts, wid t = true
  | [] => by simp [wids]
  | t :: r => by rw [wids, Bool.and_eq_true, wids_iff (ts := r)]; simp
theorem wid_of {t : T} (h : Ok t) (hl : (seat t).length ≤ 12) : wid t = true := by
  induction t using T.ind with
  | hl g => rfl
  | hn b ts ih =>
    rw [Ok] at h
    rw [seat] at hl
    have := seats_len_ge h.2
    rw [wid, Bool.and_eq_true, decide_eq_true_iff, wids_iff]
    exact ⟨by omega, fun t ht => ih t ht (oks_iff.1 h.2 t ht) (Nat.le_trans (seats_len_le ht) hl)⟩
/-! how large a thing is -/
mutual
def lv : D → Nat
  | .tuple ds => lvs ds
  | _ => 1
def lvs : List D → Nat
  | [] => 0
  | d :: r => lv d + lvs r
end
theorem lvs_app : ∀ (a b : List D), lvs (a ++ b) = lvs a + lvs b
  | [], b => by rw [lvs, Nat.zero_add]; rfl
  | d :: a, b => by rw [List.cons_append, lvs, lvs, lvs_app a b]; omega
mutual
theorem lv_seat : ∀ t : T, (seat t).length ≤ lv (toD t)
  | .leaf g => by rw [seat, toD, lv]; exact Nat.le_refl _
                  all_goals (intros; rename_i h; cases h)
  | .node b ts => by
    have := lvs_seats ts
    rw [seat, toD, lv, lvs, lvs, lvs, lv, lv]
    · omega
    all_goals (intros; rename_i h; cases h)
theorem lvs_seats : ∀ ts : List T, (seats ts).length ≤ lvs (toDs ts)
  | [] => by rw [seats, toDs, lvs]; exact Nat.le_refl _
  | t :: r => by
    have h1 := lv_seat t
    have h2 := lvs_seats r
    rw [seats, toDs, lvs, List.length_append]; omega
end
theorem lv_node (b : Bool) (ts : List T) : lv (toD (.node b ts)) = 1 + lvs (toDs ts) := by
  rw [toD, lv, lvs, lvs, lvs, lv, lv]
  · omega
  all_goals (intros; rename_i h; cases h)
theorem lv_leaf (g : Int) : lv (toD (.leaf g)) = 1 := by
  rw [toD, lv]
  all_goals (intros; rename_i h; cases h)
theorem lv_le {t : T} (h : Ok t) : lv (toD t) + 1 ≤ 2 * (seat t).length := by
  induction t using T.ind with
  | hl g => rw [lv_leaf, seat]; simp
  | hn b ts ih =>
    rw [Ok] at h
    rw [lv_node, seat]
    have key : ∀ us : List T, (∀ t ∈ us, t ∈ ts) → lvs (toDs us) + us.length ≤ 2 * (seats us).length := fun us => by
      induction us with
      | nil => intro _; rw [toDs, lvs, seats]; simp
      | cons t r ihr =>
        intro hm
        have h1 := ih t (hm t List.mem_cons_self) (oks_iff.1 h.2 t (hm t List.mem_cons_self))
        have h2 := ihr fun u hu => hm u (List.mem_cons_of_mem _ hu)
        rw [toDs, lvs, seats, List.length_append, List.length_cons]; omega
    have := key ts fun t ht => ht
    have : 2 ≤ ts.length := by
      have := h.1
      split at this <;> omega
    omega
theorem lv_pos : ∀ d : D, d = .tuple [] ∨ True := fun _ => .inr trivial
/-! tidiness, told -/
theorem last_isT : ∀ (l : List Int) (a : Int), ∃ pre, a :: l = pre ++ [l.getLastD a]
  | [], a => ⟨[], rfl⟩
  | b :: l, a => by
    obtain ⟨pre, e⟩ := last_isT l b
    exact ⟨a :: pre, by rw [List.getLastD_cons, e]; rfl⟩
mutual
def tidyB : T → Bool
  | .leaf _ => true
  | .node b ts => (if b then !decide ((ts.map least).headD 0 > (ts.map least).getLastD 0) else decide (ts.map least = isort (ts.map least))) && tidyBs ts
def tidyBs : List T → Bool
  | [] => true
  | t :: r => tidyB t && tidyBs r
end
theorem tidyBs_all : ∀ ts : List T, tidyBs ts = (ts.map tidyB).all id
  | [] => rfl
  | t :: r => by rw [tidyBs, List.map_cons, List.all_cons, tidyBs_all r]; rfl
theorem tidyB_iff {t : T} (h : Ok t) : tidyB t = true ↔ Tidy t := by
  induction t using T.ind with
  | hl g => rw [tidyB, Tidy]; simp
  | hn b ts ih =>
    rw [Ok] at h
    rw [tidyB, Tidy, Bool.and_eq_true, tidyBs_all, List.all_eq_true, tidys_iff]
    have e : (∀ x ∈ ts.map tidyB, id x = true) ↔ ∀ t ∈ ts, Tidy t := by
      constructor
      · intro k t ht; exact (ih t ht (oks_iff.1 h.2 t ht)).1 (k _ (List.mem_map.2 ⟨t, ht, rfl⟩))
      · intro k x hx
        obtain ⟨t, ht, rfl⟩ := List.mem_map.1 hx
        exact (ih t ht (oks_iff.1 h.2 t ht)).2 (k t ht)
    rw [e]
    refine and_congr_left' ?_
    cases b with
    | false =>
      rw [if_neg (by decide), if_neg (by decide), decide_eq_true_iff]
      exact ⟨fun k => by rw [k]; exact isort_asc _, fun k => asc_unique (isort_p _).symm k (isort_asc _)⟩
    | true =>
      rw [if_pos rfl, if_pos rfl]
      cases hl : ts.map least with
      | nil => simp
      | cons x r =>
        obtain ⟨pre, e⟩ := last_isT r x
        have e1 : (x :: r).getLast? = some (r.getLastD x) := by rw [e, List.getLast?_append]; rfl
        rw [List.headD_cons, List.getLastD_cons, e1]
        simp only [List.head?_cons, Option.some.injEq, Bool.not_eq_true', decide_eq_false_iff_not]
        constructor
        · intro k a b ha hb; subst ha; subst hb; omega
        · intro k; have := k _ _ rfl rfl; omega
end TT
set_option maxRecDepth 100000
set_option maxHeartbeats 4000000
namespace TT
open PySem L2 DL
/-! ### texts, as lists of signs -/
def sL (l : List Nat) : Str := ⟨l.toArray⟩
theorem sL_cps (l : List Nat) : (sL l).cps.toList = l := by unfold sL; simp
theorem str_ext {x y : Str} (h : x.cps.toList = y.cps.toList) : x = y := by
  cases x; cases y; simp only [Str.mk.injEq]; exact Array.toList_inj.1 h
theorem sL_app (a b : List Nat) : sL a ++ sL b = sL (a ++ b) := str_ext (by
  have h : (sL a ++ sL b).cps.toList = (sL a).cps.toList ++ (sL b).cps.toList := TL.tl_append (sL a) (sL b)
  rw [h, sL_cps, sL_cps, sL_cps])
theorem sL_len (l : List Nat) : (sL l).length = l.length := by
  show (sL l).cps.size = _
  unfold sL; simp
theorem sL_inj {a b : List Nat} (h : sL a = sL b) : a = b := by
  have := congrArg (fun s : Str => s.cps.toList) h
  rwa [sL_cps, sL_cps] at this
theorem sL_ok {l : List Nat} (h : ∀ c ∈ l, c < 128) : PyData.strOk (sL l) = true := by
  unfold PyData.strOk sL
  rw [Array.all_eq_true_iff_forall_mem]
  intro c hc
  have := h c (by simpa using hc)
  simp; omega
def digs (g : Int) : List Nat := if g < 10 then [48 + g.toNat] else [49, 48 + (g.toNat - 10)]
def opn (b : Bool) : Nat := if b then 91 else 40
def cls (b : Bool) : Nat := if b then 93 else 41
mutual
def noteL : T → List Nat
  | .leaf g => digs g
  | .node b ts => opn b :: (joinT ts ++ [cls b])
def joinT : List T → List Nat
  | [] => []
  | t :: r => noteL t ++ restT r
def restT : List T → List Nat
  | [] => []
  | t :: r => 32 :: (noteL t ++ restT r)
end
theorem digs_len (g : Int) : 1 ≤ (digs g).length ∧ (digs g).length ≤ 2 := by unfold digs; split <;> simp
theorem dec12 {p : Int → Prop} (h0 : p 0) (h1 : p 1) (h2 : p 2) (h3 : p 3) (h4 : p 4) (h5 : p 5) (h6 : p 6) (h7 : p 7) (h8 : p 8) (h9 : p 9) (h10 : p 10) (h11 : p 11) {g : Int} (a : 0 ≤ g) (b : g ≤ 11) : p g := by
  have : g = 0 ∨ g = 1 ∨ g = 2 ∨ g = 3 ∨ g = 4 ∨ g = 5 ∨ g = 6 ∨ g = 7 ∨ g = 8 ∨ g = 9 ∨ g = 10 ∨ g = 11 := by omega
  rcases this with rfl | rfl | rfl | rfl | rfl | rfl | rfl | rfl | rfl | rfl | rfl | rfl <;> assumption
theorem digs_c {g : Int} (a : 0 ≤ g) (b : g ≤ 11) : ∀ c ∈ digs g, 48 ≤ c ∧ c ≤ 57 := by
  refine dec12 (p := fun g => ∀ c ∈ digs g, 48 ≤ c ∧ c ≤ 57) ?_ ?_ ?_ ?_ ?_ ?_ ?_ ?_ ?_ ?_ ?_ ?_ a b <;> decide
theorem note_node (b : Bool) (ts : List T) : noteL (.node b ts) = opn b :: (joinT ts ++ [cls b]) := by rw [noteL]
theorem note_b : ∀ {t : T}, Ok t → (noteL t).length + 3 ≤ 5 * (seat t).length := by
  intro t
  induction t using T.ind with
  | hl g => intro _; rw [noteL, seat]; have := digs_len g; simp; omega
  | hn b ts ih =>
    intro h
    rw [Ok] at h
    rw [noteL, seat]
    have key : ∀ us : List T, (∀ t ∈ us, t ∈ ts) → (restT us).length + 2 * us.length ≤ 5 * (seats us).length := fun us => by
      induction us with
      | nil => intro _; rw [restT, seats]; simp
      | cons t r ihr =>
        intro hm
        have h1 := ih t (hm t List.mem_cons_self) (oks_iff.1 h.2 t (hm t List.mem_cons_self))
        have h2 := ihr fun u hu => hm u (List.mem_cons_of_mem _ hu)
        rw [restT, seats, List.length_cons, List.length_append, List.length_append, List.length_cons]; omega
    have h3 := h.1
    cases ts with
    | nil => revert h3; cases b <;> simp
    | cons t r =>
      have h1 := ih t List.mem_cons_self (oks_iff.1 h.2 t List.mem_cons_self)
      have h2 := key r fun u hu => List.mem_cons_of_mem _ hu
      have h4 : 1 ≤ r.length := by revert h3; cases b <;> simp <;> omega
      rw [joinT, seats, List.length_cons, List.length_append, List.length_append, List.length_append, List.length_singleton]; omega
theorem note_c {t : T} : Ok t → ∀ c ∈ noteL t, c < 128 := by
  induction t using T.ind with
  | hl g =>
    intro h c hc
    rw [Ok] at h
    rw [noteL] at hc
    have := digs_c h.1 (by omega) c hc
    omega
  | hn b ts ih =>
    intro h c hc
    rw [Ok] at h
    have key : ∀ us : List T, (∀ t ∈ us, t ∈ ts) → (∀ c ∈ restT us, c < 128) ∧ ∀ c ∈ joinT us, c < 128 := fun us => by
      induction us with
      | nil => intro _; rw [restT, joinT]; simp
      | cons t r ihr =>
        intro hm
        have h1 := ih t (hm t List.mem_cons_self) (oks_iff.1 h.2 t (hm t List.mem_cons_self))
        have h2 := ihr fun u hu => hm u (List.mem_cons_of_mem _ hu)
        rw [restT, joinT]
        refine ⟨fun c hc => ?_, fun c hc => ?_⟩
        · rcases List.mem_cons.1 hc with rfl | hc
          · decide
          · rcases List.mem_append.1 hc with hc | hc
            · exact h1 c hc
            · exact h2.1 c hc
        · rcases List.mem_append.1 hc with hc | hc
          · exact h1 c hc
          · exact h2.1 c hc
    rw [noteL] at hc
    rcases List.mem_cons.1 hc with rfl | hc
    · cases b <;> decide
    · rcases List.mem_append.1 hc with hc | hc
      · exact (key ts fun t h => h).2 c hc
      · rw [List.mem_singleton] at hc; subst hc; cases b <;> decide
theorem join_T : ∀ ts : List T, Str.join " " (ts.map fun t => sL (noteL t)) = sL (joinT ts)
  | [] => by rw [joinT]; rfl
  | [t] => by rw [joinT, restT, List.append_nil]; rfl
  | t :: u :: r => by
    have ih := join_T (u :: r)
    show sL (noteL t) ++ (" " : Str) ++ Str.join " " ((u :: r).map fun t => sL (noteL t)) = _
    rw [ih, show (" " : Str) = sL [32] from str_ext (by decide +kernel), sL_app, sL_app, joinT, joinT, restT]
    simp
end TT
set_option maxRecDepth 100000
set_option maxHeartbeats 4000000
namespace K02
open PySem L2 DL
/-! ## the text -/
def topS (i : Nat) : Stmt := PySem.Challenge.pw_sidebyside_k02_trees_written_and_read.main.body.getD i (.Pass ⟨0, 0, 0, 0⟩)
/-! ### is_among -/
abbrev s_is_among : Stmt := topS 8
abbrev N_is_among : List Str := ["thing", "least", "most"]
theorem sc_is_among : FnScope N_is_among ["thing", "least", "most"] (defScope s_is_among) := ⟨rfl, rfl, rfl, by decide +kernel, rfl, by decide +kernel, by decide +kernel⟩
theorem nm_is_among_0 : Nm N_is_among (defScope s_is_among) 0 "thing" := nm_of (by decide +kernel)
theorem nm_is_among_1 : Nm N_is_among (defScope s_is_among) 1 "least" := nm_of (by decide +kernel)
theorem nm_is_among_2 : Nm N_is_among (defScope s_is_among) 2 "most" := nm_of (by decide +kernel)
def F_is_among : DL.Env → Out := (retS (andR (bdR (rdD 0) (isiD "int")) (andR (notR (bdR (rdD 0) (isiD "bool"))) (chainR leD leD (rdD 1) (rdD 0) (rdD 2)))))
def G_is_among : List D → R D := defG 3 N_is_among (F_is_among  )
section
variable {P : Program} {w : World} {K : PySem.W.Frag} {mg : Str → Option Value} {base : Heap} {k : Nat}
theorem bd_is_among (m_isinstance : mg "isinstance" = none) (m_bool : mg "bool" = none) (m_int : mg "int" = none) {f : Addr} {cdv : Value} {A : Around} {outer : List PySem.Env} {s : Shared} {H : Hp} {E : XK} (hr : Room k (A.deeper (PyProof.Rows.envOfC "is_among" (defScope s_is_among) s.heap.objs.size f cdv))) :
    DSs (· = cxD P w K mg base N_is_among "is_among" (defScope s_is_among) f cdv A outer s H E) K mg (fun cls d _ H => E cls d H) (defBody s_is_among) (F_is_among  ) := by
  have c := cxs_def (P := P) (w := w) (K := K) (mg := mg) (base := base) (k := k) (H := H) (E := E) (outer := outer) sc_is_among hr
  exact (dss_one (ds_ret (de_and (de_isi (T := "int") c (gm_of (by decide +kernel)) m_isinstance (de_name c nm_is_among_0) (gm_of (by decide +kernel)) m_int (by decide +kernel) (by decide)) (de_and (de_not (de_isi (T := "bool") c (gm_of (by decide +kernel)) m_isinstance (de_name c nm_is_among_0) (gm_of (by decide +kernel)) m_bool (by decide +kernel) (by decide))) (de_one (de_lele (de_name c nm_is_among_1) (de_name c nm_is_among_0) (de_name c nm_is_among_2)))))))
theorem fn_is_among (m_isinstance : mg "isinstance" = none) (m_bool : mg "bool" = none) (m_int : mg "int" = none) {f : Addr} {fd : FuncData} (Fu : L2.Fun K "is_among" "is_among" s_is_among f fd) (gx : mg "is_among" = some (.ref f)) (hb : Binds K fd ["thing", "least", "most"] []) : Fn P w K mg base (k + 1) "is_among" 3 (G_is_among  ) :=
  fn_def Fu sc_is_among gx hb (fun cdv A outer s H E hr => bd_is_among  m_isinstance m_bool m_int hr) (defG_ok rfl)
end
def g_is_among : List D → R D := G_is_among  
theorem e_is_among (a0 a1 a2 : D) : g_is_among [a0, a1, a2] = defR (F_is_among   [.dat a0, .dat a1, .dat a2]) := nrfl rfl
/-! ### guests_in -/
abbrev s_guests_in : Stmt := topS 9
abbrev N_guests_in : List Str := ["thing", "deep", "most", "found", "part", "more"]
theorem sc_guests_in : FnScope N_guests_in ["thing", "deep", "most"] (defScope s_guests_in) := ⟨rfl, rfl, rfl, by decide +kernel, rfl, by decide +kernel, by decide +kernel⟩
theorem nm_guests_in_0 : Nm N_guests_in (defScope s_guests_in) 0 "thing" := nm_of (by decide +kernel)
theorem nm_guests_in_1 : Nm N_guests_in (defScope s_guests_in) 1 "deep" := nm_of (by decide +kernel)
theorem nm_guests_in_2 : Nm N_guests_in (defScope s_guests_in) 2 "most" := nm_of (by decide +kernel)
theorem nm_guests_in_3 : Nm N_guests_in (defScope s_guests_in) 3 "found" := nm_of (by decide +kernel)
theorem nm_guests_in_4 : Nm N_guests_in (defScope s_guests_in) 4 "part" := nm_of (by decide +kernel)
theorem nm_guests_in_5 : Nm N_guests_in (defScope s_guests_in) 5 "more" := nm_of (by decide +kernel)
def F_guests_in (g_is_among g_guests_in : List D → R D) : DL.Env → Out := (seqS (ifS (andT (toB (opR gtD (rdD 2) (fun _ => R.ok (.int 0)))) (toT (callR g_is_among (consR (rdD 0) (consR (fun _ => R.ok (.int 0)) (consR (opR subD (fun _ => R.ok (.int 12)) (fun _ => R.ok (.int 1))) (fun _ => R.ok []))))))) (retS (fun _ => R.ok (.int 1))) nxS) (seqS (ifS (orT (toB (opR ltD (rdD 2) (fun _ => R.ok (.int 1)))) (orT (toB (opR eqD (rdD 1) (fun _ => R.ok (.int 0)))) (orT (notT (toT (bdR (rdD 0) (isiD "tuple")))) (orT (toB (opR neD (callR lenD (consR (rdD 0) (fun _ => R.ok []))) (fun _ => R.ok (.int 2)))) (notT (toT (bdR (opR ixD (rdD 0) (fun _ => R.ok (.int 0))) (isiD "str")))))))) (retS (fun _ => R.ok .none)) nxS) (seqS (ifS (orT (toB (opR (inD true) (opR ixD (rdD 0) (fun _ => R.ok (.int 0))) (tupR (consR (fun _ => R.ok (.str "stools")) (consR (fun _ => R.ok (.str "bench")) (fun _ => R.ok [])))))) (notT (toT (bdR (opR ixD (rdD 0) (fun _ => R.ok (.int 1))) (isiD "tuple"))))) (retS (fun _ => R.ok .none)) nxS) (seqS (ifS (orT (toB (opR ltD (callR lenD (consR (opR ixD (rdD 0) (fun _ => R.ok (.int 1))) (fun _ => R.ok []))) (fun _ => R.ok (.int 2)))) (andT (toB (opR eqD (opR ixD (rdD 0) (fun _ => R.ok (.int 0))) (fun _ => R.ok (.str "bench")))) (toB (opR ltD (callR lenD (consR (opR ixD (rdD 0) (fun _ => R.ok (.int 1))) (fun _ => R.ok []))) (fun _ => R.ok (.int 3)))))) (retS (fun _ => R.ok .none)) nxS) (seqS (setS 3 (fun _ => R.ok (.int 0))) (seqS (forI (bdR (opR ixD (rdD 0) (fun _ => R.ok (.int 1))) itemsT) (tgN 4) (seqS (setS 5 (callR g_guests_in (consR (rdD 4) (consR (opR subD (rdD 1) (fun _ => R.ok (.int 1))) (consR (opR subD (rdD 2) (rdD 3)) (fun _ => R.ok [])))))) (seqS (ifS (toB (opR (pIs false) (rdD 5) (fun _ => R.ok .none))) (retS (fun _ => R.ok .none)) nxS) (augS 3 (rdD 5))))) (retS (rdD 3))))))))
def G_guests_in (g_is_among g_guests_in : List D → R D) : List D → R D := defG 3 N_guests_in (F_guests_in g_is_among g_guests_in )
section
variable {P : Program} {w : World} {K : PySem.W.Frag} {mg : Str → Option Value} {base : Heap} {k : Nat}
theorem bd_guests_in {g_is_among g_guests_in : List D → R D} (h_is_among : Fn P w K mg base k "is_among" 3 g_is_among) (h_guests_in : Fn P w K mg base k "guests_in" 3 g_guests_in) (m_isinstance : mg "isinstance" = none) (m_tuple : mg "tuple" = none) (m_len : mg "len" = none) (m_str : mg "str" = none) (v_MOST_GUESTS : ∃ t : Tok, mg "MOST_GUESTS" = some (.int 12 t)) (v_FEWEST_STOOLS : ∃ t : Tok, mg "FEWEST_STOOLS" = some (.int 2 t)) (v_FEWEST_BENCH : ∃ t : Tok, mg "FEWEST_BENCH" = some (.int 3 t)) {f : Addr} {cdv : Value} {A : Around} {outer : List PySem.Env} {s : Shared} {H : Hp} {E : XK} (hr : Room k (A.deeper (PyProof.Rows.envOfC "guests_in" (defScope s_guests_in) s.heap.objs.size f cdv))) :
    DSs (· = cxD P w K mg base N_guests_in "guests_in" (defScope s_guests_in) f cdv A outer s H E) K mg (fun cls d _ H => E cls d H) (defBody s_guests_in) (F_guests_in g_is_among g_guests_in ) := by
  have c := cxs_def (P := P) (w := w) (K := K) (mg := mg) (base := base) (k := k) (H := H) (E := E) (outer := outer) sc_guests_in hr
  exact (dss_cons (ds_if (dt_w (dw_and (dt_gt (de_name c nm_guests_in_2) de_int) (dw_and1 (dt_tru c (de_call c h_is_among (Nat.le_refl _) (gm_of (by decide +kernel)) (da_cons (de_name c nm_guests_in_0) (da_cons de_int (da_cons (de_sub (de_globI c (gm_of (by decide +kernel)) v_MOST_GUESTS.choose_spec) de_int) da_nil)))))))) (dss_one (ds_ret de_int)) dss_nil) (dss_cons (ds_if (dt_w (dw_or (dt_lt (de_name c nm_guests_in_2) de_int) (dw_or (dt_eq c (de_name c nm_guests_in_1) de_int) (dw_or (dt_not (dt_tru c (de_isi (T := "tuple") c (gm_of (by decide +kernel)) m_isinstance (de_name c nm_guests_in_0) (gm_of (by decide +kernel)) m_tuple (by decide +kernel) (by decide)))) (dw_or (dt_ne c (de_len c (gm_of (by decide +kernel)) m_len (da_cons (de_name c nm_guests_in_0) da_nil)) de_int) (dw_or1 (dt_not (dt_tru c (de_isi (T := "str") c (gm_of (by decide +kernel)) m_isinstance (de_ix c (de_name c nm_guests_in_0) de_int) (gm_of (by decide +kernel)) m_str (by decide +kernel) (by decide)))))))))) (dss_one (ds_ret de_non)) dss_nil) (dss_cons (ds_if (dt_w (dw_or (dt_notin c (de_ix c (de_name c nm_guests_in_0) de_int) (de_tup (da_cons de_str (da_cons de_str da_nil)))) (dw_or1 (dt_not (dt_tru c (de_isi (T := "tuple") c (gm_of (by decide +kernel)) m_isinstance (de_ix c (de_name c nm_guests_in_0) de_int) (gm_of (by decide +kernel)) m_tuple (by decide +kernel) (by decide))))))) (dss_one (ds_ret de_non)) dss_nil) (dss_cons (ds_if (dt_w (dw_or (dt_lt (de_len c (gm_of (by decide +kernel)) m_len (da_cons (de_ix c (de_name c nm_guests_in_0) de_int) da_nil)) (de_globI c (gm_of (by decide +kernel)) v_FEWEST_STOOLS.choose_spec)) (dw_or1 (dt_w (dw_and (dt_eq c (de_ix c (de_name c nm_guests_in_0) de_int) de_str) (dw_and1 (dt_lt (de_len c (gm_of (by decide +kernel)) m_len (da_cons (de_ix c (de_name c nm_guests_in_0) de_int) da_nil)) (de_globI c (gm_of (by decide +kernel)) v_FEWEST_BENCH.choose_spec)))))))) (dss_one (ds_ret de_non)) dss_nil) (dss_cons (ds_set c (lm_ofD (i := 3) (by decide +kernel)) de_int) (dss_cons (ds_for c (nx_N 4) (di_tup c (de_ix c (de_name c nm_guests_in_0) de_int)) (dg_name c (lm_ofD (i := 4) (by decide +kernel))) (dss_cons (ds_set c (lm_ofD (i := 5) (by decide +kernel)) (de_call c h_guests_in (Nat.le_refl _) (gm_of (by decide +kernel)) (da_cons (de_name c nm_guests_in_4) (da_cons (de_sub (de_name c nm_guests_in_1) de_int) (da_cons (de_sub (de_name c nm_guests_in_2) (de_name c nm_guests_in_3)) da_nil))))) (dss_cons (ds_if (dt_isN (de_name c nm_guests_in_5) de_non) (dss_one (ds_ret de_non)) dss_nil) (dss_one (ds_aug c (lm_ofD (i := 3) (by decide +kernel)) (de_name c nm_guests_in_5)))))) (dss_one (ds_ret (de_name c nm_guests_in_3)))))))))
theorem fn_guests_in {g_is_among g_guests_in : List D → R D} (h_is_among : Fn P w K mg base k "is_among" 3 g_is_among) (h_guests_in : Fn P w K mg base k "guests_in" 3 g_guests_in) (m_isinstance : mg "isinstance" = none) (m_tuple : mg "tuple" = none) (m_len : mg "len" = none) (m_str : mg "str" = none) (v_MOST_GUESTS : ∃ t : Tok, mg "MOST_GUESTS" = some (.int 12 t)) (v_FEWEST_STOOLS : ∃ t : Tok, mg "FEWEST_STOOLS" = some (.int 2 t)) (v_FEWEST_BENCH : ∃ t : Tok, mg "FEWEST_BENCH" = some (.int 3 t)) {f : Addr} {fd : FuncData} (Fu : L2.Fun K "guests_in" "guests_in" s_guests_in f fd) (gx : mg "guests_in" = some (.ref f)) (hb : Binds K fd ["thing", "deep", "most"] []) : Fn P w K mg base (k + 1) "guests_in" 3 (G_guests_in g_is_among g_guests_in ) :=
  fn_def Fu sc_guests_in gx hb (fun cdv A outer s H E hr => bd_guests_in  h_is_among h_guests_in m_isinstance m_tuple m_len m_str v_MOST_GUESTS v_FEWEST_STOOLS v_FEWEST_BENCH hr) (defG_ok rfl)
end
def fN_guests_in : Nat → List D → R D
  | 0 => fun _ => .bad
  | n + 1 => G_guests_in g_is_among (fN_guests_in n) 
theorem e_guests_in (n : Nat) (a0 a1 a2 : D) : fN_guests_in (n + 1) [a0, a1, a2] = defR (F_guests_in g_is_among (fN_guests_in n)  [.dat a0, .dat a1, .dat a2, .no, .no, .no]) := nrfl rfl
def g_guests_in : List D → R D := fN_guests_in 20
/-! ### seated -/
abbrev s_seated : Stmt := topS 10
abbrev N_seated : List Str := ["tree", "found", "part"]
theorem sc_seated : FnScope N_seated ["tree"] (defScope s_seated) := ⟨rfl, rfl, rfl, by decide +kernel, rfl, by decide +kernel, by decide +kernel⟩
theorem nm_seated_0 : Nm N_seated (defScope s_seated) 0 "tree" := nm_of (by decide +kernel)
theorem nm_seated_1 : Nm N_seated (defScope s_seated) 1 "found" := nm_of (by decide +kernel)
theorem nm_seated_2 : Nm N_seated (defScope s_seated) 2 "part" := nm_of (by decide +kernel)
def F_seated (g_is_among g_seated : List D → R D) : DL.Env → Out := (seqS (ifS (toT (callR g_is_among (consR (rdD 0) (consR (fun _ => R.ok (.int 0)) (consR (opR subD (fun _ => R.ok (.int 12)) (fun _ => R.ok (.int 1))) (fun _ => R.ok [])))))) (retS (asL (lstR (consR (rdD 0) (fun _ => R.ok []))))) nxS) (seqS (setL 1 (lstR (fun _ => R.ok []))) (seqS (forI (bdR (opR ixD (rdD 0) (fun _ => R.ok (.int 1))) itemsT) (tgN 2) (extS 1 (callR g_seated (consR (rdD 2) (fun _ => R.ok []))))) (frR 1 (retS (rdD 1))))))
def G_seated (g_is_among g_seated : List D → R D) : List D → R D := defG 1 N_seated (F_seated g_is_among g_seated )
section
variable {P : Program} {w : World} {K : PySem.W.Frag} {mg : Str → Option Value} {base : Heap} {k : Nat}
theorem bd_seated {g_is_among g_seated : List D → R D} (h_is_among : Fn P w K mg base k "is_among" 3 g_is_among) (h_seated : Fn P w K mg base k "seated" 1 g_seated) (v_MOST_GUESTS : ∃ t : Tok, mg "MOST_GUESTS" = some (.int 12 t)) {f : Addr} {cdv : Value} {A : Around} {outer : List PySem.Env} {s : Shared} {H : Hp} {E : XK} (hr : Room k (A.deeper (PyProof.Rows.envOfC "seated" (defScope s_seated) s.heap.objs.size f cdv))) :
    DSs (· = cxD P w K mg base N_seated "seated" (defScope s_seated) f cdv A outer s H E) K mg (fun cls d _ H => E cls d H) (defBody s_seated) (F_seated g_is_among g_seated ) := by
  have c := cxs_def (P := P) (w := w) (K := K) (mg := mg) (base := base) (k := k) (H := H) (E := E) (outer := outer) sc_seated hr
  exact (dss_cons (ds_if (dt_tru c (de_call c h_is_among (Nat.le_refl _) (gm_of (by decide +kernel)) (da_cons (de_name c nm_seated_0) (da_cons de_int (da_cons (de_sub (de_globI c (gm_of (by decide +kernel)) v_MOST_GUESTS.choose_spec) de_int) da_nil))))) (dss_one (ds_ret (de_l (dn_lst (da_cons (de_name c nm_seated_0) da_nil))))) dss_nil) (dss_cons (ds_setN c (lm_ofD (i := 1) (by decide +kernel)) (dn_lst da_nil)) (dss_cons (ds_for c (nx_N 2) (di_tup c (de_ix c (de_name c nm_seated_0) de_int)) (dg_name c (lm_ofD (i := 2) (by decide +kernel))) (dss_one (ds_extend c nm_seated_1 (de_call c h_seated (Nat.le_refl _) (gm_of (by decide +kernel)) (da_cons (de_name c nm_seated_2) da_nil)) (fun X t h p1 p2 => pe_bm PySem.F.plainAttrs_list PySem.F.slot_list_extend PySem.F.type_list_extend mt_extend p1 (pa_cons p2 pa_nil))))) (dss_one (ds_frz 1 (ds_ret (de_name c nm_seated_1)))))))
theorem fn_seated {g_is_among g_seated : List D → R D} (h_is_among : Fn P w K mg base k "is_among" 3 g_is_among) (h_seated : Fn P w K mg base k "seated" 1 g_seated) (v_MOST_GUESTS : ∃ t : Tok, mg "MOST_GUESTS" = some (.int 12 t)) {f : Addr} {fd : FuncData} (Fu : L2.Fun K "seated" "seated" s_seated f fd) (gx : mg "seated" = some (.ref f)) (hb : Binds K fd ["tree"] []) : Fn P w K mg base (k + 1) "seated" 1 (G_seated g_is_among g_seated ) :=
  fn_def Fu sc_seated gx hb (fun cdv A outer s H E hr => bd_seated  h_is_among h_seated v_MOST_GUESTS hr) (defG_ok rfl)
end
def fN_seated : Nat → List D → R D
  | 0 => fun _ => .bad
  | n + 1 => G_seated g_is_among (fN_seated n) 
theorem e_seated (n : Nat) (a0 : D) : fN_seated (n + 1) [a0] = defR (F_seated g_is_among (fN_seated n)  [.dat a0, .no, .no]) := nrfl rfl
def g_seated : List D → R D := fN_seated 20
/-! ### least_of -/
abbrev s_least_of : Stmt := topS 11
abbrev N_least_of : List Str := ["tree"]
theorem sc_least_of : FnScope N_least_of ["tree"] (defScope s_least_of) := ⟨rfl, rfl, rfl, by decide +kernel, rfl, by decide +kernel, by decide +kernel⟩
theorem nm_least_of_0 : Nm N_least_of (defScope s_least_of) 0 "tree" := nm_of (by decide +kernel)
def F_least_of (g_seated : List D → R D) : DL.Env → Out := (retS (callR minD (consR (callR g_seated (consR (rdD 0) (fun _ => R.ok []))) (fun _ => R.ok []))))
def G_least_of (g_seated : List D → R D) : List D → R D := defG 1 N_least_of (F_least_of g_seated )
section
variable {P : Program} {w : World} {K : PySem.W.Frag} {mg : Str → Option Value} {base : Heap} {k : Nat}
theorem bd_least_of {g_seated : List D → R D} (h_seated : Fn P w K mg base k "seated" 1 g_seated) (m_min : mg "min" = none) {f : Addr} {cdv : Value} {A : Around} {outer : List PySem.Env} {s : Shared} {H : Hp} {E : XK} (hr : Room k (A.deeper (PyProof.Rows.envOfC "least_of" (defScope s_least_of) s.heap.objs.size f cdv))) :
    DSs (· = cxD P w K mg base N_least_of "least_of" (defScope s_least_of) f cdv A outer s H E) K mg (fun cls d _ H => E cls d H) (defBody s_least_of) (F_least_of g_seated ) := by
  have c := cxs_def (P := P) (w := w) (K := K) (mg := mg) (base := base) (k := k) (H := H) (E := E) (outer := outer) sc_least_of hr
  exact (dss_one (ds_ret (de_min c (gm_of (by decide +kernel)) m_min (da_cons (de_call c h_seated (Nat.le_refl _) (gm_of (by decide +kernel)) (da_cons (de_name c nm_least_of_0) da_nil)) da_nil))))
theorem fn_least_of {g_seated : List D → R D} (h_seated : Fn P w K mg base k "seated" 1 g_seated) (m_min : mg "min" = none) {f : Addr} {fd : FuncData} (Fu : L2.Fun K "least_of" "least_of" s_least_of f fd) (gx : mg "least_of" = some (.ref f)) (hb : Binds K fd ["tree"] []) : Fn P w K mg base (k + 1) "least_of" 1 (G_least_of g_seated ) :=
  fn_def Fu sc_least_of gx hb (fun cdv A outer s H E hr => bd_least_of  h_seated m_min hr) (defG_ok rfl)
end
def g_least_of : List D → R D := G_least_of g_seated 
theorem e_least_of (a0 : D) : g_least_of [a0] = defR (F_least_of g_seated  [.dat a0]) := nrfl rfl
/-! ### tidied -/
abbrev s_tidied : Stmt := topS 12
abbrev N_tidied : List Str := ["tree", "parts", "part"]
theorem sc_tidied : FnScope N_tidied ["tree"] (defScope s_tidied) := ⟨rfl, rfl, rfl, by decide +kernel, rfl, by decide +kernel, by decide +kernel⟩
theorem nm_tidied_0 : Nm N_tidied (defScope s_tidied) 0 "tree" := nm_of (by decide +kernel)
theorem nm_tidied_1 : Nm N_tidied (defScope s_tidied) 1 "parts" := nm_of (by decide +kernel)
def F_tidied (g_is_among g_tidied g_least_of : List D → R D) : DL.Env → Out := (seqS (ifS (toT (callR g_is_among (consR (rdD 0) (consR (fun _ => R.ok (.int 0)) (consR (opR subD (fun _ => R.ok (.int 12)) (fun _ => R.ok (.int 1))) (fun _ => R.ok [])))))) (retS (rdD 0)) nxS) (seqS (setS 1 (asL (lcR (bdR (opR ixD (rdD 0) (fun _ => R.ok (.int 1))) itemsT) (tgN 2) (fun _ => R.ok true) (callR g_tidied (consR (rdD 2) (fun _ => R.ok []))) [2]))) (seqS (ifS (toB (opR eqD (opR ixD (rdD 0) (fun _ => R.ok (.int 0))) (fun _ => R.ok (.str "stools")))) (retS (tupR (consR (fun _ => R.ok (.str "stools")) (consR (callR tupD (consR (asL (bdR (rdD 1) (sortKD g_least_of))) (fun _ => R.ok []))) (fun _ => R.ok []))))) nxS) (seqS (ifS (toB (opR gtD (callR g_least_of (consR (opR ixD (rdD 1) (fun _ => R.ok (.int 0))) (fun _ => R.ok []))) (callR g_least_of (consR (opR ixD (rdD 1) (fun _ => R.ok (.int (-1)))) (fun _ => R.ok []))))) (setS 1 (asL (revR (rdD 1)))) nxS) (retS (tupR (consR (fun _ => R.ok (.str "bench")) (consR (callR tupD (consR (rdD 1) (fun _ => R.ok []))) (fun _ => R.ok [])))))))))
def G_tidied (g_is_among g_tidied g_least_of : List D → R D) : List D → R D := defG 1 N_tidied (F_tidied g_is_among g_tidied g_least_of )
section
variable {P : Program} {w : World} {K : PySem.W.Frag} {mg : Str → Option Value} {base : Heap} {k : Nat}
theorem bd_tidied {g_is_among g_tidied g_least_of : List D → R D} (h_is_among : Fn P w K mg base k "is_among" 3 g_is_among) (h_tidied : Fn P w K mg base k "tidied" 1 g_tidied) (h_least_of : Fn P w K mg base k "least_of" 1 g_least_of) (m_sorted : mg "sorted" = none) (m_tuple : mg "tuple" = none) (v_MOST_GUESTS : ∃ t : Tok, mg "MOST_GUESTS" = some (.int 12 t)) {f : Addr} {cdv : Value} {A : Around} {outer : List PySem.Env} {s : Shared} {H : Hp} {E : XK} (hr : Room (k + 2) (A.deeper (PyProof.Rows.envOfC "tidied" (defScope s_tidied) s.heap.objs.size f cdv))) :
    DSs (· = cxD P w K mg base N_tidied "tidied" (defScope s_tidied) f cdv A outer s H E) K mg (fun cls d _ H => E cls d H) (defBody s_tidied) (F_tidied g_is_among g_tidied g_least_of ) := by
  have c := cxs_def (P := P) (w := w) (K := K) (mg := mg) (base := base) (k := (k + 2)) (H := H) (E := E) (outer := outer) sc_tidied hr
  exact (dss_cons (ds_if (dt_tru c (de_call c h_is_among (Nat.le_add_right _ 2) (gm_of (by decide +kernel)) (da_cons (de_name c nm_tidied_0) (da_cons de_int (da_cons (de_sub (de_globI c (gm_of (by decide +kernel)) v_MOST_GUESTS.choose_spec) de_int) da_nil))))) (dss_one (ds_ret (de_name c nm_tidied_0))) dss_nil) (dss_cons (ds_setLcD (own := [("part", 2)]) c (i := 1) rfl (by decide +kernel) (di_tup c (de_ix c (de_name c nm_tidied_0) de_int)) (by decide +kernel) (dg_name (cxs_blk c) (lm_of (i := 2) (by decide +kernel))) (by decide) dts_nil (de_call (cxs_blk c) h_tidied (Nat.le_add_right _ 2) (gm_of (by decide +kernel)) (da_cons (de_name (cxs_blk c) (nm_of (i := 2) (by decide +kernel))) da_nil)) rfl rfl (by decide +kernel)) (dss_cons (ds_if (dt_eq c (de_ix c (de_name c nm_tidied_0) de_int) de_str) (dss_one (ds_ret (de_tup (da_cons de_str (da_cons (de_tupc c (gm_of (by decide +kernel)) m_tuple (da_cons (de_l (dn_sortedK c (gm_of (by decide +kernel)) m_sorted h_least_of (Nat.le_refl _) (gm_of (by decide +kernel)) (de_name c nm_tidied_1))) da_nil)) da_nil))))) dss_nil) (dss_cons (ds_if (dt_gt (de_call c h_least_of (Nat.le_add_right _ 2) (gm_of (by decide +kernel)) (da_cons (de_ix c (de_name c nm_tidied_1) de_int) da_nil)) (de_call c h_least_of (Nat.le_add_right _ 2) (gm_of (by decide +kernel)) (da_cons (de_ix c (de_name c nm_tidied_1) de_neg) da_nil))) (dss_one (ds_set c (lm_ofD (i := 1) (by decide +kernel)) (de_l (dn_rev c (de_name c nm_tidied_1))))) dss_nil) (dss_one (ds_ret (de_tup (da_cons de_str (da_cons (de_tupc c (gm_of (by decide +kernel)) m_tuple (da_cons (de_name c nm_tidied_1) da_nil)) da_nil)))))))))
theorem fn_tidied {g_is_among g_tidied g_least_of : List D → R D} (h_is_among : Fn P w K mg base k "is_among" 3 g_is_among) (h_tidied : Fn P w K mg base k "tidied" 1 g_tidied) (h_least_of : Fn P w K mg base k "least_of" 1 g_least_of) (m_sorted : mg "sorted" = none) (m_tuple : mg "tuple" = none) (v_MOST_GUESTS : ∃ t : Tok, mg "MOST_GUESTS" = some (.int 12 t)) {f : Addr} {fd : FuncData} (Fu : L2.Fun K "tidied" "tidied" s_tidied f fd) (gx : mg "tidied" = some (.ref f)) (hb : Binds K fd ["tree"] []) : Fn P w K mg base ((k + 2) + 1) "tidied" 1 (G_tidied g_is_among g_tidied g_least_of ) :=
  fn_def Fu sc_tidied gx hb (fun cdv A outer s H E hr => bd_tidied  h_is_among h_tidied h_least_of m_sorted m_tuple v_MOST_GUESTS hr) (defG_ok rfl)
end
def fN_tidied : Nat → List D → R D
  | 0 => fun _ => .bad
  | n + 1 => G_tidied g_is_among (fN_tidied n) g_least_of 
theorem e_tidied (n : Nat) (a0 : D) : fN_tidied (n + 1) [a0] = defR (F_tidied g_is_among (fN_tidied n) g_least_of  [.dat a0, .no, .no]) := nrfl rfl
def g_tidied : List D → R D := fN_tidied 20
/-! ### is_tree -/
abbrev s_is_tree : Stmt := topS 13
abbrev N_is_tree : List Str := ["thing", "guests"]
theorem sc_is_tree : FnScope N_is_tree ["thing"] (defScope s_is_tree) := ⟨rfl, rfl, rfl, by decide +kernel, rfl, by decide +kernel, by decide +kernel⟩
theorem nm_is_tree_0 : Nm N_is_tree (defScope s_is_tree) 0 "thing" := nm_of (by decide +kernel)
theorem nm_is_tree_1 : Nm N_is_tree (defScope s_is_tree) 1 "guests" := nm_of (by decide +kernel)
def F_is_tree (g_guests_in g_seated g_tidied : List D → R D) : DL.Env → Out := (seqS (ifS (toB (opR (pIs false) (callR g_guests_in (consR (rdD 0) (consR (fun _ => R.ok (.int 12)) (consR (fun _ => R.ok (.int 12)) (fun _ => R.ok []))))) (fun _ => R.ok .none))) (retS (fun _ => R.ok (.bool false))) nxS) (seqS (setS 1 (callR g_seated (consR (rdD 0) (fun _ => R.ok [])))) (retS (andR (opR eqD (asL (bdR (consR (rdD 1) (fun _ => R.ok [])) sortD)) (asL (bdR (callR lenD (consR (rdD 1) (fun _ => R.ok []))) lrg1))) (opR eqD (callR g_tidied (consR (rdD 0) (fun _ => R.ok []))) (rdD 0))))))
def G_is_tree (g_guests_in g_seated g_tidied : List D → R D) : List D → R D := defG 1 N_is_tree (F_is_tree g_guests_in g_seated g_tidied )
section
variable {P : Program} {w : World} {K : PySem.W.Frag} {mg : Str → Option Value} {base : Heap} {k : Nat}
theorem bd_is_tree {g_guests_in g_seated g_tidied : List D → R D} (h_guests_in : Fn P w K mg base k "guests_in" 3 g_guests_in) (h_seated : Fn P w K mg base k "seated" 1 g_seated) (h_tidied : Fn P w K mg base k "tidied" 1 g_tidied) (m_sorted : mg "sorted" = none) (m_len : mg "len" = none) (m_list : mg "list" = none) (m_range : mg "range" = none) (v_MOST_GUESTS : ∃ t : Tok, mg "MOST_GUESTS" = some (.int 12 t)) {f : Addr} {cdv : Value} {A : Around} {outer : List PySem.Env} {s : Shared} {H : Hp} {E : XK} (hr : Room k (A.deeper (PyProof.Rows.envOfC "is_tree" (defScope s_is_tree) s.heap.objs.size f cdv))) :
    DSs (· = cxD P w K mg base N_is_tree "is_tree" (defScope s_is_tree) f cdv A outer s H E) K mg (fun cls d _ H => E cls d H) (defBody s_is_tree) (F_is_tree g_guests_in g_seated g_tidied ) := by
  have c := cxs_def (P := P) (w := w) (K := K) (mg := mg) (base := base) (k := k) (H := H) (E := E) (outer := outer) sc_is_tree hr
  exact (dss_cons (ds_if (dt_isN (de_call c h_guests_in (Nat.le_refl _) (gm_of (by decide +kernel)) (da_cons (de_name c nm_is_tree_0) (da_cons (de_globI c (gm_of (by decide +kernel)) v_MOST_GUESTS.choose_spec) (da_cons (de_globI c (gm_of (by decide +kernel)) v_MOST_GUESTS.choose_spec) da_nil)))) de_non) (dss_one (ds_ret de_bl)) dss_nil) (dss_cons (ds_set c (lm_ofD (i := 1) (by decide +kernel)) (de_call c h_seated (Nat.le_refl _) (gm_of (by decide +kernel)) (da_cons (de_name c nm_is_tree_0) da_nil))) (dss_one (ds_ret (de_and (de_eq c (de_l (dn_sorted c (gm_of (by decide +kernel)) m_sorted (da_cons (de_name c nm_is_tree_1) da_nil))) (de_l (dn_listRange c (gm_of (by decide +kernel)) m_list (gm_of (by decide +kernel)) m_range (de_len c (gm_of (by decide +kernel)) m_len (da_cons (de_name c nm_is_tree_1) da_nil))))) (de_one (de_eq c (de_call c h_tidied (Nat.le_refl _) (gm_of (by decide +kernel)) (da_cons (de_name c nm_is_tree_0) da_nil)) (de_name c nm_is_tree_0))))))))
theorem fn_is_tree {g_guests_in g_seated g_tidied : List D → R D} (h_guests_in : Fn P w K mg base k "guests_in" 3 g_guests_in) (h_seated : Fn P w K mg base k "seated" 1 g_seated) (h_tidied : Fn P w K mg base k "tidied" 1 g_tidied) (m_sorted : mg "sorted" = none) (m_len : mg "len" = none) (m_list : mg "list" = none) (m_range : mg "range" = none) (v_MOST_GUESTS : ∃ t : Tok, mg "MOST_GUESTS" = some (.int 12 t)) {f : Addr} {fd : FuncData} (Fu : L2.Fun K "is_tree" "is_tree" s_is_tree f fd) (gx : mg "is_tree" = some (.ref f)) (hb : Binds K fd ["thing"] []) : Fn P w K mg base (k + 1) "is_tree" 1 (G_is_tree g_guests_in g_seated g_tidied ) :=
  fn_def Fu sc_is_tree gx hb (fun cdv A outer s H E hr => bd_is_tree  h_guests_in h_seated h_tidied m_sorted m_len m_list m_range v_MOST_GUESTS hr) (defG_ok rfl)
end
def g_is_tree : List D → R D := G_is_tree g_guests_in g_seated g_tidied 
theorem e_is_tree (a0 : D) : g_is_tree [a0] = defR (F_is_tree g_guests_in g_seated g_tidied  [.dat a0, .no]) := nrfl rfl
/-! ### need_tree -/
abbrev s_need_tree : Stmt := topS 14
abbrev N_need_tree : List Str := ["tree"]
theorem sc_need_tree : FnScope N_need_tree ["tree"] (defScope s_need_tree) := ⟨rfl, rfl, rfl, by decide +kernel, rfl, by decide +kernel, by decide +kernel⟩
theorem nm_need_tree_0 : Nm N_need_tree (defScope s_need_tree) 0 "tree" := nm_of (by decide +kernel)
def F_need_tree (g_is_tree : List D → R D) : DL.Env → Out := (ifS (notT (toT (callR g_is_tree (consR (rdD 0) (fun _ => R.ok []))))) (fun _ => Out.exc "BadTree") nxS)
def G_need_tree (g_is_tree : List D → R D) : List D → R D := defG 1 N_need_tree (F_need_tree g_is_tree )
section
variable {P : Program} {w : World} {K : PySem.W.Frag} {mg : Str → Option Value} {base : Heap} {k : Nat}
theorem bd_need_tree {g_is_tree : List D → R D} (h_is_tree : Fn P w K mg base k "is_tree" 1 g_is_tree) {C_BadTree : Addr} (x_BadTree : Ex K mg "BadTree" C_BadTree) {f : Addr} {cdv : Value} {A : Around} {outer : List PySem.Env} {s : Shared} {H : Hp} {E : XK} (hr : Room k (A.deeper (PyProof.Rows.envOfC "need_tree" (defScope s_need_tree) s.heap.objs.size f cdv))) :
    DSs (· = cxD P w K mg base N_need_tree "need_tree" (defScope s_need_tree) f cdv A outer s H E) K mg (fun cls d _ H => E cls d H) (defBody s_need_tree) (F_need_tree g_is_tree ) := by
  have c := cxs_def (P := P) (w := w) (K := K) (mg := mg) (base := base) (k := k) (H := H) (E := E) (outer := outer) sc_need_tree hr
  exact (dss_one (ds_if (dt_not (dt_tru c (de_call c h_is_tree (Nat.le_refl _) (gm_of (by decide +kernel)) (da_cons (de_name c nm_need_tree_0) da_nil)))) (dss_one (ds_raise c x_BadTree (gm_of (by decide +kernel)))) dss_nil))
theorem fn_need_tree {g_is_tree : List D → R D} (h_is_tree : Fn P w K mg base k "is_tree" 1 g_is_tree) {C_BadTree : Addr} (x_BadTree : Ex K mg "BadTree" C_BadTree) {f : Addr} {fd : FuncData} (Fu : L2.Fun K "need_tree" "need_tree" s_need_tree f fd) (gx : mg "need_tree" = some (.ref f)) (hb : Binds K fd ["tree"] []) : Fn P w K mg base (k + 1) "need_tree" 1 (G_need_tree g_is_tree ) :=
  fn_def Fu sc_need_tree gx hb (fun cdv A outer s H E hr => bd_need_tree  h_is_tree x_BadTree hr) (defG_ok rfl)
end
def g_need_tree : List D → R D := G_need_tree g_is_tree 
theorem e_need_tree (a0 : D) : g_need_tree [a0] = defR (F_need_tree g_is_tree  [.dat a0]) := nrfl rfl
/-! ### note_of -/
abbrev s_note_of : Stmt := topS 19
abbrev N_note_of : List Str := ["tree", "inner", "part"]
theorem sc_note_of : FnScope N_note_of ["tree"] (defScope s_note_of) := ⟨rfl, rfl, rfl, by decide +kernel, rfl, by decide +kernel, by decide +kernel⟩
theorem nm_note_of_0 : Nm N_note_of (defScope s_note_of) 0 "tree" := nm_of (by decide +kernel)
theorem nm_note_of_1 : Nm N_note_of (defScope s_note_of) 1 "inner" := nm_of (by decide +kernel)
def F_note_of (g_note_of : List D → R D) : DL.Env → Out := (seqS (ifS (toT (bdR (rdD 0) (isiD "int"))) (retS (callR strD (consR (rdD 0) (fun _ => R.ok [])))) nxS) (seqS (setS 1 (joinR (fun _ => R.ok (.str " ")) (asL (lcR (bdR (opR ixD (rdD 0) (fun _ => R.ok (.int 1))) itemsT) (tgN 2) (fun _ => R.ok true) (callR g_note_of (consR (rdD 2) (fun _ => R.ok []))) [2])))) (seqS (ifS (toB (opR eqD (opR ixD (rdD 0) (fun _ => R.ok (.int 0))) (fun _ => R.ok (.str "stools")))) (retS (opR addD (opR addD (fun _ => R.ok (.str "(")) (rdD 1)) (fun _ => R.ok (.str ")")))) nxS) (retS (opR addD (opR addD (fun _ => R.ok (.str "[")) (rdD 1)) (fun _ => R.ok (.str "]")))))))
def G_note_of (g_note_of : List D → R D) : List D → R D := defG 1 N_note_of (F_note_of g_note_of )
section
variable {P : Program} {w : World} {K : PySem.W.Frag} {mg : Str → Option Value} {base : Heap} {k : Nat}
theorem bd_note_of {g_note_of : List D → R D} (h_note_of : Fn P w K mg base k "note_of" 1 g_note_of) (m_isinstance : mg "isinstance" = none) (m_int : mg "int" = none) (m_str : mg "str" = none) {f : Addr} {cdv : Value} {A : Around} {outer : List PySem.Env} {s : Shared} {H : Hp} {E : XK} (hr : Room k (A.deeper (PyProof.Rows.envOfC "note_of" (defScope s_note_of) s.heap.objs.size f cdv))) :
    DSs (· = cxD P w K mg base N_note_of "note_of" (defScope s_note_of) f cdv A outer s H E) K mg (fun cls d _ H => E cls d H) (defBody s_note_of) (F_note_of g_note_of ) := by
  have c := cxs_def (P := P) (w := w) (K := K) (mg := mg) (base := base) (k := k) (H := H) (E := E) (outer := outer) sc_note_of hr
  exact (dss_cons (ds_if (dt_tru c (de_isi (T := "int") c (gm_of (by decide +kernel)) m_isinstance (de_name c nm_note_of_0) (gm_of (by decide +kernel)) m_int (by decide +kernel) (by decide))) (dss_one (ds_ret (de_strc c (gm_of (by decide +kernel)) m_str (da_cons (de_name c nm_note_of_0) da_nil)))) dss_nil) (dss_cons (ds_set c (lm_ofD (i := 1) (by decide +kernel)) (de_join c de_str (de_l (dn_lc (own := [("part", 2)]) c (di_tup c (de_ix c (de_name c nm_note_of_0) de_int)) (by decide +kernel) (dg_name (cxs_blk c) (lm_of (i := 2) (by decide +kernel))) (by decide) dts_nil (de_call (cxs_blk c) h_note_of (Nat.le_refl _) (gm_of (by decide +kernel)) (da_cons (de_name (cxs_blk c) (nm_of (i := 2) (by decide +kernel))) da_nil)))))) (dss_cons (ds_if (dt_eq c (de_ix c (de_name c nm_note_of_0) de_int) de_str) (dss_one (ds_ret (de_add c (de_add c de_str (de_name c nm_note_of_1)) de_str))) dss_nil) (dss_one (ds_ret (de_add c (de_add c de_str (de_name c nm_note_of_1)) de_str))))))
theorem fn_note_of {g_note_of : List D → R D} (h_note_of : Fn P w K mg base k "note_of" 1 g_note_of) (m_isinstance : mg "isinstance" = none) (m_int : mg "int" = none) (m_str : mg "str" = none) {f : Addr} {fd : FuncData} (Fu : L2.Fun K "note_of" "note_of" s_note_of f fd) (gx : mg "note_of" = some (.ref f)) (hb : Binds K fd ["tree"] []) : Fn P w K mg base (k + 1) "note_of" 1 (G_note_of g_note_of ) :=
  fn_def Fu sc_note_of gx hb (fun cdv A outer s H E hr => bd_note_of  h_note_of m_isinstance m_int m_str hr) (defG_ok rfl)
end
def fN_note_of : Nat → List D → R D
  | 0 => fun _ => .bad
  | n + 1 => G_note_of (fN_note_of n) 
theorem e_note_of (n : Nat) (a0 : D) : fN_note_of (n + 1) [a0] = defR (F_note_of (fN_note_of n)  [.dat a0, .no, .no]) := nrfl rfl
def g_note_of : List D → R D := fN_note_of 20
/-! ### shown -/
abbrev s_shown : Stmt := topS 20
abbrev N_shown : List Str := ["tree"]
theorem sc_shown : FnScope N_shown ["tree"] (defScope s_shown) := ⟨rfl, rfl, rfl, by decide +kernel, rfl, by decide +kernel, by decide +kernel⟩
theorem nm_shown_0 : Nm N_shown (defScope s_shown) 0 "tree" := nm_of (by decide +kernel)
def F_shown (g_need_tree g_note_of : List D → R D) : DL.Env → Out := (seqS (dropS (callR g_need_tree (consR (rdD 0) (fun _ => R.ok [])))) (retS (callR g_note_of (consR (rdD 0) (fun _ => R.ok [])))))
def G_shown (g_need_tree g_note_of : List D → R D) : List D → R D := defG 1 N_shown (F_shown g_need_tree g_note_of )
section
variable {P : Program} {w : World} {K : PySem.W.Frag} {mg : Str → Option Value} {base : Heap} {k : Nat}
theorem bd_shown {g_need_tree g_note_of : List D → R D} (h_need_tree : Fn P w K mg base k "need_tree" 1 g_need_tree) (h_note_of : Fn P w K mg base k "note_of" 1 g_note_of) {f : Addr} {cdv : Value} {A : Around} {outer : List PySem.Env} {s : Shared} {H : Hp} {E : XK} (hr : Room k (A.deeper (PyProof.Rows.envOfC "shown" (defScope s_shown) s.heap.objs.size f cdv))) :
    DSs (· = cxD P w K mg base N_shown "shown" (defScope s_shown) f cdv A outer s H E) K mg (fun cls d _ H => E cls d H) (defBody s_shown) (F_shown g_need_tree g_note_of ) := by
  have c := cxs_def (P := P) (w := w) (K := K) (mg := mg) (base := base) (k := k) (H := H) (E := E) (outer := outer) sc_shown hr
  exact (dss_cons (ds_expr (de_call c h_need_tree (Nat.le_refl _) (gm_of (by decide +kernel)) (da_cons (de_name c nm_shown_0) da_nil))) (dss_one (ds_ret (de_call c h_note_of (Nat.le_refl _) (gm_of (by decide +kernel)) (da_cons (de_name c nm_shown_0) da_nil)))))
theorem fn_shown {g_need_tree g_note_of : List D → R D} (h_need_tree : Fn P w K mg base k "need_tree" 1 g_need_tree) (h_note_of : Fn P w K mg base k "note_of" 1 g_note_of) {f : Addr} {fd : FuncData} (Fu : L2.Fun K "shown" "shown" s_shown f fd) (gx : mg "shown" = some (.ref f)) (hb : Binds K fd ["tree"] []) : Fn P w K mg base (k + 1) "shown" 1 (G_shown g_need_tree g_note_of ) :=
  fn_def Fu sc_shown gx hb (fun cdv A outer s H E hr => bd_shown  h_need_tree h_note_of hr) (defG_ok rfl)
end
def g_shown : List D → R D := G_shown g_need_tree g_note_of 
theorem e_shown (a0 : D) : g_shown [a0] = defR (F_shown g_need_tree g_note_of  [.dat a0]) := nrfl rfl
/-! ### need_good -/
abbrev s_need_good : Stmt := topS 21
abbrev N_need_good : List Str := ["good"]
theorem sc_need_good : FnScope N_need_good ["good"] (defScope s_need_good) := ⟨rfl, rfl, rfl, by decide +kernel, rfl, by decide +kernel, by decide +kernel⟩
theorem nm_need_good_0 : Nm N_need_good (defScope s_need_good) 0 "good" := nm_of (by decide +kernel)
def F_need_good : DL.Env → Out := (ifS (notT (toT (rdD 0))) (fun _ => Out.exc "BadNote") nxS)
def G_need_good : List D → R D := defG 1 N_need_good (F_need_good  )
section
variable {P : Program} {w : World} {K : PySem.W.Frag} {mg : Str → Option Value} {base : Heap} {k : Nat}
theorem bd_need_good {C_BadNote : Addr} (x_BadNote : Ex K mg "BadNote" C_BadNote) {f : Addr} {cdv : Value} {A : Around} {outer : List PySem.Env} {s : Shared} {H : Hp} {E : XK} (hr : Room k (A.deeper (PyProof.Rows.envOfC "need_good" (defScope s_need_good) s.heap.objs.size f cdv))) :
    DSs (· = cxD P w K mg base N_need_good "need_good" (defScope s_need_good) f cdv A outer s H E) K mg (fun cls d _ H => E cls d H) (defBody s_need_good) (F_need_good  ) := by
  have c := cxs_def (P := P) (w := w) (K := K) (mg := mg) (base := base) (k := k) (H := H) (E := E) (outer := outer) sc_need_good hr
  exact (dss_one (ds_if (dt_not (dt_tru c (de_name c nm_need_good_0))) (dss_one (ds_raise c x_BadNote (gm_of (by decide +kernel)))) dss_nil))
theorem fn_need_good {C_BadNote : Addr} (x_BadNote : Ex K mg "BadNote" C_BadNote) {f : Addr} {fd : FuncData} (Fu : L2.Fun K "need_good" "need_good" s_need_good f fd) (gx : mg "need_good" = some (.ref f)) (hb : Binds K fd ["good"] []) : Fn P w K mg base (k + 1) "need_good" 1 (G_need_good  ) :=
  fn_def Fu sc_need_good gx hb (fun cdv A outer s H E hr => bd_need_good  x_BadNote hr) (defG_ok rfl)
end
def g_need_good : List D → R D := G_need_good  
theorem e_need_good (a0 : D) : g_need_good [a0] = defR (F_need_good   [.dat a0]) := nrfl rfl
/-! ### guest_from -/
abbrev s_guest_from : Stmt := topS 22
abbrev N_guest_from : List Str := ["text", "at", "end"]
theorem sc_guest_from : FnScope N_guest_from ["text", "at"] (defScope s_guest_from) := ⟨rfl, rfl, rfl, by decide +kernel, rfl, by decide +kernel, by decide +kernel⟩
theorem nm_guest_from_0 : Nm N_guest_from (defScope s_guest_from) 0 "text" := nm_of (by decide +kernel)
theorem nm_guest_from_1 : Nm N_guest_from (defScope s_guest_from) 1 "at" := nm_of (by decide +kernel)
theorem nm_guest_from_2 : Nm N_guest_from (defScope s_guest_from) 2 "end" := nm_of (by decide +kernel)
def F_guest_from (g_need_good : List D → R D) (n0 : DL.Env → Nat) : DL.Env → Out := (seqS (setS 2 (rdD 1)) (seqS (whileI (andT (toB (opR ltD (rdD 2) (callR lenD (consR (rdD 0) (fun _ => R.ok []))))) (andT (toB (opR ltD (rdD 2) (opR addD (rdD 1) (fun _ => R.ok (.int 3))))) (toB (opR (inD false) (opR ixD (rdD 0) (rdD 2)) (fun _ => R.ok (.str "0123456789")))))) (setS 2 (opR addD (rdD 2) (fun _ => R.ok (.int 1)))) n0) (seqS (dropS (callR g_need_good (consR (chainR leD leD (fun _ => R.ok (.int 1)) (opR subD (rdD 2) (rdD 1)) (fun _ => R.ok (.int 2))) (fun _ => R.ok [])))) (retS (tupR (consR (callR intSD (consR (slR (rdD 0) (bdR (rdD 1) partR) (bdR (rdD 2) partR)) (fun _ => R.ok []))) (consR (rdD 2) (fun _ => R.ok []))))))))
def G_guest_from (g_need_good : List D → R D) (n0 : DL.Env → Nat) : List D → R D := defG 2 N_guest_from (F_guest_from g_need_good n0)
section
variable {P : Program} {w : World} {K : PySem.W.Frag} {mg : Str → Option Value} {base : Heap} {k : Nat}
theorem bd_guest_from {g_need_good : List D → R D} (n0 : DL.Env → Nat) (h_need_good : Fn P w K mg base k "need_good" 1 g_need_good) (m_len : mg "len" = none) (m_int : mg "int" = none) (v_FIGURES : ∃ t : Tok, mg "FIGURES" = some (.str "0123456789" t)) {f : Addr} {cdv : Value} {A : Around} {outer : List PySem.Env} {s : Shared} {H : Hp} {E : XK} (hr : Room k (A.deeper (PyProof.Rows.envOfC "guest_from" (defScope s_guest_from) s.heap.objs.size f cdv))) :
    DSs (· = cxD P w K mg base N_guest_from "guest_from" (defScope s_guest_from) f cdv A outer s H E) K mg (fun cls d _ H => E cls d H) (defBody s_guest_from) (F_guest_from g_need_good n0) := by
  have c := cxs_def (P := P) (w := w) (K := K) (mg := mg) (base := base) (k := k) (H := H) (E := E) (outer := outer) sc_guest_from hr
  exact (dss_cons (ds_set c (lm_ofD (i := 2) (by decide +kernel)) (de_name c nm_guest_from_1)) (dss_cons (ds_while n0 c (dt_w (dw_and (dt_lt (de_name c nm_guest_from_2) (de_len c (gm_of (by decide +kernel)) m_len (da_cons (de_name c nm_guest_from_0) da_nil))) (dw_and (dt_lt (de_name c nm_guest_from_2) (de_add c (de_name c nm_guest_from_1) de_int)) (dw_and1 (dt_in c (de_ix c (de_name c nm_guest_from_0) (de_name c nm_guest_from_2)) (de_globS c (gm_of (by decide +kernel)) v_FIGURES.choose_spec)))))) (dss_one (ds_set c (lm_ofD (i := 2) (by decide +kernel)) (de_add c (de_name c nm_guest_from_2) de_int)))) (dss_cons (ds_expr (de_call c h_need_good (Nat.le_refl _) (gm_of (by decide +kernel)) (da_cons (de_lele de_int (de_sub (de_name c nm_guest_from_2) (de_name c nm_guest_from_1)) de_int) da_nil))) (dss_one (ds_ret (de_tup (da_cons (de_intsc c (gm_of (by decide +kernel)) m_int (da_cons (de_slice c (de_name c nm_guest_from_0) (do_some (de_name c nm_guest_from_1)) (do_some (de_name c nm_guest_from_2))) da_nil)) (da_cons (de_name c nm_guest_from_2) da_nil))))))))
theorem fn_guest_from {g_need_good : List D → R D} (n0 : DL.Env → Nat) (h_need_good : Fn P w K mg base k "need_good" 1 g_need_good) (m_len : mg "len" = none) (m_int : mg "int" = none) (v_FIGURES : ∃ t : Tok, mg "FIGURES" = some (.str "0123456789" t)) {f : Addr} {fd : FuncData} (Fu : L2.Fun K "guest_from" "guest_from" s_guest_from f fd) (gx : mg "guest_from" = some (.ref f)) (hb : Binds K fd ["text", "at"] []) : Fn P w K mg base (k + 1) "guest_from" 2 (G_guest_from g_need_good n0) :=
  fn_def Fu sc_guest_from gx hb (fun cdv A outer s H E hr => bd_guest_from n0 h_need_good m_len m_int v_FIGURES hr) (defG_ok rfl)
end
def g_guest_from : List D → R D := G_guest_from g_need_good (fun _ => 400) 
theorem e_guest_from (a0 a1 : D) : g_guest_from [a0, a1] = defR (F_guest_from g_need_good (fun _ => 400)  [.dat a0, .dat a1, .no]) := nrfl rfl
/-! ### tree_from -/
abbrev s_tree_from : Stmt := topS 23
abbrev N_tree_from : List Str := ["text", "at", "deep", "sign", "parts", "part"]
theorem sc_tree_from : FnScope N_tree_from ["text", "at", "deep"] (defScope s_tree_from) := ⟨rfl, rfl, rfl, by decide +kernel, rfl, by decide +kernel, by decide +kernel⟩
theorem nm_tree_from_0 : Nm N_tree_from (defScope s_tree_from) 0 "text" := nm_of (by decide +kernel)
theorem nm_tree_from_1 : Nm N_tree_from (defScope s_tree_from) 1 "at" := nm_of (by decide +kernel)
theorem nm_tree_from_2 : Nm N_tree_from (defScope s_tree_from) 2 "deep" := nm_of (by decide +kernel)
theorem nm_tree_from_3 : Nm N_tree_from (defScope s_tree_from) 3 "sign" := nm_of (by decide +kernel)
theorem nm_tree_from_4 : Nm N_tree_from (defScope s_tree_from) 4 "parts" := nm_of (by decide +kernel)
theorem nm_tree_from_5 : Nm N_tree_from (defScope s_tree_from) 5 "part" := nm_of (by decide +kernel)
def F_tree_from (g_need_good g_guest_from g_tree_from : List D → R D) (n0 : DL.Env → Nat) : DL.Env → Out := (seqS (dropS (callR g_need_good (consR (andR (opR ltD (rdD 1) (callR lenD (consR (rdD 0) (fun _ => R.ok [])))) (opR geD (rdD 2) (fun _ => R.ok (.int 0)))) (fun _ => R.ok [])))) (seqS (setS 3 (opR ixD (rdD 0) (rdD 1))) (seqS (ifS (toB (bdR (rdD 3) (kdInD true "(" "["))) (retS (callR g_guest_from (consR (rdD 0) (consR (rdD 1) (fun _ => R.ok []))))) nxS) (seqS (setL 4 (lstR (fun _ => R.ok []))) (seqS (setS 1 (opR addD (rdD 1) (fun _ => R.ok (.int 1)))) (whileI (toT (fun _ => R.ok (.bool true))) (seqS (asgS (tgT 2 (tgs1 (tgN 5) (tgs1 (tgN 1) tgs0))) (callR g_tree_from (consR (rdD 0) (consR (rdD 1) (consR (opR subD (rdD 2) (fun _ => R.ok (.int 1))) (fun _ => R.ok [])))))) (seqS (appS 4 (rdD 5)) (seqS (dropS (callR g_need_good (consR (opR ltD (rdD 1) (callR lenD (consR (rdD 0) (fun _ => R.ok [])))) (fun _ => R.ok [])))) (seqS (ifS (toB (opR eqD (opR ixD (rdD 0) (rdD 1)) (bdR (rdD 3) (pick2 "(" ")" "[" "]")))) (frR 4 (retS (tupR (consR (tupR (consR (bdR (rdD 3) (pick2 "(" "stools" "[" "bench")) (consR (callR tupD (consR (rdD 4) (fun _ => R.ok []))) (fun _ => R.ok [])))) (consR (opR addD (rdD 1) (fun _ => R.ok (.int 1))) (fun _ => R.ok [])))))) nxS) (seqS (dropS (callR g_need_good (consR (opR eqD (opR ixD (rdD 0) (rdD 1)) (fun _ => R.ok (.str " "))) (fun _ => R.ok [])))) (setS 1 (opR addD (rdD 1) (fun _ => R.ok (.int 1))))))))) n0))))))
def G_tree_from (g_need_good g_guest_from g_tree_from : List D → R D) (n0 : DL.Env → Nat) : List D → R D := defG 3 N_tree_from (F_tree_from g_need_good g_guest_from g_tree_from n0)
section
variable {P : Program} {w : World} {K : PySem.W.Frag} {mg : Str → Option Value} {base : Heap} {k : Nat}
theorem bd_tree_from {g_need_good g_guest_from g_tree_from : List D → R D} (n0 : DL.Env → Nat) (h_need_good : Fn P w K mg base k "need_good" 1 g_need_good) (h_guest_from : Fn P w K mg base k "guest_from" 2 g_guest_from) (h_tree_from : Fn P w K mg base k "tree_from" 3 g_tree_from) (m_len : mg "len" = none) (m_tuple : mg "tuple" = none) (v_ENDS : ∃ d : Addr, mg "ENDS" = some (.ref d) ∧ KD2 K w d "(" ")" "[" "]") (v_WORDS : ∃ d : Addr, mg "WORDS" = some (.ref d) ∧ KD2 K w d "(" "stools" "[" "bench") {f : Addr} {cdv : Value} {A : Around} {outer : List PySem.Env} {s : Shared} {H : Hp} {E : XK} (hr : Room k (A.deeper (PyProof.Rows.envOfC "tree_from" (defScope s_tree_from) s.heap.objs.size f cdv))) :
    DSs (· = cxD P w K mg base N_tree_from "tree_from" (defScope s_tree_from) f cdv A outer s H E) K mg (fun cls d _ H => E cls d H) (defBody s_tree_from) (F_tree_from g_need_good g_guest_from g_tree_from n0) := by
  have c := cxs_def (P := P) (w := w) (K := K) (mg := mg) (base := base) (k := k) (H := H) (E := E) (outer := outer) sc_tree_from hr
  exact (dss_cons (ds_expr (de_call c h_need_good (Nat.le_refl _) (gm_of (by decide +kernel)) (da_cons (de_and (de_lt (de_name c nm_tree_from_1) (de_len c (gm_of (by decide +kernel)) m_len (da_cons (de_name c nm_tree_from_0) da_nil))) (de_one (de_ge (de_name c nm_tree_from_2) de_int))) da_nil))) (dss_cons (ds_set c (lm_ofD (i := 3) (by decide +kernel)) (de_ix c (de_name c nm_tree_from_0) (de_name c nm_tree_from_1))) (dss_cons (ds_if (dt_kdnotin c v_ENDS.choose_spec.2 (de_name c nm_tree_from_3) (gm_of (by decide +kernel)) v_ENDS.choose_spec.1) (dss_one (ds_ret (de_call c h_guest_from (Nat.le_refl _) (gm_of (by decide +kernel)) (da_cons (de_name c nm_tree_from_0) (da_cons (de_name c nm_tree_from_1) da_nil))))) dss_nil) (dss_cons (ds_setN c (lm_ofD (i := 4) (by decide +kernel)) (dn_lst da_nil)) (dss_cons (ds_set c (lm_ofD (i := 1) (by decide +kernel)) (de_add c (de_name c nm_tree_from_1) de_int)) (dss_one (ds_while n0 c (dt_tru c de_bl) (dss_cons (ds_asg (nx_T (nx_1 (nx_N 5) (nx_1 (nx_N 1) nx_0))) (de_call c h_tree_from (Nat.le_refl _) (gm_of (by decide +kernel)) (da_cons (de_name c nm_tree_from_0) (da_cons (de_name c nm_tree_from_1) (da_cons (de_sub (de_name c nm_tree_from_2) de_int) da_nil)))) (dg_tup c (dgs_cons (dg_name c (lm_ofD (i := 5) (by decide +kernel))) (dgs_cons (dg_name c (lm_ofD (i := 1) (by decide +kernel))) dgs_nil)))) (dss_cons (ds_append c nm_tree_from_4 (de_name c nm_tree_from_5) (fun X t h p1 p2 => pe_bm PySem.F.plainAttrs_list PySem.F.slot_list_append PySem.F.type_list_append mt_append p1 (pa_cons p2 pa_nil))) (dss_cons (ds_expr (de_call c h_need_good (Nat.le_refl _) (gm_of (by decide +kernel)) (da_cons (de_lt (de_name c nm_tree_from_1) (de_len c (gm_of (by decide +kernel)) m_len (da_cons (de_name c nm_tree_from_0) da_nil))) da_nil))) (dss_cons (ds_if (dt_eq c (de_ix c (de_name c nm_tree_from_0) (de_name c nm_tree_from_1)) (de_kdix c v_ENDS.choose_spec.2 (de_name c nm_tree_from_3) (gm_of (by decide +kernel)) v_ENDS.choose_spec.1)) (dss_one (ds_frz 4 (ds_ret (de_tup (da_cons (de_tup (da_cons (de_kdix c v_WORDS.choose_spec.2 (de_name c nm_tree_from_3) (gm_of (by decide +kernel)) v_WORDS.choose_spec.1) (da_cons (de_tupc c (gm_of (by decide +kernel)) m_tuple (da_cons (de_name c nm_tree_from_4) da_nil)) da_nil))) (da_cons (de_add c (de_name c nm_tree_from_1) de_int) da_nil)))))) dss_nil) (dss_cons (ds_expr (de_call c h_need_good (Nat.le_refl _) (gm_of (by decide +kernel)) (da_cons (de_eq c (de_ix c (de_name c nm_tree_from_0) (de_name c nm_tree_from_1)) de_str) da_nil))) (dss_one (ds_set c (lm_ofD (i := 1) (by decide +kernel)) (de_add c (de_name c nm_tree_from_1) de_int)))))))))))))))
theorem fn_tree_from {g_need_good g_guest_from g_tree_from : List D → R D} (n0 : DL.Env → Nat) (h_need_good : Fn P w K mg base k "need_good" 1 g_need_good) (h_guest_from : Fn P w K mg base k "guest_from" 2 g_guest_from) (h_tree_from : Fn P w K mg base k "tree_from" 3 g_tree_from) (m_len : mg "len" = none) (m_tuple : mg "tuple" = none) (v_ENDS : ∃ d : Addr, mg "ENDS" = some (.ref d) ∧ KD2 K w d "(" ")" "[" "]") (v_WORDS : ∃ d : Addr, mg "WORDS" = some (.ref d) ∧ KD2 K w d "(" "stools" "[" "bench") {f : Addr} {fd : FuncData} (Fu : L2.Fun K "tree_from" "tree_from" s_tree_from f fd) (gx : mg "tree_from" = some (.ref f)) (hb : Binds K fd ["text", "at", "deep"] []) : Fn P w K mg base (k + 1) "tree_from" 3 (G_tree_from g_need_good g_guest_from g_tree_from n0) :=
  fn_def Fu sc_tree_from gx hb (fun cdv A outer s H E hr => bd_tree_from n0 h_need_good h_guest_from h_tree_from m_len m_tuple v_ENDS v_WORDS hr) (defG_ok rfl)
end
def fN_tree_from : Nat → List D → R D
  | 0 => fun _ => .bad
  | n + 1 => G_tree_from g_need_good g_guest_from (fN_tree_from n) (fun _ => 400) 
theorem e_tree_from (n : Nat) (a0 a1 a2 : D) : fN_tree_from (n + 1) [a0, a1, a2] = defR (F_tree_from g_need_good g_guest_from (fN_tree_from n) (fun _ => 400)  [.dat a0, .dat a1, .dat a2, .no, .no, .no]) := nrfl rfl
def g_tree_from : List D → R D := fN_tree_from 20
/-! ### read -/
abbrev s_read : Stmt := topS 24
abbrev N_read : List Str := ["text", "found", "at"]
theorem sc_read : FnScope N_read ["text"] (defScope s_read) := ⟨rfl, rfl, rfl, by decide +kernel, rfl, by decide +kernel, by decide +kernel⟩
theorem nm_read_0 : Nm N_read (defScope s_read) 0 "text" := nm_of (by decide +kernel)
theorem nm_read_1 : Nm N_read (defScope s_read) 1 "found" := nm_of (by decide +kernel)
theorem nm_read_2 : Nm N_read (defScope s_read) 2 "at" := nm_of (by decide +kernel)
def F_read (g_need_good g_tree_from g_note_of g_is_tree : List D → R D) : DL.Env → Out := (seqS (dropS (callR g_need_good (consR (bdR (rdD 0) (isiD "str")) (fun _ => R.ok [])))) (seqS (asgS (tgT 2 (tgs1 (tgN 1) (tgs1 (tgN 2) tgs0))) (callR g_tree_from (consR (rdD 0) (consR (fun _ => R.ok (.int 0)) (consR (fun _ => R.ok (.int 12)) (fun _ => R.ok [])))))) (seqS (dropS (callR g_need_good (consR (andR (opR eqD (rdD 2) (callR lenD (consR (rdD 0) (fun _ => R.ok [])))) (andR (callR g_is_tree (consR (rdD 1) (fun _ => R.ok []))) (opR eqD (callR g_note_of (consR (rdD 1) (fun _ => R.ok []))) (rdD 0)))) (fun _ => R.ok [])))) (retS (rdD 1)))))
def G_read (g_need_good g_tree_from g_note_of g_is_tree : List D → R D) : List D → R D := defG 1 N_read (F_read g_need_good g_tree_from g_note_of g_is_tree )
section
variable {P : Program} {w : World} {K : PySem.W.Frag} {mg : Str → Option Value} {base : Heap} {k : Nat}
theorem bd_read {g_need_good g_tree_from g_note_of g_is_tree : List D → R D} (h_need_good : Fn P w K mg base k "need_good" 1 g_need_good) (h_tree_from : Fn P w K mg base k "tree_from" 3 g_tree_from) (h_note_of : Fn P w K mg base k "note_of" 1 g_note_of) (h_is_tree : Fn P w K mg base k "is_tree" 1 g_is_tree) (m_isinstance : mg "isinstance" = none) (m_str : mg "str" = none) (m_len : mg "len" = none) (v_MOST_GUESTS : ∃ t : Tok, mg "MOST_GUESTS" = some (.int 12 t)) {f : Addr} {cdv : Value} {A : Around} {outer : List PySem.Env} {s : Shared} {H : Hp} {E : XK} (hr : Room k (A.deeper (PyProof.Rows.envOfC "read" (defScope s_read) s.heap.objs.size f cdv))) :
    DSs (· = cxD P w K mg base N_read "read" (defScope s_read) f cdv A outer s H E) K mg (fun cls d _ H => E cls d H) (defBody s_read) (F_read g_need_good g_tree_from g_note_of g_is_tree ) := by
  have c := cxs_def (P := P) (w := w) (K := K) (mg := mg) (base := base) (k := k) (H := H) (E := E) (outer := outer) sc_read hr
  exact (dss_cons (ds_expr (de_call c h_need_good (Nat.le_refl _) (gm_of (by decide +kernel)) (da_cons (de_isi (T := "str") c (gm_of (by decide +kernel)) m_isinstance (de_name c nm_read_0) (gm_of (by decide +kernel)) m_str (by decide +kernel) (by decide)) da_nil))) (dss_cons (ds_asg (nx_T (nx_1 (nx_N 1) (nx_1 (nx_N 2) nx_0))) (de_call c h_tree_from (Nat.le_refl _) (gm_of (by decide +kernel)) (da_cons (de_name c nm_read_0) (da_cons de_int (da_cons (de_globI c (gm_of (by decide +kernel)) v_MOST_GUESTS.choose_spec) da_nil)))) (dg_tup c (dgs_cons (dg_name c (lm_ofD (i := 1) (by decide +kernel))) (dgs_cons (dg_name c (lm_ofD (i := 2) (by decide +kernel))) dgs_nil)))) (dss_cons (ds_expr (de_call c h_need_good (Nat.le_refl _) (gm_of (by decide +kernel)) (da_cons (de_and (de_eq c (de_name c nm_read_2) (de_len c (gm_of (by decide +kernel)) m_len (da_cons (de_name c nm_read_0) da_nil))) (de_and (de_call c h_is_tree (Nat.le_refl _) (gm_of (by decide +kernel)) (da_cons (de_name c nm_read_1) da_nil)) (de_one (de_eq c (de_call c h_note_of (Nat.le_refl _) (gm_of (by decide +kernel)) (da_cons (de_name c nm_read_1) da_nil)) (de_name c nm_read_0))))) da_nil))) (dss_one (ds_ret (de_name c nm_read_1))))))
theorem fn_read {g_need_good g_tree_from g_note_of g_is_tree : List D → R D} (h_need_good : Fn P w K mg base k "need_good" 1 g_need_good) (h_tree_from : Fn P w K mg base k "tree_from" 3 g_tree_from) (h_note_of : Fn P w K mg base k "note_of" 1 g_note_of) (h_is_tree : Fn P w K mg base k "is_tree" 1 g_is_tree) (m_isinstance : mg "isinstance" = none) (m_str : mg "str" = none) (m_len : mg "len" = none) (v_MOST_GUESTS : ∃ t : Tok, mg "MOST_GUESTS" = some (.int 12 t)) {f : Addr} {fd : FuncData} (Fu : L2.Fun K "read" "read" s_read f fd) (gx : mg "read" = some (.ref f)) (hb : Binds K fd ["text"] []) : Fn P w K mg base (k + 1) "read" 1 (G_read g_need_good g_tree_from g_note_of g_is_tree ) :=
  fn_def Fu sc_read gx hb (fun cdv A outer s H E hr => bd_read  h_need_good h_tree_from h_note_of h_is_tree m_isinstance m_str m_len v_MOST_GUESTS hr) (defG_ok rfl)
end
def g_read : List D → R D := G_read g_need_good g_tree_from g_note_of g_is_tree 
theorem e_read (a0 : D) : g_read [a0] = defR (F_read g_need_good g_tree_from g_note_of g_is_tree  [.dat a0, .no, .no]) := nrfl rfl
/-! ### _law_mixed -/
abbrev s__law_mixed : Stmt := topS 26
abbrev N__law_mixed : List Str := ["_law_cell", "_law_k"]
theorem sc__law_mixed : FnScope N__law_mixed ["_law_cell", "_law_k"] (defScope s__law_mixed) := ⟨rfl, rfl, rfl, by decide +kernel, rfl, by decide +kernel, by decide +kernel⟩
theorem nm__law_mixed_0 : Nm N__law_mixed (defScope s__law_mixed) 0 "_law_cell" := nm_of (by decide +kernel)
theorem nm__law_mixed_1 : Nm N__law_mixed (defScope s__law_mixed) 1 "_law_k" := nm_of (by decide +kernel)
def F__law_mixed : DL.Env → Out := (retS (opR modD (opR mulD (opR modD (opR addD (opR addD (opR mulD (rdD 0) (fun _ => R.ok (.int 48271))) (opR mulD (opR mulD (opR mulD (fun _ => R.ok (.int 7919)) (rdD 1)) (rdD 1)) (rdD 1))) (fun _ => R.ok (.int 104729))) (fun _ => R.ok (.int 2147483647))) (fun _ => R.ok (.int 16807))) (fun _ => R.ok (.int 2147483629))))
def G__law_mixed : List D → R D := defG 2 N__law_mixed (F__law_mixed  )
section
variable {P : Program} {w : World} {K : PySem.W.Frag} {mg : Str → Option Value} {base : Heap} {k : Nat}
theorem bd__law_mixed  {f : Addr} {cdv : Value} {A : Around} {outer : List PySem.Env} {s : Shared} {H : Hp} {E : XK} (hr : Room k (A.deeper (PyProof.Rows.envOfC "_law_mixed" (defScope s__law_mixed) s.heap.objs.size f cdv))) :
    DSs (· = cxD P w K mg base N__law_mixed "_law_mixed" (defScope s__law_mixed) f cdv A outer s H E) K mg (fun cls d _ H => E cls d H) (defBody s__law_mixed) (F__law_mixed  ) := by
  have c := cxs_def (P := P) (w := w) (K := K) (mg := mg) (base := base) (k := k) (H := H) (E := E) (outer := outer) sc__law_mixed hr
  exact (dss_one (ds_ret (de_mod (de_mul (de_mod (de_add c (de_add c (de_mul (de_name c nm__law_mixed_0) de_int) (de_mul (de_mul (de_mul de_int (de_name c nm__law_mixed_1)) (de_name c nm__law_mixed_1)) (de_name c nm__law_mixed_1))) de_int) de_int) de_int) de_int)))
theorem fn__law_mixed  {f : Addr} {fd : FuncData} (Fu : L2.Fun K "_law_mixed" "_law_mixed" s__law_mixed f fd) (gx : mg "_law_mixed" = some (.ref f)) (hb : Binds K fd ["_law_cell", "_law_k"] []) : Fn P w K mg base (k + 1) "_law_mixed" 2 (G__law_mixed  ) :=
  fn_def Fu sc__law_mixed gx hb (fun cdv A outer s H E hr => bd__law_mixed   hr) (defG_ok rfl)
end
def g__law_mixed : List D → R D := G__law_mixed  
theorem e__law_mixed (a0 a1 : D) : g__law_mixed [a0, a1] = defR (F__law_mixed   [.dat a0, .dat a1]) := nrfl rfl
/-! ### _law_next -/
abbrev s__law_next : Stmt := topS 27
abbrev N__law_next : List Str := ["_law_number", "_law_k"]
theorem sc__law_next : FnScope N__law_next ["_law_number", "_law_k"] (defScope s__law_next) := ⟨rfl, rfl, rfl, by decide +kernel, rfl, by decide +kernel, by decide +kernel⟩
theorem nm__law_next_0 : Nm N__law_next (defScope s__law_next) 0 "_law_number" := nm_of (by decide +kernel)
theorem nm__law_next_1 : Nm N__law_next (defScope s__law_next) 1 "_law_k" := nm_of (by decide +kernel)
def F__law_next : DL.Env → Out := (retS (opR modD (opR mulD (opR addD (opR addD (opR mulD (rdD 0) (opR addD (opR mulD (rdD 1) (rdD 1)) (fun _ => R.ok (.int 1)))) (opR mulD (fun _ => R.ok (.int 1009)) (rdD 1))) (fun _ => R.ok (.int 11))) (fun _ => R.ok (.int 69621))) (fun _ => R.ok (.int 2147483629))))
def G__law_next : List D → R D := defG 2 N__law_next (F__law_next  )
section
variable {P : Program} {w : World} {K : PySem.W.Frag} {mg : Str → Option Value} {base : Heap} {k : Nat}
theorem bd__law_next  {f : Addr} {cdv : Value} {A : Around} {outer : List PySem.Env} {s : Shared} {H : Hp} {E : XK} (hr : Room k (A.deeper (PyProof.Rows.envOfC "_law_next" (defScope s__law_next) s.heap.objs.size f cdv))) :
    DSs (· = cxD P w K mg base N__law_next "_law_next" (defScope s__law_next) f cdv A outer s H E) K mg (fun cls d _ H => E cls d H) (defBody s__law_next) (F__law_next  ) := by
  have c := cxs_def (P := P) (w := w) (K := K) (mg := mg) (base := base) (k := k) (H := H) (E := E) (outer := outer) sc__law_next hr
  exact (dss_one (ds_ret (de_mod (de_mul (de_add c (de_add c (de_mul (de_name c nm__law_next_0) (de_add c (de_mul (de_name c nm__law_next_1) (de_name c nm__law_next_1)) de_int)) (de_mul de_int (de_name c nm__law_next_1))) de_int) de_int) de_int)))
theorem fn__law_next  {f : Addr} {fd : FuncData} (Fu : L2.Fun K "_law_next" "_law_next" s__law_next f fd) (gx : mg "_law_next" = some (.ref f)) (hb : Binds K fd ["_law_number", "_law_k"] []) : Fn P w K mg base (k + 1) "_law_next" 2 (G__law_next  ) :=
  fn_def Fu sc__law_next gx hb (fun cdv A outer s H E hr => bd__law_next   hr) (defG_ok rfl)
end
def g__law_next : List D → R D := G__law_next  
theorem e__law_next (a0 a1 : D) : g__law_next [a0, a1] = defR (F__law_next   [.dat a0, .dat a1]) := nrfl rfl
/-! ### _law_order -/
abbrev s__law_order : Stmt := topS 28
abbrev N__law_order : List Str := ["_law_number", "_law_many", "_law_left", "_law_found", "_law_k"]
theorem sc__law_order : FnScope N__law_order ["_law_number", "_law_many"] (defScope s__law_order) := ⟨rfl, rfl, rfl, by decide +kernel, rfl, by decide +kernel, by decide +kernel⟩
theorem nm__law_order_0 : Nm N__law_order (defScope s__law_order) 0 "_law_number" := nm_of (by decide +kernel)
theorem nm__law_order_1 : Nm N__law_order (defScope s__law_order) 1 "_law_many" := nm_of (by decide +kernel)
theorem nm__law_order_2 : Nm N__law_order (defScope s__law_order) 2 "_law_left" := nm_of (by decide +kernel)
theorem nm__law_order_3 : Nm N__law_order (defScope s__law_order) 3 "_law_found" := nm_of (by decide +kernel)
theorem nm__law_order_4 : Nm N__law_order (defScope s__law_order) 4 "_law_k" := nm_of (by decide +kernel)
def F__law_order (g__law_next : List D → R D) : DL.Env → Out := (seqS (setL 2 (bdR (rdD 1) lrg1)) (seqS (setL 3 (lstR (fun _ => R.ok []))) (seqS (forI (bdR (rdD 1) rg1) (tgN 4) (appPopS 3 2 (bdR (frR 2 (opR modD (opR divD (callR g__law_next (consR (rdD 0) (consR (rdD 4) (fun _ => R.ok [])))) (fun _ => R.ok (.int 3))) (callR lenD (consR (rdD 2) (fun _ => R.ok []))))) scalD))) (frR 3 (retS (rdD 3))))))
def G__law_order (g__law_next : List D → R D) : List D → R D := defG 2 N__law_order (F__law_order g__law_next )
section
variable {P : Program} {w : World} {K : PySem.W.Frag} {mg : Str → Option Value} {base : Heap} {k : Nat}
theorem bd__law_order {g__law_next : List D → R D} (h__law_next : Fn P w K mg base k "_law_next" 2 g__law_next) (m_list : mg "list" = none) (m_range : mg "range" = none) (m_len : mg "len" = none) {f : Addr} {cdv : Value} {A : Around} {outer : List PySem.Env} {s : Shared} {H : Hp} {E : XK} (hr : Room k (A.deeper (PyProof.Rows.envOfC "_law_order" (defScope s__law_order) s.heap.objs.size f cdv))) :
    DSs (· = cxD P w K mg base N__law_order "_law_order" (defScope s__law_order) f cdv A outer s H E) K mg (fun cls d _ H => E cls d H) (defBody s__law_order) (F__law_order g__law_next ) := by
  have c := cxs_def (P := P) (w := w) (K := K) (mg := mg) (base := base) (k := k) (H := H) (E := E) (outer := outer) sc__law_order hr
  exact (dss_cons (ds_setN c (lm_ofD (i := 2) (by decide +kernel)) (dn_listRange c (gm_of (by decide +kernel)) m_list (gm_of (by decide +kernel)) m_range (de_name c nm__law_order_1))) (dss_cons (ds_setN c (lm_ofD (i := 3) (by decide +kernel)) (dn_lst da_nil)) (dss_cons (ds_for c (nx_N 4) (di_range1 c (gm_of (by decide +kernel)) m_range (de_name c nm__law_order_1)) (dg_name c (lm_ofD (i := 4) (by decide +kernel))) (dss_one (ds_appPop c (by decide) nm__law_order_3 nm__law_order_2 (de_peek 2 (de_mod (de_div (de_call c h__law_next (Nat.le_refl _) (gm_of (by decide +kernel)) (da_cons (de_name c nm__law_order_0) (da_cons (de_name c nm__law_order_4) da_nil))) de_int) (de_len c (gm_of (by decide +kernel)) m_len (da_cons (de_name c nm__law_order_2) da_nil)))) (fun X t h p1 p2 p3 => pe_bm PySem.F.plainAttrs_list PySem.F.slot_list_append PySem.F.type_list_append mt_append p1 (pa_cons (pe_bm PySem.F.plainAttrs_list PySem.F.slot_list_pop PySem.F.type_list_pop mt_popAt p2 (pa_cons p3 pa_nil)) pa_nil))))) (dss_one (ds_frz 3 (ds_ret (de_name c nm__law_order_3)))))))
theorem fn__law_order {g__law_next : List D → R D} (h__law_next : Fn P w K mg base k "_law_next" 2 g__law_next) (m_list : mg "list" = none) (m_range : mg "range" = none) (m_len : mg "len" = none) {f : Addr} {fd : FuncData} (Fu : L2.Fun K "_law_order" "_law_order" s__law_order f fd) (gx : mg "_law_order" = some (.ref f)) (hb : Binds K fd ["_law_number", "_law_many"] []) : Fn P w K mg base (k + 1) "_law_order" 2 (G__law_order g__law_next ) :=
  fn_def Fu sc__law_order gx hb (fun cdv A outer s H E hr => bd__law_order  h__law_next m_list m_range m_len hr) (defG_ok rfl)
end
def g__law_order : List D → R D := G__law_order g__law_next 
theorem e__law_order (a0 a1 : D) : g__law_order [a0, a1] = defR (F__law_order g__law_next  [.dat a0, .dat a1, .no, .no, .no]) := nrfl rfl
/-! ### _law_cut -/
abbrev s__law_cut : Stmt := topS 29
abbrev N__law_cut : List Str := ["_law_guests", "_law_number", "_law_found", "_law_k"]
theorem sc__law_cut : FnScope N__law_cut ["_law_guests", "_law_number"] (defScope s__law_cut) := ⟨rfl, rfl, rfl, by decide +kernel, rfl, by decide +kernel, by decide +kernel⟩
theorem nm__law_cut_0 : Nm N__law_cut (defScope s__law_cut) 0 "_law_guests" := nm_of (by decide +kernel)
theorem nm__law_cut_1 : Nm N__law_cut (defScope s__law_cut) 1 "_law_number" := nm_of (by decide +kernel)
theorem nm__law_cut_2 : Nm N__law_cut (defScope s__law_cut) 2 "_law_found" := nm_of (by decide +kernel)
theorem nm__law_cut_3 : Nm N__law_cut (defScope s__law_cut) 3 "_law_k" := nm_of (by decide +kernel)
def F__law_cut (g__law_next : List D → R D) : DL.Env → Out := (seqS (set1S 2 (opR ixD (rdD 0) (fun _ => R.ok (.int 0)))) (seqS (forI (bd2R rg2 (fun _ => R.ok (.int 1)) (callR lenD (consR (rdD 0) (fun _ => R.ok [])))) (tgN 3) (seqS (ifS (frR1 2 (frR 2 (orT (andT (toB (opR eqD (callR lenD (consR (rdD 2) (fun _ => R.ok []))) (fun _ => R.ok (.int 1)))) (toB (opR eqD (rdD 3) (opR subD (callR lenD (consR (rdD 0) (fun _ => R.ok []))) (fun _ => R.ok (.int 1)))))) (toB (opR eqD (opR modD (opR divD (callR g__law_next (consR (rdD 1) (consR (rdD 3) (fun _ => R.ok [])))) (fun _ => R.ok (.int 3))) (fun _ => R.ok (.int 3))) (fun _ => R.ok (.int 1))))))) (app1S 2) nxS) (mut1S 2 (opR ixD (rdD 0) (rdD 3))))) (frR1 2 (frR 2 (retS (rdD 2))))))
def G__law_cut (g__law_next : List D → R D) : List D → R D := defG 2 N__law_cut (F__law_cut g__law_next )
section
variable {P : Program} {w : World} {K : PySem.W.Frag} {mg : Str → Option Value} {base : Heap} {k : Nat}
theorem bd__law_cut {g__law_next : List D → R D} (h__law_next : Fn P w K mg base k "_law_next" 2 g__law_next) (m_len : mg "len" = none) (m_range : mg "range" = none) {f : Addr} {cdv : Value} {A : Around} {outer : List PySem.Env} {s : Shared} {H : Hp} {E : XK} (hr : Room k (A.deeper (PyProof.Rows.envOfC "_law_cut" (defScope s__law_cut) s.heap.objs.size f cdv))) :
    DSs (· = cxD P w K mg base N__law_cut "_law_cut" (defScope s__law_cut) f cdv A outer s H E) K mg (fun cls d _ H => E cls d H) (defBody s__law_cut) (F__law_cut g__law_next ) := by
  have c := cxs_def (P := P) (w := w) (K := K) (mg := mg) (base := base) (k := k) (H := H) (E := E) (outer := outer) sc__law_cut hr
  exact (dss_cons (ds_set1 c (lm_ofD (i := 2) (by decide +kernel)) (de_ix c (de_name c nm__law_cut_0) de_int)) (dss_cons (ds_for c (nx_N 3) (di_range2 c (gm_of (by decide +kernel)) m_range de_int (de_len c (gm_of (by decide +kernel)) m_len (da_cons (de_name c nm__law_cut_0) da_nil))) (dg_name c (lm_ofD (i := 3) (by decide +kernel))) (dss_cons (ds_if (dt_peek1 2 (dt_peek 2 (dt_w (dw_or (dt_w (dw_and (dt_eq c (de_len c (gm_of (by decide +kernel)) m_len (da_cons (de_name c nm__law_cut_2) da_nil)) de_int) (dw_and1 (dt_eq c (de_name c nm__law_cut_3) (de_sub (de_len c (gm_of (by decide +kernel)) m_len (da_cons (de_name c nm__law_cut_0) da_nil)) de_int))))) (dw_or1 (dt_eq c (de_mod (de_div (de_call c h__law_next (Nat.le_refl _) (gm_of (by decide +kernel)) (da_cons (de_name c nm__law_cut_1) (da_cons (de_name c nm__law_cut_3) da_nil))) de_int) de_int) de_int)))))) (dss_one (ds_app1 c nm__law_cut_2 (fun X t h p1 p2 => pe_bm PySem.F.plainAttrs_list PySem.F.slot_list_append PySem.F.type_list_append mt_append p1 (pa_cons p2 pa_nil)))) dss_nil) (dss_one (ds_mut1 c nm__law_cut_2 (de_ix c (de_name c nm__law_cut_0) (de_name c nm__law_cut_3)) (fun X t t2 h p1 p2 => pe_bm PySem.F.plainAttrs_list PySem.F.slot_list_append PySem.F.type_list_append mt_append p1 (pa_cons p2 pa_nil)))))) (dss_one (ds_frz1 2 (ds_frz 2 (ds_ret (de_name c nm__law_cut_2)))))))
theorem fn__law_cut {g__law_next : List D → R D} (h__law_next : Fn P w K mg base k "_law_next" 2 g__law_next) (m_len : mg "len" = none) (m_range : mg "range" = none) {f : Addr} {fd : FuncData} (Fu : L2.Fun K "_law_cut" "_law_cut" s__law_cut f fd) (gx : mg "_law_cut" = some (.ref f)) (hb : Binds K fd ["_law_guests", "_law_number"] []) : Fn P w K mg base (k + 1) "_law_cut" 2 (G__law_cut g__law_next ) :=
  fn_def Fu sc__law_cut gx hb (fun cdv A outer s H E hr => bd__law_cut  h__law_next m_len m_range hr) (defG_ok rfl)
end
def g__law_cut : List D → R D := G__law_cut g__law_next 
theorem e__law_cut (a0 a1 : D) : g__law_cut [a0, a1] = defR (F__law_cut g__law_next  [.dat a0, .dat a1, .no, .no]) := nrfl rfl
/-! ### _law_seated -/
abbrev s__law_seated : Stmt := topS 31
abbrev N__law_seated : List Str := ["_law_tree_here", "_law_found", "_law_part"]
theorem sc__law_seated : FnScope N__law_seated ["_law_tree_here"] (defScope s__law_seated) := ⟨rfl, rfl, rfl, by decide +kernel, rfl, by decide +kernel, by decide +kernel⟩
theorem nm__law_seated_0 : Nm N__law_seated (defScope s__law_seated) 0 "_law_tree_here" := nm_of (by decide +kernel)
theorem nm__law_seated_1 : Nm N__law_seated (defScope s__law_seated) 1 "_law_found" := nm_of (by decide +kernel)
theorem nm__law_seated_2 : Nm N__law_seated (defScope s__law_seated) 2 "_law_part" := nm_of (by decide +kernel)
def F__law_seated (g__law_seated : List D → R D) : DL.Env → Out := (seqS (ifS (toT (bdR (rdD 0) (isiD "int"))) (retS (asL (lstR (consR (rdD 0) (fun _ => R.ok []))))) nxS) (seqS (setS 1 (asL (lstR (fun _ => R.ok [])))) (seqS (forI (bdR (opR ixD (rdD 0) (fun _ => R.ok (.int 1))) itemsT) (tgN 2) (setS 1 (opR addD (rdD 1) (callR g__law_seated (consR (rdD 2) (fun _ => R.ok [])))))) (retS (rdD 1)))))
def G__law_seated (g__law_seated : List D → R D) : List D → R D := defG 1 N__law_seated (F__law_seated g__law_seated )
section
variable {P : Program} {w : World} {K : PySem.W.Frag} {mg : Str → Option Value} {base : Heap} {k : Nat}
theorem bd__law_seated {g__law_seated : List D → R D} (h__law_seated : Fn P w K mg base k "_law_seated" 1 g__law_seated) (m_isinstance : mg "isinstance" = none) (m_int : mg "int" = none) {f : Addr} {cdv : Value} {A : Around} {outer : List PySem.Env} {s : Shared} {H : Hp} {E : XK} (hr : Room k (A.deeper (PyProof.Rows.envOfC "_law_seated" (defScope s__law_seated) s.heap.objs.size f cdv))) :
    DSs (· = cxD P w K mg base N__law_seated "_law_seated" (defScope s__law_seated) f cdv A outer s H E) K mg (fun cls d _ H => E cls d H) (defBody s__law_seated) (F__law_seated g__law_seated ) := by
  have c := cxs_def (P := P) (w := w) (K := K) (mg := mg) (base := base) (k := k) (H := H) (E := E) (outer := outer) sc__law_seated hr
  exact (dss_cons (ds_if (dt_tru c (de_isi (T := "int") c (gm_of (by decide +kernel)) m_isinstance (de_name c nm__law_seated_0) (gm_of (by decide +kernel)) m_int (by decide +kernel) (by decide))) (dss_one (ds_ret (de_l (dn_lst (da_cons (de_name c nm__law_seated_0) da_nil))))) dss_nil) (dss_cons (ds_set c (lm_ofD (i := 1) (by decide +kernel)) (de_l (dn_lst da_nil))) (dss_cons (ds_for c (nx_N 2) (di_tup c (de_ix c (de_name c nm__law_seated_0) de_int)) (dg_name c (lm_ofD (i := 2) (by decide +kernel))) (dss_one (ds_set c (lm_ofD (i := 1) (by decide +kernel)) (de_add c (de_name c nm__law_seated_1) (de_call c h__law_seated (Nat.le_refl _) (gm_of (by decide +kernel)) (da_cons (de_name c nm__law_seated_2) da_nil)))))) (dss_one (ds_ret (de_name c nm__law_seated_1))))))
theorem fn__law_seated {g__law_seated : List D → R D} (h__law_seated : Fn P w K mg base k "_law_seated" 1 g__law_seated) (m_isinstance : mg "isinstance" = none) (m_int : mg "int" = none) {f : Addr} {fd : FuncData} (Fu : L2.Fun K "_law_seated" "_law_seated" s__law_seated f fd) (gx : mg "_law_seated" = some (.ref f)) (hb : Binds K fd ["_law_tree_here"] []) : Fn P w K mg base (k + 1) "_law_seated" 1 (G__law_seated g__law_seated ) :=
  fn_def Fu sc__law_seated gx hb (fun cdv A outer s H E hr => bd__law_seated  h__law_seated m_isinstance m_int hr) (defG_ok rfl)
end
def fN__law_seated : Nat → List D → R D
  | 0 => fun _ => .bad
  | n + 1 => G__law_seated (fN__law_seated n) 
theorem e__law_seated (n : Nat) (a0 : D) : fN__law_seated (n + 1) [a0] = defR (F__law_seated (fN__law_seated n)  [.dat a0, .no, .no]) := nrfl rfl
def g__law_seated : List D → R D := fN__law_seated 20
/-! ### _law_least -/
abbrev s__law_least : Stmt := topS 30
abbrev N__law_least : List Str := ["_law_tree_here"]
theorem sc__law_least : FnScope N__law_least ["_law_tree_here"] (defScope s__law_least) := ⟨rfl, rfl, rfl, by decide +kernel, rfl, by decide +kernel, by decide +kernel⟩
theorem nm__law_least_0 : Nm N__law_least (defScope s__law_least) 0 "_law_tree_here" := nm_of (by decide +kernel)
def F__law_least (g__law_seated : List D → R D) : DL.Env → Out := (retS (callR minD (consR (callR g__law_seated (consR (rdD 0) (fun _ => R.ok []))) (fun _ => R.ok []))))
def G__law_least (g__law_seated : List D → R D) : List D → R D := defG 1 N__law_least (F__law_least g__law_seated )
section
variable {P : Program} {w : World} {K : PySem.W.Frag} {mg : Str → Option Value} {base : Heap} {k : Nat}
theorem bd__law_least {g__law_seated : List D → R D} (h__law_seated : Fn P w K mg base k "_law_seated" 1 g__law_seated) (m_min : mg "min" = none) {f : Addr} {cdv : Value} {A : Around} {outer : List PySem.Env} {s : Shared} {H : Hp} {E : XK} (hr : Room k (A.deeper (PyProof.Rows.envOfC "_law_least" (defScope s__law_least) s.heap.objs.size f cdv))) :
    DSs (· = cxD P w K mg base N__law_least "_law_least" (defScope s__law_least) f cdv A outer s H E) K mg (fun cls d _ H => E cls d H) (defBody s__law_least) (F__law_least g__law_seated ) := by
  have c := cxs_def (P := P) (w := w) (K := K) (mg := mg) (base := base) (k := k) (H := H) (E := E) (outer := outer) sc__law_least hr
  exact (dss_one (ds_ret (de_min c (gm_of (by decide +kernel)) m_min (da_cons (de_call c h__law_seated (Nat.le_refl _) (gm_of (by decide +kernel)) (da_cons (de_name c nm__law_least_0) da_nil)) da_nil))))
theorem fn__law_least {g__law_seated : List D → R D} (h__law_seated : Fn P w K mg base k "_law_seated" 1 g__law_seated) (m_min : mg "min" = none) {f : Addr} {fd : FuncData} (Fu : L2.Fun K "_law_least" "_law_least" s__law_least f fd) (gx : mg "_law_least" = some (.ref f)) (hb : Binds K fd ["_law_tree_here"] []) : Fn P w K mg base (k + 1) "_law_least" 1 (G__law_least g__law_seated ) :=
  fn_def Fu sc__law_least gx hb (fun cdv A outer s H E hr => bd__law_least  h__law_seated m_min hr) (defG_ok rfl)
end
def g__law_least : List D → R D := G__law_least g__law_seated 
theorem e__law_least (a0 : D) : g__law_least [a0] = defR (F__law_least g__law_seated  [.dat a0]) := nrfl rfl
/-! ### _law_tree -/
abbrev s__law_tree : Stmt := topS 32
abbrev N__law_tree : List Str := ["_law_guests", "_law_number", "_law_parts", "_law_k", "_law_part"]
theorem sc__law_tree : FnScope N__law_tree ["_law_guests", "_law_number"] (defScope s__law_tree) := ⟨rfl, rfl, rfl, by decide +kernel, rfl, by decide +kernel, by decide +kernel⟩
theorem nm__law_tree_0 : Nm N__law_tree (defScope s__law_tree) 0 "_law_guests" := nm_of (by decide +kernel)
theorem nm__law_tree_1 : Nm N__law_tree (defScope s__law_tree) 1 "_law_number" := nm_of (by decide +kernel)
theorem nm__law_tree_2 : Nm N__law_tree (defScope s__law_tree) 2 "_law_parts" := nm_of (by decide +kernel)
def F__law_tree (g__law_cut g__law_tree g__law_next g__law_least : List D → R D) : DL.Env → Out := (seqS (ifS (toB (opR eqD (callR lenD (consR (rdD 0) (fun _ => R.ok []))) (fun _ => R.ok (.int 1)))) (retS (opR ixD (rdD 0) (fun _ => R.ok (.int 0)))) nxS) (seqS (setS 2 (asL (lcR (bdR (callR g__law_cut (consR (rdD 0) (consR (rdD 1) (fun _ => R.ok [])))) enumL) (tgT 2 (tgs1 (tgN 3) (tgs1 (tgN 4) tgs0))) (fun _ => R.ok true) (callR g__law_tree (consR (rdD 4) (consR (callR g__law_next (consR (rdD 1) (consR (opR addD (fun _ => R.ok (.int 50)) (rdD 3)) (fun _ => R.ok [])))) (fun _ => R.ok [])))) [3, 4]))) (seqS (ifS (orT (toB (opR eqD (callR lenD (consR (rdD 2) (fun _ => R.ok []))) (fun _ => R.ok (.int 2)))) (toB (opR eqD (opR modD (rdD 1) (fun _ => R.ok (.int 2))) (fun _ => R.ok (.int 0))))) (retS (tupR (consR (fun _ => R.ok (.str "stools")) (consR (callR tupD (consR (asL (bdR (rdD 2) (sortKD g__law_least))) (fun _ => R.ok []))) (fun _ => R.ok []))))) nxS) (seqS (ifS (toB (opR gtD (callR g__law_least (consR (opR ixD (rdD 2) (fun _ => R.ok (.int 0))) (fun _ => R.ok []))) (callR g__law_least (consR (opR ixD (rdD 2) (fun _ => R.ok (.int (-1)))) (fun _ => R.ok []))))) (setS 2 (asL (revR (rdD 2)))) nxS) (retS (tupR (consR (fun _ => R.ok (.str "bench")) (consR (callR tupD (consR (rdD 2) (fun _ => R.ok []))) (fun _ => R.ok [])))))))))
def G__law_tree (g__law_cut g__law_tree g__law_next g__law_least : List D → R D) : List D → R D := defG 2 N__law_tree (F__law_tree g__law_cut g__law_tree g__law_next g__law_least )
section
variable {P : Program} {w : World} {K : PySem.W.Frag} {mg : Str → Option Value} {base : Heap} {k : Nat}
theorem bd__law_tree {g__law_cut g__law_tree g__law_next g__law_least : List D → R D} (h__law_cut : Fn P w K mg base k "_law_cut" 2 g__law_cut) (h__law_tree : Fn P w K mg base k "_law_tree" 2 g__law_tree) (h__law_next : Fn P w K mg base k "_law_next" 2 g__law_next) (h__law_least : Fn P w K mg base k "_law_least" 1 g__law_least) (m_len : mg "len" = none) (m_enumerate : mg "enumerate" = none) (m_sorted : mg "sorted" = none) (m_tuple : mg "tuple" = none) {f : Addr} {cdv : Value} {A : Around} {outer : List PySem.Env} {s : Shared} {H : Hp} {E : XK} (hr : Room (k + 2) (A.deeper (PyProof.Rows.envOfC "_law_tree" (defScope s__law_tree) s.heap.objs.size f cdv))) :
    DSs (· = cxD P w K mg base N__law_tree "_law_tree" (defScope s__law_tree) f cdv A outer s H E) K mg (fun cls d _ H => E cls d H) (defBody s__law_tree) (F__law_tree g__law_cut g__law_tree g__law_next g__law_least ) := by
  have c := cxs_def (P := P) (w := w) (K := K) (mg := mg) (base := base) (k := (k + 2)) (H := H) (E := E) (outer := outer) sc__law_tree hr
  exact (dss_cons (ds_if (dt_eq c (de_len c (gm_of (by decide +kernel)) m_len (da_cons (de_name c nm__law_tree_0) da_nil)) de_int) (dss_one (ds_ret (de_ix c (de_name c nm__law_tree_0) de_int))) dss_nil) (dss_cons (ds_setLcD (own := [("_law_k", 3), ("_law_part", 4)]) c (i := 2) rfl (by decide +kernel) (di_enum c (gm_of (by decide +kernel)) m_enumerate (de_call c h__law_cut (Nat.le_add_right _ 2) (gm_of (by decide +kernel)) (da_cons (de_name c nm__law_tree_0) (da_cons (de_name c nm__law_tree_1) da_nil)))) (by decide +kernel) (dg_tup (cxs_blk c) (dgs_cons (dg_name (cxs_blk c) (lm_of (i := 3) (by decide +kernel))) (dgs_cons (dg_name (cxs_blk c) (lm_of (i := 4) (by decide +kernel))) dgs_nil))) (by decide) dts_nil (de_call (cxs_blk c) h__law_tree (Nat.le_add_right _ 2) (gm_of (by decide +kernel)) (da_cons (de_name (cxs_blk c) (nm_of (i := 4) (by decide +kernel))) (da_cons (de_call (cxs_blk c) h__law_next (Nat.le_add_right _ 2) (gm_of (by decide +kernel)) (da_cons (de_name (cxs_blk c) (nm_of (i := 1) (by decide +kernel))) (da_cons (de_add (cxs_blk c) de_int (de_name (cxs_blk c) (nm_of (i := 3) (by decide +kernel)))) da_nil))) da_nil))) rfl rfl (by decide +kernel)) (dss_cons (ds_if (dt_w (dw_or (dt_eq c (de_len c (gm_of (by decide +kernel)) m_len (da_cons (de_name c nm__law_tree_2) da_nil)) de_int) (dw_or1 (dt_eq c (de_mod (de_name c nm__law_tree_1) de_int) de_int)))) (dss_one (ds_ret (de_tup (da_cons de_str (da_cons (de_tupc c (gm_of (by decide +kernel)) m_tuple (da_cons (de_l (dn_sortedK c (gm_of (by decide +kernel)) m_sorted h__law_least (Nat.le_refl _) (gm_of (by decide +kernel)) (de_name c nm__law_tree_2))) da_nil)) da_nil))))) dss_nil) (dss_cons (ds_if (dt_gt (de_call c h__law_least (Nat.le_add_right _ 2) (gm_of (by decide +kernel)) (da_cons (de_ix c (de_name c nm__law_tree_2) de_int) da_nil)) (de_call c h__law_least (Nat.le_add_right _ 2) (gm_of (by decide +kernel)) (da_cons (de_ix c (de_name c nm__law_tree_2) de_neg) da_nil))) (dss_one (ds_set c (lm_ofD (i := 2) (by decide +kernel)) (de_l (dn_rev c (de_name c nm__law_tree_2))))) dss_nil) (dss_one (ds_ret (de_tup (da_cons de_str (da_cons (de_tupc c (gm_of (by decide +kernel)) m_tuple (da_cons (de_name c nm__law_tree_2) da_nil)) da_nil)))))))))
theorem fn__law_tree {g__law_cut g__law_tree g__law_next g__law_least : List D → R D} (h__law_cut : Fn P w K mg base k "_law_cut" 2 g__law_cut) (h__law_tree : Fn P w K mg base k "_law_tree" 2 g__law_tree) (h__law_next : Fn P w K mg base k "_law_next" 2 g__law_next) (h__law_least : Fn P w K mg base k "_law_least" 1 g__law_least) (m_len : mg "len" = none) (m_enumerate : mg "enumerate" = none) (m_sorted : mg "sorted" = none) (m_tuple : mg "tuple" = none) {f : Addr} {fd : FuncData} (Fu : L2.Fun K "_law_tree" "_law_tree" s__law_tree f fd) (gx : mg "_law_tree" = some (.ref f)) (hb : Binds K fd ["_law_guests", "_law_number"] []) : Fn P w K mg base ((k + 2) + 1) "_law_tree" 2 (G__law_tree g__law_cut g__law_tree g__law_next g__law_least ) :=
  fn_def Fu sc__law_tree gx hb (fun cdv A outer s H E hr => bd__law_tree  h__law_cut h__law_tree h__law_next h__law_least m_len m_enumerate m_sorted m_tuple hr) (defG_ok rfl)
end
def fN__law_tree : Nat → List D → R D
  | 0 => fun _ => .bad
  | n + 1 => G__law_tree g__law_cut (fN__law_tree n) g__law_next g__law_least 
theorem e__law_tree (n : Nat) (a0 a1 : D) : fN__law_tree (n + 1) [a0, a1] = defR (F__law_tree g__law_cut (fN__law_tree n) g__law_next g__law_least  [.dat a0, .dat a1, .no, .no, .no]) := nrfl rfl
def g__law_tree : List D → R D := fN__law_tree 20
/-! ### _law_text -/
abbrev s__law_text : Stmt := topS 33
abbrev N__law_text : List Str := ["_law_tree_here", "_law_inner", "_law_part"]
theorem sc__law_text : FnScope N__law_text ["_law_tree_here"] (defScope s__law_text) := ⟨rfl, rfl, rfl, by decide +kernel, rfl, by decide +kernel, by decide +kernel⟩
theorem nm__law_text_0 : Nm N__law_text (defScope s__law_text) 0 "_law_tree_here" := nm_of (by decide +kernel)
theorem nm__law_text_1 : Nm N__law_text (defScope s__law_text) 1 "_law_inner" := nm_of (by decide +kernel)
def F__law_text (g__law_text : List D → R D) : DL.Env → Out := (seqS (ifS (toT (bdR (rdD 0) (isiD "int"))) (retS (ifR (toB (opR ltD (rdD 0) (fun _ => R.ok (.int 10)))) (opR ixD (fun _ => R.ok (.str "0123456789")) (rdD 0)) (opR addD (fun _ => R.ok (.str "1")) (opR ixD (fun _ => R.ok (.str "0123456789")) (opR subD (rdD 0) (fun _ => R.ok (.int 10))))))) nxS) (seqS (setS 1 (joinR (fun _ => R.ok (.str " ")) (asL (lcR (bdR (opR ixD (rdD 0) (fun _ => R.ok (.int 1))) itemsT) (tgN 2) (fun _ => R.ok true) (callR g__law_text (consR (rdD 2) (fun _ => R.ok []))) [2])))) (retS (opR addD (opR addD (bdR (opR ixD (rdD 0) (fun _ => R.ok (.int 0))) (pick2 "stools" "(" "bench" "[")) (rdD 1)) (bdR (opR ixD (rdD 0) (fun _ => R.ok (.int 0))) (pick2 "stools" ")" "bench" "]"))))))
def G__law_text (g__law_text : List D → R D) : List D → R D := defG 1 N__law_text (F__law_text g__law_text )
section
variable {P : Program} {w : World} {K : PySem.W.Frag} {mg : Str → Option Value} {base : Heap} {k : Nat}
theorem bd__law_text {g__law_text : List D → R D} (h__law_text : Fn P w K mg base k "_law_text" 1 g__law_text) (m_isinstance : mg "isinstance" = none) (m_int : mg "int" = none) {f : Addr} {cdv : Value} {A : Around} {outer : List PySem.Env} {s : Shared} {H : Hp} {E : XK} (hr : Room k (A.deeper (PyProof.Rows.envOfC "_law_text" (defScope s__law_text) s.heap.objs.size f cdv))) :
    DSs (· = cxD P w K mg base N__law_text "_law_text" (defScope s__law_text) f cdv A outer s H E) K mg (fun cls d _ H => E cls d H) (defBody s__law_text) (F__law_text g__law_text ) := by
  have c := cxs_def (P := P) (w := w) (K := K) (mg := mg) (base := base) (k := k) (H := H) (E := E) (outer := outer) sc__law_text hr
  exact (dss_cons (ds_if (dt_tru c (de_isi (T := "int") c (gm_of (by decide +kernel)) m_isinstance (de_name c nm__law_text_0) (gm_of (by decide +kernel)) m_int (by decide +kernel) (by decide))) (dss_one (ds_ret (de_if (dt_lt (de_name c nm__law_text_0) de_int) (de_ix c de_str (de_name c nm__law_text_0)) (de_add c de_str (de_ix c de_str (de_sub (de_name c nm__law_text_0) de_int)))))) dss_nil) (dss_cons (ds_set c (lm_ofD (i := 1) (by decide +kernel)) (de_join c de_str (de_l (dn_lc (own := [("_law_part", 2)]) c (di_tup c (de_ix c (de_name c nm__law_text_0) de_int)) (by decide +kernel) (dg_name (cxs_blk c) (lm_of (i := 2) (by decide +kernel))) (by decide) dts_nil (de_call (cxs_blk c) h__law_text (Nat.le_refl _) (gm_of (by decide +kernel)) (da_cons (de_name (cxs_blk c) (nm_of (i := 2) (by decide +kernel))) da_nil)))))) (dss_one (ds_ret (de_add c (de_add c (de_pick2 c (by decide) (de_ix c (de_name c nm__law_text_0) de_int)) (de_name c nm__law_text_1)) (de_pick2 c (by decide) (de_ix c (de_name c nm__law_text_0) de_int)))))))
theorem fn__law_text {g__law_text : List D → R D} (h__law_text : Fn P w K mg base k "_law_text" 1 g__law_text) (m_isinstance : mg "isinstance" = none) (m_int : mg "int" = none) {f : Addr} {fd : FuncData} (Fu : L2.Fun K "_law_text" "_law_text" s__law_text f fd) (gx : mg "_law_text" = some (.ref f)) (hb : Binds K fd ["_law_tree_here"] []) : Fn P w K mg base (k + 1) "_law_text" 1 (G__law_text g__law_text ) :=
  fn_def Fu sc__law_text gx hb (fun cdv A outer s H E hr => bd__law_text  h__law_text m_isinstance m_int hr) (defG_ok rfl)
end
def fN__law_text : Nat → List D → R D
  | 0 => fun _ => .bad
  | n + 1 => G__law_text (fN__law_text n) 
theorem e__law_text (n : Nat) (a0 : D) : fN__law_text (n + 1) [a0] = defR (F__law_text (fN__law_text n)  [.dat a0, .no, .no]) := nrfl rfl
def g__law_text : List D → R D := fN__law_text 20
/-! ### _law_alike -/
abbrev s__law_alike : Stmt := topS 34
abbrev N__law_alike : List Str := ["_law_found", "_law_due", "_law_one", "_law_other"]
theorem sc__law_alike : FnScope N__law_alike ["_law_found", "_law_due"] (defScope s__law_alike) := ⟨rfl, rfl, rfl, by decide +kernel, rfl, by decide +kernel, by decide +kernel⟩
theorem nm__law_alike_0 : Nm N__law_alike (defScope s__law_alike) 0 "_law_found" := nm_of (by decide +kernel)
theorem nm__law_alike_1 : Nm N__law_alike (defScope s__law_alike) 1 "_law_due" := nm_of (by decide +kernel)
def F__law_alike (g__law_alike : List D → R D) : DL.Env → Out := (seqS (ifS (toT (bdR (rdD 1) (isiD "int"))) (retS (andR (bdR (rdD 0) (isiD "int")) (andR (notR (bdR (rdD 0) (isiD "bool"))) (opR eqD (rdD 0) (rdD 1))))) nxS) (seqS (ifS (orT (notT (toT (bdR (rdD 0) (isiD "tuple")))) (orT (toB (opR neD (callR lenD (consR (rdD 0) (fun _ => R.ok []))) (fun _ => R.ok (.int 2)))) (orT (toB (opR neD (opR ixD (rdD 0) (fun _ => R.ok (.int 0))) (opR ixD (rdD 1) (fun _ => R.ok (.int 0))))) (notT (toT (bdR (opR ixD (rdD 0) (fun _ => R.ok (.int 1))) (isiD "tuple"))))))) (retS (fun _ => R.ok (.bool false))) nxS) (retS (andR (opR eqD (callR lenD (consR (opR ixD (rdD 0) (fun _ => R.ok (.int 1))) (fun _ => R.ok []))) (callR lenD (consR (opR ixD (rdD 1) (fun _ => R.ok (.int 1))) (fun _ => R.ok [])))) (callR allD (consR (asL (lcR (bd2R zipL (opR ixD (rdD 0) (fun _ => R.ok (.int 1))) (opR ixD (rdD 1) (fun _ => R.ok (.int 1)))) (tgT 2 (tgs1 (tgN 2) (tgs1 (tgN 3) tgs0))) (fun _ => R.ok true) (callR g__law_alike (consR (rdD 2) (consR (rdD 3) (fun _ => R.ok [])))) [2, 3])) (fun _ => R.ok [])))))))
def G__law_alike (g__law_alike : List D → R D) : List D → R D := defG 2 N__law_alike (F__law_alike g__law_alike )
section
variable {P : Program} {w : World} {K : PySem.W.Frag} {mg : Str → Option Value} {base : Heap} {k : Nat}
theorem bd__law_alike {g__law_alike : List D → R D} (h__law_alike : Fn P w K mg base k "_law_alike" 2 g__law_alike) (m_isinstance : mg "isinstance" = none) (m_int : mg "int" = none) (m_bool : mg "bool" = none) (m_tuple : mg "tuple" = none) (m_len : mg "len" = none) (m_zip : mg "zip" = none) (m_all : mg "all" = none) {f : Addr} {cdv : Value} {A : Around} {outer : List PySem.Env} {s : Shared} {H : Hp} {E : XK} (hr : Room k (A.deeper (PyProof.Rows.envOfC "_law_alike" (defScope s__law_alike) s.heap.objs.size f cdv))) :
    DSs (· = cxD P w K mg base N__law_alike "_law_alike" (defScope s__law_alike) f cdv A outer s H E) K mg (fun cls d _ H => E cls d H) (defBody s__law_alike) (F__law_alike g__law_alike ) := by
  have c := cxs_def (P := P) (w := w) (K := K) (mg := mg) (base := base) (k := k) (H := H) (E := E) (outer := outer) sc__law_alike hr
  exact (dss_cons (ds_if (dt_tru c (de_isi (T := "int") c (gm_of (by decide +kernel)) m_isinstance (de_name c nm__law_alike_1) (gm_of (by decide +kernel)) m_int (by decide +kernel) (by decide))) (dss_one (ds_ret (de_and (de_isi (T := "int") c (gm_of (by decide +kernel)) m_isinstance (de_name c nm__law_alike_0) (gm_of (by decide +kernel)) m_int (by decide +kernel) (by decide)) (de_and (de_not (de_isi (T := "bool") c (gm_of (by decide +kernel)) m_isinstance (de_name c nm__law_alike_0) (gm_of (by decide +kernel)) m_bool (by decide +kernel) (by decide))) (de_one (de_eq c (de_name c nm__law_alike_0) (de_name c nm__law_alike_1))))))) dss_nil) (dss_cons (ds_if (dt_w (dw_or (dt_not (dt_tru c (de_isi (T := "tuple") c (gm_of (by decide +kernel)) m_isinstance (de_name c nm__law_alike_0) (gm_of (by decide +kernel)) m_tuple (by decide +kernel) (by decide)))) (dw_or (dt_ne c (de_len c (gm_of (by decide +kernel)) m_len (da_cons (de_name c nm__law_alike_0) da_nil)) de_int) (dw_or (dt_ne c (de_ix c (de_name c nm__law_alike_0) de_int) (de_ix c (de_name c nm__law_alike_1) de_int)) (dw_or1 (dt_not (dt_tru c (de_isi (T := "tuple") c (gm_of (by decide +kernel)) m_isinstance (de_ix c (de_name c nm__law_alike_0) de_int) (gm_of (by decide +kernel)) m_tuple (by decide +kernel) (by decide))))))))) (dss_one (ds_ret de_bl)) dss_nil) (dss_one (ds_ret (de_and (de_eq c (de_len c (gm_of (by decide +kernel)) m_len (da_cons (de_ix c (de_name c nm__law_alike_0) de_int) da_nil)) (de_len c (gm_of (by decide +kernel)) m_len (da_cons (de_ix c (de_name c nm__law_alike_1) de_int) da_nil))) (de_one (de_all c (gm_of (by decide +kernel)) m_all (da_cons (de_l (dn_lc (own := [("_law_one", 2), ("_law_other", 3)]) c (di_zip c (gm_of (by decide +kernel)) m_zip (de_ix c (de_name c nm__law_alike_0) de_int) (de_ix c (de_name c nm__law_alike_1) de_int)) (by decide +kernel) (dg_tup (cxs_blk c) (dgs_cons (dg_name (cxs_blk c) (lm_of (i := 2) (by decide +kernel))) (dgs_cons (dg_name (cxs_blk c) (lm_of (i := 3) (by decide +kernel))) dgs_nil))) (by decide) dts_nil (de_call (cxs_blk c) h__law_alike (Nat.le_refl _) (gm_of (by decide +kernel)) (da_cons (de_name (cxs_blk c) (nm_of (i := 2) (by decide +kernel))) (da_cons (de_name (cxs_blk c) (nm_of (i := 3) (by decide +kernel))) da_nil))))) da_nil))))))))
theorem fn__law_alike {g__law_alike : List D → R D} (h__law_alike : Fn P w K mg base k "_law_alike" 2 g__law_alike) (m_isinstance : mg "isinstance" = none) (m_int : mg "int" = none) (m_bool : mg "bool" = none) (m_tuple : mg "tuple" = none) (m_len : mg "len" = none) (m_zip : mg "zip" = none) (m_all : mg "all" = none) {f : Addr} {fd : FuncData} (Fu : L2.Fun K "_law_alike" "_law_alike" s__law_alike f fd) (gx : mg "_law_alike" = some (.ref f)) (hb : Binds K fd ["_law_found", "_law_due"] []) : Fn P w K mg base (k + 1) "_law_alike" 2 (G__law_alike g__law_alike ) :=
  fn_def Fu sc__law_alike gx hb (fun cdv A outer s H E hr => bd__law_alike  h__law_alike m_isinstance m_int m_bool m_tuple m_len m_zip m_all hr) (defG_ok rfl)
end
def fN__law_alike : Nat → List D → R D
  | 0 => fun _ => .bad
  | n + 1 => G__law_alike (fN__law_alike n) 
theorem e__law_alike (n : Nat) (a0 a1 : D) : fN__law_alike (n + 1) [a0, a1] = defR (F__law_alike (fN__law_alike n)  [.dat a0, .dat a1, .no, .no]) := nrfl rfl
def g__law_alike : List D → R D := fN__law_alike 20
/-! ### law -/
abbrev s_law : Stmt := topS 35
abbrev N_law : List Str := ["_law_script", "_law_k", "_law_cell", "_law_number", "_law_tree_here", "_law_text_here"]
theorem sc_law : FnScope N_law ["_law_script"] (defScope s_law) := ⟨rfl, rfl, rfl, by decide +kernel, rfl, by decide +kernel, by decide +kernel⟩
theorem nm_law_0 : Nm N_law (defScope s_law) 0 "_law_script" := nm_of (by decide +kernel)
theorem nm_law_1 : Nm N_law (defScope s_law) 1 "_law_k" := nm_of (by decide +kernel)
theorem nm_law_2 : Nm N_law (defScope s_law) 2 "_law_cell" := nm_of (by decide +kernel)
theorem nm_law_3 : Nm N_law (defScope s_law) 3 "_law_number" := nm_of (by decide +kernel)
theorem nm_law_4 : Nm N_law (defScope s_law) 4 "_law_tree_here" := nm_of (by decide +kernel)
theorem nm_law_5 : Nm N_law (defScope s_law) 5 "_law_text_here" := nm_of (by decide +kernel)
def F_law (g__law_mixed g__law_tree g__law_order g__law_next g_shown g__law_text g__law_alike g_read : List D → R D) : DL.Env → Out := (seqS (forI (bdR (asL (scrSl 0 (fun _ => R.ok none) (bdR (fun _ => R.ok (.int 63)) partR))) enumL) (tgT 2 (tgs1 (tgN 1) (tgs1 (tgN 2) tgs0))) (seqS (setS 3 (callR g__law_mixed (consR (rdD 2) (consR (rdD 1) (fun _ => R.ok []))))) (seqS (setS 4 (callR g__law_tree (consR (callR g__law_order (consR (opR divD (rdD 3) (fun _ => R.ok (.int 12))) (consR (opR addD (fun _ => R.ok (.int 1)) (opR modD (rdD 3) (fun _ => R.ok (.int 12)))) (fun _ => R.ok [])))) (consR (callR g__law_next (consR (rdD 3) (consR (fun _ => R.ok (.int 5)) (fun _ => R.ok [])))) (fun _ => R.ok []))))) (seqS (setS 5 (callR g_shown (consR (rdD 4) (fun _ => R.ok [])))) (ifS (orT (notT (toT (bdR (rdD 5) (isiD "str")))) (orT (toB (opR neD (rdD 5) (callR g__law_text (consR (rdD 4) (fun _ => R.ok []))))) (notT (toT (callR g__law_alike (consR (callR g_read (consR (rdD 5) (fun _ => R.ok []))) (consR (rdD 4) (fun _ => R.ok [])))))))) (retS (fun _ => R.ok (.bool false))) nxS))))) (retS (andR (opR eqD (callR g_shown (consR (fun _ => R.ok (.int 0)) (fun _ => R.ok []))) (fun _ => R.ok (.str "0"))) (callR g__law_alike (consR (callR g_read (consR (fun _ => R.ok (.str "0")) (fun _ => R.ok []))) (consR (fun _ => R.ok (.int 0)) (fun _ => R.ok [])))))))
section
variable {P : Program} {w : World} {K : PySem.W.Frag} {mg : Str → Option Value} {base : Heap} {k : Nat}
theorem bd_law {g__law_mixed g__law_tree g__law_order g__law_next g_shown g__law_text g__law_alike g_read : List D → R D} (h__law_mixed : Fn P w K mg base k "_law_mixed" 2 g__law_mixed) (h__law_tree : Fn P w K mg base k "_law_tree" 2 g__law_tree) (h__law_order : Fn P w K mg base k "_law_order" 2 g__law_order) (h__law_next : Fn P w K mg base k "_law_next" 2 g__law_next) (h_shown : Fn P w K mg base k "shown" 1 g_shown) (h__law_text : Fn P w K mg base k "_law_text" 1 g__law_text) (h__law_alike : Fn P w K mg base k "_law_alike" 2 g__law_alike) (h_read : Fn P w K mg base k "read" 1 g_read) (m_enumerate : mg "enumerate" = none) (m_isinstance : mg "isinstance" = none) (m_str : mg "str" = none) {f : Addr} {cdv : Value} {A : Around} {outer : List PySem.Env} {s : Shared} {H : Hp} {E : XK} (hr : Room k (A.deeper (PyProof.Rows.envOfC "law" (defScope s_law) s.heap.objs.size f cdv))) :
    DSs (· = cxD P w K mg base N_law "law" (defScope s_law) f cdv A outer s H E) K mg (fun cls d _ H => E cls d H) (defBody s_law) (F_law g__law_mixed g__law_tree g__law_order g__law_next g_shown g__law_text g__law_alike g_read ) := by
  have c := cxs_def (P := P) (w := w) (K := K) (mg := mg) (base := base) (H := H) (E := E) (outer := outer) sc_law hr
  exact (dss_cons (ds_for c (nx_T (nx_1 (nx_N 1) (nx_1 (nx_N 2) nx_0))) (di_enum c (gm_of (by decide +kernel)) m_enumerate (de_l (dn_sliceScr c nm_law_0 do_none (do_some de_int)))) (dg_tup c (dgs_cons (dg_name c (lm_ofD (i := 1) (by decide +kernel))) (dgs_cons (dg_name c (lm_ofD (i := 2) (by decide +kernel))) dgs_nil))) (dss_cons (ds_set c (lm_ofD (i := 3) (by decide +kernel)) (de_call c h__law_mixed (Nat.le_refl _) (gm_of (by decide +kernel)) (da_cons (de_name c nm_law_2) (da_cons (de_name c nm_law_1) da_nil)))) (dss_cons (ds_set c (lm_ofD (i := 4) (by decide +kernel)) (de_call c h__law_tree (Nat.le_refl _) (gm_of (by decide +kernel)) (da_cons (de_call c h__law_order (Nat.le_refl _) (gm_of (by decide +kernel)) (da_cons (de_div (de_name c nm_law_3) de_int) (da_cons (de_add c de_int (de_mod (de_name c nm_law_3) de_int)) da_nil))) (da_cons (de_call c h__law_next (Nat.le_refl _) (gm_of (by decide +kernel)) (da_cons (de_name c nm_law_3) (da_cons de_int da_nil))) da_nil)))) (dss_cons (ds_set c (lm_ofD (i := 5) (by decide +kernel)) (de_call c h_shown (Nat.le_refl _) (gm_of (by decide +kernel)) (da_cons (de_name c nm_law_4) da_nil))) (dss_one (ds_if (dt_w (dw_or (dt_not (dt_tru c (de_isi (T := "str") c (gm_of (by decide +kernel)) m_isinstance (de_name c nm_law_5) (gm_of (by decide +kernel)) m_str (by decide +kernel) (by decide)))) (dw_or (dt_ne c (de_name c nm_law_5) (de_call c h__law_text (Nat.le_refl _) (gm_of (by decide +kernel)) (da_cons (de_name c nm_law_4) da_nil))) (dw_or1 (dt_not (dt_tru c (de_call c h__law_alike (Nat.le_refl _) (gm_of (by decide +kernel)) (da_cons (de_call c h_read (Nat.le_refl _) (gm_of (by decide +kernel)) (da_cons (de_name c nm_law_5) da_nil)) (da_cons (de_name c nm_law_4) da_nil))))))))) (dss_one (ds_ret de_bl)) dss_nil)))))) (dss_one (ds_ret (de_and (de_eq c (de_call c h_shown (Nat.le_refl _) (gm_of (by decide +kernel)) (da_cons de_int da_nil)) de_str) (de_one (de_call c h__law_alike (Nat.le_refl _) (gm_of (by decide +kernel)) (da_cons (de_call c h_read (Nat.le_refl _) (gm_of (by decide +kernel)) (da_cons de_str da_nil)) (da_cons de_int da_nil))))))))
theorem fn_law {g__law_mixed g__law_tree g__law_order g__law_next g_shown g__law_text g__law_alike g_read : List D → R D} (h__law_mixed : Fn P w K mg base k "_law_mixed" 2 g__law_mixed) (h__law_tree : Fn P w K mg base k "_law_tree" 2 g__law_tree) (h__law_order : Fn P w K mg base k "_law_order" 2 g__law_order) (h__law_next : Fn P w K mg base k "_law_next" 2 g__law_next) (h_shown : Fn P w K mg base k "shown" 1 g_shown) (h__law_text : Fn P w K mg base k "_law_text" 1 g__law_text) (h__law_alike : Fn P w K mg base k "_law_alike" 2 g__law_alike) (h_read : Fn P w K mg base k "read" 1 g_read) (m_enumerate : mg "enumerate" = none) (m_isinstance : mg "isinstance" = none) (m_str : mg "str" = none) {f : Addr} {fd : FuncData} (Fu : L2.Fun K "law" "law" s_law f fd) (ok : ∀ ns : List Int, ns.length ≤ 63 → F_law g__law_mixed g__law_tree g__law_order g__law_next g_shown g__law_text g__law_alike g_read  (.scr ns :: List.replicate (N_law.length - 1) .no) = .rt (.bool true)) : FnOk P w K mg base (L2.CX P w) (k + 1) f fd ["_law_script"] (spLaw K) :=
  law_def Fu sc_law (fun cdv A outer s H E hr => bd_law h__law_mixed h__law_tree h__law_order h__law_next h_shown h__law_text h__law_alike h_read m_enumerate m_isinstance m_str hr) ok
end
end K02
set_option maxRecDepth 100000
set_option maxHeartbeats 4000000
namespace K02
open PySem L2 DL TT
/-! ### the trees' own functions, on trees -/
theorem among_int (i lo hi : Int) : g_is_among [.int i, .int lo, .int hi] = .ok (.bool (decide (lo ≤ i) && decide (i ≤ hi))) := by
  rw [e_is_among]
  simp only [F_is_among, opR_at, andR_at, orR_at, notR_at, chainR_at, toB_at, toT_at, andT_at, orT_at, notT_at, ifR_at, consR_at, callR_at, asL_at, seqS_at, retS_at, dropS_at, setS_at, setL_at, ifS_at, rdD_z, rdD_s, rdO_z, rdO_s, frzE_o, frzE_d, frzE_n, frzE_s, lstR_at, tupR_at, slR_at, slLR_at, revR_at, slD_l, slD_t, appS_at, extS_at, appPopS_at, scalD_i, scalD_b, augS_at, asgS_at, listD_l, listD_t, tupD_l, tupD_t, intD_b, boolR_b, cmpD_i, addD_i, subD_i, pIs_n, isN_n, isN_i, isN_b, isN_s, isN_l, isN_t, lenD_l, lenD_t, itemsL_l, itemsT_t, enumL_l, partR_i, tgN_at, tgs0_at, tgs1_at, tgT2, defR_rt, defR_nx, defR_exc, truD_b, bdR_at, bd2R_at, frR_at, forI_at, nxS_at, R.bind_ok, R.out_ok, Out.then_nx, List.set_cons_succ, List.set_cons_zero, leD, ltD, gtD, geD, eqD_int, neD_int, Bool.not_true, Bool.not_false, if_true, if_false, Bool.false_eq_true, Bool.true_eq_false, decide_true, decide_false, turnS_nx, turnS_rt, turnS_ct, Out.then_rt, Out.then_exc, isi_int, isi_bool]
  by_cases h : lo ≤ i <;> simp [h]
theorem among_tup (ds : List D) (lo hi : D) : g_is_among [.tuple ds, lo, hi] = .ok (.bool false) := by
  rw [e_is_among]
  simp only [F_is_among, opR_at, andR_at, orR_at, notR_at, chainR_at, toB_at, toT_at, andT_at, orT_at, notT_at, ifR_at, consR_at, callR_at, asL_at, seqS_at, retS_at, dropS_at, setS_at, setL_at, ifS_at, rdD_z, rdD_s, rdO_z, rdO_s, frzE_o, frzE_d, frzE_n, frzE_s, lstR_at, tupR_at, slR_at, slLR_at, revR_at, slD_l, slD_t, appS_at, extS_at, appPopS_at, scalD_i, scalD_b, augS_at, asgS_at, listD_l, listD_t, tupD_l, tupD_t, intD_b, boolR_b, cmpD_i, addD_i, subD_i, pIs_n, isN_n, isN_i, isN_b, isN_s, isN_l, isN_t, lenD_l, lenD_t, itemsL_l, itemsT_t, enumL_l, partR_i, tgN_at, tgs0_at, tgs1_at, tgT2, defR_rt, defR_nx, defR_exc, truD_b, bdR_at, bd2R_at, frR_at, forI_at, nxS_at, R.bind_ok, R.out_ok, Out.then_nx, List.set_cons_succ, List.set_cons_zero, leD, ltD, gtD, geD, eqD_int, neD_int, Bool.not_true, Bool.not_false, if_true, if_false, Bool.false_eq_true, Bool.true_eq_false, decide_true, decide_false, turnS_nx, turnS_rt, turnS_ct, Out.then_rt, Out.then_exc, isi_int]
theorem among_leaf {g : Int} (h : Ok (.leaf g)) : g_is_among [.int g, .int 0, .int (12 - 1)] = .ok (.bool true) := by
  rw [Ok] at h
  rw [among_int, decide_eq_true h.1, decide_eq_true (show g ≤ 12 - 1 by omega)]; rfl
theorem fit {n : Nat} (h : n ≤ 16777216) : fits n = true := fits_of h
/-- a loop that joins what the parts tell -/
theorem seat_loop {g : List D → R D} (x : D) : ∀ (ts : List T) (acc : List Int) (s : Sl), (∀ t ∈ ts, g [toD t] = .ok (.list ((seat t).map .int))) → acc.length + (seats ts).length ≤ 4000 →
    ∃ s', forS (tgN 2) (extS 1 (callR g (consR (rdD 2) (fun _ => R.ok [])))) (toDs ts) [.dat x, .own (acc.map .int), s] = .nx [.dat x, .own ((acc ++ seats ts).map .int), s']
  | [], acc, s, _, _ => ⟨s, by rw [seats, List.append_nil]; rfl⟩
  | t :: r, acc, s, h, hl => by
    rw [seats, List.length_append] at hl
    obtain ⟨s', e⟩ := seat_loop x r (acc ++ seat t) (.dat (toD t)) (fun u hu => h u (List.mem_cons_of_mem _ hu)) (by rw [List.length_append]; omega)
    refine ⟨s', ?_⟩
    rw [toDs, forS_cons]
    simp only [opR_at, andR_at, orR_at, notR_at, chainR_at, toB_at, toT_at, andT_at, orT_at, notT_at, ifR_at, consR_at, callR_at, asL_at, seqS_at, retS_at, dropS_at, setS_at, setL_at, ifS_at, rdD_z, rdD_s, rdO_z, rdO_s, frzE_o, frzE_d, frzE_n, frzE_s, lstR_at, tupR_at, slR_at, slLR_at, revR_at, slD_l, slD_t, appS_at, extS_at, appPopS_at, scalD_i, scalD_b, augS_at, asgS_at, listD_l, listD_t, tupD_l, tupD_t, intD_b, boolR_b, cmpD_i, addD_i, subD_i, pIs_n, isN_n, isN_i, isN_b, isN_s, isN_l, isN_t, lenD_l, lenD_t, itemsL_l, itemsT_t, enumL_l, partR_i, tgN_at, tgs0_at, tgs1_at, tgT2, defR_rt, defR_nx, defR_exc, truD_b, bdR_at, bd2R_at, frR_at, forI_at, nxS_at, R.bind_ok, R.out_ok, Out.then_nx, List.set_cons_succ, List.set_cons_zero, leD, ltD, gtD, geD, eqD_int, neD_int, Bool.not_true, Bool.not_false, if_true, if_false, Bool.false_eq_true, Bool.true_eq_false, decide_true, decide_false, turnS_nx, turnS_rt, turnS_ct, Out.then_rt, Out.then_exc]
    rw [h t List.mem_cons_self]
    simp only [opR_at, andR_at, orR_at, notR_at, chainR_at, toB_at, toT_at, andT_at, orT_at, notT_at, ifR_at, consR_at, callR_at, asL_at, seqS_at, retS_at, dropS_at, setS_at, setL_at, ifS_at, rdD_z, rdD_s, rdO_z, rdO_s, frzE_o, frzE_d, frzE_n, frzE_s, lstR_at, tupR_at, slR_at, slLR_at, revR_at, slD_l, slD_t, appS_at, extS_at, appPopS_at, scalD_i, scalD_b, augS_at, asgS_at, listD_l, listD_t, tupD_l, tupD_t, intD_b, boolR_b, cmpD_i, addD_i, subD_i, pIs_n, isN_n, isN_i, isN_b, isN_s, isN_l, isN_t, lenD_l, lenD_t, itemsL_l, itemsT_t, enumL_l, partR_i, tgN_at, tgs0_at, tgs1_at, tgT2, defR_rt, defR_nx, defR_exc, truD_b, bdR_at, bd2R_at, frR_at, forI_at, nxS_at, R.bind_ok, R.out_ok, Out.then_nx, List.set_cons_succ, List.set_cons_zero, leD, ltD, gtD, geD, eqD_int, neD_int, Bool.not_true, Bool.not_false, if_true, if_false, Bool.false_eq_true, Bool.true_eq_false, decide_true, decide_false, turnS_nx, turnS_rt, turnS_ct, Out.then_rt, Out.then_exc]
    rw [if_pos (fit (by rw [List.length_map, List.length_map]; omega))]
    simp only [opR_at, andR_at, orR_at, notR_at, chainR_at, toB_at, toT_at, andT_at, orT_at, notT_at, ifR_at, consR_at, callR_at, asL_at, seqS_at, retS_at, dropS_at, setS_at, setL_at, ifS_at, rdD_z, rdD_s, rdO_z, rdO_s, frzE_o, frzE_d, frzE_n, frzE_s, lstR_at, tupR_at, slR_at, slLR_at, revR_at, slD_l, slD_t, appS_at, extS_at, appPopS_at, scalD_i, scalD_b, augS_at, asgS_at, listD_l, listD_t, tupD_l, tupD_t, intD_b, boolR_b, cmpD_i, addD_i, subD_i, pIs_n, isN_n, isN_i, isN_b, isN_s, isN_l, isN_t, lenD_l, lenD_t, itemsL_l, itemsT_t, enumL_l, partR_i, tgN_at, tgs0_at, tgs1_at, tgT2, defR_rt, defR_nx, defR_exc, truD_b, bdR_at, bd2R_at, frR_at, forI_at, nxS_at, R.bind_ok, R.out_ok, Out.then_nx, List.set_cons_succ, List.set_cons_zero, leD, ltD, gtD, geD, eqD_int, neD_int, Bool.not_true, Bool.not_false, if_true, if_false, Bool.false_eq_true, Bool.true_eq_false, decide_true, decide_false, turnS_nx, turnS_rt, turnS_ct, Out.then_rt, Out.then_exc]
    rw [← List.map_append, e, seats, List.append_assoc]
theorem ev_seated {t : T} (h : Ok t) (hl : (seat t).length ≤ 4000) : ∀ n, dep t < n → fN_seated n [toD t] = .ok (.list ((seat t).map .int)) := by
  induction t using T.ind with
  | hl g =>
    intro n hn
    obtain ⟨m, rfl⟩ : ∃ m, n = m + 1 := ⟨n - 1, by omega⟩
    rw [toD, e_seated]
    simp only [F_seated, opR_at, andR_at, orR_at, notR_at, chainR_at, toB_at, toT_at, andT_at, orT_at, notT_at, ifR_at, consR_at, callR_at, asL_at, seqS_at, retS_at, dropS_at, setS_at, setL_at, ifS_at, rdD_z, rdD_s, rdO_z, rdO_s, frzE_o, frzE_d, frzE_n, frzE_s, lstR_at, tupR_at, slR_at, slLR_at, revR_at, slD_l, slD_t, appS_at, extS_at, appPopS_at, scalD_i, scalD_b, augS_at, asgS_at, listD_l, listD_t, tupD_l, tupD_t, intD_b, boolR_b, cmpD_i, addD_i, subD_i, pIs_n, isN_n, isN_i, isN_b, isN_s, isN_l, isN_t, lenD_l, lenD_t, itemsL_l, itemsT_t, enumL_l, partR_i, tgN_at, tgs0_at, tgs1_at, tgT2, defR_rt, defR_nx, defR_exc, truD_b, bdR_at, bd2R_at, frR_at, forI_at, nxS_at, R.bind_ok, R.out_ok, Out.then_nx, List.set_cons_succ, List.set_cons_zero, leD, ltD, gtD, geD, eqD_int, neD_int, Bool.not_true, Bool.not_false, if_true, if_false, Bool.false_eq_true, Bool.true_eq_false, decide_true, decide_false, turnS_nx, turnS_rt, turnS_ct, Out.then_rt, Out.then_exc, among_leaf h, List.length_cons, List.length_nil, fit (show 0 + 1 ≤ 16777216 by decide)]
    rfl
  | hn b ts ih =>
    intro n hn
    obtain ⟨m, rfl⟩ : ∃ m, n = m + 1 := ⟨n - 1, by omega⟩
    rw [dep] at hn
    rw [Ok] at h
    rw [seat] at hl
    have hp : ∀ t ∈ ts, fN_seated m [toD t] = .ok (.list ((seat t).map .int)) := fun t ht =>
      ih t ht (oks_iff.1 h.2 t ht) (Nat.le_trans (seats_len_le ht) hl) m (by have := deps_le ht; omega)
    obtain ⟨s', e⟩ := seat_loop (g := fN_seated m) (.tuple [.str (wd b), .tuple (toDs ts)]) ts [] .no hp (by rw [List.length_nil]; omega)
    rw [toD, e_seated]
    simp only [F_seated, opR_at, andR_at, orR_at, notR_at, chainR_at, toB_at, toT_at, andT_at, orT_at, notT_at, ifR_at, consR_at, callR_at, asL_at, seqS_at, retS_at, dropS_at, setS_at, setL_at, ifS_at, rdD_z, rdD_s, rdO_z, rdO_s, frzE_o, frzE_d, frzE_n, frzE_s, lstR_at, tupR_at, slR_at, slLR_at, revR_at, slD_l, slD_t, appS_at, extS_at, appPopS_at, scalD_i, scalD_b, augS_at, asgS_at, listD_l, listD_t, tupD_l, tupD_t, intD_b, boolR_b, cmpD_i, addD_i, subD_i, pIs_n, isN_n, isN_i, isN_b, isN_s, isN_l, isN_t, lenD_l, lenD_t, itemsL_l, itemsT_t, enumL_l, partR_i, tgN_at, tgs0_at, tgs1_at, tgT2, defR_rt, defR_nx, defR_exc, truD_b, bdR_at, bd2R_at, frR_at, forI_at, nxS_at, R.bind_ok, R.out_ok, Out.then_nx, List.set_cons_succ, List.set_cons_zero, leD, ltD, gtD, geD, eqD_int, neD_int, Bool.not_true, Bool.not_false, if_true, if_false, Bool.false_eq_true, Bool.true_eq_false, decide_true, decide_false, turnS_nx, turnS_rt, turnS_ct, Out.then_rt, Out.then_exc, among_tup, List.length_nil, fit (Nat.zero_le _), ixD_t1]
    rw [show forS _ _ _ [.dat (.tuple [.str (wd b), .tuple (toDs ts)]), .own [], .no] = _ from e]
    simp only [opR_at, andR_at, orR_at, notR_at, chainR_at, toB_at, toT_at, andT_at, orT_at, notT_at, ifR_at, consR_at, callR_at, asL_at, seqS_at, retS_at, dropS_at, setS_at, setL_at, ifS_at, rdD_z, rdD_s, rdO_z, rdO_s, frzE_o, frzE_d, frzE_n, frzE_s, lstR_at, tupR_at, slR_at, slLR_at, revR_at, slD_l, slD_t, appS_at, extS_at, appPopS_at, scalD_i, scalD_b, augS_at, asgS_at, listD_l, listD_t, tupD_l, tupD_t, intD_b, boolR_b, cmpD_i, addD_i, subD_i, pIs_n, isN_n, isN_i, isN_b, isN_s, isN_l, isN_t, lenD_l, lenD_t, itemsL_l, itemsT_t, enumL_l, partR_i, tgN_at, tgs0_at, tgs1_at, tgT2, defR_rt, defR_nx, defR_exc, truD_b, bdR_at, bd2R_at, frR_at, forI_at, nxS_at, R.bind_ok, R.out_ok, Out.then_nx, List.set_cons_succ, List.set_cons_zero, leD, ltD, gtD, geD, eqD_int, neD_int, Bool.not_true, Bool.not_false, if_true, if_false, Bool.false_eq_true, Bool.true_eq_false, decide_true, decide_false, turnS_nx, turnS_rt, turnS_ct, Out.then_rt, Out.then_exc, List.nil_append]
    rfl
theorem ev_seated' {t : T} (h : Ok t) (hl : (seat t).length ≤ 4000) (hd : dep t < 20) : g_seated [toD t] = .ok (.list ((seat t).map .int)) := ev_seated h hl 20 hd
theorem ev_least {t : T} (h : Ok t) (hl : (seat t).length ≤ 4000) (hd : dep t < 20) : g_least_of [toD t] = .ok (.int (least t)) := by
  rw [e_least_of]
  simp only [F_least_of, opR_at, andR_at, orR_at, notR_at, chainR_at, toB_at, toT_at, andT_at, orT_at, notT_at, ifR_at, consR_at, callR_at, asL_at, seqS_at, retS_at, dropS_at, setS_at, setL_at, ifS_at, rdD_z, rdD_s, rdO_z, rdO_s, frzE_o, frzE_d, frzE_n, frzE_s, lstR_at, tupR_at, slR_at, slLR_at, revR_at, slD_l, slD_t, appS_at, extS_at, appPopS_at, scalD_i, scalD_b, augS_at, asgS_at, listD_l, listD_t, tupD_l, tupD_t, intD_b, boolR_b, cmpD_i, addD_i, subD_i, pIs_n, isN_n, isN_i, isN_b, isN_s, isN_l, isN_t, lenD_l, lenD_t, itemsL_l, itemsT_t, enumL_l, partR_i, tgN_at, tgs0_at, tgs1_at, tgT2, defR_rt, defR_nx, defR_exc, truD_b, bdR_at, bd2R_at, frR_at, forI_at, nxS_at, R.bind_ok, R.out_ok, Out.then_nx, List.set_cons_succ, List.set_cons_zero, leD, ltD, gtD, geD, eqD_int, neD_int, Bool.not_true, Bool.not_false, if_true, if_false, Bool.false_eq_true, Bool.true_eq_false, decide_true, decide_false, turnS_nx, turnS_rt, turnS_ct, Out.then_rt, Out.then_exc, ev_seated' h hl hd]
  unfold least
  cases e : seat t with
  | nil => exact absurd e (seat_ne h)
  | cons n r => rw [minD_ints]; rfl
theorem ixD_ts0 {t : T} {r : List T} : ixD (.list (toDs (t :: r))) (.int 0) = .ok (toD t) := by rw [toDs]; exact ixD_l0
theorem ixD_tsl {ts : List T} {t : T} (h : ts.getLast? = some t) : ixD (.list (toDs ts)) (.int (-1)) = .ok (toD t) := by
  refine ixD_l ?_
  obtain ⟨r, rfl⟩ : ∃ r, ts = r ++ [t] := by
    obtain ⟨hn, e⟩ := List.getLast?_eq_some_iff.1 h
    exact ⟨_, e⟩
  rw [toDs_map, List.map_append]
  exact L2.atI_last _ _
theorem tup_two {a b : D} {ρ : DL.Env} {f g : DL.Env → R D} (h1 : f ρ = .ok a) (h2 : g ρ = .ok b) : tupR (consR f (consR g (fun _ => R.ok []))) ρ = .ok (.tuple [a, b]) := by
  simp only [tupR_at, consR_at, h1, h2, R.bind_ok]
  rw [if_pos (fit (by simp))]
theorem compR_toDs {tf : D → DL.Env → R DL.Env} {fe : DL.Env → R D} {ρ : DL.Env} (f : T → T) : ∀ ts : List T, (∀ t ∈ ts, ∃ ρ1, tf (toD t) ρ = .ok ρ1 ∧ fe ρ1 = .ok (toD (f t))) → compR tf (fun _ => .ok true) fe ρ (toDs ts) = .ok (toDs (ts.map f))
  | [], _ => rfl
  | t :: r, h => by
    obtain ⟨ρ1, e1, e2⟩ := h t List.mem_cons_self
    have ih := compR_toDs f r fun u hu => h u (List.mem_cons_of_mem _ hu)
    rw [toDs, List.map_cons, toDs]
    unfold compR
    simp only [e1, e2, ih, R.bind_ok]
/-- the order of a bench's parts -/
theorem turn_cases {ts : List T} {x y : T} {r : List T} (h1 : ts = x :: r) (h2 : ts.getLast? = some y) : turn ts = if least x > least y then ts.reverse else ts := by
  unfold turn
  rw [List.getLast?_map, h2, h1]; rfl
theorem ev_tidied {t : T} (h : Ok t) (hl : (seat t).length ≤ 4000) (hd : dep t < 20) : ∀ n, dep t < n → fN_tidied n [toD t] = .ok (toD (tidy t)) := by
  induction t using T.ind with
  | hl g =>
    intro n hn
    obtain ⟨m, rfl⟩ : ∃ m, n = m + 1 := ⟨n - 1, by omega⟩
    rw [toD, e_tidied]
    simp only [F_tidied, opR_at, andR_at, orR_at, notR_at, chainR_at, toB_at, toT_at, andT_at, orT_at, notT_at, ifR_at, consR_at, callR_at, asL_at, seqS_at, retS_at, dropS_at, setS_at, setL_at, ifS_at, rdD_z, rdD_s, rdO_z, rdO_s, frzE_o, frzE_d, frzE_n, frzE_s, lstR_at, tupR_at, slR_at, slLR_at, revR_at, slD_l, slD_t, appS_at, extS_at, appPopS_at, scalD_i, scalD_b, augS_at, asgS_at, listD_l, listD_t, tupD_l, tupD_t, intD_b, boolR_b, cmpD_i, addD_i, subD_i, pIs_n, isN_n, isN_i, isN_b, isN_s, isN_l, isN_t, lenD_l, lenD_t, itemsL_l, itemsT_t, enumL_l, partR_i, tgN_at, tgs0_at, tgs1_at, tgT2, defR_rt, defR_nx, defR_exc, truD_b, bdR_at, bd2R_at, frR_at, forI_at, nxS_at, R.bind_ok, R.out_ok, Out.then_nx, List.set_cons_succ, List.set_cons_zero, leD, ltD, gtD, geD, eqD_int, neD_int, Bool.not_true, Bool.not_false, if_true, if_false, Bool.false_eq_true, Bool.true_eq_false, decide_true, decide_false, turnS_nx, turnS_rt, turnS_ct, Out.then_rt, Out.then_exc, among_leaf h]
    rfl
  | hn b ts ih =>
    intro n hn
    obtain ⟨m, rfl⟩ : ∃ m, n = m + 1 := ⟨n - 1, by omega⟩
    have h0 := h
    rw [dep] at hn hd
    rw [Ok] at h
    rw [seat] at hl
    have hlen : 2 ≤ ts.length := by have := h.1; split at this <;> omega
    have hc := compR_toDs (tf := tgN 2) (fe := callR (fN_tidied m) (consR (rdD 2) (fun _ => R.ok []))) (ρ := [.dat (.tuple [.str (wd b), .tuple (toDs ts)]), .no, .no]) tidy ts fun t ht =>
      ⟨_, tgN_at, by simp only [opR_at, andR_at, orR_at, notR_at, chainR_at, toB_at, toT_at, andT_at, orT_at, notT_at, ifR_at, consR_at, callR_at, asL_at, seqS_at, retS_at, dropS_at, setS_at, setL_at, ifS_at, rdD_z, rdD_s, rdO_z, rdO_s, frzE_o, frzE_d, frzE_n, frzE_s, lstR_at, tupR_at, slR_at, slLR_at, revR_at, slD_l, slD_t, appS_at, extS_at, appPopS_at, scalD_i, scalD_b, augS_at, asgS_at, listD_l, listD_t, tupD_l, tupD_t, intD_b, boolR_b, cmpD_i, addD_i, subD_i, pIs_n, isN_n, isN_i, isN_b, isN_s, isN_l, isN_t, lenD_l, lenD_t, itemsL_l, itemsT_t, enumL_l, partR_i, tgN_at, tgs0_at, tgs1_at, tgT2, defR_rt, defR_nx, defR_exc, truD_b, bdR_at, bd2R_at, frR_at, forI_at, nxS_at, R.bind_ok, R.out_ok, Out.then_nx, List.set_cons_succ, List.set_cons_zero, leD, ltD, gtD, geD, eqD_int, neD_int, Bool.not_true, Bool.not_false, if_true, if_false, Bool.false_eq_true, Bool.true_eq_false, decide_true, decide_false, turnS_nx, turnS_rt, turnS_ct, Out.then_rt, Out.then_exc]; exact ih t ht (oks_iff.1 h.2 t ht) (Nat.le_trans (seats_len_le ht) hl) (by have := deps_le ht; omega) m (by have := deps_le ht; omega)⟩
    rw [← tidys_map] at hc
    have hl4 : ts.length ≤ 4000 := Nat.le_trans (seats_len_ge h.2) hl
    have hlc : lcR (bdR (opR ixD (rdD 0) (fun _ => R.ok (.int 1))) itemsT) (tgN 2) (fun _ => R.ok true) (callR (fN_tidied m) (consR (rdD 2) (fun _ => R.ok []))) [2] [.dat (.tuple [.str (wd b), .tuple (toDs ts)]), .no, .no] = .ok (toDs (tidys ts)) := by
      refine lcR_ok (its := toDs ts) ?_ hc (by rw [toDs_length]; omega)
      simp only [opR_at, andR_at, orR_at, notR_at, chainR_at, toB_at, toT_at, andT_at, orT_at, notT_at, ifR_at, consR_at, callR_at, asL_at, seqS_at, retS_at, dropS_at, setS_at, setL_at, ifS_at, rdD_z, rdD_s, rdO_z, rdO_s, frzE_o, frzE_d, frzE_n, frzE_s, lstR_at, tupR_at, slR_at, slLR_at, revR_at, slD_l, slD_t, appS_at, extS_at, appPopS_at, scalD_i, scalD_b, augS_at, asgS_at, listD_l, listD_t, tupD_l, tupD_t, intD_b, boolR_b, cmpD_i, addD_i, subD_i, pIs_n, isN_n, isN_i, isN_b, isN_s, isN_l, isN_t, lenD_l, lenD_t, itemsL_l, itemsT_t, enumL_l, partR_i, tgN_at, tgs0_at, tgs1_at, tgT2, defR_rt, defR_nx, defR_exc, truD_b, bdR_at, bd2R_at, frR_at, forI_at, nxS_at, R.bind_ok, R.out_ok, Out.then_nx, List.set_cons_succ, List.set_cons_zero, leD, ltD, gtD, geD, eqD_int, neD_int, Bool.not_true, Bool.not_false, if_true, if_false, Bool.false_eq_true, Bool.true_eq_false, decide_true, decide_false, turnS_nx, turnS_rt, turnS_ct, Out.then_rt, Out.then_exc, ixD_t1]
    have hok : ∀ u ∈ tidys ts, Ok u ∧ (seat u).length ≤ 4000 ∧ dep u < 20 := by
      rw [tidys_map]
      intro u hu
      obtain ⟨t, ht, rfl⟩ := List.mem_map.1 hu
      have hs : (seat t).length ≤ 4000 := Nat.le_trans (seats_len_le ht) hl
      refine ⟨tidy_ok (oks_iff.1 h.2 t ht), by rw [tidy_seat.length_eq]; exact hs, ?_⟩
      have := dep_tidy t
      have := deps_le ht
      omega
    have hk : ∀ u ∈ tidys ts, g_least_of [toD u] = .ok (.int (least u)) := fun u hu => ev_least (hok u hu).1 (hok u hu).2.1 (hok u hu).2.2
    have htl : (tidys ts).length = ts.length := by rw [tidys_map, List.length_map]
    rw [toD, e_tidied]
    simp only [F_tidied, opR_at, andR_at, orR_at, notR_at, chainR_at, toB_at, toT_at, andT_at, orT_at, notT_at, ifR_at, consR_at, callR_at, asL_at, seqS_at, retS_at, dropS_at, setS_at, setL_at, ifS_at, rdD_z, rdD_s, rdO_z, rdO_s, frzE_o, frzE_d, frzE_n, frzE_s, lstR_at, tupR_at, slR_at, slLR_at, revR_at, slD_l, slD_t, appS_at, extS_at, appPopS_at, scalD_i, scalD_b, augS_at, asgS_at, listD_l, listD_t, tupD_l, tupD_t, intD_b, boolR_b, cmpD_i, addD_i, subD_i, pIs_n, isN_n, isN_i, isN_b, isN_s, isN_l, isN_t, lenD_l, lenD_t, itemsL_l, itemsT_t, enumL_l, partR_i, tgN_at, tgs0_at, tgs1_at, tgT2, defR_rt, defR_nx, defR_exc, truD_b, bdR_at, bd2R_at, frR_at, forI_at, nxS_at, R.bind_ok, R.out_ok, Out.then_nx, List.set_cons_succ, List.set_cons_zero, leD, ltD, gtD, geD, eqD_int, neD_int, Bool.not_true, Bool.not_false, if_true, if_false, Bool.false_eq_true, Bool.true_eq_false, decide_true, decide_false, turnS_nx, turnS_rt, turnS_ct, Out.then_rt, Out.then_exc, among_tup, hlc, ixD_t0, ixD_t1, eq_stools]
    cases b with
    | false =>
      simp only [opR_at, andR_at, orR_at, notR_at, chainR_at, toB_at, toT_at, andT_at, orT_at, notT_at, ifR_at, consR_at, callR_at, asL_at, seqS_at, retS_at, dropS_at, setS_at, setL_at, ifS_at, rdD_z, rdD_s, rdO_z, rdO_s, frzE_o, frzE_d, frzE_n, frzE_s, lstR_at, tupR_at, slR_at, slLR_at, revR_at, slD_l, slD_t, appS_at, extS_at, appPopS_at, scalD_i, scalD_b, augS_at, asgS_at, listD_l, listD_t, tupD_l, tupD_t, intD_b, boolR_b, cmpD_i, addD_i, subD_i, pIs_n, isN_n, isN_i, isN_b, isN_s, isN_l, isN_t, lenD_l, lenD_t, itemsL_l, itemsT_t, enumL_l, partR_i, tgN_at, tgs0_at, tgs1_at, tgT2, defR_rt, defR_nx, defR_exc, truD_b, bdR_at, bd2R_at, frR_at, forI_at, nxS_at, R.bind_ok, R.out_ok, Out.then_nx, List.set_cons_succ, List.set_cons_zero, leD, ltD, gtD, geD, eqD_int, neD_int, Bool.not_true, Bool.not_false, if_true, if_false, Bool.false_eq_true, Bool.true_eq_false, decide_true, decide_false, turnS_nx, turnS_rt, turnS_ct, Out.then_rt, Out.then_exc, sortKD_toDs hk]
      rw [if_pos (fit (by simp))]
      simp only [opR_at, andR_at, orR_at, notR_at, chainR_at, toB_at, toT_at, andT_at, orT_at, notT_at, ifR_at, consR_at, callR_at, asL_at, seqS_at, retS_at, dropS_at, setS_at, setL_at, ifS_at, rdD_z, rdD_s, rdO_z, rdO_s, frzE_o, frzE_d, frzE_n, frzE_s, lstR_at, tupR_at, slR_at, slLR_at, revR_at, slD_l, slD_t, appS_at, extS_at, appPopS_at, scalD_i, scalD_b, augS_at, asgS_at, listD_l, listD_t, tupD_l, tupD_t, intD_b, boolR_b, cmpD_i, addD_i, subD_i, pIs_n, isN_n, isN_i, isN_b, isN_s, isN_l, isN_t, lenD_l, lenD_t, itemsL_l, itemsT_t, enumL_l, partR_i, tgN_at, tgs0_at, tgs1_at, tgT2, defR_rt, defR_nx, defR_exc, truD_b, bdR_at, bd2R_at, frR_at, forI_at, nxS_at, R.bind_ok, R.out_ok, Out.then_nx, List.set_cons_succ, List.set_cons_zero, leD, ltD, gtD, geD, eqD_int, neD_int, Bool.not_true, Bool.not_false, if_true, if_false, Bool.false_eq_true, Bool.true_eq_false, decide_true, decide_false, turnS_nx, turnS_rt, turnS_ct, Out.then_rt, Out.then_exc]
      rw [tidy, toD]; rfl
    | true =>
      obtain ⟨x, r, hx⟩ : ∃ x r, tidys ts = x :: r := by
        cases e : tidys ts with
        | nil => rw [e] at htl; simp at htl; omega
        | cons x r => exact ⟨x, r, rfl⟩
      obtain ⟨y, hy⟩ : ∃ y, (tidys ts).getLast? = some y := ⟨_, List.getLast?_eq_some_getLast (by rw [hx]; simp)⟩
      have k1 : g_least_of [toD x] = .ok (.int (least x)) := hk x (by rw [hx]; exact List.mem_cons_self)
      have k2 : g_least_of [toD y] = .ok (.int (least y)) := hk y (List.mem_of_getLast? hy)
      have i0 : ixD (.list (toDs (tidys ts))) (.int 0) = .ok (toD x) := by rw [hx]; exact ixD_ts0
      simp only [opR_at, andR_at, orR_at, notR_at, chainR_at, toB_at, toT_at, andT_at, orT_at, notT_at, ifR_at, consR_at, callR_at, asL_at, seqS_at, retS_at, dropS_at, setS_at, setL_at, ifS_at, rdD_z, rdD_s, rdO_z, rdO_s, frzE_o, frzE_d, frzE_n, frzE_s, lstR_at, tupR_at, slR_at, slLR_at, revR_at, slD_l, slD_t, appS_at, extS_at, appPopS_at, scalD_i, scalD_b, augS_at, asgS_at, listD_l, listD_t, tupD_l, tupD_t, intD_b, boolR_b, cmpD_i, addD_i, subD_i, pIs_n, isN_n, isN_i, isN_b, isN_s, isN_l, isN_t, lenD_l, lenD_t, itemsL_l, itemsT_t, enumL_l, partR_i, tgN_at, tgs0_at, tgs1_at, tgT2, defR_rt, defR_nx, defR_exc, truD_b, bdR_at, bd2R_at, frR_at, forI_at, nxS_at, R.bind_ok, R.out_ok, Out.then_nx, List.set_cons_succ, List.set_cons_zero, leD, ltD, gtD, geD, eqD_int, neD_int, Bool.not_true, Bool.not_false, if_true, if_false, Bool.false_eq_true, Bool.true_eq_false, decide_true, decide_false, turnS_nx, turnS_rt, turnS_ct, Out.then_rt, Out.then_exc, i0, ixD_tsl hy, k1, k2]
      have ht : tidy (.node true ts) = .node true (turn (tidys ts)) := rfl
      rw [ht, turn_cases hx hy, toD]
      by_cases hgt : least x > least y
      · rw [if_pos hgt]
        simp only [opR_at, andR_at, orR_at, notR_at, chainR_at, toB_at, toT_at, andT_at, orT_at, notT_at, ifR_at, consR_at, callR_at, asL_at, seqS_at, retS_at, dropS_at, setS_at, setL_at, ifS_at, rdD_z, rdD_s, rdO_z, rdO_s, frzE_o, frzE_d, frzE_n, frzE_s, lstR_at, tupR_at, slR_at, slLR_at, revR_at, slD_l, slD_t, appS_at, extS_at, appPopS_at, scalD_i, scalD_b, augS_at, asgS_at, listD_l, listD_t, tupD_l, tupD_t, intD_b, boolR_b, cmpD_i, addD_i, subD_i, pIs_n, isN_n, isN_i, isN_b, isN_s, isN_l, isN_t, lenD_l, lenD_t, itemsL_l, itemsT_t, enumL_l, partR_i, tgN_at, tgs0_at, tgs1_at, tgT2, defR_rt, defR_nx, defR_exc, truD_b, bdR_at, bd2R_at, frR_at, forI_at, nxS_at, R.bind_ok, R.out_ok, Out.then_nx, List.set_cons_succ, List.set_cons_zero, leD, ltD, gtD, geD, eqD_int, neD_int, Bool.not_true, Bool.not_false, if_true, if_false, Bool.false_eq_true, Bool.true_eq_false, decide_true, decide_false, turnS_nx, turnS_rt, turnS_ct, Out.then_rt, Out.then_exc, hgt]
        rw [if_pos (fit (by simp)), toDs_rev]; rfl
      · rw [if_neg hgt]
        simp only [opR_at, andR_at, orR_at, notR_at, chainR_at, toB_at, toT_at, andT_at, orT_at, notT_at, ifR_at, consR_at, callR_at, asL_at, seqS_at, retS_at, dropS_at, setS_at, setL_at, ifS_at, rdD_z, rdD_s, rdO_z, rdO_s, frzE_o, frzE_d, frzE_n, frzE_s, lstR_at, tupR_at, slR_at, slLR_at, revR_at, slD_l, slD_t, appS_at, extS_at, appPopS_at, scalD_i, scalD_b, augS_at, asgS_at, listD_l, listD_t, tupD_l, tupD_t, intD_b, boolR_b, cmpD_i, addD_i, subD_i, pIs_n, isN_n, isN_i, isN_b, isN_s, isN_l, isN_t, lenD_l, lenD_t, itemsL_l, itemsT_t, enumL_l, partR_i, tgN_at, tgs0_at, tgs1_at, tgT2, defR_rt, defR_nx, defR_exc, truD_b, bdR_at, bd2R_at, frR_at, forI_at, nxS_at, R.bind_ok, R.out_ok, Out.then_nx, List.set_cons_succ, List.set_cons_zero, leD, ltD, gtD, geD, eqD_int, neD_int, Bool.not_true, Bool.not_false, if_true, if_false, Bool.false_eq_true, Bool.true_eq_false, decide_true, decide_false, turnS_nx, turnS_rt, turnS_ct, Out.then_rt, Out.then_exc, hgt]
        rw [if_pos (fit (by simp))]; rfl

theorem ev_tidied' {t : T} (h : Ok t) (hl : (seat t).length ≤ 4000) (hd : dep t < 20) : g_tidied [toD t] = .ok (toD (tidy t)) := ev_tidied h hl hd 20 hd
theorem rg2_ok {a b : Int} (h1 : -1000000 ≤ a) (h2 : a ≤ 1000000) (h3 : -1000000 ≤ b) (h4 : b ≤ 1000000) : rg2 (.int a) (.int b) = .ok (rangeI a (b - a).toNat) := if_pos (by
  unfold rgOk
  simp only [Bool.and_eq_true, decide_eq_true_eq]
  omega)
end K02
set_option maxRecDepth 100000
set_option maxHeartbeats 4000000
namespace K02
open PySem L2 DL TT
/-! a tree's guests counted by guests_in -/
theorem gin_loop {g : List D → R D} (x : Sl) (deep most : Int) : ∀ (ts : List T) (acc : Nat) (s4 s5 : Sl), (∀ t ∈ ts, ∀ m : Int, (seat t).length ≤ m → g [toD t, .int (deep - 1), .int m] = .ok (.int (seat t).length)) → (acc : Int) + (seats ts).length ≤ most →
    ∃ s4' s5', forS (tgN 4) (seqS (setS 5 (callR g (consR (rdD 4) (consR (opR subD (rdD 1) (fun _ => R.ok (.int 1))) (consR (opR subD (rdD 2) (rdD 3)) (fun _ => R.ok [])))))) (seqS (ifS (toB (opR (pIs false) (rdD 5) (fun _ => R.ok .none))) (retS (fun _ => R.ok .none)) nxS) (augS 3 (rdD 5)))) (toDs ts)
      [x, .dat (.int deep), .dat (.int most), .dat (.int acc), s4, s5] = .nx [x, .dat (.int deep), .dat (.int most), .dat (.int ((acc + (seats ts).length : Nat) : Int)), s4', s5']
  | [], acc, s4, s5, _, _ => ⟨s4, s5, by rw [seats]; rfl⟩
  | t :: r, acc, s4, s5, h, hm => by
    rw [seats, List.length_append] at hm
    obtain ⟨s4', s5', e⟩ := gin_loop x deep most r (acc + (seat t).length) (.dat (toD t)) (.dat (.int (seat t).length)) (fun u hu => h u (List.mem_cons_of_mem _ hu)) (by omega)
    refine ⟨s4', s5', ?_⟩
    rw [toDs, forS_cons]
    simp only [opR_at, andR_at, orR_at, notR_at, chainR_at, toB_at, toT_at, andT_at, orT_at, notT_at, ifR_at, consR_at, callR_at, asL_at, seqS_at, retS_at, dropS_at, setS_at, setL_at, ifS_at, rdD_z, rdD_s, rdO_z, rdO_s, frzE_o, frzE_d, frzE_n, frzE_s, lstR_at, tupR_at, slR_at, slLR_at, revR_at, slD_l, slD_t, appS_at, extS_at, appPopS_at, scalD_i, scalD_b, augS_at, asgS_at, listD_l, listD_t, tupD_l, tupD_t, intD_b, boolR_b, cmpD_i, addD_i, subD_i, pIs_n, isN_n, isN_i, isN_b, isN_s, isN_l, isN_t, lenD_l, lenD_t, itemsL_l, itemsT_t, enumL_l, partR_i, tgN_at, tgs0_at, tgs1_at, tgT2, defR_rt, defR_nx, defR_exc, truD_b, bdR_at, bd2R_at, frR_at, forI_at, nxS_at, R.bind_ok, R.out_ok, Out.then_nx, List.set_cons_succ, List.set_cons_zero, leD, ltD, gtD, geD, eqD_int, neD_int, Bool.not_true, Bool.not_false, if_true, if_false, Bool.false_eq_true, Bool.true_eq_false, decide_true, decide_false, turnS_nx, turnS_rt, turnS_ct, Out.then_rt, Out.then_exc]
    rw [h t List.mem_cons_self (most - acc) (by omega)]
    simp only [opR_at, andR_at, orR_at, notR_at, chainR_at, toB_at, toT_at, andT_at, orT_at, notT_at, ifR_at, consR_at, callR_at, asL_at, seqS_at, retS_at, dropS_at, setS_at, setL_at, ifS_at, rdD_z, rdD_s, rdO_z, rdO_s, frzE_o, frzE_d, frzE_n, frzE_s, lstR_at, tupR_at, slR_at, slLR_at, revR_at, slD_l, slD_t, appS_at, extS_at, appPopS_at, scalD_i, scalD_b, augS_at, asgS_at, listD_l, listD_t, tupD_l, tupD_t, intD_b, boolR_b, cmpD_i, addD_i, subD_i, pIs_n, isN_n, isN_i, isN_b, isN_s, isN_l, isN_t, lenD_l, lenD_t, itemsL_l, itemsT_t, enumL_l, partR_i, tgN_at, tgs0_at, tgs1_at, tgT2, defR_rt, defR_nx, defR_exc, truD_b, bdR_at, bd2R_at, frR_at, forI_at, nxS_at, R.bind_ok, R.out_ok, Out.then_nx, List.set_cons_succ, List.set_cons_zero, leD, ltD, gtD, geD, eqD_int, neD_int, Bool.not_true, Bool.not_false, if_true, if_false, Bool.false_eq_true, Bool.true_eq_false, decide_true, decide_false, turnS_nx, turnS_rt, turnS_ct, Out.then_rt, Out.then_exc]
    rw [show (acc : Int) + ((seat t).length : Nat) = ((acc + (seat t).length : Nat) : Int) by omega, e, seats, List.length_append, Nat.add_assoc]
theorem ev_gin {t : T} (h : Ok t) (hl : (seat t).length ≤ 4000) : ∀ (n : Nat) (deep most : Int), dep t < n → dep t ≤ deep → (seat t).length ≤ most → fN_guests_in n [toD t, .int deep, .int most] = .ok (.int (seat t).length) := by
  induction t using T.ind with
  | hl g =>
    intro n deep most hn hd hm
    obtain ⟨m, rfl⟩ : ∃ m, n = m + 1 := ⟨n - 1, by omega⟩
    have h1 : (0 : Int) < most := by rw [seat] at hm; simp at hm; omega
    rw [toD, e_guests_in]
    simp only [F_guests_in, opR_at, andR_at, orR_at, notR_at, chainR_at, toB_at, toT_at, andT_at, orT_at, notT_at, ifR_at, consR_at, callR_at, asL_at, seqS_at, retS_at, dropS_at, setS_at, setL_at, ifS_at, rdD_z, rdD_s, rdO_z, rdO_s, frzE_o, frzE_d, frzE_n, frzE_s, lstR_at, tupR_at, slR_at, slLR_at, revR_at, slD_l, slD_t, appS_at, extS_at, appPopS_at, scalD_i, scalD_b, augS_at, asgS_at, listD_l, listD_t, tupD_l, tupD_t, intD_b, boolR_b, cmpD_i, addD_i, subD_i, pIs_n, isN_n, isN_i, isN_b, isN_s, isN_l, isN_t, lenD_l, lenD_t, itemsL_l, itemsT_t, enumL_l, partR_i, tgN_at, tgs0_at, tgs1_at, tgT2, defR_rt, defR_nx, defR_exc, truD_b, bdR_at, bd2R_at, frR_at, forI_at, nxS_at, R.bind_ok, R.out_ok, Out.then_nx, List.set_cons_succ, List.set_cons_zero, leD, ltD, gtD, geD, eqD_int, neD_int, Bool.not_true, Bool.not_false, if_true, if_false, Bool.false_eq_true, Bool.true_eq_false, decide_true, decide_false, turnS_nx, turnS_rt, turnS_ct, Out.then_rt, Out.then_exc, h1, among_leaf h]
    rfl
  | hn b ts ih =>
    intro n deep most hn hd hm
    obtain ⟨m, rfl⟩ : ∃ m, n = m + 1 := ⟨n - 1, by omega⟩
    have h0 := seat_pos h
    rw [dep] at hn hd
    rw [Ok] at h
    rw [seat] at hl hm h0
    have h1 : (0 : Int) < most := by omega
    have h2 : ¬ most < 1 := by omega
    have h3 : ¬ deep = 0 := by omega
    have h4 : ¬ ((ts.length : Int) < 2) := by have := h.1; split at this <;> omega
    have hb : ∀ (e : b = true), ¬ ((ts.length : Int) < 3) := by intro e; have := h.1; rw [if_pos e] at this; omega
    obtain ⟨s4, s5, e⟩ := gin_loop (g := fN_guests_in m) (.dat (.tuple [.str (wd b), .tuple (toDs ts)])) deep most ts 0 .no .no (fun t ht k hk =>
      ih t ht (oks_iff.1 h.2 t ht) (Nat.le_trans (seats_len_le ht) hl) m (deep - 1) k (by have := deps_le ht; omega) (by have := deps_le ht; omega) hk) (by omega)
    rw [toD, e_guests_in]
    simp only [F_guests_in, opR_at, andR_at, orR_at, notR_at, chainR_at, toB_at, toT_at, andT_at, orT_at, notT_at, ifR_at, consR_at, callR_at, asL_at, seqS_at, retS_at, dropS_at, setS_at, setL_at, ifS_at, rdD_z, rdD_s, rdO_z, rdO_s, frzE_o, frzE_d, frzE_n, frzE_s, lstR_at, tupR_at, slR_at, slLR_at, revR_at, slD_l, slD_t, appS_at, extS_at, appPopS_at, scalD_i, scalD_b, augS_at, asgS_at, listD_l, listD_t, tupD_l, tupD_t, intD_b, boolR_b, cmpD_i, addD_i, subD_i, pIs_n, isN_n, isN_i, isN_b, isN_s, isN_l, isN_t, lenD_l, lenD_t, itemsL_l, itemsT_t, enumL_l, partR_i, tgN_at, tgs0_at, tgs1_at, tgT2, defR_rt, defR_nx, defR_exc, truD_b, bdR_at, bd2R_at, frR_at, forI_at, nxS_at, R.bind_ok, R.out_ok, Out.then_nx, List.set_cons_succ, List.set_cons_zero, leD, ltD, gtD, geD, eqD_int, neD_int, Bool.not_true, Bool.not_false, if_true, if_false, Bool.false_eq_true, Bool.true_eq_false, decide_true, decide_false, turnS_nx, turnS_rt, turnS_ct, Out.then_rt, Out.then_exc, h1, among_tup, h2, h3, isi_tuple, isi_str, List.length_cons, List.length_nil, ixD_t0, ixD_t1, fit (show 0 + 1 + 1 ≤ 16777216 by decide), wd_in, toDs_length, h4, eq_bench, show (decide (((0 + 1 + 1 : Nat) : Int) = 2)) = true from rfl]
    have fin : defR ((seqS (setS 3 (fun _ => R.ok (.int 0))) (seqS (forI (bdR (opR ixD (rdD 0) (fun _ => R.ok (.int 1))) itemsT) (tgN 4) (seqS (setS 5 (callR (fN_guests_in m) (consR (rdD 4) (consR (opR subD (rdD 1) (fun _ => R.ok (.int 1))) (consR (opR subD (rdD 2) (rdD 3)) (fun _ => R.ok [])))))) (seqS (ifS (toB (opR (pIs false) (rdD 5) (fun _ => R.ok .none))) (retS (fun _ => R.ok .none)) nxS) (augS 3 (rdD 5))))) (retS (rdD 3)))) [.dat (.tuple [.str (wd b), .tuple (toDs ts)]), .dat (.int deep), .dat (.int most), .no, .no, .no]) = .ok (.int (seats ts).length) := by
      simp only [opR_at, andR_at, orR_at, notR_at, chainR_at, toB_at, toT_at, andT_at, orT_at, notT_at, ifR_at, consR_at, callR_at, asL_at, seqS_at, retS_at, dropS_at, setS_at, setL_at, ifS_at, rdD_z, rdD_s, rdO_z, rdO_s, frzE_o, frzE_d, frzE_n, frzE_s, lstR_at, tupR_at, slR_at, slLR_at, revR_at, slD_l, slD_t, appS_at, extS_at, appPopS_at, scalD_i, scalD_b, augS_at, asgS_at, listD_l, listD_t, tupD_l, tupD_t, intD_b, boolR_b, cmpD_i, addD_i, subD_i, pIs_n, isN_n, isN_i, isN_b, isN_s, isN_l, isN_t, lenD_l, lenD_t, itemsL_l, itemsT_t, enumL_l, partR_i, tgN_at, tgs0_at, tgs1_at, tgT2, defR_rt, defR_nx, defR_exc, truD_b, bdR_at, bd2R_at, frR_at, forI_at, nxS_at, R.bind_ok, R.out_ok, Out.then_nx, List.set_cons_succ, List.set_cons_zero, leD, ltD, gtD, geD, eqD_int, neD_int, Bool.not_true, Bool.not_false, if_true, if_false, Bool.false_eq_true, Bool.true_eq_false, decide_true, decide_false, turnS_nx, turnS_rt, turnS_ct, Out.then_rt, Out.then_exc, ixD_t1]
      rw [show forS _ _ _ [.dat (.tuple [.str (wd b), .tuple (toDs ts)]), .dat (.int deep), .dat (.int most), .dat (.int 0), .no, .no] = _ from e]
      simp only [opR_at, andR_at, orR_at, notR_at, chainR_at, toB_at, toT_at, andT_at, orT_at, notT_at, ifR_at, consR_at, callR_at, asL_at, seqS_at, retS_at, dropS_at, setS_at, setL_at, ifS_at, rdD_z, rdD_s, rdO_z, rdO_s, frzE_o, frzE_d, frzE_n, frzE_s, lstR_at, tupR_at, slR_at, slLR_at, revR_at, slD_l, slD_t, appS_at, extS_at, appPopS_at, scalD_i, scalD_b, augS_at, asgS_at, listD_l, listD_t, tupD_l, tupD_t, intD_b, boolR_b, cmpD_i, addD_i, subD_i, pIs_n, isN_n, isN_i, isN_b, isN_s, isN_l, isN_t, lenD_l, lenD_t, itemsL_l, itemsT_t, enumL_l, partR_i, tgN_at, tgs0_at, tgs1_at, tgT2, defR_rt, defR_nx, defR_exc, truD_b, bdR_at, bd2R_at, frR_at, forI_at, nxS_at, R.bind_ok, R.out_ok, Out.then_nx, List.set_cons_succ, List.set_cons_zero, leD, ltD, gtD, geD, eqD_int, neD_int, Bool.not_true, Bool.not_false, if_true, if_false, Bool.false_eq_true, Bool.true_eq_false, decide_true, decide_false, turnS_nx, turnS_rt, turnS_ct, Out.then_rt, Out.then_exc, Nat.zero_add]
    rw [seat]
    cases b with
    | false => simp only [opR_at, andR_at, orR_at, notR_at, chainR_at, toB_at, toT_at, andT_at, orT_at, notT_at, ifR_at, consR_at, callR_at, asL_at, seqS_at, retS_at, dropS_at, setS_at, setL_at, ifS_at, rdD_z, rdD_s, rdO_z, rdO_s, frzE_o, frzE_d, frzE_n, frzE_s, lstR_at, tupR_at, slR_at, slLR_at, revR_at, slD_l, slD_t, appS_at, extS_at, appPopS_at, scalD_i, scalD_b, augS_at, asgS_at, listD_l, listD_t, tupD_l, tupD_t, intD_b, boolR_b, cmpD_i, addD_i, subD_i, pIs_n, isN_n, isN_i, isN_b, isN_s, isN_l, isN_t, lenD_l, lenD_t, itemsL_l, itemsT_t, enumL_l, partR_i, tgN_at, tgs0_at, tgs1_at, tgT2, defR_rt, defR_nx, defR_exc, truD_b, bdR_at, bd2R_at, frR_at, forI_at, nxS_at, R.bind_ok, R.out_ok, Out.then_nx, List.set_cons_succ, List.set_cons_zero, leD, ltD, gtD, geD, eqD_int, neD_int, Bool.not_true, Bool.not_false, if_true, if_false, Bool.false_eq_true, Bool.true_eq_false, decide_true, decide_false, turnS_nx, turnS_rt, turnS_ct, Out.then_rt, Out.then_exc]; simp only [opR_at, andR_at, orR_at, notR_at, chainR_at, toB_at, toT_at, andT_at, orT_at, notT_at, ifR_at, consR_at, callR_at, asL_at, seqS_at, retS_at, dropS_at, setS_at, setL_at, ifS_at, rdD_z, rdD_s, rdO_z, rdO_s, frzE_o, frzE_d, frzE_n, frzE_s, lstR_at, tupR_at, slR_at, slLR_at, revR_at, slD_l, slD_t, appS_at, extS_at, appPopS_at, scalD_i, scalD_b, augS_at, asgS_at, listD_l, listD_t, tupD_l, tupD_t, intD_b, boolR_b, cmpD_i, addD_i, subD_i, pIs_n, isN_n, isN_i, isN_b, isN_s, isN_l, isN_t, lenD_l, lenD_t, itemsL_l, itemsT_t, enumL_l, partR_i, tgN_at, tgs0_at, tgs1_at, tgT2, defR_rt, defR_nx, defR_exc, truD_b, bdR_at, bd2R_at, frR_at, forI_at, nxS_at, R.bind_ok, R.out_ok, Out.then_nx, List.set_cons_succ, List.set_cons_zero, leD, ltD, gtD, geD, eqD_int, neD_int, Bool.not_true, Bool.not_false, if_true, if_false, Bool.false_eq_true, Bool.true_eq_false, decide_true, decide_false, turnS_nx, turnS_rt, turnS_ct, Out.then_rt, Out.then_exc] at fin; exact fin
    | true => simp only [opR_at, andR_at, orR_at, notR_at, chainR_at, toB_at, toT_at, andT_at, orT_at, notT_at, ifR_at, consR_at, callR_at, asL_at, seqS_at, retS_at, dropS_at, setS_at, setL_at, ifS_at, rdD_z, rdD_s, rdO_z, rdO_s, frzE_o, frzE_d, frzE_n, frzE_s, lstR_at, tupR_at, slR_at, slLR_at, revR_at, slD_l, slD_t, appS_at, extS_at, appPopS_at, scalD_i, scalD_b, augS_at, asgS_at, listD_l, listD_t, tupD_l, tupD_t, intD_b, boolR_b, cmpD_i, addD_i, subD_i, pIs_n, isN_n, isN_i, isN_b, isN_s, isN_l, isN_t, lenD_l, lenD_t, itemsL_l, itemsT_t, enumL_l, partR_i, tgN_at, tgs0_at, tgs1_at, tgT2, defR_rt, defR_nx, defR_exc, truD_b, bdR_at, bd2R_at, frR_at, forI_at, nxS_at, R.bind_ok, R.out_ok, Out.then_nx, List.set_cons_succ, List.set_cons_zero, leD, ltD, gtD, geD, eqD_int, neD_int, Bool.not_true, Bool.not_false, if_true, if_false, Bool.false_eq_true, Bool.true_eq_false, decide_true, decide_false, turnS_nx, turnS_rt, turnS_ct, Out.then_rt, Out.then_exc, hb rfl]; simp only [opR_at, andR_at, orR_at, notR_at, chainR_at, toB_at, toT_at, andT_at, orT_at, notT_at, ifR_at, consR_at, callR_at, asL_at, seqS_at, retS_at, dropS_at, setS_at, setL_at, ifS_at, rdD_z, rdD_s, rdO_z, rdO_s, frzE_o, frzE_d, frzE_n, frzE_s, lstR_at, tupR_at, slR_at, slLR_at, revR_at, slD_l, slD_t, appS_at, extS_at, appPopS_at, scalD_i, scalD_b, augS_at, asgS_at, listD_l, listD_t, tupD_l, tupD_t, intD_b, boolR_b, cmpD_i, addD_i, subD_i, pIs_n, isN_n, isN_i, isN_b, isN_s, isN_l, isN_t, lenD_l, lenD_t, itemsL_l, itemsT_t, enumL_l, partR_i, tgN_at, tgs0_at, tgs1_at, tgT2, defR_rt, defR_nx, defR_exc, truD_b, bdR_at, bd2R_at, frR_at, forI_at, nxS_at, R.bind_ok, R.out_ok, Out.then_nx, List.set_cons_succ, List.set_cons_zero, leD, ltD, gtD, geD, eqD_int, neD_int, Bool.not_true, Bool.not_false, if_true, if_false, Bool.false_eq_true, Bool.true_eq_false, decide_true, decide_false, turnS_nx, turnS_rt, turnS_ct, Out.then_rt, Out.then_exc] at fin; exact fin
/-! a good tree -/
structure Good (t : T) (n : Nat) : Prop where
  ok : Ok t
  tidy : Tidy t
  perm : (seat t).Perm (TT.rangeZ n)
  n12 : n ≤ 12
theorem Good.len {t : T} {n : Nat} (h : Good t n) : (seat t).length = n := by rw [h.perm.length_eq, rangeZ_len]
theorem Good.dep {t : T} {n : Nat} (h : Good t n) : TT.dep t < 12 := by
  have := dep_lt h.ok
  have := h.len
  have := h.n12
  omega
theorem Good.pos {t : T} {n : Nat} (h : Good t n) : 1 ≤ n := by rw [← h.len]; exact seat_pos h.ok
theorem eqD_range (n : Nat) : eqD (.list ((TT.rangeZ n).map .int)) (.list ((TT.rangeZ n).map .int)) = .ok (.bool true) := by rw [eqD_ints, decide_eq_true rfl]
theorem ev_is_tree {t : T} {n : Nat} (h : Good t n) : g_is_tree [toD t] = .ok (.bool true) := by
  have hl := h.len
  have h12 := h.n12
  have hd := h.dep
  have e1 : g_guests_in [toD t, .int 12, .int 12] = .ok (.int (seat t).length) := ev_gin h.ok (by omega) 20 12 12 (by omega) (by omega) (by omega)
  have e2 := ev_seated' h.ok (by omega) (by omega)
  have e3 := ev_tidied' h.ok (by omega) (by omega)
  have e4 : lrg1 (.int (n : Nat)) = .ok ((TT.rangeZ n).map .int) := by
    rw [← rangeI_rangeZ]
    exact if_pos (by unfold rgOk; simp only [Bool.and_eq_true, decide_eq_true_eq]; omega)
  rw [e_is_tree]
  simp only [F_is_tree, opR_at, andR_at, orR_at, notR_at, chainR_at, toB_at, toT_at, andT_at, orT_at, notT_at, ifR_at, consR_at, callR_at, asL_at, seqS_at, retS_at, dropS_at, setS_at, setL_at, ifS_at, rdD_z, rdD_s, rdO_z, rdO_s, frzE_o, frzE_d, frzE_n, frzE_s, lstR_at, tupR_at, slR_at, slLR_at, revR_at, slD_l, slD_t, appS_at, extS_at, appPopS_at, scalD_i, scalD_b, augS_at, asgS_at, listD_l, listD_t, tupD_l, tupD_t, intD_b, boolR_b, cmpD_i, addD_i, subD_i, pIs_n, isN_n, isN_i, isN_b, isN_s, isN_l, isN_t, lenD_l, lenD_t, itemsL_l, itemsT_t, enumL_l, partR_i, tgN_at, tgs0_at, tgs1_at, tgT2, defR_rt, defR_nx, defR_exc, truD_b, bdR_at, bd2R_at, frR_at, forI_at, nxS_at, R.bind_ok, R.out_ok, Out.then_nx, List.set_cons_succ, List.set_cons_zero, leD, ltD, gtD, geD, eqD_int, neD_int, Bool.not_true, Bool.not_false, if_true, if_false, Bool.false_eq_true, Bool.true_eq_false, decide_true, decide_false, turnS_nx, turnS_rt, turnS_ct, Out.then_rt, Out.then_exc, e1, e2, e3, sortD_ints, List.length_map, hl, e4, isort_range h.perm, eqD_range, tidy_id h.tidy]
  rw [eqD_self (shaped_toD (by omega))]
  rfl
theorem ev_need_tree {t : T} {n : Nat} (h : Good t n) : g_need_tree [toD t] = .ok .none := by
  rw [e_need_tree]
  simp only [F_need_tree, opR_at, andR_at, orR_at, notR_at, chainR_at, toB_at, toT_at, andT_at, orT_at, notT_at, ifR_at, consR_at, callR_at, asL_at, seqS_at, retS_at, dropS_at, setS_at, setL_at, ifS_at, rdD_z, rdD_s, rdO_z, rdO_s, frzE_o, frzE_d, frzE_n, frzE_s, lstR_at, tupR_at, slR_at, slLR_at, revR_at, slD_l, slD_t, appS_at, extS_at, appPopS_at, scalD_i, scalD_b, augS_at, asgS_at, listD_l, listD_t, tupD_l, tupD_t, intD_b, boolR_b, cmpD_i, addD_i, subD_i, pIs_n, isN_n, isN_i, isN_b, isN_s, isN_l, isN_t, lenD_l, lenD_t, itemsL_l, itemsT_t, enumL_l, partR_i, tgN_at, tgs0_at, tgs1_at, tgT2, defR_rt, defR_nx, defR_exc, truD_b, bdR_at, bd2R_at, frR_at, forI_at, nxS_at, R.bind_ok, R.out_ok, Out.then_nx, List.set_cons_succ, List.set_cons_zero, leD, ltD, gtD, geD, eqD_int, neD_int, Bool.not_true, Bool.not_false, if_true, if_false, Bool.false_eq_true, Bool.true_eq_false, decide_true, decide_false, turnS_nx, turnS_rt, turnS_ct, Out.then_rt, Out.then_exc, ev_is_tree h]
/-! ### the law's own drawing -/
def mixedI (a k : Int) : Int := (a * 48271 + 7919 * k * k * k + 104729) % 2147483647 * 16807 % 2147483629
def nextI (a k : Int) : Int := (a * (k * k + 1) + 1009 * k + 11) * 69621 % 2147483629
theorem nextI_b (a k : Int) : 0 ≤ nextI a k ∧ nextI a k < 2147483629 := by unfold nextI; omega
theorem mixedI_b (a k : Int) : 0 ≤ mixedI a k ∧ mixedI a k < 2147483629 := by unfold mixedI; omega
theorem kk_lt {k : Int} (h0 : 0 ≤ k) (h1 : k < 4096) : 0 ≤ k * k ∧ k * k < 16777216 := by
  have a := Int.mul_le_mul (show k ≤ 4095 by omega) (show k ≤ 4095 by omega) h0 (by omega)
  have b := Int.mul_nonneg h0 h0
  omega
theorem ev_mixed (a k : Int) (h0 : 0 ≤ k) (h1 : k < 4096) : g__law_mixed [.int a, .int k] = .ok (.int (mixedI a k)) := by
  rw [e__law_mixed]
  simp (disch := omega) [F__law_mixed, mulD_r, modD_i]
  rfl
theorem ev_next (a k : Int) (h0 : 0 ≤ k) (h1 : k < 4096) : g__law_next [.int a, .int k] = .ok (.int (nextI a k)) := by
  rw [e__law_next]
  have h2 := kk_lt h0 h1
  simp (disch := omega) [F__law_next, mulD_r, modD_i]
  rfl
theorem rangeI_succ (lo : Int) (n : Nat) : rangeI lo (n + 1) = .int lo :: rangeI (lo + 1) n := by
  unfold rangeI
  rw [List.range_succ_eq_map, List.map_cons, List.map_map]
  simp only [Int.ofNat_zero, Int.add_zero, List.cons.injEq, true_and, Int.natCast_zero]
  refine List.map_congr_left fun i _ => ?_
  show PyData.int (lo + ((i + 1 : Nat) : Int)) = PyData.int (lo + 1 + (i : Nat))
  congr 1
  omega
theorem rgOk_of {a b : Int} (h1 : -1000000 ≤ a) (h2 : a ≤ 1000000) (h3 : -1000000 ≤ b) (h4 : b ≤ 1000000) : rgOk a b = true := by
  unfold rgOk
  simp only [Bool.and_eq_true, decide_eq_true_eq]
  omega
theorem lrg1_ok {n : Int} (h1 : -1000000 ≤ n) (h2 : n ≤ 1000000) : lrg1 (.int n) = .ok (rangeI 0 n.toNat) := if_pos (rgOk_of (by omega) (by omega) h1 h2)
theorem rg1_ok {n : Int} (h1 : -1000000 ≤ n) (h2 : n ≤ 1000000) : rg1 (.int n) = .ok (rangeI 0 n.toNat) := if_pos (rgOk_of (by omega) (by omega) h1 h2)
theorem erase_map (l : List Int) : ∀ n : Nat, (l.map PyData.int).eraseIdx n = (l.eraseIdx n).map .int := by
  induction l with
  | nil => intro n; rfl
  | cons x r ih =>
    intro n
    cases n with
    | zero => rfl
    | succ n => rw [List.map_cons, List.eraseIdx_cons_succ, List.eraseIdx_cons_succ, List.map_cons, ih]
theorem popD_ok {left : List Int} {z : Int} (h0 : 0 ≤ z) (h1 : z < left.length) (h2 : left.length ≤ 16777216) : popD (left.map .int) (.int z) = .ok (.int (left.getD z.toNat 0), (left.eraseIdx z.toNat).map .int) := by
  have hl : z.toNat < left.length := by omega
  have e1 : (left.map PyData.int).getD z.toNat .none = .int (left.getD z.toNat 0) := by
    rw [List.getD_eq_getElem?_getD, List.getElem?_map, List.getElem?_eq_getElem hl, List.getD_eq_getElem?_getD, List.getElem?_eq_getElem hl]; rfl
  have e2 : (left.map PyData.int).eraseIdx z.toNat = (left.eraseIdx z.toNat).map .int := erase_map _ _
  show (if _ then _ else _) = _
  rw [if_pos ⟨h0, by rw [List.length_map]; exact h1, fits_of (by rw [List.length_map]; omega)⟩, e1, e2]
theorem getD_erase_perm : ∀ (left : List Int) (j : Nat) (h : j < left.length), (left.getD j 0 :: left.eraseIdx j).Perm left
  | x :: r, 0, _ => List.Perm.refl _
  | x :: r, j + 1, h => by
    rw [List.eraseIdx_cons_succ, List.getD_cons_succ]
    exact (List.Perm.swap _ _ _).trans ((getD_erase_perm r j (by simpa using h)).cons x)
theorem order_loop (a n : Int) (m : Nat) : ∀ (i : Nat) (left found : List Int) (s4 : Sl), left.length = m → i + m ≤ 1000 → found.length + m ≤ 1000 → ∃ (l' : List Int) (s4' : Sl),
    forS (tgN 4) (appPopS 3 2 (bdR (frR 2 (opR modD (opR divD (callR g__law_next (consR (rdD 0) (consR (rdD 4) (fun _ => R.ok [])))) (fun _ => R.ok (.int 3))) (callR lenD (consR (rdD 2) (fun _ => R.ok []))))) scalD)) (rangeI (i : Int) m)
      [.dat (.int a), .dat (.int n), .own (left.map .int), .own (found.map .int), s4] = .nx [.dat (.int a), .dat (.int n), .own [], .own (l'.map .int), s4'] ∧ l'.Perm (found ++ left) := by
  induction m with
  | zero =>
    intro i left found s4 hl _ _
    have : left = [] := List.eq_nil_of_length_eq_zero hl
    subst this
    exact ⟨found, s4, rfl, by rw [List.append_nil]⟩
  | succ m ih =>
    intro i left found s4 hl hi hf
    obtain ⟨z, hz⟩ : ∃ z, z = nextI a i / 3 % (m + 1 : Int) := ⟨_, rfl⟩
    have hz0 : 0 ≤ z := by rw [hz]; exact Int.emod_nonneg _ (by omega)
    have hz1 : z < m + 1 := by rw [hz]; exact Int.emod_lt_of_pos _ (by omega)
    have hzl : z.toNat < left.length := by omega
    obtain ⟨l', s4', e, hp⟩ := ih (i + 1) (left.eraseIdx z.toNat) (found ++ [left.getD z.toNat 0]) (.dat (.int i)) (by rw [List.length_eraseIdx_of_lt hzl]; omega) (by omega) (by rw [List.length_append, List.length_singleton]; omega)
    refine ⟨l', s4', ?_, ?_⟩
    · rw [rangeI_succ]
      have e2 : ((i : Int) + 1) = ((i + 1 : Nat) : Int) := by omega
      rw [e2]
      have hlen : ((left.map PyData.int).length : Int) = m + 1 := by rw [List.length_map, hl]; omega
      rw [forS_cons]
      simp only [opR_at, andR_at, orR_at, notR_at, chainR_at, toB_at, toT_at, andT_at, orT_at, notT_at, ifR_at, consR_at, callR_at, asL_at, seqS_at, retS_at, dropS_at, setS_at, setL_at, ifS_at, rdD_z, rdD_s, rdO_z, rdO_s, frzE_o, frzE_d, frzE_n, frzE_s, lstR_at, tupR_at, slR_at, slLR_at, revR_at, slD_l, slD_t, appS_at, extS_at, appPopS_at, scalD_i, scalD_b, augS_at, asgS_at, listD_l, listD_t, tupD_l, tupD_t, intD_b, boolR_b, cmpD_i, addD_i, subD_i, pIs_n, isN_n, isN_i, isN_b, isN_s, isN_l, isN_t, lenD_l, lenD_t, itemsL_l, itemsT_t, enumL_l, partR_i, tgN_at, tgs0_at, tgs1_at, tgT2, defR_rt, defR_nx, defR_exc, truD_b, bdR_at, bd2R_at, frR_at, forI_at, nxS_at, R.bind_ok, R.out_ok, Out.then_nx, List.set_cons_succ, List.set_cons_zero, leD, ltD, gtD, geD, eqD_int, neD_int, Bool.not_true, Bool.not_false, if_true, if_false, Bool.false_eq_true, Bool.true_eq_false, decide_true, decide_false, turnS_nx, turnS_rt, turnS_ct, Out.then_rt, Out.then_exc]
      rw [ev_next _ _ (by omega) (by omega)]
      simp only [opR_at, andR_at, orR_at, notR_at, chainR_at, toB_at, toT_at, andT_at, orT_at, notT_at, ifR_at, consR_at, callR_at, asL_at, seqS_at, retS_at, dropS_at, setS_at, setL_at, ifS_at, rdD_z, rdD_s, rdO_z, rdO_s, frzE_o, frzE_d, frzE_n, frzE_s, lstR_at, tupR_at, slR_at, slLR_at, revR_at, slD_l, slD_t, appS_at, extS_at, appPopS_at, scalD_i, scalD_b, augS_at, asgS_at, listD_l, listD_t, tupD_l, tupD_t, intD_b, boolR_b, cmpD_i, addD_i, subD_i, pIs_n, isN_n, isN_i, isN_b, isN_s, isN_l, isN_t, lenD_l, lenD_t, itemsL_l, itemsT_t, enumL_l, partR_i, tgN_at, tgs0_at, tgs1_at, tgT2, defR_rt, defR_nx, defR_exc, truD_b, bdR_at, bd2R_at, frR_at, forI_at, nxS_at, R.bind_ok, R.out_ok, Out.then_nx, List.set_cons_succ, List.set_cons_zero, leD, ltD, gtD, geD, eqD_int, neD_int, Bool.not_true, Bool.not_false, if_true, if_false, Bool.false_eq_true, Bool.true_eq_false, decide_true, decide_false, turnS_nx, turnS_rt, turnS_ct, Out.then_rt, Out.then_exc, divD_i (show (0 : Int) < 3 by decide) (by decide), hlen]
      rw [modD_i (by omega), ← hz]
      simp only [opR_at, andR_at, orR_at, notR_at, chainR_at, toB_at, toT_at, andT_at, orT_at, notT_at, ifR_at, consR_at, callR_at, asL_at, seqS_at, retS_at, dropS_at, setS_at, setL_at, ifS_at, rdD_z, rdD_s, rdO_z, rdO_s, frzE_o, frzE_d, frzE_n, frzE_s, lstR_at, tupR_at, slR_at, slLR_at, revR_at, slD_l, slD_t, appS_at, extS_at, appPopS_at, scalD_i, scalD_b, augS_at, asgS_at, listD_l, listD_t, tupD_l, tupD_t, intD_b, boolR_b, cmpD_i, addD_i, subD_i, pIs_n, isN_n, isN_i, isN_b, isN_s, isN_l, isN_t, lenD_l, lenD_t, itemsL_l, itemsT_t, enumL_l, partR_i, tgN_at, tgs0_at, tgs1_at, tgT2, defR_rt, defR_nx, defR_exc, truD_b, bdR_at, bd2R_at, frR_at, forI_at, nxS_at, R.bind_ok, R.out_ok, Out.then_nx, List.set_cons_succ, List.set_cons_zero, leD, ltD, gtD, geD, eqD_int, neD_int, Bool.not_true, Bool.not_false, if_true, if_false, Bool.false_eq_true, Bool.true_eq_false, decide_true, decide_false, turnS_nx, turnS_rt, turnS_ct, Out.then_rt, Out.then_exc]
      rw [popD_ok hz0 (by omega) (by omega)]
      simp only [opR_at, andR_at, orR_at, notR_at, chainR_at, toB_at, toT_at, andT_at, orT_at, notT_at, ifR_at, consR_at, callR_at, asL_at, seqS_at, retS_at, dropS_at, setS_at, setL_at, ifS_at, rdD_z, rdD_s, rdO_z, rdO_s, frzE_o, frzE_d, frzE_n, frzE_s, lstR_at, tupR_at, slR_at, slLR_at, revR_at, slD_l, slD_t, appS_at, extS_at, appPopS_at, scalD_i, scalD_b, augS_at, asgS_at, listD_l, listD_t, tupD_l, tupD_t, intD_b, boolR_b, cmpD_i, addD_i, subD_i, pIs_n, isN_n, isN_i, isN_b, isN_s, isN_l, isN_t, lenD_l, lenD_t, itemsL_l, itemsT_t, enumL_l, partR_i, tgN_at, tgs0_at, tgs1_at, tgT2, defR_rt, defR_nx, defR_exc, truD_b, bdR_at, bd2R_at, frR_at, forI_at, nxS_at, R.bind_ok, R.out_ok, Out.then_nx, List.set_cons_succ, List.set_cons_zero, leD, ltD, gtD, geD, eqD_int, neD_int, Bool.not_true, Bool.not_false, if_true, if_false, Bool.false_eq_true, Bool.true_eq_false, decide_true, decide_false, turnS_nx, turnS_rt, turnS_ct, Out.then_rt, Out.then_exc]
      rw [if_pos (fits_of (by rw [List.length_map]; omega))]
      simp only [opR_at, andR_at, orR_at, notR_at, chainR_at, toB_at, toT_at, andT_at, orT_at, notT_at, ifR_at, consR_at, callR_at, asL_at, seqS_at, retS_at, dropS_at, setS_at, setL_at, ifS_at, rdD_z, rdD_s, rdO_z, rdO_s, frzE_o, frzE_d, frzE_n, frzE_s, lstR_at, tupR_at, slR_at, slLR_at, revR_at, slD_l, slD_t, appS_at, extS_at, appPopS_at, scalD_i, scalD_b, augS_at, asgS_at, listD_l, listD_t, tupD_l, tupD_t, intD_b, boolR_b, cmpD_i, addD_i, subD_i, pIs_n, isN_n, isN_i, isN_b, isN_s, isN_l, isN_t, lenD_l, lenD_t, itemsL_l, itemsT_t, enumL_l, partR_i, tgN_at, tgs0_at, tgs1_at, tgT2, defR_rt, defR_nx, defR_exc, truD_b, bdR_at, bd2R_at, frR_at, forI_at, nxS_at, R.bind_ok, R.out_ok, Out.then_nx, List.set_cons_succ, List.set_cons_zero, leD, ltD, gtD, geD, eqD_int, neD_int, Bool.not_true, Bool.not_false, if_true, if_false, Bool.false_eq_true, Bool.true_eq_false, decide_true, decide_false, turnS_nx, turnS_rt, turnS_ct, Out.then_rt, Out.then_exc]
      rw [show (found.map PyData.int ++ [PyData.int (left.getD z.toNat 0)]) = (found ++ [left.getD z.toNat 0]).map .int by rw [List.map_append]; rfl]
      exact e
    · refine hp.trans ?_
      rw [List.append_assoc]
      exact List.Perm.append_left _ (getD_erase_perm left z.toNat hzl)
theorem ev_order0 (a : Int) (n : Nat) (h1 : n ≤ 1000) : ∃ l : List Int, g__law_order [.int a, .int n] = .ok (.list (l.map .int)) ∧ l.Perm (TT.rangeZ n) := by
  obtain ⟨l', s4', e, hp⟩ := order_loop a n n 0 (TT.rangeZ n) [] .no (rangeZ_len n) (by omega) (by rw [List.length_nil]; omega)
  refine ⟨l', ?_, by rw [List.nil_append] at hp; exact hp⟩
  rw [e__law_order]
  have k1 : lrg1 (.int n) = .ok ((TT.rangeZ n).map .int) := by rw [lrg1_ok (by omega) (by omega), Int.toNat_natCast, rangeI_rangeZ]
  have k2 : rg1 (.int n) = .ok (rangeI ((0 : Nat) : Int) n) := by rw [rg1_ok (by omega) (by omega), Int.toNat_natCast]; rfl
  simp only [F__law_order, opR_at, andR_at, orR_at, notR_at, chainR_at, toB_at, toT_at, andT_at, orT_at, notT_at, ifR_at, consR_at, callR_at, asL_at, seqS_at, retS_at, dropS_at, setS_at, setL_at, ifS_at, rdD_z, rdD_s, rdO_z, rdO_s, frzE_o, frzE_d, frzE_n, frzE_s, lstR_at, tupR_at, slR_at, slLR_at, revR_at, slD_l, slD_t, appS_at, extS_at, appPopS_at, scalD_i, scalD_b, augS_at, asgS_at, listD_l, listD_t, tupD_l, tupD_t, intD_b, boolR_b, cmpD_i, addD_i, subD_i, pIs_n, isN_n, isN_i, isN_b, isN_s, isN_l, isN_t, lenD_l, lenD_t, itemsL_l, itemsT_t, enumL_l, partR_i, tgN_at, tgs0_at, tgs1_at, tgT2, defR_rt, defR_nx, defR_exc, truD_b, bdR_at, bd2R_at, frR_at, forI_at, nxS_at, R.bind_ok, R.out_ok, Out.then_nx, List.set_cons_succ, List.set_cons_zero, leD, ltD, gtD, geD, eqD_int, neD_int, Bool.not_true, Bool.not_false, if_true, if_false, Bool.false_eq_true, Bool.true_eq_false, decide_true, decide_false, turnS_nx, turnS_rt, turnS_ct, Out.then_rt, Out.then_exc, k1, k2, List.length_nil, fits_of (Nat.zero_le _)]
  rw [show forS _ _ _ [.dat (.int a), .dat (.int n), .own ((TT.rangeZ n).map .int), .own [], .no] = _ from e]
  rfl
/-- the drawn order -/
noncomputable def orderI (a : Int) (n : Nat) : List Int := if h : n ≤ 1000 then (ev_order0 a n h).choose else []
theorem ev_order (a : Int) (n : Nat) (h1 : n ≤ 1000) : g__law_order [.int a, .int n] = .ok (.list ((orderI a n).map .int)) := by
  unfold orderI; rw [dif_pos h1]; exact (ev_order0 a n h1).choose_spec.1
theorem orderI_perm (a : Int) (n : Nat) (h1 : n ≤ 1000) : (orderI a n).Perm (TT.rangeZ n) := by
  unfold orderI; rw [dif_pos h1]; exact (ev_order0 a n h1).choose_spec.2
end K02
set_option maxRecDepth 100000
set_option maxHeartbeats 4000000
namespace K02
open PySem L2 DL TT
/-! the law's own trees -/
theorem lseat_loop {g : List D → R D} (x : Sl) : ∀ (ts : List T) (acc : List Int) (s : Sl), (∀ t ∈ ts, g [toD t] = .ok (.list ((seat t).map .int))) → acc.length + (seats ts).length ≤ 4000 →
    ∃ s', forS (tgN 2) (setS 1 (opR addD (rdD 1) (callR g (consR (rdD 2) (fun _ => R.ok []))))) (toDs ts) [x, .dat (.list (acc.map .int)), s] = .nx [x, .dat (.list ((acc ++ seats ts).map .int)), s']
  | [], acc, s, _, _ => ⟨s, by rw [seats, List.append_nil]; rfl⟩
  | t :: r, acc, s, h, hl => by
    rw [seats, List.length_append] at hl
    obtain ⟨s', e⟩ := lseat_loop x r (acc ++ seat t) (.dat (toD t)) (fun u hu => h u (List.mem_cons_of_mem _ hu)) (by rw [List.length_append]; omega)
    refine ⟨s', ?_⟩
    rw [toDs, forS_cons]
    simp only [opR_at, andR_at, orR_at, notR_at, chainR_at, toB_at, toT_at, andT_at, orT_at, notT_at, ifR_at, consR_at, callR_at, asL_at, seqS_at, retS_at, dropS_at, setS_at, setL_at, ifS_at, rdD_z, rdD_s, rdO_z, rdO_s, frzE_o, frzE_d, frzE_n, frzE_s, lstR_at, tupR_at, slR_at, slLR_at, revR_at, slD_l, slD_t, appS_at, extS_at, appPopS_at, scalD_i, scalD_b, augS_at, asgS_at, listD_l, listD_t, tupD_l, tupD_t, intD_b, boolR_b, cmpD_i, addD_i, subD_i, pIs_n, isN_n, isN_i, isN_b, isN_s, isN_l, isN_t, lenD_l, lenD_t, itemsL_l, itemsT_t, enumL_l, partR_i, tgN_at, tgs0_at, tgs1_at, tgT2, defR_rt, defR_nx, defR_exc, truD_b, bdR_at, bd2R_at, frR_at, forI_at, nxS_at, R.bind_ok, R.out_ok, Out.then_nx, List.set_cons_succ, List.set_cons_zero, leD, ltD, gtD, geD, eqD_int, neD_int, Bool.not_true, Bool.not_false, if_true, if_false, Bool.false_eq_true, Bool.true_eq_false, decide_true, decide_false, turnS_nx, turnS_rt, turnS_ct, Out.then_rt, Out.then_exc]
    rw [h t List.mem_cons_self]
    simp only [opR_at, andR_at, orR_at, notR_at, chainR_at, toB_at, toT_at, andT_at, orT_at, notT_at, ifR_at, consR_at, callR_at, asL_at, seqS_at, retS_at, dropS_at, setS_at, setL_at, ifS_at, rdD_z, rdD_s, rdO_z, rdO_s, frzE_o, frzE_d, frzE_n, frzE_s, lstR_at, tupR_at, slR_at, slLR_at, revR_at, slD_l, slD_t, appS_at, extS_at, appPopS_at, scalD_i, scalD_b, augS_at, asgS_at, listD_l, listD_t, tupD_l, tupD_t, intD_b, boolR_b, cmpD_i, addD_i, subD_i, pIs_n, isN_n, isN_i, isN_b, isN_s, isN_l, isN_t, lenD_l, lenD_t, itemsL_l, itemsT_t, enumL_l, partR_i, tgN_at, tgs0_at, tgs1_at, tgT2, defR_rt, defR_nx, defR_exc, truD_b, bdR_at, bd2R_at, frR_at, forI_at, nxS_at, R.bind_ok, R.out_ok, Out.then_nx, List.set_cons_succ, List.set_cons_zero, leD, ltD, gtD, geD, eqD_int, neD_int, Bool.not_true, Bool.not_false, if_true, if_false, Bool.false_eq_true, Bool.true_eq_false, decide_true, decide_false, turnS_nx, turnS_rt, turnS_ct, Out.then_rt, Out.then_exc]
    rw [addD_lists (by rw [List.length_map, List.length_map]; omega)]
    simp only [opR_at, andR_at, orR_at, notR_at, chainR_at, toB_at, toT_at, andT_at, orT_at, notT_at, ifR_at, consR_at, callR_at, asL_at, seqS_at, retS_at, dropS_at, setS_at, setL_at, ifS_at, rdD_z, rdD_s, rdO_z, rdO_s, frzE_o, frzE_d, frzE_n, frzE_s, lstR_at, tupR_at, slR_at, slLR_at, revR_at, slD_l, slD_t, appS_at, extS_at, appPopS_at, scalD_i, scalD_b, augS_at, asgS_at, listD_l, listD_t, tupD_l, tupD_t, intD_b, boolR_b, cmpD_i, addD_i, subD_i, pIs_n, isN_n, isN_i, isN_b, isN_s, isN_l, isN_t, lenD_l, lenD_t, itemsL_l, itemsT_t, enumL_l, partR_i, tgN_at, tgs0_at, tgs1_at, tgT2, defR_rt, defR_nx, defR_exc, truD_b, bdR_at, bd2R_at, frR_at, forI_at, nxS_at, R.bind_ok, R.out_ok, Out.then_nx, List.set_cons_succ, List.set_cons_zero, leD, ltD, gtD, geD, eqD_int, neD_int, Bool.not_true, Bool.not_false, if_true, if_false, Bool.false_eq_true, Bool.true_eq_false, decide_true, decide_false, turnS_nx, turnS_rt, turnS_ct, Out.then_rt, Out.then_exc]
    rw [← List.map_append, e, seats, List.append_assoc]
theorem ev_lseat {t : T} (h : Ok t) (hl : (seat t).length ≤ 4000) : ∀ n, dep t < n → fN__law_seated n [toD t] = .ok (.list ((seat t).map .int)) := by
  induction t using T.ind with
  | hl g =>
    intro n hn
    obtain ⟨m, rfl⟩ : ∃ m, n = m + 1 := ⟨n - 1, by omega⟩
    rw [toD, e__law_seated]
    simp only [F__law_seated, opR_at, andR_at, orR_at, notR_at, chainR_at, toB_at, toT_at, andT_at, orT_at, notT_at, ifR_at, consR_at, callR_at, asL_at, seqS_at, retS_at, dropS_at, setS_at, setL_at, ifS_at, rdD_z, rdD_s, rdO_z, rdO_s, frzE_o, frzE_d, frzE_n, frzE_s, lstR_at, tupR_at, slR_at, slLR_at, revR_at, slD_l, slD_t, appS_at, extS_at, appPopS_at, scalD_i, scalD_b, augS_at, asgS_at, listD_l, listD_t, tupD_l, tupD_t, intD_b, boolR_b, cmpD_i, addD_i, subD_i, pIs_n, isN_n, isN_i, isN_b, isN_s, isN_l, isN_t, lenD_l, lenD_t, itemsL_l, itemsT_t, enumL_l, partR_i, tgN_at, tgs0_at, tgs1_at, tgT2, defR_rt, defR_nx, defR_exc, truD_b, bdR_at, bd2R_at, frR_at, forI_at, nxS_at, R.bind_ok, R.out_ok, Out.then_nx, List.set_cons_succ, List.set_cons_zero, leD, ltD, gtD, geD, eqD_int, neD_int, Bool.not_true, Bool.not_false, if_true, if_false, Bool.false_eq_true, Bool.true_eq_false, decide_true, decide_false, turnS_nx, turnS_rt, turnS_ct, Out.then_rt, Out.then_exc, isi_int, List.length_cons, List.length_nil, fit (show 0 + 1 ≤ 16777216 by decide)]
    rfl
  | hn b ts ih =>
    intro n hn
    obtain ⟨m, rfl⟩ : ∃ m, n = m + 1 := ⟨n - 1, by omega⟩
    rw [dep] at hn
    rw [Ok] at h
    rw [seat] at hl
    have hp : ∀ t ∈ ts, fN__law_seated m [toD t] = .ok (.list ((seat t).map .int)) := fun t ht =>
      ih t ht (oks_iff.1 h.2 t ht) (Nat.le_trans (seats_len_le ht) hl) m (by have := deps_le ht; omega)
    obtain ⟨s', e⟩ := lseat_loop (g := fN__law_seated m) (.dat (.tuple [.str (wd b), .tuple (toDs ts)])) ts [] .no hp (by rw [List.length_nil]; omega)
    rw [toD, e__law_seated]
    simp only [F__law_seated, opR_at, andR_at, orR_at, notR_at, chainR_at, toB_at, toT_at, andT_at, orT_at, notT_at, ifR_at, consR_at, callR_at, asL_at, seqS_at, retS_at, dropS_at, setS_at, setL_at, ifS_at, rdD_z, rdD_s, rdO_z, rdO_s, frzE_o, frzE_d, frzE_n, frzE_s, lstR_at, tupR_at, slR_at, slLR_at, revR_at, slD_l, slD_t, appS_at, extS_at, appPopS_at, scalD_i, scalD_b, augS_at, asgS_at, listD_l, listD_t, tupD_l, tupD_t, intD_b, boolR_b, cmpD_i, addD_i, subD_i, pIs_n, isN_n, isN_i, isN_b, isN_s, isN_l, isN_t, lenD_l, lenD_t, itemsL_l, itemsT_t, enumL_l, partR_i, tgN_at, tgs0_at, tgs1_at, tgT2, defR_rt, defR_nx, defR_exc, truD_b, bdR_at, bd2R_at, frR_at, forI_at, nxS_at, R.bind_ok, R.out_ok, Out.then_nx, List.set_cons_succ, List.set_cons_zero, leD, ltD, gtD, geD, eqD_int, neD_int, Bool.not_true, Bool.not_false, if_true, if_false, Bool.false_eq_true, Bool.true_eq_false, decide_true, decide_false, turnS_nx, turnS_rt, turnS_ct, Out.then_rt, Out.then_exc, isi_int, List.length_nil, fit (Nat.zero_le _), ixD_t1]
    rw [show forS _ _ _ [.dat (.tuple [.str (wd b), .tuple (toDs ts)]), .dat (.list []), .no] = _ from e]
    simp only [opR_at, andR_at, orR_at, notR_at, chainR_at, toB_at, toT_at, andT_at, orT_at, notT_at, ifR_at, consR_at, callR_at, asL_at, seqS_at, retS_at, dropS_at, setS_at, setL_at, ifS_at, rdD_z, rdD_s, rdO_z, rdO_s, frzE_o, frzE_d, frzE_n, frzE_s, lstR_at, tupR_at, slR_at, slLR_at, revR_at, slD_l, slD_t, appS_at, extS_at, appPopS_at, scalD_i, scalD_b, augS_at, asgS_at, listD_l, listD_t, tupD_l, tupD_t, intD_b, boolR_b, cmpD_i, addD_i, subD_i, pIs_n, isN_n, isN_i, isN_b, isN_s, isN_l, isN_t, lenD_l, lenD_t, itemsL_l, itemsT_t, enumL_l, partR_i, tgN_at, tgs0_at, tgs1_at, tgT2, defR_rt, defR_nx, defR_exc, truD_b, bdR_at, bd2R_at, frR_at, forI_at, nxS_at, R.bind_ok, R.out_ok, Out.then_nx, List.set_cons_succ, List.set_cons_zero, leD, ltD, gtD, geD, eqD_int, neD_int, Bool.not_true, Bool.not_false, if_true, if_false, Bool.false_eq_true, Bool.true_eq_false, decide_true, decide_false, turnS_nx, turnS_rt, turnS_ct, Out.then_rt, Out.then_exc, List.nil_append]
    rfl
theorem ev_lleast {t : T} (h : Ok t) (hl : (seat t).length ≤ 4000) (hd : dep t < 20) : g__law_least [toD t] = .ok (.int (least t)) := by
  have e : g__law_seated [toD t] = .ok (.list ((seat t).map .int)) := ev_lseat h hl 20 hd
  rw [e__law_least]
  simp only [F__law_least, opR_at, andR_at, orR_at, notR_at, chainR_at, toB_at, toT_at, andT_at, orT_at, notT_at, ifR_at, consR_at, callR_at, asL_at, seqS_at, retS_at, dropS_at, setS_at, setL_at, ifS_at, rdD_z, rdD_s, rdO_z, rdO_s, frzE_o, frzE_d, frzE_n, frzE_s, lstR_at, tupR_at, slR_at, slLR_at, revR_at, slD_l, slD_t, appS_at, extS_at, appPopS_at, scalD_i, scalD_b, augS_at, asgS_at, listD_l, listD_t, tupD_l, tupD_t, intD_b, boolR_b, cmpD_i, addD_i, subD_i, pIs_n, isN_n, isN_i, isN_b, isN_s, isN_l, isN_t, lenD_l, lenD_t, itemsL_l, itemsT_t, enumL_l, partR_i, tgN_at, tgs0_at, tgs1_at, tgT2, defR_rt, defR_nx, defR_exc, truD_b, bdR_at, bd2R_at, frR_at, forI_at, nxS_at, R.bind_ok, R.out_ok, Out.then_nx, List.set_cons_succ, List.set_cons_zero, leD, ltD, gtD, geD, eqD_int, neD_int, Bool.not_true, Bool.not_false, if_true, if_false, Bool.false_eq_true, Bool.true_eq_false, decide_true, decide_false, turnS_nx, turnS_rt, turnS_ct, Out.then_rt, Out.then_exc, e]
  unfold least
  cases e : seat t with
  | nil => exact absurd e (seat_ne h)
  | cons n r => rw [minD_ints]; rfl
def liD (p : List Int) : D := .list (p.map .int)
theorem ixD_ints {gs : List Int} {k : Nat} {g : Int} (h : gs[k]? = some g) : ixD (.list (gs.map .int)) (.int k) = .ok (.int g) := by
  refine ixD_l ?_
  have hk : k < gs.length := (List.getElem?_eq_some_iff.1 h).1
  rw [atI_ok (by omega) (by rw [List.length_map]; omega), Int.toNat_natCast, List.getElem?_map, h]; rfl
theorem cut_loop (gs : List Int) (a : Int) (hg : gs.length ≤ 1000) : ∀ (rest pre : List Int) (parts : List (List Int)) (last : List Int) (s3 : Sl), gs = pre ++ rest → parts.flatten ++ last = pre → last ≠ [] → (∀ p ∈ parts, p ≠ []) →
    ∃ (parts' : List (List Int)) (last' : List Int) (s3' : Sl), forS (tgN 3) (seqS (ifS (frR1 2 (frR 2 (orT (andT (toB (opR eqD (callR lenD (consR (rdD 2) (fun _ => R.ok []))) (fun _ => R.ok (.int 1)))) (toB (opR eqD (rdD 3) (opR subD (callR lenD (consR (rdD 0) (fun _ => R.ok []))) (fun _ => R.ok (.int 1)))))) (toB (opR eqD (opR modD (opR divD (callR g__law_next (consR (rdD 1) (consR (rdD 3) (fun _ => R.ok [])))) (fun _ => R.ok (.int 3))) (fun _ => R.ok (.int 3))) (fun _ => R.ok (.int 1))))))) (app1S 2) nxS) (mut1S 2 (opR ixD (rdD 0) (rdD 3)))) (rangeI (pre.length : Nat) rest.length)
      [.dat (.list (gs.map .int)), .dat (.int a), .own1 (parts.map liD) (last.map .int), s3] = .nx [.dat (.list (gs.map .int)), .dat (.int a), .own1 (parts'.map liD) (last'.map .int), s3'] ∧
      parts'.flatten ++ last' = gs ∧ last' ≠ [] ∧ (∀ p ∈ parts', p ≠ []) ∧ (parts ≠ [] ∨ rest ≠ [] → parts' ≠ [])
  | [], pre, parts, last, s3, hp, hf, hl, hn => ⟨parts, last, s3, rfl, by rw [hf, hp, List.append_nil], hl, hn, fun h => by
      rcases h with h | h
      · exact h
      · exact absurd rfl h⟩
  | g :: rest, pre, parts, last, s3, hp, hf, hl, hn => by
    have hlen : gs.length = pre.length + (rest.length + 1) := by rw [hp, List.length_append, List.length_cons]
    obtain ⟨c, hc⟩ : ∃ c : Bool, c = ((decide ((parts.length : Int) + 1 = 1) && decide ((pre.length : Int) = gs.length - 1)) || decide (nextI a pre.length / 3 % 3 = 1)) := ⟨_, rfl⟩
    have hpl : parts.length ≤ gs.length := by
      have h1 : parts.length ≤ parts.flatten.length := by
        clear hf hc hlen
        induction parts with
        | nil => exact Nat.le_refl _
        | cons p ps ih =>
          have := ih fun q hq => hn q (List.mem_cons_of_mem _ hq)
          have : 1 ≤ p.length := List.length_pos_iff.2 (hn p List.mem_cons_self)
          rw [List.flatten_cons, List.length_append, List.length_cons]; omega
      have h2 : parts.flatten.length + last.length = pre.length := by rw [← hf, List.length_append]
      omega
    have hll : last.length ≤ gs.length := by
      have h2 : parts.flatten.length + last.length = pre.length := by rw [← hf, List.length_append]
      omega
    have htest : (frR1 2 (frR 2 (orT (andT (toB (opR eqD (callR lenD (consR (rdD 2) (fun _ => R.ok []))) (fun _ => R.ok (.int 1)))) (toB (opR eqD (rdD 3) (opR subD (callR lenD (consR (rdD 0) (fun _ => R.ok []))) (fun _ => R.ok (.int 1)))))) (toB (opR eqD (opR modD (opR divD (callR g__law_next (consR (rdD 1) (consR (rdD 3) (fun _ => R.ok [])))) (fun _ => R.ok (.int 3))) (fun _ => R.ok (.int 3))) (fun _ => R.ok (.int 1))))))) [.dat (.list (gs.map .int)), .dat (.int a), .own1 (parts.map liD) (last.map .int), .dat (.int (pre.length : Nat))] = .ok c := by
      rw [hc, frR1_at, frR_at]
      refine orT_ok (andT_ok ?_ ?_) ?_
      · simp only [opR_at, andR_at, orR_at, notR_at, chainR_at, toB_at, toT_at, andT_at, orT_at, notT_at, ifR_at, consR_at, callR_at, asL_at, seqS_at, retS_at, dropS_at, setS_at, setL_at, ifS_at, rdD_z, rdD_s, rdO_z, rdO_s, frzE_o, frzE_d, frzE_n, frzE_s, lstR_at, tupR_at, slR_at, slLR_at, revR_at, slD_l, slD_t, appS_at, extS_at, appPopS_at, scalD_i, scalD_b, augS_at, asgS_at, listD_l, listD_t, tupD_l, tupD_t, intD_b, boolR_b, cmpD_i, addD_i, subD_i, pIs_n, isN_n, isN_i, isN_b, isN_s, isN_l, isN_t, lenD_l, lenD_t, itemsL_l, itemsT_t, enumL_l, partR_i, tgN_at, tgs0_at, tgs1_at, tgT2, defR_rt, defR_nx, defR_exc, truD_b, bdR_at, bd2R_at, frR_at, forI_at, nxS_at, R.bind_ok, R.out_ok, Out.then_nx, List.set_cons_succ, List.set_cons_zero, leD, ltD, gtD, geD, eqD_int, neD_int, Bool.not_true, Bool.not_false, if_true, if_false, Bool.false_eq_true, Bool.true_eq_false, decide_true, decide_false, turnS_nx, turnS_rt, turnS_ct, Out.then_rt, Out.then_exc, frz1E_s, frz1E_o1, List.length_append, List.length_map, List.length_cons, List.length_nil]
        rw [show ((parts.length + (0 + 1) : Nat) : Int) = (parts.length : Int) + 1 by omega]
      · simp only [opR_at, andR_at, orR_at, notR_at, chainR_at, toB_at, toT_at, andT_at, orT_at, notT_at, ifR_at, consR_at, callR_at, asL_at, seqS_at, retS_at, dropS_at, setS_at, setL_at, ifS_at, rdD_z, rdD_s, rdO_z, rdO_s, frzE_o, frzE_d, frzE_n, frzE_s, lstR_at, tupR_at, slR_at, slLR_at, revR_at, slD_l, slD_t, appS_at, extS_at, appPopS_at, scalD_i, scalD_b, augS_at, asgS_at, listD_l, listD_t, tupD_l, tupD_t, intD_b, boolR_b, cmpD_i, addD_i, subD_i, pIs_n, isN_n, isN_i, isN_b, isN_s, isN_l, isN_t, lenD_l, lenD_t, itemsL_l, itemsT_t, enumL_l, partR_i, tgN_at, tgs0_at, tgs1_at, tgT2, defR_rt, defR_nx, defR_exc, truD_b, bdR_at, bd2R_at, frR_at, forI_at, nxS_at, R.bind_ok, R.out_ok, Out.then_nx, List.set_cons_succ, List.set_cons_zero, leD, ltD, gtD, geD, eqD_int, neD_int, Bool.not_true, Bool.not_false, if_true, if_false, Bool.false_eq_true, Bool.true_eq_false, decide_true, decide_false, turnS_nx, turnS_rt, turnS_ct, Out.then_rt, Out.then_exc, frz1E_s, frz1E_o1, List.length_map]
      · simp only [opR_at, andR_at, orR_at, notR_at, chainR_at, toB_at, toT_at, andT_at, orT_at, notT_at, ifR_at, consR_at, callR_at, asL_at, seqS_at, retS_at, dropS_at, setS_at, setL_at, ifS_at, rdD_z, rdD_s, rdO_z, rdO_s, frzE_o, frzE_d, frzE_n, frzE_s, lstR_at, tupR_at, slR_at, slLR_at, revR_at, slD_l, slD_t, appS_at, extS_at, appPopS_at, scalD_i, scalD_b, augS_at, asgS_at, listD_l, listD_t, tupD_l, tupD_t, intD_b, boolR_b, cmpD_i, addD_i, subD_i, pIs_n, isN_n, isN_i, isN_b, isN_s, isN_l, isN_t, lenD_l, lenD_t, itemsL_l, itemsT_t, enumL_l, partR_i, tgN_at, tgs0_at, tgs1_at, tgT2, defR_rt, defR_nx, defR_exc, truD_b, bdR_at, bd2R_at, frR_at, forI_at, nxS_at, R.bind_ok, R.out_ok, Out.then_nx, List.set_cons_succ, List.set_cons_zero, leD, ltD, gtD, geD, eqD_int, neD_int, Bool.not_true, Bool.not_false, if_true, if_false, Bool.false_eq_true, Bool.true_eq_false, decide_true, decide_false, turnS_nx, turnS_rt, turnS_ct, Out.then_rt, Out.then_exc, frz1E_s, frz1E_o1]
        rw [ev_next _ _ (by omega) (by omega)]
        simp only [opR_at, andR_at, orR_at, notR_at, chainR_at, toB_at, toT_at, andT_at, orT_at, notT_at, ifR_at, consR_at, callR_at, asL_at, seqS_at, retS_at, dropS_at, setS_at, setL_at, ifS_at, rdD_z, rdD_s, rdO_z, rdO_s, frzE_o, frzE_d, frzE_n, frzE_s, lstR_at, tupR_at, slR_at, slLR_at, revR_at, slD_l, slD_t, appS_at, extS_at, appPopS_at, scalD_i, scalD_b, augS_at, asgS_at, listD_l, listD_t, tupD_l, tupD_t, intD_b, boolR_b, cmpD_i, addD_i, subD_i, pIs_n, isN_n, isN_i, isN_b, isN_s, isN_l, isN_t, lenD_l, lenD_t, itemsL_l, itemsT_t, enumL_l, partR_i, tgN_at, tgs0_at, tgs1_at, tgT2, defR_rt, defR_nx, defR_exc, truD_b, bdR_at, bd2R_at, frR_at, forI_at, nxS_at, R.bind_ok, R.out_ok, Out.then_nx, List.set_cons_succ, List.set_cons_zero, leD, ltD, gtD, geD, eqD_int, neD_int, Bool.not_true, Bool.not_false, if_true, if_false, Bool.false_eq_true, Bool.true_eq_false, decide_true, decide_false, turnS_nx, turnS_rt, turnS_ct, Out.then_rt, Out.then_exc, divD_i (show (0 : Int) < 3 by decide) (by decide), modD_i (show (0 : Int) < 3 by decide)]
    have hix : ixD (.list (gs.map .int)) (.int (pre.length : Nat)) = .ok (.int g) := ixD_ints (by rw [hp, List.getElem?_append_right (Nat.le_refl _), Nat.sub_self]; rfl)
    have hr : rangeI ((pre.length : Nat) : Int) (rest.length + 1) = .int (pre.length : Nat) :: rangeI (((pre ++ [g]).length : Nat) : Int) rest.length := by
      rw [rangeI_succ, List.length_append, List.length_singleton]; rfl
    rw [List.length_cons, hr]
    cases hcc : c with
    | true =>
      obtain ⟨parts', last', s3', e, h1, h2, h3, h4⟩ := cut_loop gs a hg rest (pre ++ [g]) (parts ++ [last]) [g] (.dat (.int (pre.length : Nat))) (by rw [List.append_assoc]; exact hp) (by rw [List.flatten_append, List.flatten_singleton, hf]) (by simp) (fun p h => by
        rcases List.mem_append.1 h with h | h
        · exact hn p h
        · rw [List.mem_singleton] at h; rw [h]; exact hl)
      refine ⟨parts', last', s3', ?_, h1, h2, h3, fun _ => h4 (.inl (by simp))⟩
      rw [forS_cons]
      simp only [tgN_at, R.out_ok, List.set_cons_succ, List.set_cons_zero, seqS_at, ifS_at]
      rw [htest, hcc]
      simp only [R.out_ok, if_true]
      have ha : app1S 2 [.dat (.list (gs.map .int)), .dat (.int a), .own1 (parts.map liD) (last.map .int), .dat (.int (pre.length : Nat))] = .nx [.dat (.list (gs.map .int)), .dat (.int a), .own1 ((parts ++ [last]).map liD) [], .dat (.int (pre.length : Nat))] := by
        show (if fits ((parts.map liD).length + 2) = true then Out.nx _ else Out.bad) = _
        rw [if_pos (fit (by rw [List.length_map]; omega)), List.map_append]; rfl
      rw [ha]
      simp only [Out.then_nx]
      have hm : mut1S 2 (opR ixD (rdD 0) (rdD 3)) [.dat (.list (gs.map .int)), .dat (.int a), .own1 ((parts ++ [last]).map liD) [], .dat (.int (pre.length : Nat))] = .nx [.dat (.list (gs.map .int)), .dat (.int a), .own1 ((parts ++ [last]).map liD) [.int g], .dat (.int (pre.length : Nat))] := by
        show ((opR ixD (rdD 0) (rdD 3) _).out fun d => if fits (0 + 1) = true then Out.nx _ else Out.bad) = _
        simp only [opR_at, andR_at, orR_at, notR_at, chainR_at, toB_at, toT_at, andT_at, orT_at, notT_at, ifR_at, consR_at, callR_at, asL_at, seqS_at, retS_at, dropS_at, setS_at, setL_at, ifS_at, rdD_z, rdD_s, rdO_z, rdO_s, frzE_o, frzE_d, frzE_n, frzE_s, lstR_at, tupR_at, slR_at, slLR_at, revR_at, slD_l, slD_t, appS_at, extS_at, appPopS_at, scalD_i, scalD_b, augS_at, asgS_at, listD_l, listD_t, tupD_l, tupD_t, intD_b, boolR_b, cmpD_i, addD_i, subD_i, pIs_n, isN_n, isN_i, isN_b, isN_s, isN_l, isN_t, lenD_l, lenD_t, itemsL_l, itemsT_t, enumL_l, partR_i, tgN_at, tgs0_at, tgs1_at, tgT2, defR_rt, defR_nx, defR_exc, truD_b, bdR_at, bd2R_at, frR_at, forI_at, nxS_at, R.bind_ok, R.out_ok, Out.then_nx, List.set_cons_succ, List.set_cons_zero, leD, ltD, gtD, geD, eqD_int, neD_int, Bool.not_true, Bool.not_false, if_true, if_false, Bool.false_eq_true, Bool.true_eq_false, decide_true, decide_false, turnS_nx, turnS_rt, turnS_ct, Out.then_rt, Out.then_exc, hix]
        rw [if_pos (fit (by decide))]; rfl
      rw [hm, turnS_nx]
      exact e
    | false =>
      obtain ⟨parts', last', s3', e, h1, h2, h3, h4⟩ := cut_loop gs a hg rest (pre ++ [g]) parts (last ++ [g]) (.dat (.int (pre.length : Nat))) (by rw [List.append_assoc]; exact hp) (by rw [← List.append_assoc, hf]) (by simp) hn
      refine ⟨parts', last', s3', ?_, h1, h2, h3, fun _ => h4 ?_⟩
      · rw [forS_cons]
        simp only [tgN_at, R.out_ok, List.set_cons_succ, List.set_cons_zero, seqS_at, ifS_at]
        rw [htest, hcc]
        simp only [R.out_ok, if_false, Bool.false_eq_true, nxS_at, Out.then_nx]
        have hm : mut1S 2 (opR ixD (rdD 0) (rdD 3)) [.dat (.list (gs.map .int)), .dat (.int a), .own1 (parts.map liD) (last.map .int), .dat (.int (pre.length : Nat))] = .nx [.dat (.list (gs.map .int)), .dat (.int a), .own1 (parts.map liD) ((last ++ [g]).map .int), .dat (.int (pre.length : Nat))] := by
          show ((opR ixD (rdD 0) (rdD 3) _).out fun d => if fits ((last.map PyData.int).length + 1) = true then Out.nx _ else Out.bad) = _
          simp only [opR_at, andR_at, orR_at, notR_at, chainR_at, toB_at, toT_at, andT_at, orT_at, notT_at, ifR_at, consR_at, callR_at, asL_at, seqS_at, retS_at, dropS_at, setS_at, setL_at, ifS_at, rdD_z, rdD_s, rdO_z, rdO_s, frzE_o, frzE_d, frzE_n, frzE_s, lstR_at, tupR_at, slR_at, slLR_at, revR_at, slD_l, slD_t, appS_at, extS_at, appPopS_at, scalD_i, scalD_b, augS_at, asgS_at, listD_l, listD_t, tupD_l, tupD_t, intD_b, boolR_b, cmpD_i, addD_i, subD_i, pIs_n, isN_n, isN_i, isN_b, isN_s, isN_l, isN_t, lenD_l, lenD_t, itemsL_l, itemsT_t, enumL_l, partR_i, tgN_at, tgs0_at, tgs1_at, tgT2, defR_rt, defR_nx, defR_exc, truD_b, bdR_at, bd2R_at, frR_at, forI_at, nxS_at, R.bind_ok, R.out_ok, Out.then_nx, List.set_cons_succ, List.set_cons_zero, leD, ltD, gtD, geD, eqD_int, neD_int, Bool.not_true, Bool.not_false, if_true, if_false, Bool.false_eq_true, Bool.true_eq_false, decide_true, decide_false, turnS_nx, turnS_rt, turnS_ct, Out.then_rt, Out.then_exc, hix]
          rw [if_pos (fit (by rw [List.length_map]; omega)), List.map_append]; rfl
        rw [hm, turnS_nx]
        exact e
      · by_cases hr : rest = []
        · left
          intro hpe
          rw [hcc] at hc
          have := hc.symm
          simp only [Bool.or_eq_false_iff, Bool.and_eq_false_iff, decide_eq_false_iff_not] at this
          rw [hpe] at this
          rw [hr] at hlen
          rcases this.1 with h | h
          · exact h (by simp)
          · exact h (by simp at hlen; omega)
        · exact .inr hr
theorem ev_cut {gs : List Int} (a : Int) (h1 : 2 ≤ gs.length) (h2 : gs.length ≤ 1000) : ∃ parts : List (List Int), g__law_cut [.list (gs.map .int), .int a] = .ok (.list (parts.map liD)) ∧ parts.flatten = gs ∧ (∀ p ∈ parts, p ≠ []) ∧ 2 ≤ parts.length := by
  obtain ⟨g, r, rfl⟩ : ∃ g r, gs = g :: r := by
    cases gs with
    | nil => simp at h1
    | cons g r => exact ⟨g, r, rfl⟩
  obtain ⟨ps, l, s3, e, e1, e2, e3, e4⟩ := cut_loop (g :: r) a h2 r [g] [] [g] .no rfl rfl (by simp) (by simp)
  have hr : r ≠ [] := by intro h; rw [h] at h1; simp at h1
  have hps := e4 (.inr hr)
  refine ⟨ps ++ [l], ?_, by rw [List.flatten_append, List.flatten_singleton, e1], fun p hp => ?_, ?_⟩
  · rw [e__law_cut]
    have k1 : rg2 (.int 1) (.int (((g :: r).map PyData.int).length : Nat)) = .ok (rangeI ((([g] : List Int).length : Nat) : Int) r.length) := by
      rw [rg2_ok (by decide) (by decide) (by omega) (by rw [List.length_map]; omega), List.length_map, List.length_cons]
      congr 2; omega
    have k2 : ixD (.list ((g :: r).map .int)) (.int 0) = .ok (.int g) := ixD_ints (k := 0) rfl
    have k3 : set1S 2 (opR ixD (rdD 0) (fun _ => R.ok (.int 0))) [.dat (.list ((g :: r).map .int)), .dat (.int a), .no, .no] = .nx [.dat (.list ((g :: r).map .int)), .dat (.int a), .own1 (([] : List (List Int)).map liD) ([g].map .int), .no] := by
      show ((opR ixD (rdD 0) (fun _ => R.ok (.int 0)) _).out fun d => Out.nx _) = _
      simp only [opR_at, andR_at, orR_at, notR_at, chainR_at, toB_at, toT_at, andT_at, orT_at, notT_at, ifR_at, consR_at, callR_at, asL_at, seqS_at, retS_at, dropS_at, setS_at, setL_at, ifS_at, rdD_z, rdD_s, rdO_z, rdO_s, frzE_o, frzE_d, frzE_n, frzE_s, lstR_at, tupR_at, slR_at, slLR_at, revR_at, slD_l, slD_t, appS_at, extS_at, appPopS_at, scalD_i, scalD_b, augS_at, asgS_at, listD_l, listD_t, tupD_l, tupD_t, intD_b, boolR_b, cmpD_i, addD_i, subD_i, pIs_n, isN_n, isN_i, isN_b, isN_s, isN_l, isN_t, lenD_l, lenD_t, itemsL_l, itemsT_t, enumL_l, partR_i, tgN_at, tgs0_at, tgs1_at, tgT2, defR_rt, defR_nx, defR_exc, truD_b, bdR_at, bd2R_at, frR_at, forI_at, nxS_at, R.bind_ok, R.out_ok, Out.then_nx, List.set_cons_succ, List.set_cons_zero, leD, ltD, gtD, geD, eqD_int, neD_int, Bool.not_true, Bool.not_false, if_true, if_false, Bool.false_eq_true, Bool.true_eq_false, decide_true, decide_false, turnS_nx, turnS_rt, turnS_ct, Out.then_rt, Out.then_exc, k2]; rfl
    unfold F__law_cut
    rw [seqS_at, k3]
    simp only [Out.then_nx, seqS_at, forI_at, bd2R_at, R.bind_ok, callR_at, consR_at, rdD_z, lenD_l, k1, R.out_ok]
    rw [e]
    simp only [Out.then_nx, frR1_at, frR_at, frz1E_s, frz1E_o1, frzE_s, frzE_o, retS_at, rdD_s, rdD_z, R.out_ok, defR_rt]
    rw [List.map_append]; rfl
  · rcases List.mem_append.1 hp with h | h
    · exact e3 p h
    · rw [List.mem_singleton] at h; rw [h]; exact e2
  · rw [List.length_append, List.length_singleton]
    have : 1 ≤ ps.length := List.length_pos_iff.2 hps
    omega
/-- what is asked of the guests, and what comes -/
def Gsts (gs : List Int) : Prop := gs ≠ [] ∧ gs.length ≤ 12 ∧ ∀ g ∈ gs, 0 ≤ g ∧ g ≤ 11
def TreeOf (t : T) (gs : List Int) : Prop := Ok t ∧ Tidy t ∧ (seat t).Perm gs
theorem TreeOf.len {t : T} {gs : List Int} (h : TreeOf t gs) : (seat t).length = gs.length := h.2.2.length_eq
theorem part_len {parts : List (List Int)} {p : List Int} (hp : p ∈ parts) (hn : ∀ q ∈ parts, q ≠ []) (h2 : 2 ≤ parts.length) : p.length < parts.flatten.length := by
  have key : ∀ (l : List (List Int)), (∀ q ∈ l, q ≠ []) → l.length ≤ l.flatten.length := fun l => by
    induction l with
    | nil => intro _; exact Nat.le_refl _
    | cons q l ih =>
      intro h
      have := ih fun x hx => h x (List.mem_cons_of_mem _ hx)
      have : 1 ≤ q.length := List.length_pos_iff.2 (h q List.mem_cons_self)
      rw [List.flatten_cons, List.length_append, List.length_cons]; omega
  obtain ⟨a, b, rfl⟩ := List.append_of_mem hp
  rw [List.flatten_append, List.flatten_cons, List.length_append, List.length_append]
  have ha := key a fun q hq => hn q (List.mem_append_left _ hq)
  have hb := key b fun q hq => hn q (List.mem_append_right _ (List.mem_cons_of_mem _ hq))
  rw [List.length_append, List.length_cons] at h2
  omega
theorem tree_comp {g : List D → R D} {a : Int} {gs s2 : Sl} (parts : List (List Int)) : ∀ (i : Nat), i + parts.length ≤ 1000 → (∀ p ∈ parts, ∀ b, ∃ t, g [liD p, .int b] = .ok (toD t) ∧ TreeOf t p) →
    ∃ ts, compR (tgT 2 (tgs1 (tgN 3) (tgs1 (tgN 4) tgs0))) (fun _ => .ok true) (callR g (consR (rdD 4) (consR (callR g__law_next (consR (rdD 1) (consR (opR addD (fun _ => R.ok (.int 50)) (rdD 3)) (fun _ => R.ok [])))) (fun _ => R.ok [])))) [gs, .dat (.int a), s2, .no, .no] (enF i (parts.map liD)) = .ok (toDs ts) ∧ ts.length = parts.length ∧ Oks ts ∧ Tidys ts ∧ (seats ts).Perm parts.flatten ∧ ∀ t ∈ ts, ∃ p ∈ parts, TreeOf t p := by
  induction parts with
  | nil => intro i _ _; exact ⟨[], rfl, rfl, trivial, trivial, List.Perm.refl _, by simp⟩
  | cons p ps ih =>
    intro i hi h
    rw [List.length_cons] at hi
    obtain ⟨ts, e, h1, h2, h3, h4, h5⟩ := ih (i + 1) (by omega) fun q hq => h q (List.mem_cons_of_mem _ hq)
    obtain ⟨t, et, hok, hti, hpe⟩ := h p List.mem_cons_self (nextI a (50 + i))
    refine ⟨t :: ts, ?_, by rw [List.length_cons, List.length_cons, h1], ⟨hok, h2⟩, ⟨hti, h3⟩, by rw [seats, List.flatten_cons]; exact hpe.append h4, fun u hu => ?_⟩
    · show compR _ _ _ _ (.tuple [.int (i : Nat), liD p] :: enF (i + 1) (ps.map liD)) = _
      have e1 : tgT 2 (tgs1 (tgN 3) (tgs1 (tgN 4) tgs0)) (.tuple [.int (i : Nat), liD p]) [gs, .dat (.int a), s2, .no, .no] = .ok [gs, .dat (.int a), s2, .dat (.int (i : Nat)), .dat (liD p)] := by simp only [opR_at, andR_at, orR_at, notR_at, chainR_at, toB_at, toT_at, andT_at, orT_at, notT_at, ifR_at, consR_at, callR_at, asL_at, seqS_at, retS_at, dropS_at, setS_at, setL_at, ifS_at, rdD_z, rdD_s, rdO_z, rdO_s, frzE_o, frzE_d, frzE_n, frzE_s, lstR_at, tupR_at, slR_at, slLR_at, revR_at, slD_l, slD_t, appS_at, extS_at, appPopS_at, scalD_i, scalD_b, augS_at, asgS_at, listD_l, listD_t, tupD_l, tupD_t, intD_b, boolR_b, cmpD_i, addD_i, subD_i, pIs_n, isN_n, isN_i, isN_b, isN_s, isN_l, isN_t, lenD_l, lenD_t, itemsL_l, itemsT_t, enumL_l, partR_i, tgN_at, tgs0_at, tgs1_at, tgT2, defR_rt, defR_nx, defR_exc, truD_b, bdR_at, bd2R_at, frR_at, forI_at, nxS_at, R.bind_ok, R.out_ok, Out.then_nx, List.set_cons_succ, List.set_cons_zero, leD, ltD, gtD, geD, eqD_int, neD_int, Bool.not_true, Bool.not_false, if_true, if_false, Bool.false_eq_true, Bool.true_eq_false, decide_true, decide_false, turnS_nx, turnS_rt, turnS_ct, Out.then_rt, Out.then_exc]
      have e2 : callR g (consR (rdD 4) (consR (callR g__law_next (consR (rdD 1) (consR (opR addD (fun _ => R.ok (.int 50)) (rdD 3)) (fun _ => R.ok [])))) (fun _ => R.ok []))) [gs, .dat (.int a), s2, .dat (.int (i : Nat)), .dat (liD p)] = .ok (toD t) := by
        simp only [opR_at, andR_at, orR_at, notR_at, chainR_at, toB_at, toT_at, andT_at, orT_at, notT_at, ifR_at, consR_at, callR_at, asL_at, seqS_at, retS_at, dropS_at, setS_at, setL_at, ifS_at, rdD_z, rdD_s, rdO_z, rdO_s, frzE_o, frzE_d, frzE_n, frzE_s, lstR_at, tupR_at, slR_at, slLR_at, revR_at, slD_l, slD_t, appS_at, extS_at, appPopS_at, scalD_i, scalD_b, augS_at, asgS_at, listD_l, listD_t, tupD_l, tupD_t, intD_b, boolR_b, cmpD_i, addD_i, subD_i, pIs_n, isN_n, isN_i, isN_b, isN_s, isN_l, isN_t, lenD_l, lenD_t, itemsL_l, itemsT_t, enumL_l, partR_i, tgN_at, tgs0_at, tgs1_at, tgT2, defR_rt, defR_nx, defR_exc, truD_b, bdR_at, bd2R_at, frR_at, forI_at, nxS_at, R.bind_ok, R.out_ok, Out.then_nx, List.set_cons_succ, List.set_cons_zero, leD, ltD, gtD, geD, eqD_int, neD_int, Bool.not_true, Bool.not_false, if_true, if_false, Bool.false_eq_true, Bool.true_eq_false, decide_true, decide_false, turnS_nx, turnS_rt, turnS_ct, Out.then_rt, Out.then_exc]
        rw [ev_next _ _ (by omega) (by omega)]
        simp only [opR_at, andR_at, orR_at, notR_at, chainR_at, toB_at, toT_at, andT_at, orT_at, notT_at, ifR_at, consR_at, callR_at, asL_at, seqS_at, retS_at, dropS_at, setS_at, setL_at, ifS_at, rdD_z, rdD_s, rdO_z, rdO_s, frzE_o, frzE_d, frzE_n, frzE_s, lstR_at, tupR_at, slR_at, slLR_at, revR_at, slD_l, slD_t, appS_at, extS_at, appPopS_at, scalD_i, scalD_b, augS_at, asgS_at, listD_l, listD_t, tupD_l, tupD_t, intD_b, boolR_b, cmpD_i, addD_i, subD_i, pIs_n, isN_n, isN_i, isN_b, isN_s, isN_l, isN_t, lenD_l, lenD_t, itemsL_l, itemsT_t, enumL_l, partR_i, tgN_at, tgs0_at, tgs1_at, tgT2, defR_rt, defR_nx, defR_exc, truD_b, bdR_at, bd2R_at, frR_at, forI_at, nxS_at, R.bind_ok, R.out_ok, Out.then_nx, List.set_cons_succ, List.set_cons_zero, leD, ltD, gtD, geD, eqD_int, neD_int, Bool.not_true, Bool.not_false, if_true, if_false, Bool.false_eq_true, Bool.true_eq_false, decide_true, decide_false, turnS_nx, turnS_rt, turnS_ct, Out.then_rt, Out.then_exc, et]
      rw [toDs]
      exact compR_cons e1 rfl e2 e
    · rcases List.mem_cons.1 hu with rfl | hu
      · exact ⟨p, List.mem_cons_self, hok, hti, hpe⟩
      · obtain ⟨q, hq, hq2⟩ := h5 u hu
        exact ⟨q, List.mem_cons_of_mem _ hq, hq2⟩
theorem ev_ltree : ∀ (n : Nat) (gs : List Int) (a : Int), Gsts gs → gs.length ≤ n → ∃ t, fN__law_tree n [.list (gs.map .int), .int a] = .ok (toD t) ∧ TreeOf t gs
  | 0, gs, a, hg, hl => absurd (List.eq_nil_of_length_eq_zero (by omega)) hg.1
  | n + 1, gs, a, hg, hl => by
    obtain ⟨hg1, hg2, hg3⟩ := hg
    by_cases h1 : gs.length = 1
    · obtain ⟨g, rfl⟩ : ∃ g, gs = [g] := by
        match gs, h1 with
        | [g], _ => exact ⟨g, rfl⟩
      refine ⟨.leaf g, ?_, ⟨hg3 g (by simp), trivial, List.Perm.refl _⟩⟩
      rw [e__law_tree]
      have k2 : ixD (.list ([g].map .int)) (.int 0) = .ok (.int g) := ixD_ints (k := 0) rfl
      simp only [F__law_tree, opR_at, andR_at, orR_at, notR_at, chainR_at, toB_at, toT_at, andT_at, orT_at, notT_at, ifR_at, consR_at, callR_at, asL_at, seqS_at, retS_at, dropS_at, setS_at, setL_at, ifS_at, rdD_z, rdD_s, rdO_z, rdO_s, frzE_o, frzE_d, frzE_n, frzE_s, lstR_at, tupR_at, slR_at, slLR_at, revR_at, slD_l, slD_t, appS_at, extS_at, appPopS_at, scalD_i, scalD_b, augS_at, asgS_at, listD_l, listD_t, tupD_l, tupD_t, intD_b, boolR_b, cmpD_i, addD_i, subD_i, pIs_n, isN_n, isN_i, isN_b, isN_s, isN_l, isN_t, lenD_l, lenD_t, itemsL_l, itemsT_t, enumL_l, partR_i, tgN_at, tgs0_at, tgs1_at, tgT2, defR_rt, defR_nx, defR_exc, truD_b, bdR_at, bd2R_at, frR_at, forI_at, nxS_at, R.bind_ok, R.out_ok, Out.then_nx, List.set_cons_succ, List.set_cons_zero, leD, ltD, gtD, geD, eqD_int, neD_int, Bool.not_true, Bool.not_false, if_true, if_false, Bool.false_eq_true, Bool.true_eq_false, decide_true, decide_false, turnS_nx, turnS_rt, turnS_ct, Out.then_rt, Out.then_exc, List.length_map, List.length_cons, List.length_nil, k2, show (decide (((0 + 1 : Nat) : Int) = 1)) = true from rfl]
      rfl
    · have h2 : 2 ≤ gs.length := by
        have : gs.length ≠ 0 := fun e => hg1 (List.eq_nil_of_length_eq_zero e)
        omega
      obtain ⟨parts, ec, hf, hn, hp2⟩ := ev_cut a h2 (by omega)
      have hmem : ∀ p ∈ parts, ∀ g ∈ p, g ∈ gs := fun p hp g hg => by rw [← hf]; exact List.mem_flatten.2 ⟨p, hp, hg⟩
      have hplen : ∀ p ∈ parts, p.length < gs.length := fun p hp => by rw [← hf]; exact part_len hp hn hp2
      have hlenp : parts.length ≤ gs.length := by
        rw [← hf]
        clear ec hf hp2 hmem hplen
        induction parts with
        | nil => exact Nat.le_refl _
        | cons q l ih =>
          have := ih fun x hx => hn x (List.mem_cons_of_mem _ hx)
          have : 1 ≤ q.length := List.length_pos_iff.2 (hn q List.mem_cons_self)
          rw [List.flatten_cons, List.length_append, List.length_cons]; omega
      obtain ⟨ts, et, t1, t2, t3, t4, t5⟩ := tree_comp (g := fN__law_tree n) (a := a) (gs := .dat (.list (gs.map .int))) (s2 := .no) parts 0 (by omega) fun p hp b =>
        ev_ltree n p b ⟨hn p hp, by have := hplen p hp; omega, fun g hg => hg3 g (hmem p hp g hg)⟩ (by have := hplen p hp; omega)
      have hk : ∀ u ∈ ts, g__law_least [toD u] = .ok (.int (least u)) := fun u hu => by
        obtain ⟨p, hp, hu2⟩ := t5 u hu
        have := hu2.len
        have := hplen p hp
        have := dep_lt hu2.1
        exact ev_lleast hu2.1 (by omega) (by omega)
      have hlc : lcR (bdR (callR g__law_cut (consR (rdD 0) (consR (rdD 1) (fun _ => R.ok [])))) enumL) (tgT 2 (tgs1 (tgN 3) (tgs1 (tgN 4) tgs0))) (fun _ => R.ok true) (callR (fN__law_tree n) (consR (rdD 4) (consR (callR g__law_next (consR (rdD 1) (consR (opR addD (fun _ => R.ok (.int 50)) (rdD 3)) (fun _ => R.ok [])))) (fun _ => R.ok [])))) [3, 4] [.dat (.list (gs.map .int)), .dat (.int a), .no, .no, .no] = .ok (toDs ts) := by
        refine lcR_ok (its := enF 0 (parts.map liD)) ?_ et (by rw [← enumI_F, enumI_length, List.length_map]; omega)
        simp only [opR_at, andR_at, orR_at, notR_at, chainR_at, toB_at, toT_at, andT_at, orT_at, notT_at, ifR_at, consR_at, callR_at, asL_at, seqS_at, retS_at, dropS_at, setS_at, setL_at, ifS_at, rdD_z, rdD_s, rdO_z, rdO_s, frzE_o, frzE_d, frzE_n, frzE_s, lstR_at, tupR_at, slR_at, slLR_at, revR_at, slD_l, slD_t, appS_at, extS_at, appPopS_at, scalD_i, scalD_b, augS_at, asgS_at, listD_l, listD_t, tupD_l, tupD_t, intD_b, boolR_b, cmpD_i, addD_i, subD_i, pIs_n, isN_n, isN_i, isN_b, isN_s, isN_l, isN_t, lenD_l, lenD_t, itemsL_l, itemsT_t, enumL_l, partR_i, tgN_at, tgs0_at, tgs1_at, tgT2, defR_rt, defR_nx, defR_exc, truD_b, bdR_at, bd2R_at, frR_at, forI_at, nxS_at, R.bind_ok, R.out_ok, Out.then_nx, List.set_cons_succ, List.set_cons_zero, leD, ltD, gtD, geD, eqD_int, neD_int, Bool.not_true, Bool.not_false, if_true, if_false, Bool.false_eq_true, Bool.true_eq_false, decide_true, decide_false, turnS_nx, turnS_rt, turnS_ct, Out.then_rt, Out.then_exc, ec, enumI_F]
      rw [hf] at t4
      rw [e__law_tree]
      have hne1 : ¬ ((gs.length : Int) = 1) := by omega
      simp only [F__law_tree, opR_at, andR_at, orR_at, notR_at, chainR_at, toB_at, toT_at, andT_at, orT_at, notT_at, ifR_at, consR_at, callR_at, asL_at, seqS_at, retS_at, dropS_at, setS_at, setL_at, ifS_at, rdD_z, rdD_s, rdO_z, rdO_s, frzE_o, frzE_d, frzE_n, frzE_s, lstR_at, tupR_at, slR_at, slLR_at, revR_at, slD_l, slD_t, appS_at, extS_at, appPopS_at, scalD_i, scalD_b, augS_at, asgS_at, listD_l, listD_t, tupD_l, tupD_t, intD_b, boolR_b, cmpD_i, addD_i, subD_i, pIs_n, isN_n, isN_i, isN_b, isN_s, isN_l, isN_t, lenD_l, lenD_t, itemsL_l, itemsT_t, enumL_l, partR_i, tgN_at, tgs0_at, tgs1_at, tgT2, defR_rt, defR_nx, defR_exc, truD_b, bdR_at, bd2R_at, frR_at, forI_at, nxS_at, R.bind_ok, R.out_ok, Out.then_nx, List.set_cons_succ, List.set_cons_zero, leD, ltD, gtD, geD, eqD_int, neD_int, Bool.not_true, Bool.not_false, if_true, if_false, Bool.false_eq_true, Bool.true_eq_false, decide_true, decide_false, turnS_nx, turnS_rt, turnS_ct, Out.then_rt, Out.then_exc, List.length_map, hne1, hlc, toDs_length, t1, modD_i (show (0 : Int) < 2 by decide)]
      by_cases hst : ((parts.length : Int) = 2 ∨ a % 2 = 0)
      · refine ⟨.node false (sortT ts), ?_, ⟨?_, ?_, ?_⟩⟩
        · have hb : (R.bind (R.ok (decide ((parts.length : Int) = 2))) fun b => if b = true then R.ok true else R.ok (decide (a % 2 = 0))) = R.ok true := by
            rw [R.bind_ok]
            by_cases z : (parts.length : Int) = 2
            · simp only [z, decide_true, if_true]
            · have z2 : a % 2 = 0 := by rcases hst with h | h; exact absurd h z; exact h
              simp only [z, z2, decide_true, decide_false, Bool.false_eq_true, if_false]
          simp only [R.bind_ok] at hb
          rw [hb]
          simp only [opR_at, andR_at, orR_at, notR_at, chainR_at, toB_at, toT_at, andT_at, orT_at, notT_at, ifR_at, consR_at, callR_at, asL_at, seqS_at, retS_at, dropS_at, setS_at, setL_at, ifS_at, rdD_z, rdD_s, rdO_z, rdO_s, frzE_o, frzE_d, frzE_n, frzE_s, lstR_at, tupR_at, slR_at, slLR_at, revR_at, slD_l, slD_t, appS_at, extS_at, appPopS_at, scalD_i, scalD_b, augS_at, asgS_at, listD_l, listD_t, tupD_l, tupD_t, intD_b, boolR_b, cmpD_i, addD_i, subD_i, pIs_n, isN_n, isN_i, isN_b, isN_s, isN_l, isN_t, lenD_l, lenD_t, itemsL_l, itemsT_t, enumL_l, partR_i, tgN_at, tgs0_at, tgs1_at, tgT2, defR_rt, defR_nx, defR_exc, truD_b, bdR_at, bd2R_at, frR_at, forI_at, nxS_at, R.bind_ok, R.out_ok, Out.then_nx, List.set_cons_succ, List.set_cons_zero, leD, ltD, gtD, geD, eqD_int, neD_int, Bool.not_true, Bool.not_false, if_true, if_false, Bool.false_eq_true, Bool.true_eq_false, decide_true, decide_false, turnS_nx, turnS_rt, turnS_ct, Out.then_rt, Out.then_exc, sortKD_toDs hk]
          rw [if_pos (fit (by simp))]
          rw [toD]; rfl
        · rw [Ok]
          exact ⟨by rw [if_neg (by decide), (sortT_perm _).length_eq, t1]; exact hp2, oks_iff.2 fun t ht => oks_iff.1 t2 t ((sortT_perm _).mem_iff.1 ht)⟩
        · rw [Tidy]
          exact ⟨by rw [if_neg (by decide)]; exact sortT_asc _, tidys_iff.2 fun t ht => tidys_iff.1 t3 t ((sortT_perm _).mem_iff.1 ht)⟩
        · rw [seat]; exact (seats_perm (sortT_perm _)).trans t4
      · have h3 : 3 ≤ parts.length := by
          have : ¬ ((parts.length : Int) = 2) := fun h => hst (.inl h)
          omega
        have hb1 : ¬ ((parts.length : Int) = 2) := fun h => hst (.inl h)
        have hb2 : ¬ (a % 2 = 0) := fun h => hst (.inr h)
        refine ⟨.node true (turn ts), ?_, ⟨?_, ?_, ?_⟩⟩
        · obtain ⟨x, r, hx⟩ : ∃ x r, ts = x :: r := by
            cases e : ts with
            | nil => rw [e] at t1; simp at t1; omega
            | cons x r => exact ⟨x, r, rfl⟩
          obtain ⟨y, hy⟩ : ∃ y, ts.getLast? = some y := ⟨_, List.getLast?_eq_some_getLast (by rw [hx]; simp)⟩
          have k1 : g__law_least [toD x] = .ok (.int (least x)) := hk x (by rw [hx]; exact List.mem_cons_self)
          have k2 : g__law_least [toD y] = .ok (.int (least y)) := hk y (List.mem_of_getLast? hy)
          have i0 : ixD (.list (toDs ts)) (.int 0) = .ok (toD x) := by rw [hx]; exact ixD_ts0
          simp only [opR_at, andR_at, orR_at, notR_at, chainR_at, toB_at, toT_at, andT_at, orT_at, notT_at, ifR_at, consR_at, callR_at, asL_at, seqS_at, retS_at, dropS_at, setS_at, setL_at, ifS_at, rdD_z, rdD_s, rdO_z, rdO_s, frzE_o, frzE_d, frzE_n, frzE_s, lstR_at, tupR_at, slR_at, slLR_at, revR_at, slD_l, slD_t, appS_at, extS_at, appPopS_at, scalD_i, scalD_b, augS_at, asgS_at, listD_l, listD_t, tupD_l, tupD_t, intD_b, boolR_b, cmpD_i, addD_i, subD_i, pIs_n, isN_n, isN_i, isN_b, isN_s, isN_l, isN_t, lenD_l, lenD_t, itemsL_l, itemsT_t, enumL_l, partR_i, tgN_at, tgs0_at, tgs1_at, tgT2, defR_rt, defR_nx, defR_exc, truD_b, bdR_at, bd2R_at, frR_at, forI_at, nxS_at, R.bind_ok, R.out_ok, Out.then_nx, List.set_cons_succ, List.set_cons_zero, leD, ltD, gtD, geD, eqD_int, neD_int, Bool.not_true, Bool.not_false, if_true, if_false, Bool.false_eq_true, Bool.true_eq_false, decide_true, decide_false, turnS_nx, turnS_rt, turnS_ct, Out.then_rt, Out.then_exc, hb1, hb2, i0, ixD_tsl hy, k1, k2]
          rw [turn_cases hx hy, toD]
          by_cases hgt : least x > least y
          · rw [if_pos hgt]
            simp only [opR_at, andR_at, orR_at, notR_at, chainR_at, toB_at, toT_at, andT_at, orT_at, notT_at, ifR_at, consR_at, callR_at, asL_at, seqS_at, retS_at, dropS_at, setS_at, setL_at, ifS_at, rdD_z, rdD_s, rdO_z, rdO_s, frzE_o, frzE_d, frzE_n, frzE_s, lstR_at, tupR_at, slR_at, slLR_at, revR_at, slD_l, slD_t, appS_at, extS_at, appPopS_at, scalD_i, scalD_b, augS_at, asgS_at, listD_l, listD_t, tupD_l, tupD_t, intD_b, boolR_b, cmpD_i, addD_i, subD_i, pIs_n, isN_n, isN_i, isN_b, isN_s, isN_l, isN_t, lenD_l, lenD_t, itemsL_l, itemsT_t, enumL_l, partR_i, tgN_at, tgs0_at, tgs1_at, tgT2, defR_rt, defR_nx, defR_exc, truD_b, bdR_at, bd2R_at, frR_at, forI_at, nxS_at, R.bind_ok, R.out_ok, Out.then_nx, List.set_cons_succ, List.set_cons_zero, leD, ltD, gtD, geD, eqD_int, neD_int, Bool.not_true, Bool.not_false, if_true, if_false, Bool.false_eq_true, Bool.true_eq_false, decide_true, decide_false, turnS_nx, turnS_rt, turnS_ct, Out.then_rt, Out.then_exc, hgt]
            rw [if_pos (fit (by simp)), toDs_rev]; rfl
          · rw [if_neg hgt]
            simp only [opR_at, andR_at, orR_at, notR_at, chainR_at, toB_at, toT_at, andT_at, orT_at, notT_at, ifR_at, consR_at, callR_at, asL_at, seqS_at, retS_at, dropS_at, setS_at, setL_at, ifS_at, rdD_z, rdD_s, rdO_z, rdO_s, frzE_o, frzE_d, frzE_n, frzE_s, lstR_at, tupR_at, slR_at, slLR_at, revR_at, slD_l, slD_t, appS_at, extS_at, appPopS_at, scalD_i, scalD_b, augS_at, asgS_at, listD_l, listD_t, tupD_l, tupD_t, intD_b, boolR_b, cmpD_i, addD_i, subD_i, pIs_n, isN_n, isN_i, isN_b, isN_s, isN_l, isN_t, lenD_l, lenD_t, itemsL_l, itemsT_t, enumL_l, partR_i, tgN_at, tgs0_at, tgs1_at, tgT2, defR_rt, defR_nx, defR_exc, truD_b, bdR_at, bd2R_at, frR_at, forI_at, nxS_at, R.bind_ok, R.out_ok, Out.then_nx, List.set_cons_succ, List.set_cons_zero, leD, ltD, gtD, geD, eqD_int, neD_int, Bool.not_true, Bool.not_false, if_true, if_false, Bool.false_eq_true, Bool.true_eq_false, decide_true, decide_false, turnS_nx, turnS_rt, turnS_ct, Out.then_rt, Out.then_exc, hgt]
            rw [if_pos (fit (by simp))]; rfl
        · rw [Ok]
          exact ⟨by rw [if_pos rfl, (turn_perm _).length_eq, t1]; exact h3, oks_iff.2 fun t ht => oks_iff.1 t2 t ((turn_perm _).mem_iff.1 ht)⟩
        · rw [Tidy]
          exact ⟨by rw [if_pos rfl]; exact turn_asc _, tidys_iff.2 fun t ht => tidys_iff.1 t3 t ((turn_perm _).mem_iff.1 ht)⟩
        · rw [seat]; exact (seats_perm (turn_perm _)).trans t4
theorem ev_ltree' {gs : List Int} {n : Nat} (a : Int) (hg : gs.Perm (TT.rangeZ n)) (h1 : 1 ≤ n) (h2 : n ≤ 12) : ∃ t, g__law_tree [.list (gs.map .int), .int a] = .ok (toD t) ∧ Good t n := by
  have hl : gs.length = n := by rw [hg.length_eq, rangeZ_len]
  obtain ⟨t, e, k1, k2, k3⟩ := ev_ltree 20 gs a ⟨by intro e; rw [e] at hl; simp at hl; omega, by omega, fun g hx => by have := rangeZ_mem.1 (hg.mem_iff.1 hx); omega⟩ (by omega)
  exact ⟨t, e, ⟨k1, k2, k3.trans hg, h2⟩⟩
end K02
set_option maxRecDepth 100000
set_option maxHeartbeats 4000000
namespace K02
open PySem L2 DL TT
/-! ### texts -/
theorem ix_sL {l : List Nat} {i c : Nat} (h : l[i]? = some c) (hl : l.length ≤ 4000) : ixD (.str (sL l)) (.int (i : Nat)) = .ok (.str (sL [c])) := by
  have hi := (List.getElem?_eq_some_iff.1 h).1
  show (if fits (sL l).length = true then (match atI (sL l).cps.toList (i : Int) with | some c => R.ok (PyData.str ⟨#[c]⟩) | none => R.bad) else R.bad) = _
  rw [if_pos (fit (by rw [sL_len]; omega)), sL_cps, atI_ok (by omega) (by omega), Int.toNat_natCast, h]
  rfl
theorem len_sL {l : List Nat} (hl : l.length ≤ 4000) : lenD [.str (sL l)] = .ok (.int l.length) := by
  show (if fits (sL l).length = true then R.ok (PyData.int (sL l).length) else R.bad) = _
  rw [if_pos (fit (by rw [sL_len]; omega)), sL_len]
theorem figs : ("0123456789" : Str).cps.toList = [48, 49, 50, 51, 52, 53, 54, 55, 56, 57] := by decide +kernel
theorem in_fig (c : Nat) : inD false (.str (sL [c])) (.str "0123456789") = .ok (.bool (decide (48 ≤ c ∧ c ≤ 57))) := by
  show (if (sL [c]).cps.size = 1 then R.ok (PyData.bool (if false = true then !decide ((sL [c]).cps.getD 0 0 ∈ ("0123456789" : Str).cps.toList) else decide ((sL [c]).cps.getD 0 0 ∈ ("0123456789" : Str).cps.toList))) else R.bad) = _
  rw [if_pos (show (sL [c]).cps.size = 1 from rfl), if_neg (by decide), figs]
  congr 2
  rw [Bool.eq_iff_iff, decide_eq_true_iff, decide_eq_true_iff]
  show c ∈ _ ↔ _
  simp only [List.mem_cons, List.not_mem_nil, or_false]
  omega
theorem eq_sL {a b : List Nat} (ha : ∀ c ∈ a, c < 128) (hb : ∀ c ∈ b, c < 128) : eqD (.str (sL a)) (.str (sL b)) = .ok (.bool (decide (a = b))) := by
  rw [eqD_str (sL_ok ha) (sL_ok hb)]
  congr 2
  rw [Bool.eq_iff_iff, decide_eq_true_iff, decide_eq_true_iff]
  exact ⟨sL_inj, fun h => by rw [h]⟩
theorem s_o : ("(" : Str) = sL [40] := str_ext (by decide +kernel)
theorem s_c : (")" : Str) = sL [41] := str_ext (by decide +kernel)
theorem s_O : ("[" : Str) = sL [91] := str_ext (by decide +kernel)
theorem s_C : ("]" : Str) = sL [93] := str_ext (by decide +kernel)
theorem s_b : (" " : Str) = sL [32] := str_ext (by decide +kernel)
theorem add_sL {a b : List Nat} (h : a.length + b.length ≤ 4000) : addD (.str (sL a)) (.str (sL b)) = .ok (.str (sL (a ++ b))) := by
  show (if fits ((sL a).length + (sL b).length) = true then R.ok (PyData.str (sL a ++ sL b)) else R.bad) = _
  rw [if_pos (fit (by rw [sL_len, sL_len]; omega)), sL_app]
theorem str_digs {g : Int} (a : 0 ≤ g) (b : g ≤ 11) : strD [.int g] = .ok (.str (sL (digs g))) := by
  have e : ∀ g : Int, strD [.int g] = if decide (g.natAbs.log2 < 1920) = true then .ok (.str (Str.ofString (toString g))) else .bad := fun g => rfl
  have k : ∀ g : Int, decide (g.natAbs.log2 < 1920) = true ∧ (Str.ofString (toString g)).cps.toList = digs g → strD [.int g] = .ok (.str (sL (digs g))) := fun g h => by
    have e4 : Str.ofString (toString g) = sL (digs g) := str_ext (by rw [sL_cps]; exact h.2)
    rw [e, if_pos h.1, e4]
  refine dec12 (p := fun g => strD [.int g] = .ok (.str (sL (digs g)))) ?_ ?_ ?_ ?_ ?_ ?_ ?_ ?_ ?_ ?_ ?_ ?_ a b <;> exact k _ (by decide +kernel)
theorem int_digs {g : Int} (a : 0 ≤ g) (b : g ≤ 11) : intSD [.str (sL (digs g))] = .ok (.int g) := by
  have k : ∀ g : Int, intText? (sL (digs g)) = some g ∧ (sL (digs g)).length ≤ 640 → intSD [.str (sL (digs g))] = .ok (.int g) := fun g h => by
    show (match intText? (sL (digs g)) with | some n => if decide ((sL (digs g)).length ≤ 640) = true then R.ok (PyData.int n) else R.bad | none => R.bad) = _
    rw [h.1]
    exact if_pos (decide_eq_true h.2)
  refine dec12 (p := fun g => intSD [.str (sL (digs g))] = .ok (.int g)) ?_ ?_ ?_ ?_ ?_ ?_ ?_ ?_ ?_ ?_ ?_ ?_ a b <;> exact k _ (by decide +kernel)
theorem cut_sL (l : List Nat) (i j : Nat) (hl : l.length ≤ 4000) : slD (some (i : Int)) (some (j : Int)) (.str (sL l)) = .ok (.str (sL ((l.drop i).take (j - i)))) := by
  show (if fits (sL l).length = true then R.ok (PyData.str (cutS (sL l) _ _)) else R.bad) = _
  rw [if_pos (fit (by rw [sL_len]; omega))]
  have : cutS (sL l) (some (i : Int)) (some (j : Int)) = sL (cutD l (some (i : Int)) (some (j : Int))) := by
    unfold cutS cutD
    rw [sL_cps, sL_len]; rfl
  rw [this, cutD_nat]
theorem strs_map : ∀ ls : List (List Nat), strsD (ls.map fun l => .str (sL l)) = some (ls.map sL)
  | [] => rfl
  | l :: r => by
    rw [List.map_cons, strsD, strs_map r]; rfl
theorem sum_note : ∀ ts : List T, ((ts.map noteL).map fun l => (sL l).length).sum + ts.length ≤ (restT ts).length + ts.length
  | [] => by simp
  | t :: r => by
    have := sum_note r
    simp only [List.map_cons, List.sum_cons, restT, List.length_cons, List.length_append, sL_len] at this ⊢
    omega
theorem join_notes {ts : List T} (h : (restT ts).length + ts.length ≤ 4000) : joinD (.str " ") (.list (ts.map fun t => .str (sL (noteL t)))) = .ok (.str (sL (joinT ts))) := by
  have e : (ts.map fun t => PyData.str (sL (noteL t))) = (ts.map noteL).map fun l => .str (sL l) := by rw [List.map_map]; rfl
  show (match strsD (ts.map fun t => PyData.str (sL (noteL t))) with | some ys => if decide ((ys.map (fun x : Str => x.length)).sum + ys.length * (" " : Str).length ≤ 16777216) = true then R.ok (PyData.str (Txt.join " " ys)) else R.bad | none => R.bad) = _
  rw [e, strs_map]
  have e2 : (((ts.map noteL).map sL).map fun x : Str => x.length).sum = ((ts.map noteL).map fun l => (sL l).length).sum := by rw [List.map_map]; rfl
  have h2 := sum_note ts
  have h3 : (" " : Str).length = 1 := rfl
  have h4 : Txt.join " " ((ts.map noteL).map sL) = sL (joinT ts) := by
    rw [← join_T, List.map_map]
    exact StrLaws.glued_eq_join _ _
  show (if decide ((((ts.map noteL).map sL).map (fun x : Str => x.length)).sum + ((ts.map noteL).map sL).length * (" " : Str).length ≤ 16777216) = true then R.ok (PyData.str (Txt.join " " ((ts.map noteL).map sL))) else R.bad) = _
  rw [if_pos (by rw [decide_eq_true_iff, e2, h3, List.length_map, List.length_map]; omega), h4]
theorem opn_s (b : Bool) : (if b then ("[" : Str) else "(") = sL [opn b] := by cases b; exact s_o; exact s_O
theorem node_len {b : Bool} {ts : List T} (h : Ok (.node b ts)) (hl : (seat (.node b ts)).length ≤ 12) : (joinT ts).length + 2 ≤ 57 ∧ (restT ts).length + ts.length ≤ 4000 := by
  have h1 := note_b h
  rw [note_node, List.length_cons, List.length_append, List.length_singleton] at h1
  refine ⟨by omega, ?_⟩
  have h2 : (restT ts).length ≤ (joinT ts).length + 1 := by
    cases ts with
    | nil => rw [restT]; simp
    | cons t r => simp only [restT, joinT, List.length_cons, List.length_append]; omega
  rw [Ok] at h
  have := seats_len_ge h.2
  rw [seat] at hl h1
  omega
theorem ev_note : ∀ (fuel : Nat) (t : T), Ok t → (seat t).length ≤ 12 → dep t < fuel → fN_note_of fuel [toD t] = .ok (.str (sL (noteL t)))
  | 0, _, _, _, h => by omega
  | fuel + 1, .leaf g, ho, _, _ => by
    rw [Ok] at ho
    rw [toD, e_note_of, noteL]
    simp only [F_note_of, opR_at, andR_at, orR_at, notR_at, chainR_at, toB_at, toT_at, andT_at, orT_at, notT_at, ifR_at, consR_at, callR_at, asL_at, seqS_at, retS_at, dropS_at, setS_at, setL_at, ifS_at, rdD_z, rdD_s, rdO_z, rdO_s, frzE_o, frzE_d, frzE_n, frzE_s, lstR_at, tupR_at, slR_at, slLR_at, revR_at, slD_l, slD_t, appS_at, extS_at, appPopS_at, scalD_i, scalD_b, augS_at, asgS_at, listD_l, listD_t, tupD_l, tupD_t, intD_b, boolR_b, cmpD_i, addD_i, subD_i, pIs_n, isN_n, isN_i, isN_b, isN_s, isN_l, isN_t, lenD_l, lenD_t, itemsL_l, itemsT_t, enumL_l, partR_i, tgN_at, tgs0_at, tgs1_at, tgT2, defR_rt, defR_nx, defR_exc, truD_b, bdR_at, bd2R_at, frR_at, forI_at, nxS_at, R.bind_ok, R.out_ok, Out.then_nx, List.set_cons_succ, List.set_cons_zero, leD, ltD, gtD, geD, eqD_int, neD_int, Bool.not_true, Bool.not_false, if_true, if_false, Bool.false_eq_true, Bool.true_eq_false, decide_true, decide_false, turnS_nx, turnS_rt, turnS_ct, Out.then_rt, Out.then_exc, isi_int, str_digs ho.1 (show g ≤ 11 by omega)]
  | fuel + 1, .node b ts, ho, hl, hd => by
    obtain ⟨n1, n2⟩ := node_len ho hl
    rw [Ok] at ho
    rw [seat] at hl
    rw [dep] at hd
    have ei : isiD "int" (.tuple [.str (wd b), .tuple (toDs ts)]) = .ok (.bool false) := isi_int _
    have hc : lcR (bdR (opR ixD (rdD 0) (fun _ => R.ok (.int 1))) itemsT) (tgN 2) (fun _ => R.ok true) (callR (fN_note_of fuel) (consR (rdD 2) (fun _ => R.ok []))) [2] [.dat (.tuple [.str (wd b), .tuple (toDs ts)]), .no, .no] = .ok (ts.map fun t => .str (sL (noteL t))) := by
      refine lcR_ok (its := ts.map toD) (by simp only [opR_at, andR_at, orR_at, notR_at, chainR_at, toB_at, toT_at, andT_at, orT_at, notT_at, ifR_at, consR_at, callR_at, asL_at, seqS_at, retS_at, dropS_at, setS_at, setL_at, ifS_at, rdD_z, rdD_s, rdO_z, rdO_s, frzE_o, frzE_d, frzE_n, frzE_s, lstR_at, tupR_at, slR_at, slLR_at, revR_at, slD_l, slD_t, appS_at, extS_at, appPopS_at, scalD_i, scalD_b, augS_at, asgS_at, listD_l, listD_t, tupD_l, tupD_t, intD_b, boolR_b, cmpD_i, addD_i, subD_i, pIs_n, isN_n, isN_i, isN_b, isN_s, isN_l, isN_t, lenD_l, lenD_t, itemsL_l, itemsT_t, enumL_l, partR_i, tgN_at, tgs0_at, tgs1_at, tgT2, defR_rt, defR_nx, defR_exc, truD_b, bdR_at, bd2R_at, frR_at, forI_at, nxS_at, R.bind_ok, R.out_ok, Out.then_nx, List.set_cons_succ, List.set_cons_zero, leD, ltD, gtD, geD, eqD_int, neD_int, Bool.not_true, Bool.not_false, if_true, if_false, Bool.false_eq_true, Bool.true_eq_false, decide_true, decide_false, turnS_nx, turnS_rt, turnS_ct, Out.then_rt, Out.then_exc, ixD_t1, toDs_map ts]) ?_ (by rw [List.length_map]; omega)
      refine compR_encA toD (fun t => .str (sL (noteL t))) ts fun t ht => ⟨_, rfl, ?_⟩
      have := ev_note fuel t (oks_iff.1 ho.2 t ht) (Nat.le_trans (seats_len_le ht) hl) (by have := deps_le ht; omega)
      simp only [wipeE, List.foldr_cons, List.foldr_nil, opR_at, andR_at, orR_at, notR_at, chainR_at, toB_at, toT_at, andT_at, orT_at, notT_at, ifR_at, consR_at, callR_at, asL_at, seqS_at, retS_at, dropS_at, setS_at, setL_at, ifS_at, rdD_z, rdD_s, rdO_z, rdO_s, frzE_o, frzE_d, frzE_n, frzE_s, lstR_at, tupR_at, slR_at, slLR_at, revR_at, slD_l, slD_t, appS_at, extS_at, appPopS_at, scalD_i, scalD_b, augS_at, asgS_at, listD_l, listD_t, tupD_l, tupD_t, intD_b, boolR_b, cmpD_i, addD_i, subD_i, pIs_n, isN_n, isN_i, isN_b, isN_s, isN_l, isN_t, lenD_l, lenD_t, itemsL_l, itemsT_t, enumL_l, partR_i, tgN_at, tgs0_at, tgs1_at, tgT2, defR_rt, defR_nx, defR_exc, truD_b, bdR_at, bd2R_at, frR_at, forI_at, nxS_at, R.bind_ok, R.out_ok, Out.then_nx, List.set_cons_succ, List.set_cons_zero, leD, ltD, gtD, geD, eqD_int, neD_int, Bool.not_true, Bool.not_false, if_true, if_false, Bool.false_eq_true, Bool.true_eq_false, decide_true, decide_false, turnS_nx, turnS_rt, turnS_ct, Out.then_rt, Out.then_exc, this]
    have hj : joinR (fun _ => R.ok (.str " ")) (asL (lcR (bdR (opR ixD (rdD 0) (fun _ => R.ok (.int 1))) itemsT) (tgN 2) (fun _ => R.ok true) (callR (fN_note_of fuel) (consR (rdD 2) (fun _ => R.ok []))) [2])) [.dat (.tuple [.str (wd b), .tuple (toDs ts)]), .no, .no] = .ok (.str (sL (joinT ts))) := by
      show ((asL _ _).bind (joinD (.str " "))) = _
      rw [asL_at, hc]
      exact join_notes n2
    have a1 : addD (.str (sL [opn b])) (.str (sL (joinT ts))) = .ok (.str (sL (opn b :: joinT ts))) := add_sL (by simp; omega)
    have a2 : addD (.str (sL (opn b :: joinT ts))) (.str (sL [cls b])) = .ok (.str (sL (opn b :: joinT ts ++ [cls b]))) := add_sL (by simp; omega)
    rw [toD, e_note_of, note_node]
    cases b with
    | false =>
      have a1 : addD (.str "(") (.str (sL (joinT ts))) = .ok (.str (sL (opn false :: joinT ts))) := by rw [s_o]; exact a1
      have a2 : addD (.str (sL (opn false :: joinT ts))) (.str ")") = .ok (.str (sL (opn false :: joinT ts ++ [cls false]))) := by rw [s_c]; exact a2
      simp only [F_note_of, opR_at, andR_at, orR_at, notR_at, chainR_at, toB_at, toT_at, andT_at, orT_at, notT_at, ifR_at, consR_at, callR_at, asL_at, seqS_at, retS_at, dropS_at, setS_at, setL_at, ifS_at, rdD_z, rdD_s, rdO_z, rdO_s, frzE_o, frzE_d, frzE_n, frzE_s, lstR_at, tupR_at, slR_at, slLR_at, revR_at, slD_l, slD_t, appS_at, extS_at, appPopS_at, scalD_i, scalD_b, augS_at, asgS_at, listD_l, listD_t, tupD_l, tupD_t, intD_b, boolR_b, cmpD_i, addD_i, subD_i, pIs_n, isN_n, isN_i, isN_b, isN_s, isN_l, isN_t, lenD_l, lenD_t, itemsL_l, itemsT_t, enumL_l, partR_i, tgN_at, tgs0_at, tgs1_at, tgT2, defR_rt, defR_nx, defR_exc, truD_b, bdR_at, bd2R_at, frR_at, forI_at, nxS_at, R.bind_ok, R.out_ok, Out.then_nx, List.set_cons_succ, List.set_cons_zero, leD, ltD, gtD, geD, eqD_int, neD_int, Bool.not_true, Bool.not_false, if_true, if_false, Bool.false_eq_true, Bool.true_eq_false, decide_true, decide_false, turnS_nx, turnS_rt, turnS_ct, Out.then_rt, Out.then_exc, ei, hj, ixD_t0, eq_stools, a1, a2]
      rfl
    | true =>
      have a1 : addD (.str "[") (.str (sL (joinT ts))) = .ok (.str (sL (opn true :: joinT ts))) := by rw [s_O]; exact a1
      have a2 : addD (.str (sL (opn true :: joinT ts))) (.str "]") = .ok (.str (sL (opn true :: joinT ts ++ [cls true]))) := by rw [s_C]; exact a2
      simp only [F_note_of, opR_at, andR_at, orR_at, notR_at, chainR_at, toB_at, toT_at, andT_at, orT_at, notT_at, ifR_at, consR_at, callR_at, asL_at, seqS_at, retS_at, dropS_at, setS_at, setL_at, ifS_at, rdD_z, rdD_s, rdO_z, rdO_s, frzE_o, frzE_d, frzE_n, frzE_s, lstR_at, tupR_at, slR_at, slLR_at, revR_at, slD_l, slD_t, appS_at, extS_at, appPopS_at, scalD_i, scalD_b, augS_at, asgS_at, listD_l, listD_t, tupD_l, tupD_t, intD_b, boolR_b, cmpD_i, addD_i, subD_i, pIs_n, isN_n, isN_i, isN_b, isN_s, isN_l, isN_t, lenD_l, lenD_t, itemsL_l, itemsT_t, enumL_l, partR_i, tgN_at, tgs0_at, tgs1_at, tgT2, defR_rt, defR_nx, defR_exc, truD_b, bdR_at, bd2R_at, frR_at, forI_at, nxS_at, R.bind_ok, R.out_ok, Out.then_nx, List.set_cons_succ, List.set_cons_zero, leD, ltD, gtD, geD, eqD_int, neD_int, Bool.not_true, Bool.not_false, if_true, if_false, Bool.false_eq_true, Bool.true_eq_false, decide_true, decide_false, turnS_nx, turnS_rt, turnS_ct, Out.then_rt, Out.then_exc, ei, hj, ixD_t0, eq_stools, a1, a2]
      rfl
end K02
set_option maxRecDepth 100000
set_option maxHeartbeats 4000000
namespace K02
open PySem L2 DL TT
/-! ### texts read -/
theorem sL_cat (a : List Nat) (s : Str) : s = sL a → True := fun _ => trivial
theorem whileI_at {g : DL.Env → R Bool} {F : DL.Env → Out} {n : DL.Env → Nat} {ρ : DL.Env} : whileI g F n ρ = whileS g F (n ρ) ρ := nrfl rfl
theorem whileS_s {g : DL.Env → R Bool} {F : DL.Env → Out} {n : Nat} {ρ : DL.Env} : whileS g F (n + 1) ρ = (g ρ).out fun b => if b = true then turnS (F ρ) (whileS g F n) else .nx ρ := nrfl rfl
/-- no figure stands there -/
def NoFig (l : List Nat) (i : Nat) : Prop := ∀ c, l[i]? = some c → ¬ (48 ≤ c ∧ c ≤ 57)
theorem fig_loop (l : List Nat) (hl : l.length ≤ 4000) (at_ : Nat) : ∀ (k j fuel : Nat), j + k ≤ 2 → at_ + j + k ≤ l.length → (∀ i c, at_ + j ≤ i → i < at_ + j + k → l[i]? = some c → 48 ≤ c ∧ c ≤ 57) → NoFig l (at_ + j + k) → k < fuel →
    whileS (andT (toB (opR ltD (rdD 2) (callR lenD (consR (rdD 0) (fun _ => R.ok []))))) (andT (toB (opR ltD (rdD 2) (opR addD (rdD 1) (fun _ => R.ok (.int 3))))) (toB (opR (inD false) (opR ixD (rdD 0) (rdD 2)) (fun _ => R.ok (.str "0123456789")))))) (setS 2 (opR addD (rdD 2) (fun _ => R.ok (.int 1)))) fuel [.dat (.str (sL l)), .dat (.int (at_ : Nat)), .dat (.int ((at_ + j : Nat) : Int))] = .nx [.dat (.str (sL l)), .dat (.int (at_ : Nat)), .dat (.int ((at_ + j + k : Nat) : Int))]
  | k, j, 0, _, _, _, _, h => by omega
  | 0, j, fuel + 1, hj, hb, hf, hn, _ => by
    rw [whileS_s]
    have h3 : ((at_ + j : Nat) : Int) < (at_ : Int) + 3 := by omega
    by_cases he : at_ + j < l.length
    · have he' : ((at_ + j : Nat) : Int) < (l.length : Nat) := by omega
      have hc : l[at_ + j]? = some l[at_ + j] := List.getElem?_eq_getElem he
      have hnf := hn _ hc
      simp only [opR_at, andR_at, orR_at, notR_at, chainR_at, toB_at, toT_at, andT_at, orT_at, notT_at, ifR_at, consR_at, callR_at, asL_at, seqS_at, retS_at, dropS_at, setS_at, setL_at, ifS_at, rdD_z, rdD_s, rdO_z, rdO_s, frzE_o, frzE_d, frzE_n, frzE_s, lstR_at, tupR_at, slR_at, slLR_at, revR_at, slD_l, slD_t, appS_at, extS_at, appPopS_at, scalD_i, scalD_b, augS_at, asgS_at, listD_l, listD_t, tupD_l, tupD_t, intD_b, boolR_b, cmpD_i, addD_i, subD_i, pIs_n, isN_n, isN_i, isN_b, isN_s, isN_l, isN_t, lenD_l, lenD_t, itemsL_l, itemsT_t, enumL_l, partR_i, tgN_at, tgs0_at, tgs1_at, tgT2, defR_rt, defR_nx, defR_exc, truD_b, bdR_at, bd2R_at, frR_at, forI_at, nxS_at, R.bind_ok, R.out_ok, Out.then_nx, List.set_cons_succ, List.set_cons_zero, leD, ltD, gtD, geD, eqD_int, neD_int, Bool.not_true, Bool.not_false, if_true, if_false, Bool.false_eq_true, Bool.true_eq_false, decide_true, decide_false, turnS_nx, turnS_rt, turnS_ct, Out.then_rt, Out.then_exc, len_sL hl, he', h3, ix_sL hc hl, in_fig, hnf, Nat.add_zero]
    · have he' : ¬ ((at_ + j : Nat) : Int) < (l.length : Nat) := by omega
      simp only [opR_at, andR_at, orR_at, notR_at, chainR_at, toB_at, toT_at, andT_at, orT_at, notT_at, ifR_at, consR_at, callR_at, asL_at, seqS_at, retS_at, dropS_at, setS_at, setL_at, ifS_at, rdD_z, rdD_s, rdO_z, rdO_s, frzE_o, frzE_d, frzE_n, frzE_s, lstR_at, tupR_at, slR_at, slLR_at, revR_at, slD_l, slD_t, appS_at, extS_at, appPopS_at, scalD_i, scalD_b, augS_at, asgS_at, listD_l, listD_t, tupD_l, tupD_t, intD_b, boolR_b, cmpD_i, addD_i, subD_i, pIs_n, isN_n, isN_i, isN_b, isN_s, isN_l, isN_t, lenD_l, lenD_t, itemsL_l, itemsT_t, enumL_l, partR_i, tgN_at, tgs0_at, tgs1_at, tgT2, defR_rt, defR_nx, defR_exc, truD_b, bdR_at, bd2R_at, frR_at, forI_at, nxS_at, R.bind_ok, R.out_ok, Out.then_nx, List.set_cons_succ, List.set_cons_zero, leD, ltD, gtD, geD, eqD_int, neD_int, Bool.not_true, Bool.not_false, if_true, if_false, Bool.false_eq_true, Bool.true_eq_false, decide_true, decide_false, turnS_nx, turnS_rt, turnS_ct, Out.then_rt, Out.then_exc, len_sL hl, he', Nat.add_zero]
  | k + 1, j, fuel + 1, hj, hb, hf, hn, hk => by
    rw [whileS_s]
    have h3 : ((at_ + j : Nat) : Int) < (at_ : Int) + 3 := by omega
    have he : at_ + j < l.length := by omega
    have he' : ((at_ + j : Nat) : Int) < (l.length : Nat) := by omega
    have hc : l[at_ + j]? = some l[at_ + j] := List.getElem?_eq_getElem he
    have hff := hf (at_ + j) _ (by omega) (by omega) hc
    have ih := fig_loop l hl at_ k (j + 1) fuel (by omega) (by omega) (fun i c h1 h2 h => hf i c (by omega) (by omega) h) (by rw [show at_ + (j + 1) + k = at_ + j + (k + 1) by omega]; exact hn) (by omega)
    simp only [opR_at, andR_at, orR_at, notR_at, chainR_at, toB_at, toT_at, andT_at, orT_at, notT_at, ifR_at, consR_at, callR_at, asL_at, seqS_at, retS_at, dropS_at, setS_at, setL_at, ifS_at, rdD_z, rdD_s, rdO_z, rdO_s, frzE_o, frzE_d, frzE_n, frzE_s, lstR_at, tupR_at, slR_at, slLR_at, revR_at, slD_l, slD_t, appS_at, extS_at, appPopS_at, scalD_i, scalD_b, augS_at, asgS_at, listD_l, listD_t, tupD_l, tupD_t, intD_b, boolR_b, cmpD_i, addD_i, subD_i, pIs_n, isN_n, isN_i, isN_b, isN_s, isN_l, isN_t, lenD_l, lenD_t, itemsL_l, itemsT_t, enumL_l, partR_i, tgN_at, tgs0_at, tgs1_at, tgT2, defR_rt, defR_nx, defR_exc, truD_b, bdR_at, bd2R_at, frR_at, forI_at, nxS_at, R.bind_ok, R.out_ok, Out.then_nx, List.set_cons_succ, List.set_cons_zero, leD, ltD, gtD, geD, eqD_int, neD_int, Bool.not_true, Bool.not_false, if_true, if_false, Bool.false_eq_true, Bool.true_eq_false, decide_true, decide_false, turnS_nx, turnS_rt, turnS_ct, Out.then_rt, Out.then_exc, len_sL hl, he', h3, ix_sL hc hl, in_fig, hff]
    rw [show ((at_ + j : Nat) : Int) + 1 = ((at_ + (j + 1) : Nat) : Int) by omega, show at_ + j + (k + 1) = at_ + (j + 1) + k by omega]
    exact ih
theorem ev_good (b : Bool) : g_need_good [.bool b] = if b = true then .ok .none else .exc "BadNote" := by
  rw [e_need_good]
  cases b
  · simp only [F_need_good, opR_at, andR_at, orR_at, notR_at, chainR_at, toB_at, toT_at, andT_at, orT_at, notT_at, ifR_at, consR_at, callR_at, asL_at, seqS_at, retS_at, dropS_at, setS_at, setL_at, ifS_at, rdD_z, rdD_s, rdO_z, rdO_s, frzE_o, frzE_d, frzE_n, frzE_s, lstR_at, tupR_at, slR_at, slLR_at, revR_at, slD_l, slD_t, appS_at, extS_at, appPopS_at, scalD_i, scalD_b, augS_at, asgS_at, listD_l, listD_t, tupD_l, tupD_t, intD_b, boolR_b, cmpD_i, addD_i, subD_i, pIs_n, isN_n, isN_i, isN_b, isN_s, isN_l, isN_t, lenD_l, lenD_t, itemsL_l, itemsT_t, enumL_l, partR_i, tgN_at, tgs0_at, tgs1_at, tgT2, defR_rt, defR_nx, defR_exc, truD_b, bdR_at, bd2R_at, frR_at, forI_at, nxS_at, R.bind_ok, R.out_ok, Out.then_nx, List.set_cons_succ, List.set_cons_zero, leD, ltD, gtD, geD, eqD_int, neD_int, Bool.not_true, Bool.not_false, if_true, if_false, Bool.false_eq_true, Bool.true_eq_false, decide_true, decide_false, turnS_nx, turnS_rt, turnS_ct, Out.then_rt, Out.then_exc]
  · simp only [F_need_good, opR_at, andR_at, orR_at, notR_at, chainR_at, toB_at, toT_at, andT_at, orT_at, notT_at, ifR_at, consR_at, callR_at, asL_at, seqS_at, retS_at, dropS_at, setS_at, setL_at, ifS_at, rdD_z, rdD_s, rdO_z, rdO_s, frzE_o, frzE_d, frzE_n, frzE_s, lstR_at, tupR_at, slR_at, slLR_at, revR_at, slD_l, slD_t, appS_at, extS_at, appPopS_at, scalD_i, scalD_b, augS_at, asgS_at, listD_l, listD_t, tupD_l, tupD_t, intD_b, boolR_b, cmpD_i, addD_i, subD_i, pIs_n, isN_n, isN_i, isN_b, isN_s, isN_l, isN_t, lenD_l, lenD_t, itemsL_l, itemsT_t, enumL_l, partR_i, tgN_at, tgs0_at, tgs1_at, tgT2, defR_rt, defR_nx, defR_exc, truD_b, bdR_at, bd2R_at, frR_at, forI_at, nxS_at, R.bind_ok, R.out_ok, Out.then_nx, List.set_cons_succ, List.set_cons_zero, leD, ltD, gtD, geD, eqD_int, neD_int, Bool.not_true, Bool.not_false, if_true, if_false, Bool.false_eq_true, Bool.true_eq_false, decide_true, decide_false, turnS_nx, turnS_rt, turnS_ct, Out.then_rt, Out.then_exc]
theorem good_t : g_need_good [.bool true] = .ok .none := by rw [ev_good, if_pos rfl]
theorem get_mid (pre m post : List Nat) (i : Nat) (h : i < m.length) : (pre ++ m ++ post)[pre.length + i]? = m[i]? := by
  rw [List.append_assoc, List.getElem?_append_right (by omega), show pre.length + i - pre.length = i by omega, List.getElem?_append_left h]
theorem get_end (pre m post : List Nat) : (pre ++ m ++ post)[pre.length + m.length]? = post[0]? := by
  rw [List.getElem?_append_right (by rw [List.length_append]; omega), List.length_append, Nat.sub_self]
theorem cut_mid (pre m post : List Nat) : ((pre ++ m ++ post).drop pre.length).take (pre.length + m.length - pre.length) = m := by
  rw [List.append_assoc, List.drop_left, show pre.length + m.length - pre.length = m.length by omega, List.take_left]
theorem ev_guest {g : Int} (h0 : 0 ≤ g) (h1 : g ≤ 11) (pre post : List Nat) (hl : (pre ++ digs g ++ post).length ≤ 4000) (hp : ∀ c, post[0]? = some c → ¬ (48 ≤ c ∧ c ≤ 57)) :
    g_guest_from [.str (sL (pre ++ digs g ++ post)), .int (pre.length : Nat)] = .ok (.tuple [.int g, .int ((pre.length + (digs g).length : Nat) : Int)]) := by
  have hd := digs_len g
  have hw := fig_loop (pre ++ digs g ++ post) hl pre.length (digs g).length 0 400 (by omega) (by rw [List.length_append, List.length_append]; omega) (fun i c k1 k2 hc => by
    obtain ⟨j, rfl⟩ : ∃ j, i = pre.length + j := ⟨i - pre.length, by omega⟩
    rw [get_mid _ _ _ _ (by omega)] at hc
    exact digs_c h0 h1 c (List.mem_of_getElem? hc)) (fun c hc => by
    rw [Nat.add_zero, get_end] at hc; exact hp c hc) (by omega)
  rw [Nat.add_zero] at hw
  have hcut := cut_sL (pre ++ digs g ++ post) pre.length (pre.length + (digs g).length) hl
  rw [cut_mid] at hcut
  have e1 : (1 : Int) ≤ ((pre.length + (digs g).length : Nat) : Int) - (pre.length : Nat) := by omega
  have e2 : ((pre.length + (digs g).length : Nat) : Int) - (pre.length : Nat) ≤ 2 := by omega
  rw [e_guest_from]
  unfold F_guest_from
  simp only [seqS_at, setS_at, rdD_s, rdD_z, R.out_ok, List.set_cons_succ, List.set_cons_zero, Out.then_nx, whileI_at]
  rw [hw]
  simp only [opR_at, andR_at, orR_at, notR_at, chainR_at, toB_at, toT_at, andT_at, orT_at, notT_at, ifR_at, consR_at, callR_at, asL_at, seqS_at, retS_at, dropS_at, setS_at, setL_at, ifS_at, rdD_z, rdD_s, rdO_z, rdO_s, frzE_o, frzE_d, frzE_n, frzE_s, lstR_at, tupR_at, slR_at, slLR_at, revR_at, slD_l, slD_t, appS_at, extS_at, appPopS_at, scalD_i, scalD_b, augS_at, asgS_at, listD_l, listD_t, tupD_l, tupD_t, intD_b, boolR_b, cmpD_i, addD_i, subD_i, pIs_n, isN_n, isN_i, isN_b, isN_s, isN_l, isN_t, lenD_l, lenD_t, itemsL_l, itemsT_t, enumL_l, partR_i, tgN_at, tgs0_at, tgs1_at, tgT2, defR_rt, defR_nx, defR_exc, truD_b, bdR_at, bd2R_at, frR_at, forI_at, nxS_at, R.bind_ok, R.out_ok, Out.then_nx, List.set_cons_succ, List.set_cons_zero, leD, ltD, gtD, geD, eqD_int, neD_int, Bool.not_true, Bool.not_false, if_true, if_false, Bool.false_eq_true, Bool.true_eq_false, decide_true, decide_false, turnS_nx, turnS_rt, turnS_ct, Out.then_rt, Out.then_exc, e1, e2, good_t, hcut, int_digs h0 h1, List.length_cons, List.length_nil, fit (show 0 + 1 + 1 ≤ 16777216 by decide)]
end K02
set_option maxRecDepth 100000
set_option maxHeartbeats 4000000
namespace K02
open PySem L2 DL TT
/-! ### a tree read -/
def sgn (b : Bool) : Str := if b then "[" else "("
theorem sgn_s (b : Bool) : sgn b = sL [opn b] := by cases b; exact s_o; exact s_O
theorem pickE (b : Bool) : pick2 "(" ")" "[" "]" (.str (sgn b)) = .ok (.str (sL [cls b])) := by
  cases b with
  | false => rw [pick2_str, if_pos (show sgn false = "(" from rfl), s_c]; rfl
  | true => rw [pick2_str, if_neg (show ¬ sgn true = "(" by decide), if_pos (show sgn true = "[" from rfl), s_C]; rfl
theorem pickW (b : Bool) : pick2 "(" "stools" "[" "bench" (.str (sgn b)) = .ok (.str (wd b)) := by
  cases b with
  | false => rw [pick2_str, if_pos (show sgn false = "(" from rfl)]; rfl
  | true => rw [pick2_str, if_neg (show ¬ sgn true = "(" by decide), if_pos (show sgn true = "[" from rfl)]; rfl
theorem eq_chr {a b : Nat} (ha : a < 128) (hb : b < 128) : eqD (.str (sL [a])) (.str (sL [b])) = .ok (.bool (decide (a = b))) := by
  rw [eq_sL (by simpa using ha) (by simpa using hb)]
  congr 2
  rw [Bool.eq_iff_iff, decide_eq_true_iff, decide_eq_true_iff]
  simp
theorem cls_b (b : Bool) : cls b < 128 ∧ ¬ (48 ≤ cls b ∧ cls b ≤ 57) ∧ ¬ 32 = cls b := by cases b <;> decide
/-- no figure at the beginning -/
def NF (l : List Nat) : Prop := ∀ c, l[0]? = some c → ¬ (48 ≤ c ∧ c ≤ 57)
def Reads (g : List D → R D) (deep : Int) (t : T) : Prop := ∀ pre post : List Nat, (pre ++ noteL t ++ post).length ≤ 4000 → NF post → g [.str (sL (pre ++ noteL t ++ post)), .int (pre.length : Nat), .int deep] = .ok (.tuple [toD t, .int ((pre.length + (noteL t).length : Nat) : Int)])
def bodyT (g : List D → R D) : DL.Env → Out := (seqS (asgS (tgT 2 (tgs1 (tgN 5) (tgs1 (tgN 1) tgs0))) (callR g (consR (rdD 0) (consR (rdD 1) (consR (opR subD (rdD 2) (fun _ => R.ok (.int 1))) (fun _ => R.ok [])))))) (seqS (appS 4 (rdD 5)) (seqS (dropS (callR g_need_good (consR (opR ltD (rdD 1) (callR lenD (consR (rdD 0) (fun _ => R.ok [])))) (fun _ => R.ok [])))) (seqS (ifS (toB (opR eqD (opR ixD (rdD 0) (rdD 1)) (bdR (rdD 3) (pick2 "(" ")" "[" "]")))) (frR 4 (retS (tupR (consR (tupR (consR (bdR (rdD 3) (pick2 "(" "stools" "[" "bench")) (consR (callR tupD (consR (rdD 4) (fun _ => R.ok []))) (fun _ => R.ok [])))) (consR (opR addD (rdD 1) (fun _ => R.ok (.int 1))) (fun _ => R.ok [])))))) nxS) (seqS (dropS (callR g_need_good (consR (opR eqD (opR ixD (rdD 0) (rdD 1)) (fun _ => R.ok (.str " "))) (fun _ => R.ok [])))) (setS 1 (opR addD (rdD 1) (fun _ => R.ok (.int 1)))))))))
theorem tree_loop {g : List D → R D} (deep : Int) (b : Bool) (post l : List Nat) (hl : l.length ≤ 4000) : ∀ (ts : List T) (pre : List Nat) (acc : List D) (fuel : Nat) (s5 : Sl), ts ≠ [] → l = pre ++ joinT ts ++ (cls b :: post) → (∀ t ∈ ts, Reads g (deep - 1) t) → acc.length + ts.length ≤ 4000 → ts.length ≤ fuel →
    whileS (toT (fun _ => R.ok (.bool true))) (bodyT g) fuel [.dat (.str (sL l)), .dat (.int (pre.length : Nat)), .dat (.int deep), .dat (.str (sgn b)), .own acc, s5] = .rt (.tuple [.tuple [.str (wd b), .tuple (acc ++ toDs ts)], .int ((pre.length + (joinT ts).length + 1 : Nat) : Int)])
  | [], _, _, _, _, h, _, _, _, _ => absurd rfl h
  | t :: r, pre, acc, 0, _, _, _, _, _, h => by simp at h
  | [t], pre, acc, fuel + 1, s5, _, e, hr, ha, hf => by
    obtain ⟨c1, c2, c3⟩ := cls_b b
    rw [joinT, restT, List.append_nil] at e ⊢
    have hg := hr t List.mem_cons_self pre (cls b :: post) (by rw [← e]; exact hl) (fun c hc => by
      have hc : some (cls b) = some c := hc
      cases hc; exact c2)
    rw [← e] at hg
    have hat : l[pre.length + (noteL t).length]? = some (cls b) := by rw [e, get_end]; rfl
    have hlt : pre.length + (noteL t).length < l.length := (List.getElem?_eq_some_iff.1 hat).1
    have hlt' : ((pre.length + (noteL t).length : Nat) : Int) < (l.length : Nat) := by omega
    have hb : bodyT g [.dat (.str (sL l)), .dat (.int (pre.length : Nat)), .dat (.int deep), .dat (.str (sgn b)), .own acc, s5] = .rt (.tuple [.tuple [.str (wd b), .tuple (acc ++ [toD t])], .int (((pre.length + (noteL t).length : Nat) : Int) + 1)]) := by
      unfold bodyT
      simp only [opR_at, andR_at, orR_at, notR_at, chainR_at, toB_at, toT_at, andT_at, orT_at, notT_at, ifR_at, consR_at, callR_at, asL_at, seqS_at, retS_at, dropS_at, setS_at, setL_at, ifS_at, rdD_z, rdD_s, rdO_z, rdO_s, frzE_o, frzE_d, frzE_n, frzE_s, lstR_at, tupR_at, slR_at, slLR_at, revR_at, slD_l, slD_t, appS_at, extS_at, appPopS_at, scalD_i, scalD_b, augS_at, asgS_at, listD_l, listD_t, tupD_l, tupD_t, intD_b, boolR_b, cmpD_i, addD_i, subD_i, pIs_n, isN_n, isN_i, isN_b, isN_s, isN_l, isN_t, lenD_l, lenD_t, itemsL_l, itemsT_t, enumL_l, partR_i, tgN_at, tgs0_at, tgs1_at, tgT2, defR_rt, defR_nx, defR_exc, truD_b, bdR_at, bd2R_at, frR_at, forI_at, nxS_at, R.bind_ok, R.out_ok, Out.then_nx, List.set_cons_succ, List.set_cons_zero, leD, ltD, gtD, geD, eqD_int, neD_int, Bool.not_true, Bool.not_false, if_true, if_false, Bool.false_eq_true, Bool.true_eq_false, decide_true, decide_false, turnS_nx, turnS_rt, turnS_ct, Out.then_rt, Out.then_exc, hg, fit (show acc.length + 1 ≤ 16777216 by rw [List.length_singleton] at ha; omega), len_sL hl, hlt', good_t, ix_sL hat hl, pickE, eq_chr c1 c1, frR_at, List.length_cons, List.length_nil, fit (show 0 + 1 + 1 ≤ 16777216 by decide), pickW]
    rw [whileS_s]
    simp only [toT_at, R.bind_ok, truD_b, R.out_ok, if_true]
    rw [hb, turnS_rt]
    rfl
  | t :: u :: r, pre, acc, fuel + 1, s5, _, e, hr, ha, hf => by
    obtain ⟨c1, c2, c3⟩ := cls_b b
    have ej : joinT (t :: u :: r) = noteL t ++ 32 :: joinT (u :: r) := by rw [joinT, restT, joinT]
    rw [ej] at e ⊢
    have e2 : l = pre ++ noteL t ++ (32 :: (joinT (u :: r) ++ (cls b :: post))) := by rw [e]; simp
    have hg := hr t List.mem_cons_self pre (32 :: (joinT (u :: r) ++ (cls b :: post))) (by rw [← e2]; exact hl) (fun c hc => by
      have hc : some 32 = some c := hc
      cases hc; decide)
    rw [← e2] at hg
    have hat : l[pre.length + (noteL t).length]? = some 32 := by rw [e2, get_end]; rfl
    have hlt : pre.length + (noteL t).length < l.length := (List.getElem?_eq_some_iff.1 hat).1
    have hlt' : ((pre.length + (noteL t).length : Nat) : Int) < (l.length : Nat) := by omega
    have hb : bodyT g [.dat (.str (sL l)), .dat (.int (pre.length : Nat)), .dat (.int deep), .dat (.str (sgn b)), .own acc, s5] = .nx [.dat (.str (sL l)), .dat (.int (((pre.length + (noteL t).length : Nat) : Int) + 1)), .dat (.int deep), .dat (.str (sgn b)), .own (acc ++ [toD t]), .dat (toD t)] := by
      unfold bodyT
      simp only [opR_at, andR_at, orR_at, notR_at, chainR_at, toB_at, toT_at, andT_at, orT_at, notT_at, ifR_at, consR_at, callR_at, asL_at, seqS_at, retS_at, dropS_at, setS_at, setL_at, ifS_at, rdD_z, rdD_s, rdO_z, rdO_s, frzE_o, frzE_d, frzE_n, frzE_s, lstR_at, tupR_at, slR_at, slLR_at, revR_at, slD_l, slD_t, appS_at, extS_at, appPopS_at, scalD_i, scalD_b, augS_at, asgS_at, listD_l, listD_t, tupD_l, tupD_t, intD_b, boolR_b, cmpD_i, addD_i, subD_i, pIs_n, isN_n, isN_i, isN_b, isN_s, isN_l, isN_t, lenD_l, lenD_t, itemsL_l, itemsT_t, enumL_l, partR_i, tgN_at, tgs0_at, tgs1_at, tgT2, defR_rt, defR_nx, defR_exc, truD_b, bdR_at, bd2R_at, frR_at, forI_at, nxS_at, R.bind_ok, R.out_ok, Out.then_nx, List.set_cons_succ, List.set_cons_zero, leD, ltD, gtD, geD, eqD_int, neD_int, Bool.not_true, Bool.not_false, if_true, if_false, Bool.false_eq_true, Bool.true_eq_false, decide_true, decide_false, turnS_nx, turnS_rt, turnS_ct, Out.then_rt, Out.then_exc, hg, fit (show acc.length + 1 ≤ 16777216 by rw [List.length_cons] at ha; omega), len_sL hl, hlt', good_t, ix_sL hat hl, pickE, eq_chr (show 32 < 128 by decide) c1, c3, s_b, eq_chr (show 32 < 128 by decide) (show 32 < 128 by decide)]
    have ih := tree_loop (g := g) deep b post l hl (u :: r) (pre ++ noteL t ++ [32]) (acc ++ [toD t]) fuel (.dat (toD t)) (by simp) (by rw [e2]; simp) (fun v hv => hr v (List.mem_cons_of_mem _ hv)) (by rw [List.length_append, List.length_singleton]; rw [List.length_cons] at ha; omega) (by rw [List.length_cons] at hf; omega)
    rw [whileS_s]
    simp only [toT_at, R.bind_ok, truD_b, R.out_ok, if_true]
    rw [hb, turnS_nx]
    rw [show ((pre.length + (noteL t).length : Nat) : Int) + 1 = (((pre ++ noteL t ++ [32]).length : Nat) : Int) by rw [List.length_append, List.length_append, List.length_singleton]; omega, ih]
    rw [show acc ++ [toD t] ++ toDs (u :: r) = acc ++ toDs (t :: u :: r) by rw [List.append_assoc]; rfl]
    congr 6
    simp only [List.length_append, List.length_cons, List.length_nil]
    omega
theorem kd_fig {c : Nat} (h1 : 48 ≤ c) (h2 : c ≤ 57) : kdInD true "(" "[" (.str (sL [c])) = .ok (.bool true) := by
  rw [kdInD_str, s_o, s_O, decide_eq_false (fun e => by have := sL_inj e; simp at this; omega), decide_eq_false (fun e => by have := sL_inj e; simp at this; omega)]; rfl
theorem kd_opn (b : Bool) : kdInD true "(" "[" (.str (sL [opn b])) = .ok (.bool false) := by
  rw [← sgn_s, kdInD_str]
  cases b with
  | false => rw [decide_eq_true (show sgn false = "(" from rfl)]; rfl
  | true => rw [decide_eq_true (show sgn true = "[" from rfl), Bool.or_true]; rfl
theorem ev_tree_from : ∀ (fuel : Nat) (t : T) (deep : Int), Ok t → (seat t).length ≤ 12 → dep t < fuel → (dep t : Int) ≤ deep → Reads (fN_tree_from fuel) deep t
  | 0, _, _, _, _, h, _ => by omega
  | fuel + 1, .leaf g, deep, ho, _, _, hd => by
    intro pre post hl hn
    rw [Ok] at ho
    rw [noteL] at hl ⊢
    have hdl := digs_len g
    have h0 : (pre ++ digs g ++ post)[pre.length]? = (digs g)[0]? := by
      have := get_mid pre (digs g) post 0 (by omega)
      rwa [Nat.add_zero] at this
    obtain ⟨c, hc⟩ : ∃ c, (digs g)[0]? = some c := ⟨_, List.getElem?_eq_getElem (by omega)⟩
    have hcb := digs_c ho.1 (by omega) c (List.mem_of_getElem? hc)
    rw [hc] at h0
    have hlt : ((pre.length : Nat) : Int) < ((pre ++ digs g ++ post).length : Nat) := by simp only [List.length_append]; omega
    have hd0 : deep ≥ 0 := by rw [dep] at hd; omega
    rw [toD, e_tree_from]
    simp only [F_tree_from, opR_at, andR_at, orR_at, notR_at, chainR_at, toB_at, toT_at, andT_at, orT_at, notT_at, ifR_at, consR_at, callR_at, asL_at, seqS_at, retS_at, dropS_at, setS_at, setL_at, ifS_at, rdD_z, rdD_s, rdO_z, rdO_s, frzE_o, frzE_d, frzE_n, frzE_s, lstR_at, tupR_at, slR_at, slLR_at, revR_at, slD_l, slD_t, appS_at, extS_at, appPopS_at, scalD_i, scalD_b, augS_at, asgS_at, listD_l, listD_t, tupD_l, tupD_t, intD_b, boolR_b, cmpD_i, addD_i, subD_i, pIs_n, isN_n, isN_i, isN_b, isN_s, isN_l, isN_t, lenD_l, lenD_t, itemsL_l, itemsT_t, enumL_l, partR_i, tgN_at, tgs0_at, tgs1_at, tgT2, defR_rt, defR_nx, defR_exc, truD_b, bdR_at, bd2R_at, frR_at, forI_at, nxS_at, R.bind_ok, R.out_ok, Out.then_nx, List.set_cons_succ, List.set_cons_zero, leD, ltD, gtD, geD, eqD_int, neD_int, Bool.not_true, Bool.not_false, if_true, if_false, Bool.false_eq_true, Bool.true_eq_false, decide_true, decide_false, turnS_nx, turnS_rt, turnS_ct, Out.then_rt, Out.then_exc, len_sL hl, hlt, hd0, good_t, ix_sL h0 hl, kd_fig hcb.1 hcb.2, ev_guest ho.1 (show g ≤ 11 by omega) pre post hl hn]
  | fuel + 1, .node b ts, deep, ho, hl12, hdf, hd => by
    intro pre post hl hn
    have hnl := node_len ho hl12
    rw [Ok] at ho
    rw [seat] at hl12
    rw [dep] at hd hdf
    have hge := seats_len_ge ho.2
    rw [note_node] at hl ⊢
    have e : pre ++ (opn b :: (joinT ts ++ [cls b])) ++ post = (pre ++ [opn b]) ++ joinT ts ++ (cls b :: post) := by simp
    have h0 : (pre ++ (opn b :: (joinT ts ++ [cls b])) ++ post)[pre.length]? = some (opn b) := by
      have := get_mid pre (opn b :: (joinT ts ++ [cls b])) post 0 (by simp)
      rw [Nat.add_zero] at this
      rw [this]; rfl
    have hlt : ((pre.length : Nat) : Int) < ((pre ++ (opn b :: (joinT ts ++ [cls b])) ++ post).length : Nat) := by
      have := (List.getElem?_eq_some_iff.1 h0).1
      omega
    have hd0 : deep ≥ 0 := by omega
    have hne : ts ≠ [] := fun z => by have h3 := ho.1; rw [z] at h3; revert h3; cases b <;> simp
    have hloop := tree_loop (g := fN_tree_from fuel) deep b post _ hl ts (pre ++ [opn b]) [] 400 .no hne e (fun t ht => ev_tree_from fuel t (deep - 1) (oks_iff.1 ho.2 t ht) (Nat.le_trans (seats_len_le ht) hl12) (by have := deps_le ht; omega) (by have := deps_le ht; omega)) (by rw [List.length_nil]; omega) (by omega)
    unfold bodyT at hloop
    rw [toD, e_tree_from]
    unfold F_tree_from
    simp only [seqS_at, dropS_at, callR_at, consR_at, andR_at, opR_at, rdD_z, rdD_s, R.bind_ok, len_sL hl, ltD, geD, cmpD_i, hlt, hd0, decide_true, good_t, R.out_ok, Out.then_nx, setS_at, ix_sL h0 hl, List.set_cons_succ, List.set_cons_zero, ifS_at, toB_at, bdR_at, kd_opn, boolR_b, Bool.false_eq_true, if_false, nxS_at, setL_at, lstR_at, List.length_nil, fit (Nat.zero_le _), if_true, addD_i, whileI_at]
    rw [← sgn_s]
    rw [show ((pre.length : Nat) : Int) + 1 = (((pre ++ [opn b]).length : Nat) : Int) by rw [List.length_append, List.length_singleton]; omega]
    rw [show whileS _ _ 400 [.dat (.str (sL (pre ++ (opn b :: (joinT ts ++ [cls b])) ++ post))), .dat (.int (((pre ++ [opn b]).length : Nat) : Int)), .dat (.int deep), .dat (.str (sgn b)), .own [], .no] = _ from hloop]
    simp only [defR_rt, List.nil_append]
    congr 6
    simp only [List.length_append, List.length_cons, List.length_nil]
    omega
end K02
set_option maxRecDepth 100000
set_option maxHeartbeats 4000000
namespace K02
open PySem L2 DL TT
/-! ### shown, read, the law -/
theorem ev_shown {t : T} {n : Nat} (h : Good t n) : g_shown [toD t] = .ok (.str (sL (noteL t))) := by
  have hl := h.len
  have h12 := h.n12
  have hd := h.dep
  have e : g_note_of [toD t] = .ok (.str (sL (noteL t))) := ev_note 20 t h.ok (by omega) (by omega)
  rw [e_shown]
  simp only [F_shown, opR_at, andR_at, orR_at, notR_at, chainR_at, toB_at, toT_at, andT_at, orT_at, notT_at, ifR_at, consR_at, callR_at, asL_at, seqS_at, retS_at, dropS_at, setS_at, setL_at, ifS_at, rdD_z, rdD_s, rdO_z, rdO_s, frzE_o, frzE_d, frzE_n, frzE_s, lstR_at, tupR_at, slR_at, slLR_at, revR_at, slD_l, slD_t, appS_at, extS_at, appPopS_at, scalD_i, scalD_b, augS_at, asgS_at, listD_l, listD_t, tupD_l, tupD_t, intD_b, boolR_b, cmpD_i, addD_i, subD_i, pIs_n, isN_n, isN_i, isN_b, isN_s, isN_l, isN_t, lenD_l, lenD_t, itemsL_l, itemsT_t, enumL_l, partR_i, tgN_at, tgs0_at, tgs1_at, tgT2, defR_rt, defR_nx, defR_exc, truD_b, bdR_at, bd2R_at, frR_at, forI_at, nxS_at, R.bind_ok, R.out_ok, Out.then_nx, List.set_cons_succ, List.set_cons_zero, leD, ltD, gtD, geD, eqD_int, neD_int, Bool.not_true, Bool.not_false, if_true, if_false, Bool.false_eq_true, Bool.true_eq_false, decide_true, decide_false, turnS_nx, turnS_rt, turnS_ct, Out.then_rt, Out.then_exc, ev_need_tree h, e]
theorem ev_read {t : T} {n : Nat} (h : Good t n) : g_read [.str (sL (noteL t))] = .ok (toD t) := by
  have hl := h.len
  have h12 := h.n12
  have hd := h.dep
  have hb := note_b h.ok
  have e1 : g_note_of [toD t] = .ok (.str (sL (noteL t))) := ev_note 20 t h.ok (by omega) (by omega)
  have e2 : g_tree_from [.str (sL (noteL t)), .int 0, .int 12] = .ok (.tuple [toD t, .int (noteL t).length]) := by
    have := ev_tree_from 20 t 12 h.ok (by omega) (by omega) (by omega) [] [] (by simp; omega) (fun c hc => by cases hc)
    show fN_tree_from 20 _ = _
    simpa using this
  have e3 : isiD "str" (.str (sL (noteL t))) = .ok (.bool true) := isi_str _
  have hc : ∀ c ∈ noteL t, c < 128 := note_c h.ok
  rw [e_read]
  simp only [F_read, opR_at, andR_at, orR_at, notR_at, chainR_at, toB_at, toT_at, andT_at, orT_at, notT_at, ifR_at, consR_at, callR_at, asL_at, seqS_at, retS_at, dropS_at, setS_at, setL_at, ifS_at, rdD_z, rdD_s, rdO_z, rdO_s, frzE_o, frzE_d, frzE_n, frzE_s, lstR_at, tupR_at, slR_at, slLR_at, revR_at, slD_l, slD_t, appS_at, extS_at, appPopS_at, scalD_i, scalD_b, augS_at, asgS_at, listD_l, listD_t, tupD_l, tupD_t, intD_b, boolR_b, cmpD_i, addD_i, subD_i, pIs_n, isN_n, isN_i, isN_b, isN_s, isN_l, isN_t, lenD_l, lenD_t, itemsL_l, itemsT_t, enumL_l, partR_i, tgN_at, tgs0_at, tgs1_at, tgT2, defR_rt, defR_nx, defR_exc, truD_b, bdR_at, bd2R_at, frR_at, forI_at, nxS_at, R.bind_ok, R.out_ok, Out.then_nx, List.set_cons_succ, List.set_cons_zero, leD, ltD, gtD, geD, eqD_int, neD_int, Bool.not_true, Bool.not_false, if_true, if_false, Bool.false_eq_true, Bool.true_eq_false, decide_true, decide_false, turnS_nx, turnS_rt, turnS_ct, Out.then_rt, Out.then_exc, e3, good_t, e2, len_sL (show (noteL t).length ≤ 4000 by omega), ev_is_tree h, e1, eq_sL hc hc]
theorem s_1 : ("1" : Str) = sL [49] := str_ext (by decide +kernel)
theorem s_f : ("0123456789" : Str) = sL [48, 49, 50, 51, 52, 53, 54, 55, 56, 57] := str_ext figs
theorem fig_at : ∀ i : Nat, i < 10 → [48, 49, 50, 51, 52, 53, 54, 55, 56, 57][i]? = some (48 + i) := by decide
theorem ix_fig {i : Nat} (h : i < 10) : ixD (.str "0123456789") (.int (i : Nat)) = .ok (.str (sL [48 + i])) := by
  rw [s_f]; exact ix_sL (fig_at i h) (by simp)
theorem pick_o (b : Bool) : pick2 "stools" "(" "bench" "[" (.str (wd b)) = .ok (.str (sL [opn b])) := by
  cases b with
  | false => rw [pick2_str, if_pos (show wd false = "stools" from rfl), s_o]; rfl
  | true => rw [pick2_str, if_neg (show ¬ wd true = "stools" by decide), if_pos (show wd true = "bench" from rfl), s_O]; rfl
theorem pick_c (b : Bool) : pick2 "stools" ")" "bench" "]" (.str (wd b)) = .ok (.str (sL [cls b])) := by
  cases b with
  | false => rw [pick2_str, if_pos (show wd false = "stools" from rfl), s_c]; rfl
  | true => rw [pick2_str, if_neg (show ¬ wd true = "stools" by decide), if_pos (show wd true = "bench" from rfl), s_C]; rfl
theorem ev_ltext : ∀ (fuel : Nat) (t : T), Ok t → (seat t).length ≤ 12 → dep t < fuel → fN__law_text fuel [toD t] = .ok (.str (sL (noteL t)))
  | 0, _, _, _, h => by omega
  | fuel + 1, .leaf g, ho, _, _ => by
    rw [Ok] at ho
    rw [toD, e__law_text, noteL]
    unfold digs
    by_cases h10 : g < 10
    · have := ix_fig (i := g.toNat) (by omega)
      rw [show ((g.toNat : Nat) : Int) = g by omega] at this
      rw [if_pos h10]
      simp only [F__law_text, opR_at, andR_at, orR_at, notR_at, chainR_at, toB_at, toT_at, andT_at, orT_at, notT_at, ifR_at, consR_at, callR_at, asL_at, seqS_at, retS_at, dropS_at, setS_at, setL_at, ifS_at, rdD_z, rdD_s, rdO_z, rdO_s, frzE_o, frzE_d, frzE_n, frzE_s, lstR_at, tupR_at, slR_at, slLR_at, revR_at, slD_l, slD_t, appS_at, extS_at, appPopS_at, scalD_i, scalD_b, augS_at, asgS_at, listD_l, listD_t, tupD_l, tupD_t, intD_b, boolR_b, cmpD_i, addD_i, subD_i, pIs_n, isN_n, isN_i, isN_b, isN_s, isN_l, isN_t, lenD_l, lenD_t, itemsL_l, itemsT_t, enumL_l, partR_i, tgN_at, tgs0_at, tgs1_at, tgT2, defR_rt, defR_nx, defR_exc, truD_b, bdR_at, bd2R_at, frR_at, forI_at, nxS_at, R.bind_ok, R.out_ok, Out.then_nx, List.set_cons_succ, List.set_cons_zero, leD, ltD, gtD, geD, eqD_int, neD_int, Bool.not_true, Bool.not_false, if_true, if_false, Bool.false_eq_true, Bool.true_eq_false, decide_true, decide_false, turnS_nx, turnS_rt, turnS_ct, Out.then_rt, Out.then_exc, isi_int, h10, this, ifR_at]
    · have := ix_fig (i := g.toNat - 10) (by omega)
      rw [show ((g.toNat - 10 : Nat) : Int) = g - 10 by omega] at this
      have a1 : addD (.str "1") (.str (sL [48 + (g.toNat - 10)])) = .ok (.str (sL [49, 48 + (g.toNat - 10)])) := by rw [s_1]; exact add_sL (by simp)
      rw [if_neg h10]
      simp only [F__law_text, opR_at, andR_at, orR_at, notR_at, chainR_at, toB_at, toT_at, andT_at, orT_at, notT_at, ifR_at, consR_at, callR_at, asL_at, seqS_at, retS_at, dropS_at, setS_at, setL_at, ifS_at, rdD_z, rdD_s, rdO_z, rdO_s, frzE_o, frzE_d, frzE_n, frzE_s, lstR_at, tupR_at, slR_at, slLR_at, revR_at, slD_l, slD_t, appS_at, extS_at, appPopS_at, scalD_i, scalD_b, augS_at, asgS_at, listD_l, listD_t, tupD_l, tupD_t, intD_b, boolR_b, cmpD_i, addD_i, subD_i, pIs_n, isN_n, isN_i, isN_b, isN_s, isN_l, isN_t, lenD_l, lenD_t, itemsL_l, itemsT_t, enumL_l, partR_i, tgN_at, tgs0_at, tgs1_at, tgT2, defR_rt, defR_nx, defR_exc, truD_b, bdR_at, bd2R_at, frR_at, forI_at, nxS_at, R.bind_ok, R.out_ok, Out.then_nx, List.set_cons_succ, List.set_cons_zero, leD, ltD, gtD, geD, eqD_int, neD_int, Bool.not_true, Bool.not_false, if_true, if_false, Bool.false_eq_true, Bool.true_eq_false, decide_true, decide_false, turnS_nx, turnS_rt, turnS_ct, Out.then_rt, Out.then_exc, isi_int, h10, this, a1, ifR_at]
  | fuel + 1, .node b ts, ho, hl, hd => by
    obtain ⟨n1, n2⟩ := node_len ho hl
    rw [Ok] at ho
    rw [seat] at hl
    rw [dep] at hd
    have ei : isiD "int" (.tuple [.str (wd b), .tuple (toDs ts)]) = .ok (.bool false) := isi_int _
    have hc : lcR (bdR (opR ixD (rdD 0) (fun _ => R.ok (.int 1))) itemsT) (tgN 2) (fun _ => R.ok true) (callR (fN__law_text fuel) (consR (rdD 2) (fun _ => R.ok []))) [2] [.dat (.tuple [.str (wd b), .tuple (toDs ts)]), .no, .no] = .ok (ts.map fun t => .str (sL (noteL t))) := by
      refine lcR_ok (its := ts.map toD) (by simp only [opR_at, andR_at, orR_at, notR_at, chainR_at, toB_at, toT_at, andT_at, orT_at, notT_at, ifR_at, consR_at, callR_at, asL_at, seqS_at, retS_at, dropS_at, setS_at, setL_at, ifS_at, rdD_z, rdD_s, rdO_z, rdO_s, frzE_o, frzE_d, frzE_n, frzE_s, lstR_at, tupR_at, slR_at, slLR_at, revR_at, slD_l, slD_t, appS_at, extS_at, appPopS_at, scalD_i, scalD_b, augS_at, asgS_at, listD_l, listD_t, tupD_l, tupD_t, intD_b, boolR_b, cmpD_i, addD_i, subD_i, pIs_n, isN_n, isN_i, isN_b, isN_s, isN_l, isN_t, lenD_l, lenD_t, itemsL_l, itemsT_t, enumL_l, partR_i, tgN_at, tgs0_at, tgs1_at, tgT2, defR_rt, defR_nx, defR_exc, truD_b, bdR_at, bd2R_at, frR_at, forI_at, nxS_at, R.bind_ok, R.out_ok, Out.then_nx, List.set_cons_succ, List.set_cons_zero, leD, ltD, gtD, geD, eqD_int, neD_int, Bool.not_true, Bool.not_false, if_true, if_false, Bool.false_eq_true, Bool.true_eq_false, decide_true, decide_false, turnS_nx, turnS_rt, turnS_ct, Out.then_rt, Out.then_exc, ixD_t1, toDs_map ts]) ?_ (by rw [List.length_map]; omega)
      refine compR_encA toD (fun t => .str (sL (noteL t))) ts fun t ht => ⟨_, rfl, ?_⟩
      have := ev_ltext fuel t (oks_iff.1 ho.2 t ht) (Nat.le_trans (seats_len_le ht) hl) (by have := deps_le ht; omega)
      simp only [wipeE, List.foldr_cons, List.foldr_nil, opR_at, andR_at, orR_at, notR_at, chainR_at, toB_at, toT_at, andT_at, orT_at, notT_at, ifR_at, consR_at, callR_at, asL_at, seqS_at, retS_at, dropS_at, setS_at, setL_at, ifS_at, rdD_z, rdD_s, rdO_z, rdO_s, frzE_o, frzE_d, frzE_n, frzE_s, lstR_at, tupR_at, slR_at, slLR_at, revR_at, slD_l, slD_t, appS_at, extS_at, appPopS_at, scalD_i, scalD_b, augS_at, asgS_at, listD_l, listD_t, tupD_l, tupD_t, intD_b, boolR_b, cmpD_i, addD_i, subD_i, pIs_n, isN_n, isN_i, isN_b, isN_s, isN_l, isN_t, lenD_l, lenD_t, itemsL_l, itemsT_t, enumL_l, partR_i, tgN_at, tgs0_at, tgs1_at, tgT2, defR_rt, defR_nx, defR_exc, truD_b, bdR_at, bd2R_at, frR_at, forI_at, nxS_at, R.bind_ok, R.out_ok, Out.then_nx, List.set_cons_succ, List.set_cons_zero, leD, ltD, gtD, geD, eqD_int, neD_int, Bool.not_true, Bool.not_false, if_true, if_false, Bool.false_eq_true, Bool.true_eq_false, decide_true, decide_false, turnS_nx, turnS_rt, turnS_ct, Out.then_rt, Out.then_exc, this]
    have hj : joinR (fun _ => R.ok (.str " ")) (asL (lcR (bdR (opR ixD (rdD 0) (fun _ => R.ok (.int 1))) itemsT) (tgN 2) (fun _ => R.ok true) (callR (fN__law_text fuel) (consR (rdD 2) (fun _ => R.ok []))) [2])) [.dat (.tuple [.str (wd b), .tuple (toDs ts)]), .no, .no] = .ok (.str (sL (joinT ts))) := by
      show ((asL _ _).bind (joinD (.str " "))) = _
      rw [asL_at, hc]
      exact join_notes n2
    have a1 : addD (.str (sL [opn b])) (.str (sL (joinT ts))) = .ok (.str (sL (opn b :: joinT ts))) := add_sL (by simp; omega)
    have a2 : addD (.str (sL (opn b :: joinT ts))) (.str (sL [cls b])) = .ok (.str (sL (opn b :: joinT ts ++ [cls b]))) := add_sL (by simp; omega)
    rw [toD, e__law_text, note_node]
    simp only [F__law_text, opR_at, andR_at, orR_at, notR_at, chainR_at, toB_at, toT_at, andT_at, orT_at, notT_at, ifR_at, consR_at, callR_at, asL_at, seqS_at, retS_at, dropS_at, setS_at, setL_at, ifS_at, rdD_z, rdD_s, rdO_z, rdO_s, frzE_o, frzE_d, frzE_n, frzE_s, lstR_at, tupR_at, slR_at, slLR_at, revR_at, slD_l, slD_t, appS_at, extS_at, appPopS_at, scalD_i, scalD_b, augS_at, asgS_at, listD_l, listD_t, tupD_l, tupD_t, intD_b, boolR_b, cmpD_i, addD_i, subD_i, pIs_n, isN_n, isN_i, isN_b, isN_s, isN_l, isN_t, lenD_l, lenD_t, itemsL_l, itemsT_t, enumL_l, partR_i, tgN_at, tgs0_at, tgs1_at, tgT2, defR_rt, defR_nx, defR_exc, truD_b, bdR_at, bd2R_at, frR_at, forI_at, nxS_at, R.bind_ok, R.out_ok, Out.then_nx, List.set_cons_succ, List.set_cons_zero, leD, ltD, gtD, geD, eqD_int, neD_int, Bool.not_true, Bool.not_false, if_true, if_false, Bool.false_eq_true, Bool.true_eq_false, decide_true, decide_false, turnS_nx, turnS_rt, turnS_ct, Out.then_rt, Out.then_exc, ei, hj, ixD_t0, pick_o, pick_c, a1, a2]
    rfl
theorem wd_ok (b : Bool) : PyData.strOk (wd b) = true := by cases b <;> decide +kernel
theorem zip_same : ∀ ts : List T, zipD (toDs ts) (toDs ts) = ts.map fun t => .tuple [toD t, toD t]
  | [] => rfl
  | t :: r => by
    have := zip_same r
    unfold zipD at this ⊢
    rw [toDs, List.zipWith_cons_cons, this, List.map_cons]
theorem ev_alike : ∀ (fuel : Nat) (t : T), Ok t → (seat t).length ≤ 12 → dep t < fuel → fN__law_alike fuel [toD t, toD t] = .ok (.bool true)
  | 0, _, _, _, h => by omega
  | fuel + 1, .leaf g, ho, _, _ => by
    rw [toD, e__law_alike]
    simp only [F__law_alike, opR_at, andR_at, orR_at, notR_at, chainR_at, toB_at, toT_at, andT_at, orT_at, notT_at, ifR_at, consR_at, callR_at, asL_at, seqS_at, retS_at, dropS_at, setS_at, setL_at, ifS_at, rdD_z, rdD_s, rdO_z, rdO_s, frzE_o, frzE_d, frzE_n, frzE_s, lstR_at, tupR_at, slR_at, slLR_at, revR_at, slD_l, slD_t, appS_at, extS_at, appPopS_at, scalD_i, scalD_b, augS_at, asgS_at, listD_l, listD_t, tupD_l, tupD_t, intD_b, boolR_b, cmpD_i, addD_i, subD_i, pIs_n, isN_n, isN_i, isN_b, isN_s, isN_l, isN_t, lenD_l, lenD_t, itemsL_l, itemsT_t, enumL_l, partR_i, tgN_at, tgs0_at, tgs1_at, tgT2, defR_rt, defR_nx, defR_exc, truD_b, bdR_at, bd2R_at, frR_at, forI_at, nxS_at, R.bind_ok, R.out_ok, Out.then_nx, List.set_cons_succ, List.set_cons_zero, leD, ltD, gtD, geD, eqD_int, neD_int, Bool.not_true, Bool.not_false, if_true, if_false, Bool.false_eq_true, Bool.true_eq_false, decide_true, decide_false, turnS_nx, turnS_rt, turnS_ct, Out.then_rt, Out.then_exc, isi_int, isi_bool]
  | fuel + 1, .node b ts, ho, hl, hd => by
    rw [Ok] at ho
    rw [seat] at hl
    rw [dep] at hd
    have hge := seats_len_ge ho.2
    have ei : isiD "int" (.tuple [.str (wd b), .tuple (toDs ts)]) = .ok (.bool false) := isi_int _
    have e4 : ∀ l : List D, isiD "tuple" (.tuple l) = .ok (.bool true) := fun l => isi_tuple _
    have en : neD (.str (wd b)) (.str (wd b)) = .ok (.bool false) := neD_self (shaped_str (wd_ok b))
    have hl3 : decide (((0 + 1 + 1 : Nat) : Int) = 2) = true := rfl
    have hc : lcR (bd2R zipL (opR ixD (rdD 0) (fun _ => R.ok (.int 1))) (opR ixD (rdD 1) (fun _ => R.ok (.int 1)))) (tgT 2 (tgs1 (tgN 2) (tgs1 (tgN 3) tgs0))) (fun _ => R.ok true) (callR (fN__law_alike fuel) (consR (rdD 2) (consR (rdD 3) (fun _ => R.ok [])))) [2, 3] [.dat (.tuple [.str (wd b), .tuple (toDs ts)]), .dat (.tuple [.str (wd b), .tuple (toDs ts)]), .no, .no] = .ok ((ts.map fun _ => true).map .bool) := by
      refine lcR_ok (its := ts.map fun t => .tuple [toD t, toD t]) ?_ ?_ (by rw [List.length_map]; omega)
      · simp only [opR_at, andR_at, orR_at, notR_at, chainR_at, toB_at, toT_at, andT_at, orT_at, notT_at, ifR_at, consR_at, callR_at, asL_at, seqS_at, retS_at, dropS_at, setS_at, setL_at, ifS_at, rdD_z, rdD_s, rdO_z, rdO_s, frzE_o, frzE_d, frzE_n, frzE_s, lstR_at, tupR_at, slR_at, slLR_at, revR_at, slD_l, slD_t, appS_at, extS_at, appPopS_at, scalD_i, scalD_b, augS_at, asgS_at, listD_l, listD_t, tupD_l, tupD_t, intD_b, boolR_b, cmpD_i, addD_i, subD_i, pIs_n, isN_n, isN_i, isN_b, isN_s, isN_l, isN_t, lenD_l, lenD_t, itemsL_l, itemsT_t, enumL_l, partR_i, tgN_at, tgs0_at, tgs1_at, tgT2, defR_rt, defR_nx, defR_exc, truD_b, bdR_at, bd2R_at, frR_at, forI_at, nxS_at, R.bind_ok, R.out_ok, Out.then_nx, List.set_cons_succ, List.set_cons_zero, leD, ltD, gtD, geD, eqD_int, neD_int, Bool.not_true, Bool.not_false, if_true, if_false, Bool.false_eq_true, Bool.true_eq_false, decide_true, decide_false, turnS_nx, turnS_rt, turnS_ct, Out.then_rt, Out.then_exc, ixD_t1]
        show R.ok (zipD _ _) = _
        rw [zip_same]
      · rw [List.map_map]
        refine compR_encA (fun t => .tuple [toD t, toD t]) (PyData.bool ∘ fun _ => true) ts fun t ht => ⟨_, rfl, ?_⟩
        have := ev_alike fuel t (oks_iff.1 ho.2 t ht) (Nat.le_trans (seats_len_le ht) hl) (by have := deps_le ht; omega)
        simp only [wipeE, List.foldr_cons, List.foldr_nil, opR_at, andR_at, orR_at, notR_at, chainR_at, toB_at, toT_at, andT_at, orT_at, notT_at, ifR_at, consR_at, callR_at, asL_at, seqS_at, retS_at, dropS_at, setS_at, setL_at, ifS_at, rdD_z, rdD_s, rdO_z, rdO_s, frzE_o, frzE_d, frzE_n, frzE_s, lstR_at, tupR_at, slR_at, slLR_at, revR_at, slD_l, slD_t, appS_at, extS_at, appPopS_at, scalD_i, scalD_b, augS_at, asgS_at, listD_l, listD_t, tupD_l, tupD_t, intD_b, boolR_b, cmpD_i, addD_i, subD_i, pIs_n, isN_n, isN_i, isN_b, isN_s, isN_l, isN_t, lenD_l, lenD_t, itemsL_l, itemsT_t, enumL_l, partR_i, tgN_at, tgs0_at, tgs1_at, tgT2, defR_rt, defR_nx, defR_exc, truD_b, bdR_at, bd2R_at, frR_at, forI_at, nxS_at, R.bind_ok, R.out_ok, Out.then_nx, List.set_cons_succ, List.set_cons_zero, leD, ltD, gtD, geD, eqD_int, neD_int, Bool.not_true, Bool.not_false, if_true, if_false, Bool.false_eq_true, Bool.true_eq_false, decide_true, decide_false, turnS_nx, turnS_rt, turnS_ct, Out.then_rt, Out.then_exc, this]
        rfl
    have hall : (ts.map fun _ => true).all id = true := by simp
    rw [toD, e__law_alike]
    simp only [F__law_alike, opR_at, andR_at, orR_at, notR_at, chainR_at, toB_at, toT_at, andT_at, orT_at, notT_at, ifR_at, consR_at, callR_at, asL_at, seqS_at, retS_at, dropS_at, setS_at, setL_at, ifS_at, rdD_z, rdD_s, rdO_z, rdO_s, frzE_o, frzE_d, frzE_n, frzE_s, lstR_at, tupR_at, slR_at, slLR_at, revR_at, slD_l, slD_t, appS_at, extS_at, appPopS_at, scalD_i, scalD_b, augS_at, asgS_at, listD_l, listD_t, tupD_l, tupD_t, intD_b, boolR_b, cmpD_i, addD_i, subD_i, pIs_n, isN_n, isN_i, isN_b, isN_s, isN_l, isN_t, lenD_l, lenD_t, itemsL_l, itemsT_t, enumL_l, partR_i, tgN_at, tgs0_at, tgs1_at, tgT2, defR_rt, defR_nx, defR_exc, truD_b, bdR_at, bd2R_at, frR_at, forI_at, nxS_at, R.bind_ok, R.out_ok, Out.then_nx, List.set_cons_succ, List.set_cons_zero, leD, ltD, gtD, geD, eqD_int, neD_int, Bool.not_true, Bool.not_false, if_true, if_false, Bool.false_eq_true, Bool.true_eq_false, decide_true, decide_false, turnS_nx, turnS_rt, turnS_ct, Out.then_rt, Out.then_exc, ei, e4, List.length_cons, List.length_nil, hl3, ixD_t0, ixD_t1, en, toDs_length, hc, allD_map, hall]
theorem law_ok (ns : List Int) (h : ns.length ≤ 63) : F_law g__law_mixed g__law_tree g__law_order g__law_next g_shown g__law_text g__law_alike g_read (.scr ns :: List.replicate (N_law.length - 1) .no) = .rt (.bool true) := by
  unfold F_law
  show seqS _ _ [.scr ns, .no, .no, .no, .no, .no] = _
  have hcut : cutD ns none (some 63) = ns := by
    have := cutD_to ns 63
    rw [List.take_of_length_le h] at this
    exact this
  simp only [seqS_at, forI_at, bdR_at, asL_at, scrSl_z, R.bind_ok, partR_i, hcut, enumL_l, R.out_ok]
  rw [enumI_F]
  refine for_then (fun ρ => ∃ s1 s2 s3 s4 s5, ρ = [.scr ns, s1, s2, s3, s4, s5]) ⟨_, _, _, _, _, rfl⟩ (fun d hd ρ hI => ?_) (fun ρ hI => ?_)
  · obtain ⟨s1, s2, s3, s4, s5, rfl⟩ := hI
    obtain ⟨i, c, rfl, hi⟩ := enF_mem _ _ hd
    have hi2 : i < 63 := by omega
    obtain ⟨a, ha⟩ : ∃ a, a = mixedI c i := ⟨_, rfl⟩
    have em := ev_mixed c i (by omega) (by omega)
    rw [← ha] at em
    obtain ⟨n, hn⟩ : ∃ n : Nat, (n : Int) = 1 + a % 12 := ⟨(1 + a % 12).toNat, by omega⟩
    have eo := ev_order (a / 12) n (by omega)
    obtain ⟨t, et, ht⟩ := ev_ltree' (nextI a 5) (orderI_perm (a / 12) n (by omega)) (by omega) (by omega)
    have hl := ht.len
    have h12 := ht.n12
    have hdp := ht.dep
    have en5 := ev_next a 5 (by omega) (by omega)
    have e1 := ev_shown ht
    have e2 : g__law_text [toD t] = .ok (.str (sL (noteL t))) := ev_ltext 20 t ht.ok (by omega) (by omega)
    have e3 := ev_read ht
    have e4 : g__law_alike [toD t, toD t] = .ok (.bool true) := ev_alike 20 t ht.ok (by omega) (by omega)
    have e5 : isiD "str" (.str (sL (noteL t))) = .ok (.bool true) := isi_str _
    have e6 : neD (.str (sL (noteL t))) (.str (sL (noteL t))) = .ok (.bool false) := neD_self (shaped_str (sL_ok (note_c ht.ok)))
    refine ⟨[.scr ns, .dat (.int (i : Nat)), .dat (.int c), s3, s4, s5], rfl, ?_⟩
    simp only [opR_at, andR_at, orR_at, notR_at, chainR_at, toB_at, toT_at, andT_at, orT_at, notT_at, ifR_at, consR_at, callR_at, asL_at, seqS_at, retS_at, dropS_at, setS_at, setL_at, ifS_at, rdD_z, rdD_s, rdO_z, rdO_s, frzE_o, frzE_d, frzE_n, frzE_s, lstR_at, tupR_at, slR_at, slLR_at, revR_at, slD_l, slD_t, appS_at, extS_at, appPopS_at, scalD_i, scalD_b, augS_at, asgS_at, listD_l, listD_t, tupD_l, tupD_t, intD_b, boolR_b, cmpD_i, addD_i, subD_i, pIs_n, isN_n, isN_i, isN_b, isN_s, isN_l, isN_t, lenD_l, lenD_t, itemsL_l, itemsT_t, enumL_l, partR_i, tgN_at, tgs0_at, tgs1_at, tgT2, defR_rt, defR_nx, defR_exc, truD_b, bdR_at, bd2R_at, frR_at, forI_at, nxS_at, R.bind_ok, R.out_ok, Out.then_nx, List.set_cons_succ, List.set_cons_zero, leD, ltD, gtD, geD, eqD_int, neD_int, Bool.not_true, Bool.not_false, if_true, if_false, Bool.false_eq_true, Bool.true_eq_false, decide_true, decide_false, turnS_nx, turnS_rt, turnS_ct, Out.then_rt, Out.then_exc, em, modD_i (show (0 : Int) < 12 by decide), divD_i (show (0 : Int) < 12 by decide) (by decide), ← hn, eo, en5, et, e1, e5, e2, e6, e3, e4]
    exact ⟨_, _, _, _, _, rfl⟩
  · obtain ⟨s1, s2, s3, s4, s5, rfl⟩ := hI
    have hg : Good (.leaf 0) 1 := ⟨by simp [Ok], by simp [Tidy], by decide +kernel, by decide⟩
    have hz : ("0" : Str) = sL (noteL (.leaf 0)) := str_ext (by decide +kernel)
    have e1 := ev_shown hg
    have e3 := ev_read hg
    have e4 : g__law_alike [toD (.leaf 0), toD (.leaf 0)] = .ok (.bool true) := ev_alike 20 (.leaf 0) hg.ok (by decide) (by decide)
    have e6 : eqD (.str (sL (noteL (.leaf 0)))) (.str (sL (noteL (.leaf 0)))) = .ok (.bool true) := eqD_self (shaped_str (sL_ok (note_c hg.ok)))
    rw [toD] at e1 e3 e4
    simp only [retS_at, andR_at, opR_at, callR_at, consR_at, R.bind_ok, e1, hz, e6, e3, e4, R.out_ok]
end K02
set_option maxRecDepth 100000
set_option maxHeartbeats 4000000
namespace K02
open PySem L2 DL TT
/-! ## the end -/
theorem all_mk {P : Program} {w : World} {K : PySem.W.Frag} {h : Heap} {mg : Str → Option Value} {fa : Addr} (X : K.In h) (G : h.Ns mainGlobals mg) (hfa : mg "law" = some (.ref fa))
    {ois_among cis_among vis_among mis_among tis_among kis_among : Value} {dis_among ais_among : Option Addr} {lis_among : Array (Option Value)} {fis_among : Addr}
    (a_is_among : PySem.W.nsIn K mainGlobals "is_among" = some (some (.ref fis_among))) (l_is_among : K.lookup fis_among = some ⟨ois_among, dis_among, .func (PySem.W.fnOf "is_among" "is_among" (defArgs s_is_among) (defBody s_is_among) (defScope s_is_among) .none kis_among vis_among mis_among ais_among cis_among tis_among), lis_among⟩) (c_is_among : PySem.W.codeIn K cis_among "is_among" = true) (k_is_among : PySem.W.keepIn K (.ref fis_among) = true)
    {oguests_in cguests_in vguests_in mguests_in tguests_in kguests_in : Value} {dguests_in aguests_in : Option Addr} {lguests_in : Array (Option Value)} {fguests_in : Addr}
    (a_guests_in : PySem.W.nsIn K mainGlobals "guests_in" = some (some (.ref fguests_in))) (l_guests_in : K.lookup fguests_in = some ⟨oguests_in, dguests_in, .func (PySem.W.fnOf "guests_in" "guests_in" (defArgs s_guests_in) (defBody s_guests_in) (defScope s_guests_in) .none kguests_in vguests_in mguests_in aguests_in cguests_in tguests_in), lguests_in⟩) (c_guests_in : PySem.W.codeIn K cguests_in "guests_in" = true) (k_guests_in : PySem.W.keepIn K (.ref fguests_in) = true)
    {oseated cseated vseated mseated tseated kseated : Value} {dseated aseated : Option Addr} {lseated : Array (Option Value)} {fseated : Addr}
    (a_seated : PySem.W.nsIn K mainGlobals "seated" = some (some (.ref fseated))) (l_seated : K.lookup fseated = some ⟨oseated, dseated, .func (PySem.W.fnOf "seated" "seated" (defArgs s_seated) (defBody s_seated) (defScope s_seated) .none kseated vseated mseated aseated cseated tseated), lseated⟩) (c_seated : PySem.W.codeIn K cseated "seated" = true) (k_seated : PySem.W.keepIn K (.ref fseated) = true)
    {oleast_of cleast_of vleast_of mleast_of tleast_of kleast_of : Value} {dleast_of aleast_of : Option Addr} {lleast_of : Array (Option Value)} {fleast_of : Addr}
    (a_least_of : PySem.W.nsIn K mainGlobals "least_of" = some (some (.ref fleast_of))) (l_least_of : K.lookup fleast_of = some ⟨oleast_of, dleast_of, .func (PySem.W.fnOf "least_of" "least_of" (defArgs s_least_of) (defBody s_least_of) (defScope s_least_of) .none kleast_of vleast_of mleast_of aleast_of cleast_of tleast_of), lleast_of⟩) (c_least_of : PySem.W.codeIn K cleast_of "least_of" = true) (k_least_of : PySem.W.keepIn K (.ref fleast_of) = true)
    {otidied ctidied vtidied mtidied ttidied ktidied : Value} {dtidied atidied : Option Addr} {ltidied : Array (Option Value)} {ftidied : Addr}
    (a_tidied : PySem.W.nsIn K mainGlobals "tidied" = some (some (.ref ftidied))) (l_tidied : K.lookup ftidied = some ⟨otidied, dtidied, .func (PySem.W.fnOf "tidied" "tidied" (defArgs s_tidied) (defBody s_tidied) (defScope s_tidied) .none ktidied vtidied mtidied atidied ctidied ttidied), ltidied⟩) (c_tidied : PySem.W.codeIn K ctidied "tidied" = true) (k_tidied : PySem.W.keepIn K (.ref ftidied) = true)
    {ois_tree cis_tree vis_tree mis_tree tis_tree kis_tree : Value} {dis_tree ais_tree : Option Addr} {lis_tree : Array (Option Value)} {fis_tree : Addr}
    (a_is_tree : PySem.W.nsIn K mainGlobals "is_tree" = some (some (.ref fis_tree))) (l_is_tree : K.lookup fis_tree = some ⟨ois_tree, dis_tree, .func (PySem.W.fnOf "is_tree" "is_tree" (defArgs s_is_tree) (defBody s_is_tree) (defScope s_is_tree) .none kis_tree vis_tree mis_tree ais_tree cis_tree tis_tree), lis_tree⟩) (c_is_tree : PySem.W.codeIn K cis_tree "is_tree" = true) (k_is_tree : PySem.W.keepIn K (.ref fis_tree) = true)
    {oneed_tree cneed_tree vneed_tree mneed_tree tneed_tree kneed_tree : Value} {dneed_tree aneed_tree : Option Addr} {lneed_tree : Array (Option Value)} {fneed_tree : Addr}
    (a_need_tree : PySem.W.nsIn K mainGlobals "need_tree" = some (some (.ref fneed_tree))) (l_need_tree : K.lookup fneed_tree = some ⟨oneed_tree, dneed_tree, .func (PySem.W.fnOf "need_tree" "need_tree" (defArgs s_need_tree) (defBody s_need_tree) (defScope s_need_tree) .none kneed_tree vneed_tree mneed_tree aneed_tree cneed_tree tneed_tree), lneed_tree⟩) (c_need_tree : PySem.W.codeIn K cneed_tree "need_tree" = true) (k_need_tree : PySem.W.keepIn K (.ref fneed_tree) = true)
    {onote_of cnote_of vnote_of mnote_of tnote_of knote_of : Value} {dnote_of anote_of : Option Addr} {lnote_of : Array (Option Value)} {fnote_of : Addr}
    (a_note_of : PySem.W.nsIn K mainGlobals "note_of" = some (some (.ref fnote_of))) (l_note_of : K.lookup fnote_of = some ⟨onote_of, dnote_of, .func (PySem.W.fnOf "note_of" "note_of" (defArgs s_note_of) (defBody s_note_of) (defScope s_note_of) .none knote_of vnote_of mnote_of anote_of cnote_of tnote_of), lnote_of⟩) (c_note_of : PySem.W.codeIn K cnote_of "note_of" = true) (k_note_of : PySem.W.keepIn K (.ref fnote_of) = true)
    {oshown cshown vshown mshown tshown kshown : Value} {dshown ashown : Option Addr} {lshown : Array (Option Value)} {fshown : Addr}
    (a_shown : PySem.W.nsIn K mainGlobals "shown" = some (some (.ref fshown))) (l_shown : K.lookup fshown = some ⟨oshown, dshown, .func (PySem.W.fnOf "shown" "shown" (defArgs s_shown) (defBody s_shown) (defScope s_shown) .none kshown vshown mshown ashown cshown tshown), lshown⟩) (c_shown : PySem.W.codeIn K cshown "shown" = true) (k_shown : PySem.W.keepIn K (.ref fshown) = true)
    {oneed_good cneed_good vneed_good mneed_good tneed_good kneed_good : Value} {dneed_good aneed_good : Option Addr} {lneed_good : Array (Option Value)} {fneed_good : Addr}
    (a_need_good : PySem.W.nsIn K mainGlobals "need_good" = some (some (.ref fneed_good))) (l_need_good : K.lookup fneed_good = some ⟨oneed_good, dneed_good, .func (PySem.W.fnOf "need_good" "need_good" (defArgs s_need_good) (defBody s_need_good) (defScope s_need_good) .none kneed_good vneed_good mneed_good aneed_good cneed_good tneed_good), lneed_good⟩) (c_need_good : PySem.W.codeIn K cneed_good "need_good" = true) (k_need_good : PySem.W.keepIn K (.ref fneed_good) = true)
    {oguest_from cguest_from vguest_from mguest_from tguest_from kguest_from : Value} {dguest_from aguest_from : Option Addr} {lguest_from : Array (Option Value)} {fguest_from : Addr}
    (a_guest_from : PySem.W.nsIn K mainGlobals "guest_from" = some (some (.ref fguest_from))) (l_guest_from : K.lookup fguest_from = some ⟨oguest_from, dguest_from, .func (PySem.W.fnOf "guest_from" "guest_from" (defArgs s_guest_from) (defBody s_guest_from) (defScope s_guest_from) .none kguest_from vguest_from mguest_from aguest_from cguest_from tguest_from), lguest_from⟩) (c_guest_from : PySem.W.codeIn K cguest_from "guest_from" = true) (k_guest_from : PySem.W.keepIn K (.ref fguest_from) = true)
    {otree_from ctree_from vtree_from mtree_from ttree_from ktree_from : Value} {dtree_from atree_from : Option Addr} {ltree_from : Array (Option Value)} {ftree_from : Addr}
    (a_tree_from : PySem.W.nsIn K mainGlobals "tree_from" = some (some (.ref ftree_from))) (l_tree_from : K.lookup ftree_from = some ⟨otree_from, dtree_from, .func (PySem.W.fnOf "tree_from" "tree_from" (defArgs s_tree_from) (defBody s_tree_from) (defScope s_tree_from) .none ktree_from vtree_from mtree_from atree_from ctree_from ttree_from), ltree_from⟩) (c_tree_from : PySem.W.codeIn K ctree_from "tree_from" = true) (k_tree_from : PySem.W.keepIn K (.ref ftree_from) = true)
    {oread cread vread mread tread kread : Value} {dread aread : Option Addr} {lread : Array (Option Value)} {fread : Addr}
    (a_read : PySem.W.nsIn K mainGlobals "read" = some (some (.ref fread))) (l_read : K.lookup fread = some ⟨oread, dread, .func (PySem.W.fnOf "read" "read" (defArgs s_read) (defBody s_read) (defScope s_read) .none kread vread mread aread cread tread), lread⟩) (c_read : PySem.W.codeIn K cread "read" = true) (k_read : PySem.W.keepIn K (.ref fread) = true)
    {o_law_mixed c_law_mixed v_law_mixed m_law_mixed t_law_mixed k_law_mixed : Value} {d_law_mixed a_law_mixed : Option Addr} {l_law_mixed : Array (Option Value)} {f_law_mixed : Addr}
    (a__law_mixed : PySem.W.nsIn K mainGlobals "_law_mixed" = some (some (.ref f_law_mixed))) (l__law_mixed : K.lookup f_law_mixed = some ⟨o_law_mixed, d_law_mixed, .func (PySem.W.fnOf "_law_mixed" "_law_mixed" (defArgs s__law_mixed) (defBody s__law_mixed) (defScope s__law_mixed) .none k_law_mixed v_law_mixed m_law_mixed a_law_mixed c_law_mixed t_law_mixed), l_law_mixed⟩) (c__law_mixed : PySem.W.codeIn K c_law_mixed "_law_mixed" = true) (k__law_mixed : PySem.W.keepIn K (.ref f_law_mixed) = true)
    {o_law_next c_law_next v_law_next m_law_next t_law_next k_law_next : Value} {d_law_next a_law_next : Option Addr} {l_law_next : Array (Option Value)} {f_law_next : Addr}
    (a__law_next : PySem.W.nsIn K mainGlobals "_law_next" = some (some (.ref f_law_next))) (l__law_next : K.lookup f_law_next = some ⟨o_law_next, d_law_next, .func (PySem.W.fnOf "_law_next" "_law_next" (defArgs s__law_next) (defBody s__law_next) (defScope s__law_next) .none k_law_next v_law_next m_law_next a_law_next c_law_next t_law_next), l_law_next⟩) (c__law_next : PySem.W.codeIn K c_law_next "_law_next" = true) (k__law_next : PySem.W.keepIn K (.ref f_law_next) = true)
    {o_law_order c_law_order v_law_order m_law_order t_law_order k_law_order : Value} {d_law_order a_law_order : Option Addr} {l_law_order : Array (Option Value)} {f_law_order : Addr}
    (a__law_order : PySem.W.nsIn K mainGlobals "_law_order" = some (some (.ref f_law_order))) (l__law_order : K.lookup f_law_order = some ⟨o_law_order, d_law_order, .func (PySem.W.fnOf "_law_order" "_law_order" (defArgs s__law_order) (defBody s__law_order) (defScope s__law_order) .none k_law_order v_law_order m_law_order a_law_order c_law_order t_law_order), l_law_order⟩) (c__law_order : PySem.W.codeIn K c_law_order "_law_order" = true) (k__law_order : PySem.W.keepIn K (.ref f_law_order) = true)
    {o_law_cut c_law_cut v_law_cut m_law_cut t_law_cut k_law_cut : Value} {d_law_cut a_law_cut : Option Addr} {l_law_cut : Array (Option Value)} {f_law_cut : Addr}
    (a__law_cut : PySem.W.nsIn K mainGlobals "_law_cut" = some (some (.ref f_law_cut))) (l__law_cut : K.lookup f_law_cut = some ⟨o_law_cut, d_law_cut, .func (PySem.W.fnOf "_law_cut" "_law_cut" (defArgs s__law_cut) (defBody s__law_cut) (defScope s__law_cut) .none k_law_cut v_law_cut m_law_cut a_law_cut c_law_cut t_law_cut), l_law_cut⟩) (c__law_cut : PySem.W.codeIn K c_law_cut "_law_cut" = true) (k__law_cut : PySem.W.keepIn K (.ref f_law_cut) = true)
    {o_law_seated c_law_seated v_law_seated m_law_seated t_law_seated k_law_seated : Value} {d_law_seated a_law_seated : Option Addr} {l_law_seated : Array (Option Value)} {f_law_seated : Addr}
    (a__law_seated : PySem.W.nsIn K mainGlobals "_law_seated" = some (some (.ref f_law_seated))) (l__law_seated : K.lookup f_law_seated = some ⟨o_law_seated, d_law_seated, .func (PySem.W.fnOf "_law_seated" "_law_seated" (defArgs s__law_seated) (defBody s__law_seated) (defScope s__law_seated) .none k_law_seated v_law_seated m_law_seated a_law_seated c_law_seated t_law_seated), l_law_seated⟩) (c__law_seated : PySem.W.codeIn K c_law_seated "_law_seated" = true) (k__law_seated : PySem.W.keepIn K (.ref f_law_seated) = true)
    {o_law_least c_law_least v_law_least m_law_least t_law_least k_law_least : Value} {d_law_least a_law_least : Option Addr} {l_law_least : Array (Option Value)} {f_law_least : Addr}
    (a__law_least : PySem.W.nsIn K mainGlobals "_law_least" = some (some (.ref f_law_least))) (l__law_least : K.lookup f_law_least = some ⟨o_law_least, d_law_least, .func (PySem.W.fnOf "_law_least" "_law_least" (defArgs s__law_least) (defBody s__law_least) (defScope s__law_least) .none k_law_least v_law_least m_law_least a_law_least c_law_least t_law_least), l_law_least⟩) (c__law_least : PySem.W.codeIn K c_law_least "_law_least" = true) (k__law_least : PySem.W.keepIn K (.ref f_law_least) = true)
    {o_law_tree c_law_tree v_law_tree m_law_tree t_law_tree k_law_tree : Value} {d_law_tree a_law_tree : Option Addr} {l_law_tree : Array (Option Value)} {f_law_tree : Addr}
    (a__law_tree : PySem.W.nsIn K mainGlobals "_law_tree" = some (some (.ref f_law_tree))) (l__law_tree : K.lookup f_law_tree = some ⟨o_law_tree, d_law_tree, .func (PySem.W.fnOf "_law_tree" "_law_tree" (defArgs s__law_tree) (defBody s__law_tree) (defScope s__law_tree) .none k_law_tree v_law_tree m_law_tree a_law_tree c_law_tree t_law_tree), l_law_tree⟩) (c__law_tree : PySem.W.codeIn K c_law_tree "_law_tree" = true) (k__law_tree : PySem.W.keepIn K (.ref f_law_tree) = true)
    {o_law_text c_law_text v_law_text m_law_text t_law_text k_law_text : Value} {d_law_text a_law_text : Option Addr} {l_law_text : Array (Option Value)} {f_law_text : Addr}
    (a__law_text : PySem.W.nsIn K mainGlobals "_law_text" = some (some (.ref f_law_text))) (l__law_text : K.lookup f_law_text = some ⟨o_law_text, d_law_text, .func (PySem.W.fnOf "_law_text" "_law_text" (defArgs s__law_text) (defBody s__law_text) (defScope s__law_text) .none k_law_text v_law_text m_law_text a_law_text c_law_text t_law_text), l_law_text⟩) (c__law_text : PySem.W.codeIn K c_law_text "_law_text" = true) (k__law_text : PySem.W.keepIn K (.ref f_law_text) = true)
    {o_law_alike c_law_alike v_law_alike m_law_alike t_law_alike k_law_alike : Value} {d_law_alike a_law_alike : Option Addr} {l_law_alike : Array (Option Value)} {f_law_alike : Addr}
    (a__law_alike : PySem.W.nsIn K mainGlobals "_law_alike" = some (some (.ref f_law_alike))) (l__law_alike : K.lookup f_law_alike = some ⟨o_law_alike, d_law_alike, .func (PySem.W.fnOf "_law_alike" "_law_alike" (defArgs s__law_alike) (defBody s__law_alike) (defScope s__law_alike) .none k_law_alike v_law_alike m_law_alike a_law_alike c_law_alike t_law_alike), l_law_alike⟩) (c__law_alike : PySem.W.codeIn K c_law_alike "_law_alike" = true) (k__law_alike : PySem.W.keepIn K (.ref f_law_alike) = true)
    {olaw claw vlaw mlaw tlaw klaw : Value} {dlaw alaw : Option Addr} {llaw : Array (Option Value)} {flaw : Addr}
    (a_law : PySem.W.nsIn K mainGlobals "law" = some (some (.ref flaw))) (l_law : K.lookup flaw = some ⟨olaw, dlaw, .func (PySem.W.fnOf "law" "law" (defArgs s_law) (defBody s_law) (defScope s_law) .none klaw vlaw mlaw alaw claw tlaw), llaw⟩) (c_law : PySem.W.codeIn K claw "law" = true) (k_law : PySem.W.keepIn K (.ref flaw) = true)
    (z_isinstance : PySem.W.nsIn K mainGlobals "isinstance" = some none)
    (z_bool : PySem.W.nsIn K mainGlobals "bool" = some none)
    (z_int : PySem.W.nsIn K mainGlobals "int" = some none)
    (z_tuple : PySem.W.nsIn K mainGlobals "tuple" = some none)
    (z_len : PySem.W.nsIn K mainGlobals "len" = some none)
    (z_str : PySem.W.nsIn K mainGlobals "str" = some none)
    (z_min : PySem.W.nsIn K mainGlobals "min" = some none)
    (z_sorted : PySem.W.nsIn K mainGlobals "sorted" = some none)
    (z_list : PySem.W.nsIn K mainGlobals "list" = some none)
    (z_range : PySem.W.nsIn K mainGlobals "range" = some none)
    (z_enumerate : PySem.W.nsIn K mainGlobals "enumerate" = some none)
    (z_zip : PySem.W.nsIn K mainGlobals "zip" = some none)
    (z_all : PySem.W.nsIn K mainGlobals "all" = some none)
    {tMOST_GUESTS : Tok} (w_MOST_GUESTS : PySem.W.nsIn K mainGlobals "MOST_GUESTS" = some (some (.int 12 tMOST_GUESTS)))
    {tFEWEST_STOOLS : Tok} (w_FEWEST_STOOLS : PySem.W.nsIn K mainGlobals "FEWEST_STOOLS" = some (some (.int 2 tFEWEST_STOOLS)))
    {tFEWEST_BENCH : Tok} (w_FEWEST_BENCH : PySem.W.nsIn K mainGlobals "FEWEST_BENCH" = some (some (.int 3 tFEWEST_BENCH)))
    {tFIGURES : Tok} (w_FIGURES : PySem.W.nsIn K mainGlobals "FIGURES" = some (some (.str "0123456789" tFIGURES)))
    {dENDS : Addr} {hxENDS hyENDS : Int} {nnENDS : Nat} {txENDS tyENDS tzENDS tuENDS : Tok} (w_ENDS : PySem.W.nsIn K mainGlobals "ENDS" = some (some (.ref dENDS))) (d_ENDS : K.lookup dENDS = some ⟨.type "dict", none, .dict #[⟨hxENDS, .str "(" txENDS, .str ")" tzENDS⟩, ⟨hyENDS, .str "[" tyENDS, .str "]" tuENDS⟩] nnENDS, #[]⟩) (ha_ENDS : hxENDS = PyData.keyHash w.params "(") (hb_ENDS : hyENDS = PyData.keyHash w.params "[") (lo_ENDS : (dENDS == sysModules) = false)
    {dWORDS : Addr} {hxWORDS hyWORDS : Int} {nnWORDS : Nat} {txWORDS tyWORDS tzWORDS tuWORDS : Tok} (w_WORDS : PySem.W.nsIn K mainGlobals "WORDS" = some (some (.ref dWORDS))) (d_WORDS : K.lookup dWORDS = some ⟨.type "dict", none, .dict #[⟨hxWORDS, .str "(" txWORDS, .str "stools" tzWORDS⟩, ⟨hyWORDS, .str "[" tyWORDS, .str "bench" tuWORDS⟩] nnWORDS, #[]⟩) (ha_WORDS : hxWORDS = PyData.keyHash w.params "(") (hb_WORDS : hyWORDS = PyData.keyHash w.params "[") (lo_WORDS : (dWORDS == sysModules) = false)
    {CBadTree : Addr} (ea_BadTree : PySem.W.nsIn K mainGlobals "BadTree" = some (some (.ref CBadTree))) (ex_BadTree : PySem.W.excIn K CBadTree [.type "ValueError", .type "Exception", .type "BaseException", .type "object"] "ValueError.__new__" = true) (ek_BadTree : PySem.W.keepIn K (.ref CBadTree) = true) (eb_BadTree : PySem.W.subIn K (.ref CBadTree) (.type "BaseException") = some true) (et_BadTree : PySem.W.typeIn K (.ref CBadTree) = some (.type "type"))
    {CBadNote : Addr} (ea_BadNote : PySem.W.nsIn K mainGlobals "BadNote" = some (some (.ref CBadNote))) (ex_BadNote : PySem.W.excIn K CBadNote [.type "ValueError", .type "Exception", .type "BaseException", .type "object"] "ValueError.__new__" = true) (ek_BadNote : PySem.W.keepIn K (.ref CBadNote) = true) (eb_BadNote : PySem.W.subIn K (.ref CBadNote) (.type "BaseException") = some true) (et_BadNote : PySem.W.typeIn K (.ref CBadNote) = some (.type "type"))
    : ∃ fd : FuncData, (∀ (s : Shared) (v : Value), BindsTo s fd ⟨[v], []⟩ [("_law_script", v)]) ∧ ∀ base : Heap, K.In base → base.Ns mainGlobals mg → FnOk P w K mg base (L2.CX P w) 86 fa fd ["_law_script"] (spLaw K) := by
  have e := hfa.symm.trans (PySem.W.mg_of X G a_law)
  cases e
  have U_is_among := fun_mk (st := s_is_among) l_is_among c_is_among k_is_among
  have B_is_among := U_is_among.binds (ps := ["thing", "least", "most"]) fun _ _ _ _ _ _ us hl => match us, hl with | [_, _, _], _ => rfl
  have U_guests_in := fun_mk (st := s_guests_in) l_guests_in c_guests_in k_guests_in
  have B_guests_in := U_guests_in.binds (ps := ["thing", "deep", "most"]) fun _ _ _ _ _ _ us hl => match us, hl with | [_, _, _], _ => rfl
  have U_seated := fun_mk (st := s_seated) l_seated c_seated k_seated
  have B_seated := U_seated.binds (ps := ["tree"]) fun _ _ _ _ _ _ us hl => match us, hl with | [_], _ => rfl
  have U_least_of := fun_mk (st := s_least_of) l_least_of c_least_of k_least_of
  have B_least_of := U_least_of.binds (ps := ["tree"]) fun _ _ _ _ _ _ us hl => match us, hl with | [_], _ => rfl
  have U_tidied := fun_mk (st := s_tidied) l_tidied c_tidied k_tidied
  have B_tidied := U_tidied.binds (ps := ["tree"]) fun _ _ _ _ _ _ us hl => match us, hl with | [_], _ => rfl
  have U_is_tree := fun_mk (st := s_is_tree) l_is_tree c_is_tree k_is_tree
  have B_is_tree := U_is_tree.binds (ps := ["thing"]) fun _ _ _ _ _ _ us hl => match us, hl with | [_], _ => rfl
  have U_need_tree := fun_mk (st := s_need_tree) l_need_tree c_need_tree k_need_tree
  have B_need_tree := U_need_tree.binds (ps := ["tree"]) fun _ _ _ _ _ _ us hl => match us, hl with | [_], _ => rfl
  have U_note_of := fun_mk (st := s_note_of) l_note_of c_note_of k_note_of
  have B_note_of := U_note_of.binds (ps := ["tree"]) fun _ _ _ _ _ _ us hl => match us, hl with | [_], _ => rfl
  have U_shown := fun_mk (st := s_shown) l_shown c_shown k_shown
  have B_shown := U_shown.binds (ps := ["tree"]) fun _ _ _ _ _ _ us hl => match us, hl with | [_], _ => rfl
  have U_need_good := fun_mk (st := s_need_good) l_need_good c_need_good k_need_good
  have B_need_good := U_need_good.binds (ps := ["good"]) fun _ _ _ _ _ _ us hl => match us, hl with | [_], _ => rfl
  have U_guest_from := fun_mk (st := s_guest_from) l_guest_from c_guest_from k_guest_from
  have B_guest_from := U_guest_from.binds (ps := ["text", "at"]) fun _ _ _ _ _ _ us hl => match us, hl with | [_, _], _ => rfl
  have U_tree_from := fun_mk (st := s_tree_from) l_tree_from c_tree_from k_tree_from
  have B_tree_from := U_tree_from.binds (ps := ["text", "at", "deep"]) fun _ _ _ _ _ _ us hl => match us, hl with | [_, _, _], _ => rfl
  have U_read := fun_mk (st := s_read) l_read c_read k_read
  have B_read := U_read.binds (ps := ["text"]) fun _ _ _ _ _ _ us hl => match us, hl with | [_], _ => rfl
  have U__law_mixed := fun_mk (st := s__law_mixed) l__law_mixed c__law_mixed k__law_mixed
  have B__law_mixed := U__law_mixed.binds (ps := ["_law_cell", "_law_k"]) fun _ _ _ _ _ _ us hl => match us, hl with | [_, _], _ => rfl
  have U__law_next := fun_mk (st := s__law_next) l__law_next c__law_next k__law_next
  have B__law_next := U__law_next.binds (ps := ["_law_number", "_law_k"]) fun _ _ _ _ _ _ us hl => match us, hl with | [_, _], _ => rfl
  have U__law_order := fun_mk (st := s__law_order) l__law_order c__law_order k__law_order
  have B__law_order := U__law_order.binds (ps := ["_law_number", "_law_many"]) fun _ _ _ _ _ _ us hl => match us, hl with | [_, _], _ => rfl
  have U__law_cut := fun_mk (st := s__law_cut) l__law_cut c__law_cut k__law_cut
  have B__law_cut := U__law_cut.binds (ps := ["_law_guests", "_law_number"]) fun _ _ _ _ _ _ us hl => match us, hl with | [_, _], _ => rfl
  have U__law_seated := fun_mk (st := s__law_seated) l__law_seated c__law_seated k__law_seated
  have B__law_seated := U__law_seated.binds (ps := ["_law_tree_here"]) fun _ _ _ _ _ _ us hl => match us, hl with | [_], _ => rfl
  have U__law_least := fun_mk (st := s__law_least) l__law_least c__law_least k__law_least
  have B__law_least := U__law_least.binds (ps := ["_law_tree_here"]) fun _ _ _ _ _ _ us hl => match us, hl with | [_], _ => rfl
  have U__law_tree := fun_mk (st := s__law_tree) l__law_tree c__law_tree k__law_tree
  have B__law_tree := U__law_tree.binds (ps := ["_law_guests", "_law_number"]) fun _ _ _ _ _ _ us hl => match us, hl with | [_, _], _ => rfl
  have U__law_text := fun_mk (st := s__law_text) l__law_text c__law_text k__law_text
  have B__law_text := U__law_text.binds (ps := ["_law_tree_here"]) fun _ _ _ _ _ _ us hl => match us, hl with | [_], _ => rfl
  have U__law_alike := fun_mk (st := s__law_alike) l__law_alike c__law_alike k__law_alike
  have B__law_alike := U__law_alike.binds (ps := ["_law_found", "_law_due"]) fun _ _ _ _ _ _ us hl => match us, hl with | [_, _], _ => rfl
  have U_law := fun_mk (st := s_law) l_law c_law k_law
  have m_isinstance := PySem.W.mg_none_of X G z_isinstance
  have m_bool := PySem.W.mg_none_of X G z_bool
  have m_int := PySem.W.mg_none_of X G z_int
  have m_tuple := PySem.W.mg_none_of X G z_tuple
  have m_len := PySem.W.mg_none_of X G z_len
  have m_str := PySem.W.mg_none_of X G z_str
  have m_min := PySem.W.mg_none_of X G z_min
  have m_sorted := PySem.W.mg_none_of X G z_sorted
  have m_list := PySem.W.mg_none_of X G z_list
  have m_range := PySem.W.mg_none_of X G z_range
  have m_enumerate := PySem.W.mg_none_of X G z_enumerate
  have m_zip := PySem.W.mg_none_of X G z_zip
  have m_all := PySem.W.mg_none_of X G z_all
  have v_MOST_GUESTS : ∃ t : Tok, mg "MOST_GUESTS" = some (.int 12 t) := ⟨_, PySem.W.mg_of X G w_MOST_GUESTS⟩
  have v_FEWEST_STOOLS : ∃ t : Tok, mg "FEWEST_STOOLS" = some (.int 2 t) := ⟨_, PySem.W.mg_of X G w_FEWEST_STOOLS⟩
  have v_FEWEST_BENCH : ∃ t : Tok, mg "FEWEST_BENCH" = some (.int 3 t) := ⟨_, PySem.W.mg_of X G w_FEWEST_BENCH⟩
  have v_FIGURES : ∃ t : Tok, mg "FIGURES" = some (.str "0123456789" t) := ⟨_, PySem.W.mg_of X G w_FIGURES⟩
  have v_ENDS : ∃ d : Addr, mg "ENDS" = some (.ref d) ∧ KD2 K w d "(" ")" "[" "]" := ⟨_, PySem.W.mg_of X G w_ENDS, ⟨⟨_, _, _, _, _, _, _, d_ENDS, ha_ENDS, hb_ENDS⟩, lo_ENDS⟩⟩
  have v_WORDS : ∃ d : Addr, mg "WORDS" = some (.ref d) ∧ KD2 K w d "(" "stools" "[" "bench" := ⟨_, PySem.W.mg_of X G w_WORDS, ⟨⟨_, _, _, _, _, _, _, d_WORDS, ha_WORDS, hb_WORDS⟩, lo_WORDS⟩⟩
  have x_BadTree : Ex K mg "BadTree" CBadTree := ⟨PySem.W.mg_of X G ea_BadTree, ex_BadTree, ek_BadTree, eb_BadTree, et_BadTree⟩
  have x_BadNote : Ex K mg "BadNote" CBadNote := ⟨PySem.W.mg_of X G ea_BadNote, ex_BadNote, ek_BadNote, eb_BadNote, et_BadNote⟩
  refine ⟨PySem.W.fnOf "law" "law" (defArgs s_law) (defBody s_law) (defScope s_law) .none klaw vlaw mlaw alaw claw tlaw, fun s v => .of_eq rfl, fun base _ _ => ?_⟩
  have H_is_among : Fn P w K mg base 1 "is_among" 3 g_is_among := fn_is_among (k := 0) m_isinstance m_bool m_int U_is_among (PySem.W.mg_of X G a_is_among) B_is_among
  have HN_guests_in : ∀ n, Fn P w K mg base (1 + 1 * n) "guests_in" 3 (fN_guests_in n) := by
    intro n
    induction n with
    | zero => exact Fn.bad (ps := ["thing", "deep", "most"]) rfl (PySem.W.mg_of X G a_guests_in) U_guests_in.kp B_guests_in
    | succ n ih =>
      exact (fn_guests_in (k := 1 + 1 * n + 0) (H_is_among.mono (by omega)) (ih.mono (by omega)) m_isinstance m_tuple m_len m_str v_MOST_GUESTS v_FEWEST_STOOLS v_FEWEST_BENCH U_guests_in (PySem.W.mg_of X G a_guests_in) B_guests_in).mono (by omega)
  have H_guests_in : Fn P w K mg base 21 "guests_in" 3 g_guests_in := HN_guests_in 20
  have HN_seated : ∀ n, Fn P w K mg base (1 + 1 * n) "seated" 1 (fN_seated n) := by
    intro n
    induction n with
    | zero => exact Fn.bad (ps := ["tree"]) rfl (PySem.W.mg_of X G a_seated) U_seated.kp B_seated
    | succ n ih =>
      exact (fn_seated (k := 1 + 1 * n + 0) (H_is_among.mono (by omega)) (ih.mono (by omega)) v_MOST_GUESTS U_seated (PySem.W.mg_of X G a_seated) B_seated).mono (by omega)
  have H_seated : Fn P w K mg base 21 "seated" 1 g_seated := HN_seated 20
  have H_least_of : Fn P w K mg base 22 "least_of" 1 g_least_of := fn_least_of (k := 21) (H_seated.mono (by decide)) m_min U_least_of (PySem.W.mg_of X G a_least_of) B_least_of
  have HN_tidied : ∀ n, Fn P w K mg base (22 + 3 * n) "tidied" 1 (fN_tidied n) := by
    intro n
    induction n with
    | zero => exact Fn.bad (ps := ["tree"]) rfl (PySem.W.mg_of X G a_tidied) U_tidied.kp B_tidied
    | succ n ih =>
      exact (fn_tidied (k := 22 + 3 * n + 0) (H_is_among.mono (by omega)) (ih.mono (by omega)) (H_least_of.mono (by omega)) m_sorted m_tuple v_MOST_GUESTS U_tidied (PySem.W.mg_of X G a_tidied) B_tidied).mono (by omega)
  have H_tidied : Fn P w K mg base 82 "tidied" 1 g_tidied := HN_tidied 20
  have H_is_tree : Fn P w K mg base 83 "is_tree" 1 g_is_tree := fn_is_tree (k := 82) (H_guests_in.mono (by decide)) (H_seated.mono (by decide)) (H_tidied.mono (by decide)) m_sorted m_len m_list m_range v_MOST_GUESTS U_is_tree (PySem.W.mg_of X G a_is_tree) B_is_tree
  have H_need_tree : Fn P w K mg base 84 "need_tree" 1 g_need_tree := fn_need_tree (k := 83) (H_is_tree.mono (by decide)) x_BadTree U_need_tree (PySem.W.mg_of X G a_need_tree) B_need_tree
  have HN_note_of : ∀ n, Fn P w K mg base (0 + 1 * n) "note_of" 1 (fN_note_of n) := by
    intro n
    induction n with
    | zero => exact Fn.bad (ps := ["tree"]) rfl (PySem.W.mg_of X G a_note_of) U_note_of.kp B_note_of
    | succ n ih =>
      exact (fn_note_of (k := 0 + 1 * n + 0) (ih.mono (by omega)) m_isinstance m_int m_str U_note_of (PySem.W.mg_of X G a_note_of) B_note_of).mono (by omega)
  have H_note_of : Fn P w K mg base 20 "note_of" 1 g_note_of := HN_note_of 20
  have H_shown : Fn P w K mg base 85 "shown" 1 g_shown := fn_shown (k := 84) (H_need_tree.mono (by decide)) (H_note_of.mono (by decide)) U_shown (PySem.W.mg_of X G a_shown) B_shown
  have H_need_good : Fn P w K mg base 1 "need_good" 1 g_need_good := fn_need_good (k := 0) x_BadNote U_need_good (PySem.W.mg_of X G a_need_good) B_need_good
  have H_guest_from : Fn P w K mg base 2 "guest_from" 2 g_guest_from := fn_guest_from (k := 1) (fun _ => 400) (H_need_good.mono (by decide)) m_len m_int v_FIGURES U_guest_from (PySem.W.mg_of X G a_guest_from) B_guest_from
  have HN_tree_from : ∀ n, Fn P w K mg base (2 + 1 * n) "tree_from" 3 (fN_tree_from n) := by
    intro n
    induction n with
    | zero => exact Fn.bad (ps := ["text", "at", "deep"]) rfl (PySem.W.mg_of X G a_tree_from) U_tree_from.kp B_tree_from
    | succ n ih =>
      exact (fn_tree_from (k := 2 + 1 * n + 0) (fun _ => 400) (H_need_good.mono (by omega)) (H_guest_from.mono (by omega)) (ih.mono (by omega)) m_len m_tuple v_ENDS v_WORDS U_tree_from (PySem.W.mg_of X G a_tree_from) B_tree_from).mono (by omega)
  have H_tree_from : Fn P w K mg base 22 "tree_from" 3 g_tree_from := HN_tree_from 20
  have H_read : Fn P w K mg base 84 "read" 1 g_read := fn_read (k := 83) (H_need_good.mono (by decide)) (H_tree_from.mono (by decide)) (H_note_of.mono (by decide)) (H_is_tree.mono (by decide)) m_isinstance m_str m_len v_MOST_GUESTS U_read (PySem.W.mg_of X G a_read) B_read
  have H__law_mixed : Fn P w K mg base 1 "_law_mixed" 2 g__law_mixed := fn__law_mixed (k := 0)  U__law_mixed (PySem.W.mg_of X G a__law_mixed) B__law_mixed
  have H__law_next : Fn P w K mg base 1 "_law_next" 2 g__law_next := fn__law_next (k := 0)  U__law_next (PySem.W.mg_of X G a__law_next) B__law_next
  have H__law_order : Fn P w K mg base 2 "_law_order" 2 g__law_order := fn__law_order (k := 1) (H__law_next.mono (by decide)) m_list m_range m_len U__law_order (PySem.W.mg_of X G a__law_order) B__law_order
  have H__law_cut : Fn P w K mg base 2 "_law_cut" 2 g__law_cut := fn__law_cut (k := 1) (H__law_next.mono (by decide)) m_len m_range U__law_cut (PySem.W.mg_of X G a__law_cut) B__law_cut
  have HN__law_seated : ∀ n, Fn P w K mg base (0 + 1 * n) "_law_seated" 1 (fN__law_seated n) := by
    intro n
    induction n with
    | zero => exact Fn.bad (ps := ["_law_tree_here"]) rfl (PySem.W.mg_of X G a__law_seated) U__law_seated.kp B__law_seated
    | succ n ih =>
      exact (fn__law_seated (k := 0 + 1 * n + 0) (ih.mono (by omega)) m_isinstance m_int U__law_seated (PySem.W.mg_of X G a__law_seated) B__law_seated).mono (by omega)
  have H__law_seated : Fn P w K mg base 20 "_law_seated" 1 g__law_seated := HN__law_seated 20
  have H__law_least : Fn P w K mg base 21 "_law_least" 1 g__law_least := fn__law_least (k := 20) (H__law_seated.mono (by decide)) m_min U__law_least (PySem.W.mg_of X G a__law_least) B__law_least
  have HN__law_tree : ∀ n, Fn P w K mg base (21 + 3 * n) "_law_tree" 2 (fN__law_tree n) := by
    intro n
    induction n with
    | zero => exact Fn.bad (ps := ["_law_guests", "_law_number"]) rfl (PySem.W.mg_of X G a__law_tree) U__law_tree.kp B__law_tree
    | succ n ih =>
      exact (fn__law_tree (k := 21 + 3 * n + 0) (H__law_cut.mono (by omega)) (ih.mono (by omega)) (H__law_next.mono (by omega)) (H__law_least.mono (by omega)) m_len m_enumerate m_sorted m_tuple U__law_tree (PySem.W.mg_of X G a__law_tree) B__law_tree).mono (by omega)
  have H__law_tree : Fn P w K mg base 81 "_law_tree" 2 g__law_tree := HN__law_tree 20
  have HN__law_text : ∀ n, Fn P w K mg base (0 + 1 * n) "_law_text" 1 (fN__law_text n) := by
    intro n
    induction n with
    | zero => exact Fn.bad (ps := ["_law_tree_here"]) rfl (PySem.W.mg_of X G a__law_text) U__law_text.kp B__law_text
    | succ n ih =>
      exact (fn__law_text (k := 0 + 1 * n + 0) (ih.mono (by omega)) m_isinstance m_int U__law_text (PySem.W.mg_of X G a__law_text) B__law_text).mono (by omega)
  have H__law_text : Fn P w K mg base 20 "_law_text" 1 g__law_text := HN__law_text 20
  have HN__law_alike : ∀ n, Fn P w K mg base (0 + 1 * n) "_law_alike" 2 (fN__law_alike n) := by
    intro n
    induction n with
    | zero => exact Fn.bad (ps := ["_law_found", "_law_due"]) rfl (PySem.W.mg_of X G a__law_alike) U__law_alike.kp B__law_alike
    | succ n ih =>
      exact (fn__law_alike (k := 0 + 1 * n + 0) (ih.mono (by omega)) m_isinstance m_int m_bool m_tuple m_len m_zip m_all U__law_alike (PySem.W.mg_of X G a__law_alike) B__law_alike).mono (by omega)
  have H__law_alike : Fn P w K mg base 20 "_law_alike" 2 g__law_alike := HN__law_alike 20
  exact fn_law (k := 85) (H__law_mixed.mono (by decide)) (H__law_tree.mono (by decide)) (H__law_order.mono (by decide)) (H__law_next.mono (by decide)) (H_shown.mono (by decide)) (H__law_text.mono (by decide)) (H__law_alike.mono (by decide)) (H_read.mono (by decide)) m_enumerate m_isinstance m_str U_law law_ok
end K02
open PySem PySem.W PyProof.Rows
set_option maxRecDepth 100000 in
set_option maxHeartbeats 0 in
theorem PySem.Challenge.cw_sidebyside_k02_trees_written_and_read_holds : PySem.Challenge.rw_sidebyside_k02_trees_written_and_read.Holds := by
  w_on; o_law; k_head; (case hw => w_witness2)
  k_fill
  refine DL.walk (l := PySem.Challenge.rw_sidebyside_k02_trees_written_and_read) (k := 86) (x := "_law_script") rfl rfl ⟨rfl, by decide, by decide⟩ (fun w h Y => PySem.W.kIn_of Y) ?F
  case F =>
    intro w mg fa h KX G hmg
    refine' K02.all_mk KX G hmg ?a_is_among ?l_is_among ?c_is_among ?k_is_among ?a_guests_in ?l_guests_in ?c_guests_in ?k_guests_in ?a_seated ?l_seated ?c_seated ?k_seated ?a_least_of ?l_least_of ?c_least_of ?k_least_of ?a_tidied ?l_tidied ?c_tidied ?k_tidied ?a_is_tree ?l_is_tree ?c_is_tree ?k_is_tree ?a_need_tree ?l_need_tree ?c_need_tree ?k_need_tree ?a_note_of ?l_note_of ?c_note_of ?k_note_of ?a_shown ?l_shown ?c_shown ?k_shown ?a_need_good ?l_need_good ?c_need_good ?k_need_good ?a_guest_from ?l_guest_from ?c_guest_from ?k_guest_from ?a_tree_from ?l_tree_from ?c_tree_from ?k_tree_from ?a_read ?l_read ?c_read ?k_read ?a__law_mixed ?l__law_mixed ?c__law_mixed ?k__law_mixed ?a__law_next ?l__law_next ?c__law_next ?k__law_next ?a__law_order ?l__law_order ?c__law_order ?k__law_order ?a__law_cut ?l__law_cut ?c__law_cut ?k__law_cut ?a__law_seated ?l__law_seated ?c__law_seated ?k__law_seated ?a__law_least ?l__law_least ?c__law_least ?k__law_least ?a__law_tree ?l__law_tree ?c__law_tree ?k__law_tree ?a__law_text ?l__law_text ?c__law_text ?k__law_text ?a__law_alike ?l__law_alike ?c__law_alike ?k__law_alike ?a_law ?l_law ?c_law ?k_law ?z_isinstance ?z_bool ?z_int ?z_tuple ?z_len ?z_str ?z_min ?z_sorted ?z_list ?z_range ?z_enumerate ?z_zip ?z_all ?w_MOST_GUESTS ?w_FEWEST_STOOLS ?w_FEWEST_BENCH ?w_FIGURES ?w_ENDS ?d_ENDS ?ha_ENDS ?hb_ENDS ?lo_ENDS ?w_WORDS ?d_WORDS ?ha_WORDS ?hb_WORDS ?lo_WORDS ?ea_BadTree ?ex_BadTree ?ek_BadTree ?eb_BadTree ?et_BadTree ?ea_BadNote ?ex_BadNote ?ek_BadNote ?eb_BadNote ?et_BadNote
    (case a_is_among => k_is)
    (case l_is_among => k_is)
    (case c_is_among => k_is)
    (case k_is_among => k_is)
    (case a_guests_in => k_is)
    (case l_guests_in => k_is)
    (case c_guests_in => k_is)
    (case k_guests_in => k_is)
    (case a_seated => k_is)
    (case l_seated => k_is)
    (case c_seated => k_is)
    (case k_seated => k_is)
    (case a_least_of => k_is)
    (case l_least_of => k_is)
    (case c_least_of => k_is)
    (case k_least_of => k_is)
    (case a_tidied => k_is)
    (case l_tidied => k_is)
    (case c_tidied => k_is)
    (case k_tidied => k_is)
    (case a_is_tree => k_is)
    (case l_is_tree => k_is)
    (case c_is_tree => k_is)
    (case k_is_tree => k_is)
    (case a_need_tree => k_is)
    (case l_need_tree => k_is)
    (case c_need_tree => k_is)
    (case k_need_tree => k_is)
    (case a_note_of => k_is)
    (case l_note_of => k_is)
    (case c_note_of => k_is)
    (case k_note_of => k_is)
    (case a_shown => k_is)
    (case l_shown => k_is)
    (case c_shown => k_is)
    (case k_shown => k_is)
    (case a_need_good => k_is)
    (case l_need_good => k_is)
    (case c_need_good => k_is)
    (case k_need_good => k_is)
    (case a_guest_from => k_is)
    (case l_guest_from => k_is)
    (case c_guest_from => k_is)
    (case k_guest_from => k_is)
    (case a_tree_from => k_is)
    (case l_tree_from => k_is)
    (case c_tree_from => k_is)
    (case k_tree_from => k_is)
    (case a_read => k_is)
    (case l_read => k_is)
    (case c_read => k_is)
    (case k_read => k_is)
    (case a__law_mixed => k_is)
    (case l__law_mixed => k_is)
    (case c__law_mixed => k_is)
    (case k__law_mixed => k_is)
    (case a__law_next => k_is)
    (case l__law_next => k_is)
    (case c__law_next => k_is)
    (case k__law_next => k_is)
    (case a__law_order => k_is)
    (case l__law_order => k_is)
    (case c__law_order => k_is)
    (case k__law_order => k_is)
    (case a__law_cut => k_is)
    (case l__law_cut => k_is)
    (case c__law_cut => k_is)
    (case k__law_cut => k_is)
    (case a__law_seated => k_is)
    (case l__law_seated => k_is)
    (case c__law_seated => k_is)
    (case k__law_seated => k_is)
    (case a__law_least => k_is)
    (case l__law_least => k_is)
    (case c__law_least => k_is)
    (case k__law_least => k_is)
    (case a__law_tree => k_is)
    (case l__law_tree => k_is)
    (case c__law_tree => k_is)
    (case k__law_tree => k_is)
    (case a__law_text => k_is)
    (case l__law_text => k_is)
    (case c__law_text => k_is)
    (case k__law_text => k_is)
    (case a__law_alike => k_is)
    (case l__law_alike => k_is)
    (case c__law_alike => k_is)
    (case k__law_alike => k_is)
    (case a_law => k_is)
    (case l_law => k_is)
    (case c_law => k_is)
    (case k_law => k_is)
    (case z_isinstance => k_is)
    (case z_bool => k_is)
    (case z_int => k_is)
    (case z_tuple => k_is)
    (case z_len => k_is)
    (case z_str => k_is)
    (case z_min => k_is)
    (case z_sorted => k_is)
    (case z_list => k_is)
    (case z_range => k_is)
    (case z_enumerate => k_is)
    (case z_zip => k_is)
    (case z_all => k_is)
    (case w_MOST_GUESTS => k_is)
    (case w_FEWEST_STOOLS => k_is)
    (case w_FEWEST_BENCH => k_is)
    (case w_FIGURES => k_is)
    (case w_ENDS => k_is)
    (case d_ENDS => k_is)
    (case ha_ENDS => exact rfl)
    (case hb_ENDS => exact rfl)
    (case lo_ENDS => decide)
    (case w_WORDS => k_is)
    (case d_WORDS => k_is)
    (case ha_WORDS => exact rfl)
    (case hb_WORDS => exact rfl)
    (case lo_WORDS => decide)
    (case ea_BadTree => k_is)
    (case ex_BadTree => k_exc)
    (case ek_BadTree => k_is)
    (case eb_BadTree => k_is)
    (case et_BadTree => k_is)
    (case ea_BadNote => k_is)
    (case ex_BadNote => k_exc)
    (case ek_BadNote => k_is)
    (case eb_BadNote => k_is)
    (case et_BadNote => k_is)
