import PyProof.Rows.All
import Wide.All
import OpenK.AllK
import Wide.FinOn
import HandS.ForMost
import HandS.Exc
import HandS.ExcOwn
import HandS.TryOnly
import HandS.CallSlots
import HandS.WordsExc
import HandS.IsInst
import HandS.Deep
import HandS.TupAny
import HandS.Style
import HandS.Conv
import HandS.SortInts
import HandS.Zip
import PySem.Challenge.RW_sidebyside_k11_parted_at
set_option Elab.async false
set_option linter.all false
set_option maxRecDepth 100000
set_option maxHeartbeats 1000000
/-! A layer over HandS: values as plain data (PyData), a def as a plain function on data. -/
namespace DL
open PySem L2

abbrev D := PyData

/-! ### a value stands for a datum -/
mutual
inductive Rp (H : Hp) : V → D → Prop
  | non : Rp H .non .none
  | bl (b : Bool) : Rp H (.bl b) (.bool b)
  | int (i : Int) : Rp H (.int i) (.int i)
  | str (x : Str) : Rp H (.str x) (.str x)
  | lst {a : Addr} {xs : List V} {ds : List D} : H a = some (.lst xs) → RpA H xs ds → Rp H (.ref a) (.list ds)
  | tup {a : Addr} {xs : List V} {ds : List D} : H a = some (.tup xs) → RpA H xs ds → Rp H (.ref a) (.tuple ds)
  | dct {a : Addr} : H a = some (.dK []) → Rp H (.ref a) (.dict [])
inductive RpA (H : Hp) : List V → List D → Prop
  | nil : RpA H [] []
  | cons {v : V} {vs : List V} {d : D} {ds : List D} : Rp H v d → RpA H vs ds → RpA H (v :: vs) (d :: ds)
end

mutual
theorem Rp.mono {H H' : Hp} (s : Same H H') : ∀ {v : V} {d : D}, Rp H v d → Rp H' v d
  | _, _, .non => .non
  | _, _, .bl b => .bl b
  | _, _, .int i => .int i
  | _, _, .str x => .str x
  | _, _, .lst h a => .lst (s _ _ h) (RpA.mono s a)
  | _, _, .tup h a => .tup (s _ _ h) (RpA.mono s a)
  | _, _, .dct h => .dct (s _ _ h)
theorem RpA.mono {H H' : Hp} (s : Same H H') : ∀ {vs : List V} {ds : List D}, RpA H vs ds → RpA H' vs ds
  | _, _, .nil => .nil
  | _, _, .cons a b => .cons (Rp.mono s a) (RpA.mono s b)
end
theorem RpA.length {H : Hp} : ∀ {vs : List V} {ds : List D}, RpA H vs ds → vs.length = ds.length
  | _, _, .nil => rfl
  | _, _, .cons _ b => by rw [List.length_cons, List.length_cons, b.length]
theorem RpA.get {H : Hp} : ∀ {vs : List V} {ds : List D} {i : Nat} {d : D}, RpA H vs ds → ds[i]? = some d → ∃ v, vs[i]? = some v ∧ Rp H v d
  | _, _, _, _, .nil, e => by simp at e
  | _, _, 0, _, .cons a _, e => by simp at e; subst e; exact ⟨_, rfl, a⟩
  | _, _, i + 1, d, .cons _ b, e => by
    obtain ⟨v, h1, h2⟩ := RpA.get (i := i) (d := d) b (by simpa using e)
    exact ⟨v, by simpa using h1, h2⟩
theorem RpA.getV {H : Hp} : ∀ {vs : List V} {ds : List D} {i : Nat} {v : V}, RpA H vs ds → vs[i]? = some v → ∃ d, ds[i]? = some d ∧ Rp H v d
  | _, _, _, _, .nil, e => by simp at e
  | _, _, 0, _, .cons a _, e => by simp at e; subst e; exact ⟨_, rfl, a⟩
  | _, _, i + 1, v, .cons _ b, e => by
    obtain ⟨d, h1, h2⟩ := RpA.getV (i := i) (v := v) b (by simpa using e)
    exact ⟨d, by simpa using h1, h2⟩
theorem RpA.append {H : Hp} : ∀ {vs ws : List V} {ds es : List D}, RpA H vs ds → RpA H ws es → RpA H (vs ++ ws) (ds ++ es)
  | _, _, _, _, .nil, s => s
  | _, _, _, _, .cons a b, s => .cons a (b.append s)
theorem RpA.take {H : Hp} : ∀ {vs : List V} {ds : List D} (n : Nat), RpA H vs ds → RpA H (vs.take n) (ds.take n)
  | _, _, 0, _ => .nil
  | _, _, _ + 1, .nil => .nil
  | _, _, n + 1, .cons a b => .cons a (b.take n)
theorem RpA.drop {H : Hp} : ∀ {vs : List V} {ds : List D} (n : Nat), RpA H vs ds → RpA H (vs.drop n) (ds.drop n)
  | _, _, 0, h => h
  | _, _, _ + 1, .nil => .nil
  | _, _, n + 1, .cons _ b => b.drop n
theorem RpA.reverse {H : Hp} {vs : List V} {ds : List D} (h : RpA H vs ds) : RpA H vs.reverse ds.reverse := by
  induction vs generalizing ds with
  | nil => cases h; exact .nil
  | cons v vs ih =>
    cases h with
    | cons a b =>
      rw [List.reverse_cons, List.reverse_cons]
      exact (ih b).append (.cons a .nil)
mutual
theorem Rp.inj {H : Hp} : ∀ {v : V} {d e : D}, Rp H v d → Rp H v e → d = e
  | _, _, _, .non, h => by cases h; rfl
  | _, _, _, .bl b, h => by cases h; rfl
  | _, _, _, .int b, h => by cases h; rfl
  | _, _, _, .str b, h => by cases h; rfl
  | _, _, _, .lst h a, h' => by
    cases h' with
    | lst g b => rw [h] at g; cases g; rw [RpA.inj a b]
    | tup g b => rw [h] at g; cases g
    | dct g => rw [h] at g; cases g
  | _, _, _, .tup h a, h' => by
    cases h' with
    | lst g b => rw [h] at g; cases g
    | tup g b => rw [h] at g; cases g; rw [RpA.inj a b]
    | dct g => rw [h] at g; cases g
  | _, _, _, .dct h, h' => by
    cases h' with
    | lst g b => rw [h] at g; cases g
    | tup g b => rw [h] at g; cases g
    | dct g => rfl
theorem RpA.inj {H : Hp} : ∀ {vs : List V} {ds es : List D}, RpA H vs ds → RpA H vs es → ds = es
  | _, _, _, .nil, h => by cases h; rfl
  | _, _, _, .cons a b, h => by
    cases h with
    | cons a' b' => rw [Rp.inj a a', RpA.inj b b']
end

/-! no dict within -/
mutual
def noDict : D → Bool
  | .dict _ => false
  | .list ds => noDictA ds
  | .tuple ds => noDictA ds
  | _ => true
def noDictA : List D → Bool
  | [] => true
  | d :: ds => noDict d && noDictA ds
end
mutual
theorem Rp.dp {K : PySem.W.Frag} {H : Hp} : ∀ {d : D} {v : V}, noDict d = true → Rp H v d → Dp K H v d
  | _, _, _, .non => .non
  | _, _, _, .bl b => .bl b
  | _, _, _, .int i => .int i
  | _, _, _, .str x => .str x
  | .list ds, _, n, .lst h a => .lst (SqL.of h) (RpA.dp (by simpa [noDict] using n) a)
  | .tuple ds, _, n, .tup h a => .tup (SqT.of h) (RpA.dp (by simpa [noDict] using n) a)
  | _, _, n, .dct _ => by simp [noDict] at n
theorem RpA.dp {K : PySem.W.Frag} {H : Hp} : ∀ {ds : List D} {vs : List V}, noDictA ds = true → RpA H vs ds → DpAll K H vs ds
  | _, _, _, .nil => .nil
  | d :: ds, _, n, .cons a b => by
    have n' : noDict d = true ∧ noDictA ds = true := by simpa [noDictA] using n
    exact .cons (Rp.dp n'.1 a) (RpA.dp n'.2 b)
end
mutual
theorem noDict_of_lay : ∀ d : D, PyData.canLay0 d = true → noDict d = true
  | .none, _ => rfl
  | .bool _, _ => rfl
  | .int _, _ => rfl
  | .str _, _ => rfl
  | .list ds, h => by
    have h' : PyData.canLayAll0 ds = true := by simpa [PyData.canLay0] using h
    simpa [noDict] using noDictA_of_lay ds h'
  | .tuple ds, h => by
    have h' : PyData.canLayAll0 ds = true := by simpa [PyData.canLay0] using h
    simpa [noDict] using noDictA_of_lay ds h'
  | .dict _, h => by simp [PyData.canLay0] at h
theorem noDictA_of_lay : ∀ ds : List D, PyData.canLayAll0 ds = true → noDictA ds = true
  | [], _ => rfl
  | d :: ds, h => by
    have h' : PyData.canLay0 d = true ∧ PyData.canLayAll0 ds = true := by simpa [PyData.canLayAll0] using h
    simp [noDictA, noDict_of_lay d h'.1, noDictA_of_lay ds h'.2]
end
theorem Rp.dpS {K : PySem.W.Frag} {H : Hp} {d : D} {v : V} (s : SeqAt.shaped d = true) (r : Rp H v d) : Dp K H v d := r.dp (noDict_of_lay d (SeqAt.canLay_of_shaped s))

/-! ### outcomes -/
inductive R (α : Type) where
  | bad
  | ok (a : α)
  | exc (c : Str)
namespace R
variable {α β γ : Type}
def bind (r : R α) (f : α → R β) : R β := match r with
  | .bad => .bad
  | .ok a => f a
  | .exc c => .exc c
theorem nr {α : Type} {a b : α} (h : a = b) : a = b := h
@[simp] theorem bind_ok (a : α) (f : α → R β) : (R.ok a).bind f = f a := nr rfl
@[simp] theorem bind_bad (f : α → R β) : (R.bad : R α).bind f = .bad := nr rfl
@[simp] theorem bind_exc (c : Str) (f : α → R β) : (R.exc c : R α).bind f = .exc c := nr rfl
end R

/-! ### the state: slots that hold data, and slots that own a list -/
inductive Sl where
  | no
  | dat (d : D)
  | own (ds : List D)
  | scr (ns : List Int)
abbrev Env := List Sl

def SlOk (K : PySem.W.Frag) (H0 B H : Hp) (o : Option (Option V)) : Sl → Prop
  | .no => True
  | .dat d => ∃ v, o = some (some v) ∧ Rp B v d
  | .own ds => ∃ a vs, o = some (some (.ref a)) ∧ H a = some (.lst vs) ∧ B a = none ∧ H0 a = none ∧ RpA B vs ds
  | .scr ns => ∃ a, o = some (some (.ref a)) ∧ SqL K B a (ns.map V.int)

/-- B0 within H0: the entry; B within H: now. B is what stands still -/
structure Gd (K : PySem.W.Frag) (B0 H0 B H : Hp) (σ : St) (ρ : Env) : Prop where
  sub0 : Same B0 H0
  sub : Same B H
  old : Same H0 H
  oldB : ∀ (a : Addr) (o : HO), H0 a = some o → B a = B0 a
  len : σ.length = ρ.length
  slots : ∀ (i : Nat) (s : Sl), ρ[i]? = some s → SlOk K H0 B H σ[i]? s
  apart : ∀ (i j : Nat) (ds es : List D) (a : Addr), ρ[i]? = some (.own ds) → ρ[j]? = some (.own es) → σ[i]? = some (some (.ref a)) → σ[j]? = some (some (.ref a)) → i = j

/-- what may have come: new objects alone -/
structure Gr (B H B' H' : Hp) : Prop where
  b : Same B B'
  s : Same B' H'
  h : Same H H'
  n : ∀ a o, H a = some o → B' a = B a
theorem Gr.refl {B H : Hp} (s : Same B H) : Gr B H B H := ⟨Same.refl _, s, Same.refl _, fun _ _ _ => rfl⟩
theorem Gr.trans {B H B1 H1 B2 H2 : Hp} (a : Gr B H B1 H1) (b : Gr B1 H1 B2 H2) : Gr B H B2 H2 :=
  ⟨a.b.trans b.b, b.s, a.h.trans b.h, fun x o e => (b.n x o (a.h x o e)).trans (a.n x o e)⟩
theorem Gr.new {B H : Hp} {p : Addr} {o : HO} (s : Same B H) (h : H p = none) : Gr B H (upd B p o) (upd H p o) := by
  have hb : B p = none := s.free h
  refine ⟨fun x u e => ?_, fun x u e => ?_, fun x u e => ?_, fun x u e => ?_⟩
  · rw [upd_ne (ne_of_none e hb)]; exact e
  · by_cases hx : x = p
    · subst hx; rw [upd_same] at e ⊢; exact e
    · rw [upd_ne hx] at e ⊢; exact s x u e
  · rw [upd_ne (ne_of_none e h)]; exact e
  · rw [upd_ne (ne_of_none e h)]
theorem SqL.mono {K : PySem.W.Frag} {H H' : Hp} {a : Addr} {xs : List V} (e : Same H H') (h : SqL K H a xs) : SqL K H' a xs := e.seq h
theorem Gd.grow {K : PySem.W.Frag} {B0 H0 B H B' H' : Hp} {σ : St} {ρ : Env} (g : Gd K B0 H0 B H σ ρ) (r : Gr B H B' H') : Gd K B0 H0 B' H' σ ρ where
  sub0 := g.sub0
  sub := r.s
  old := g.old.trans r.h
  oldB := fun a o e => (r.n a o (g.old a o e)).trans (g.oldB a o e)
  len := g.len
  slots := fun i s e => by
    have h := g.slots i s e
    cases s with
    | no => exact True.intro
    | dat d => obtain ⟨v, h1, h2⟩ := h; exact ⟨v, h1, h2.mono r.b⟩
    | own ds =>
      obtain ⟨a, vs, h1, h2, h3, h4, h5⟩ := h
      exact ⟨a, vs, h1, r.h a _ h2, (r.n a _ h2).trans h3, h4, h5.mono r.b⟩
    | scr ns => obtain ⟨a, h1, h2⟩ := h; exact ⟨a, h1, r.b.seq h2⟩
  apart := g.apart
theorem Gd.dat {K : PySem.W.Frag} {B0 H0 B H : Hp} {σ : St} {ρ : Env} {i : Nat} {d : D} (g : Gd K B0 H0 B H σ ρ) (e : ρ[i]? = some (.dat d)) : ∃ v, σ[i]? = some (some v) ∧ Rp B v d := g.slots i _ e

/-! ### readings and functions on data -/
section
variable (K : PySem.W.Frag) (mg : Str → Option Value) (W : WX)
/-- what is wanted where no datum comes out -/
def Wx {α : Type} (H0 : Hp) (σ : St) : R α → Prop
  | .bad => False
  | .ok _ => True
  | .exc c => ∀ (H' : Hp) (C : Addr), Same H0 H' → mg c = some (.ref C) → W (.ref C) none σ H'
def Ev (t : TE) (f : Env → R D) : Prop := ∀ (B0 H0 B H : Hp) (σ : St) (ρ : Env) (Q : VK), Gd K B0 H0 B H σ ρ → Wx mg W H0 σ (f ρ) → (∀ d B' H' v, f ρ = .ok d → Gr B H B' H' → Rp B' v d → Q v H') → t σ H Q
def EvT (t : TT) (f : Env → R Bool) : Prop := ∀ (B0 H0 B H : Hp) (σ : St) (ρ : Env) (Q : Bool → Hp → Prop), Gd K B0 H0 B H σ ρ → Wx mg W H0 σ (f ρ) → (∀ b B' H', f ρ = .ok b → Gr B H B' H' → Q b H') → t σ H Q
def EvA (t : TA) (f : Env → R (List D)) : Prop := ∀ (B0 H0 B H : Hp) (σ : St) (ρ : Env) (Q : List V → Hp → Prop), Gd K B0 H0 B H σ ρ → Wx mg W H0 σ (f ρ) → (∀ ds B' H' vs, f ρ = .ok ds → Gr B H B' H' → RpA B' vs ds → Q vs H') → t σ H Q
/-- a new list: its items stand still, the list itself is not yet among what does -/
def EvL (t : TE) (f : Env → R (List D)) : Prop := ∀ (B0 H0 B H : Hp) (σ : St) (ρ : Env) (Q : VK), Gd K B0 H0 B H σ ρ → Wx mg W H0 σ (f ρ) →
  (∀ ds B' H' p vs, f ρ = .ok ds → Gr B H B' H' → H p = none → B' p = none → H' p = some (.lst vs) → RpA B' vs ds → Q (.ref p) H') → t σ H Q
end
section
variable {K : PySem.W.Frag} {mg : Str → Option Value} {W : WX} {α β : Type} {H0 : Hp} {σ : St}
theorem Wx.of_bind {r : R α} {g : α → R β} (h : Wx mg W H0 σ (r.bind g)) : Wx mg W H0 σ r := by
  cases r with
  | bad => exact h
  | ok a => exact True.intro
  | exc c => exact h
theorem Wx.then {r : R α} {g : α → R β} {a : α} (h : Wx mg W H0 σ (r.bind g)) (e : r = .ok a) : Wx mg W H0 σ (g a) := by rw [e] at h; exact h
theorem bind_eq {r : R α} {g : α → R β} {a : α} (e : r = .ok a) : r.bind g = g a := by rw [e]; rfl
theorem Gr.push {B H B' H' : Hp} {p : Addr} {o : HO} (r : Gr B H B' H') (h : H' p = none) : Gr B H (upd B' p o) (upd H' p o) := r.trans (Gr.new r.s h)
theorem Gr.none {B H B' H' : Hp} {p : Addr} (r : Gr B H B' H') (h : H' p = Option.none) : H p = Option.none := r.h.free h
end

/-! ### what a rule of two values does on data -/
def Op2 (r : R2) (g : D → D → R D) : Prop := ∀ (B H : Hp) (x y : V) (dx dy d : D) (Q : VK), Same B H → Rp B x dx → Rp B y dy → g dx dy = .ok d → (∀ B' H' v, Gr B H B' H' → Rp B' v d → Q v H') → r x y H Q
/-- an operation never raises: it may only be one that is not told -/
def Pure2 (g : D → D → R D) : Prop := ∀ x y c, g x y ≠ .exc c
section
variable {K : PySem.W.Frag} {mg : Str → Option Value} {W : WX}
theorem ev_op {r : R2} {g : D → D → R D} {ta tb : TE} {fa fb : Env → R D} (hr : Op2 r g) (hp : Pure2 g) (ha : Ev K mg W ta fa) (hb : Ev K mg W tb fb) :
    Ev K mg W (tOp r ta tb) (fun ρ => (fa ρ).bind fun x => (fb ρ).bind fun y => g x y) := by
  intro B0 H0 B H σ ρ Q gd w k
  refine ha B0 H0 B H σ ρ _ gd w.of_bind fun dx B1 H1 x e1 g1 r1 => ?_
  have w1 := w.then e1
  refine hb B0 H0 B1 H1 σ ρ _ (gd.grow g1) w1.of_bind fun dy B2 H2 y e2 g2 r2 => ?_
  have w2 := w1.then e2
  cases e3 : g dx dy with
  | bad => simp only [e3] at w2; exact w2.elim
  | exc c => exact (hp _ _ _ e3).elim
  | ok d =>
    refine hr B2 H2 x y dx dy d Q g2.s (r1.mono g2.b) r2 e3 fun B3 H3 v g3 r3 => k d B3 H3 v ?_ ((g1.trans g2).trans g3) r3
    exact (bind_eq e1).trans ((bind_eq e2).trans e3)
end
end DL
set_option Elab.async false
set_option linter.all false
set_option maxRecDepth 100000
set_option maxHeartbeats 1000000
namespace DL
open PySem L2

/-! ### operations on data -/
def fits (n : Nat) : Bool := decide (n ≤ 16777216)
theorem fits_line {n : Nat} (h : fits n = true) : n ≤ sizeLine := by
  rw [sizeLine_eq]; exact of_decide_eq_true h
theorem fits_of {n : Nat} (h : n ≤ 16777216) : fits n = true := decide_eq_true h

def addD : D → D → R D
  | .int i, .int j => .ok (.int (i + j))
  | .str x, .str y => if fits (x.length + y.length) then .ok (.str (x ++ y)) else .bad
  | .list xs, .list ys => if fits (xs.length + ys.length) then .ok (.list (xs ++ ys)) else .bad
  | .tuple xs, .tuple ys => if fits (xs.length + ys.length) then .ok (.tuple (xs ++ ys)) else .bad
  | _, _ => .bad
def subD : D → D → R D
  | .int i, .int j => .ok (.int (i - j))
  | _, _ => .bad
def mulD : D → D → R D
  | .int i, .int j => if (-(2 ^ 64) < i ∧ i < 2 ^ 64) ∨ (-(2 ^ 64) < j ∧ j < 2 ^ 64) then .ok (.int (i * j)) else .bad
  | .list xs, .int k => if 0 ≤ k ∧ k ≤ 1000000 ∧ fits (xs.length * k.toNat) = true then .ok (.list (List.replicate k.toNat xs).flatten) else .bad
  | _, _ => .bad
def divD : D → D → R D
  | .int i, .int j => if 0 < j ∧ j < 1073741824 then .ok (.int (i / j)) else .bad
  | _, _ => .bad
def modD : D → D → R D
  | .int i, .int j => if 0 < j then .ok (.int (i % j)) else .bad
  | _, _ => .bad
def cmpD (p : Int → Int → Bool) : D → D → R D
  | .int i, .int j => .ok (.bool (p i j))
  | _, _ => .bad
def eqD (x y : D) : R D := if SeqAt.shaped x = true ∧ SeqAt.shaped y = true then .ok (.bool (PyData.eqv x y)) else .bad
def neD (x y : D) : R D := if SeqAt.shaped x = true ∧ SeqAt.shaped y = true then .ok (.bool (!PyData.eqv x y)) else .bad
def isNoneD : D → Bool
  | .none => true
  | _ => false

theorem RpA.nth {B : Hp} {vs : List V} {ds : List D} (r : RpA B vs ds) : vs.length = ds.length := r.length

section
variable {X : Cx} {K : PySem.W.Frag}
def rAdds (K : PySem.W.Frag) : R2 := fun x y H Q => (∃ i j, x = .int i ∧ y = .int j ∧ Q (.int (i + j)) H) ∨ (∃ i j, x = .str i ∧ y = .str j ∧ i.length + j.length ≤ sizeLine ∧ Q (.str (i ++ j)) H) ∨ rCat x y H Q ∨ rCatA K x y H Q
theorem op_adds : OpR X (binaryOp .Add) (rAdds X.K) := op_add.or (op_add_str.or (op_cat.or op_catA))
theorem o2_add : Op2 (rAdds K) addD := by
  intro B H x y dx dy d Q s rx ry e k
  cases rx with
  | int i =>
    cases ry with
    | int j => cases e; exact .inl ⟨i, j, rfl, rfl, k B H _ (Gr.refl s) (.int _)⟩
    | _ => cases e
  | str i =>
    cases ry with
    | str j =>
      simp only [addD] at e
      split at e
      · rename_i hf; cases e; exact .inr (.inl ⟨i, j, rfl, rfl, fits_line hf, k B H _ (Gr.refl s) (.str _)⟩)
      · cases e
    | _ => cases e
  | @lst a xs ds hx ax =>
    cases ry with
    | @lst b ys es hy ay =>
      simp only [addD] at e
      split at e
      · rename_i hf; cases e
        refine .inr (.inr (.inl ⟨a, b, xs, ys, rfl, rfl, s _ _ hx, s _ _ hy, fits_line (by rw [ax.length, ay.length]; exact hf), fun p hp => ?_⟩))
        have g := Gr.new (o := .lst (xs ++ ys)) s hp
        exact k _ _ _ g (.lst upd_same ((ax.append ay).mono g.b))
      · cases e
    | _ => cases e
  | @tup a xs ds hx ax =>
    cases ry with
    | @tup b ys es hy ay =>
      simp only [addD] at e
      split at e
      · rename_i hf; cases e
        refine .inr (.inr (.inr ⟨a, b, xs, ys, rfl, rfl, SqT.of (s _ _ hx), SqT.of (s _ _ hy), fits_line (by rw [ax.length, ay.length]; exact hf), ?_⟩))
        refine ⟨fun h0 => ?_, fun h0 h1 => ?_, fun h0 h1 p hp => ?_⟩
        · subst h0
          have e0 : ds = [] := by cases ax; rfl
          subst e0
          exact k B H _ (Gr.refl s) (.tup hy ay)
        · subst h1
          have e0 : es = [] := by cases ay; rfl
          subst e0
          rw [List.append_nil] at k
          exact k B H _ (Gr.refl s) (.tup hx ax)
        · have g := Gr.new (o := .tup (xs ++ ys)) s hp
          exact k _ _ _ g (.tup upd_same ((ax.append ay).mono g.b))
      · cases e
    | _ => cases e
  | _ => cases e
theorem o2_I {C : Int → Int → Prop} [∀ i j, Decidable (C i j)] {g : Int → Int → Int} {f : D → D → R D} (hf : ∀ x y d, f x y = .ok d → ∃ i j, x = .int i ∧ y = .int j ∧ C i j ∧ d = .int (g i j)) : Op2 (rI C fun i j => .int (g i j)) f := by
  intro B H x y dx dy d Q s rx ry e k
  obtain ⟨i, j, rfl, rfl, hc, rfl⟩ := hf _ _ _ e
  cases rx
  cases ry
  exact ⟨i, j, rfl, rfl, hc, k B H _ (Gr.refl s) (.int _)⟩
theorem o2_sub : Op2 (rI0 fun i j => .int (i - j)) subD := by
  intro B H x y dx dy d Q s rx ry e k
  cases dx <;> cases dy <;> first | (cases e; done) | skip
  cases e; cases rx; cases ry
  exact ⟨_, _, rfl, rfl, k B H _ (Gr.refl s) (.int _)⟩
theorem o2_div : Op2 (rI CDiv fun i j => .int (i / j)) divD := by
  intro B H x y dx dy d Q s rx ry e k
  cases dx <;> cases dy <;> first | (cases e; done) | skip
  simp only [divD] at e
  split at e
  · rename_i hc; cases e; cases rx; cases ry
    exact ⟨_, _, rfl, rfl, hc, k B H _ (Gr.refl s) (.int _)⟩
  · cases e
theorem o2_mod : Op2 (rI (fun _ j => 0 < j) fun i j => .int (i % j)) modD := by
  intro B H x y dx dy d Q s rx ry e k
  cases dx <;> cases dy <;> first | (cases e; done) | skip
  simp only [modD] at e
  split at e
  · rename_i hc; cases e; cases rx; cases ry
    exact ⟨_, _, rfl, rfl, hc, k B H _ (Gr.refl s) (.int _)⟩
  · cases e
def rMuls : R2 := fun x y H Q => (∃ i j, x = .int i ∧ y = .int j ∧ CMul i j ∧ Q (.int (i * j)) H) ∨ rRep x y H Q
theorem op_muls : OpR X (binaryOp .Mult) rMuls := op_mul.or op_rep
theorem RpA.rep {B : Hp} {xs : List V} {ds : List D} (h : RpA B xs ds) : ∀ k : Nat, RpA B (List.replicate k xs).flatten (List.replicate k ds).flatten
  | 0 => .nil
  | k + 1 => by rw [List.replicate_succ, List.replicate_succ, List.flatten_cons, List.flatten_cons]; exact h.append (RpA.rep h k)
theorem o2_mul : Op2 rMuls mulD := by
  intro B H x y dx dy d Q s rx ry e k
  cases rx with
  | int i =>
    cases ry with
    | int j =>
      simp only [mulD] at e
      split at e
      · rename_i hc; cases e; exact .inl ⟨i, j, rfl, rfl, hc, k B H _ (Gr.refl s) (.int _)⟩
      · cases e
    | _ => cases e
  | @lst a xs ds hx ax =>
    cases ry with
    | int j =>
      simp only [mulD] at e
      split at e
      · rename_i hc; cases e
        refine .inr ⟨a, j, xs, rfl, rfl, s _ _ hx, by omega, by omega, fits_line (by rw [ax.length]; exact hc.2.2), fun p hp => ?_⟩
        have g := Gr.new (o := .lst (List.replicate j.toNat xs).flatten) s hp
        exact k _ _ _ g (.lst upd_same ((ax.rep _).mono g.b))
      · cases e
    | _ => cases e
  | _ => cases e
theorem o2_cmp {p : Int → Int → Bool} : Op2 (rI0 fun i j => .bl (p i j)) (cmpD p) := by
  intro B H x y dx dy d Q s rx ry e k
  cases dx <;> cases dy <;> first | (cases e; done) | skip
  cases e; cases rx; cases ry
  exact ⟨_, _, rfl, rfl, k B H _ (Gr.refl s) (.bl _)⟩
theorem o2_eq : Op2 (rEqD K) eqD := by
  intro B H x y dx dy d Q s rx ry e k
  unfold eqD at e
  split at e
  · rename_i hc; cases e
    exact ⟨dx, dy, (rx.mono s).dpS hc.1, (ry.mono s).dpS hc.2, hc.1, hc.2, k B H _ (Gr.refl s) (.bl _)⟩
  · cases e
theorem o2_ne : Op2 (rNeD K) neD := by
  intro B H x y dx dy d Q s rx ry e k
  unfold neD at e
  split at e
  · rename_i hc; cases e
    exact ⟨dx, dy, (rx.mono s).dpS hc.1, (ry.mono s).dpS hc.2, hc.1, hc.2, k B H _ (Gr.refl s) (.bl _)⟩
  · cases e
def pIs (neg : Bool) (x y : D) : R D := match y with
  | .none => .ok (.bool (if neg then !isNoneD x else isNoneD x))
  | _ => .bad
theorem Rp.isNon {B : Hp} {x : V} {d : D} (r : Rp B x d) : decide (x = .non) = isNoneD d := by cases r <;> simp [isNoneD]
theorem o2_isN : Op2 (fun x y H Q => y = .non ∧ Q (.bl (decide (x = .non))) H) (pIs false) := by
  intro B H x y dx dy d Q s rx ry e k
  cases dy <;> first | (cases e; done) | skip
  cases e; cases ry
  refine ⟨rfl, ?_⟩
  rw [rx.isNon]
  exact k B H _ (Gr.refl s) (.bl _)
theorem o2_notN : Op2 (fun x y H Q => y = .non ∧ Q (.bl (!decide (x = .non))) H) (pIs true) := by
  intro B H x y dx dy d Q s rx ry e k
  cases dy <;> first | (cases e; done) | skip
  cases e; cases ry
  refine ⟨rfl, ?_⟩
  rw [rx.isNon]
  exact k B H _ (Gr.refl s) (.bl _)
/-! in, not in -/
def flatD : D → Bool
  | .list _ => false
  | .tuple _ => false
  | .dict _ => false
  | _ => true
def inD (neg : Bool) (x y : D) : R D := match y with
  | .list ds => if SeqAt.shaped x = true ∧ SeqAt.shaped y = true then .ok (.bool (if neg then !ds.any fun z => PyData.eqv z x else ds.any fun z => PyData.eqv z x)) else .bad
  | .tuple ds => if flatD x = true ∧ ds.all flatD = true then .ok (.bool (if neg then !ds.any fun z => PyData.eqv z x else ds.any fun z => PyData.eqv z x)) else .bad
  | .str t => match x with
    | .str z => if z.cps.size = 1 then .ok (.bool (if neg then !decide (z.cps.getD 0 0 ∈ t.cps.toList) else decide (z.cps.getD 0 0 ∈ t.cps.toList))) else .bad
    | _ => .bad
  | _ => .bad
theorem Rp.flat {B : Hp} {x : V} {d : D} (r : Rp B x d) (f : flatD d = true) : flatV x = true := by
  cases r <;> first | rfl | (simp [flatD] at f)
theorem RpA.flat {B : Hp} : ∀ {xs : List V} {ds : List D}, RpA B xs ds → ds.all flatD = true → xs.all flatV = true
  | _, _, .nil, _ => rfl
  | _, _, .cons a b, f => by
    rw [List.all_cons, Bool.and_eq_true] at f ⊢
    exact ⟨a.flat f.1, b.flat f.2⟩
theorem Rp.eqV {B : Hp} {x y : V} {d e : D} (r : Rp B x d) (q : Rp B y e) (f : flatD d = true) (g : flatD e = true) : eqV x y = PyData.eqv d e := by
  cases r <;> first | (simp [flatD] at f; done) | skip
  all_goals cases q <;> first | (simp [flatD] at g; done) | skip
  all_goals simp [L2.eqV, PyData.eqv]
theorem RpA.inV {B : Hp} {x : V} {d : D} (r : Rp B x d) (f : flatD d = true) : ∀ {xs : List V} {ds : List D}, RpA B xs ds → ds.all flatD = true → L2.inV x xs = ds.any fun z => PyData.eqv z d
  | _, _, .nil, _ => rfl
  | _, _, .cons a b, g => by
    rw [List.all_cons, Bool.and_eq_true] at g
    have ih := RpA.inV r f b g.2
    unfold L2.inV at ih ⊢
    rw [List.any_cons, List.any_cons, ih, a.eqV r g.1 f]
end
end DL
set_option Elab.async false
set_option linter.all false
set_option maxRecDepth 100000
set_option maxHeartbeats 1000000
namespace DL
open PySem L2

/-! ### the contexts in which a piece of text is read -/
structure Cxs (C : Cx → Prop) (P : Program) (w : World) (K : PySem.W.Frag) (mg : Str → Option Value) (base : Heap) (k : Nat) (W : WX) (N : List Str) (sc : Scope) : Prop where
  hP : ∀ X, C X → X.prog = P
  hw : ∀ X, C X → X.w = w
  hK : ∀ X, C X → X.K = K
  hmg : ∀ X, C X → X.mg = mg
  hbase : ∀ X, C X → X.base = base
  calm : ∀ X, C X → X.calm = true
  room : ∀ X, C X → Room k X.A
  takes : ∀ X, C X → Takes X W
  own : ∀ X, C X → PassesOwn (model X.prog X.w) X.A X.env X.xe
  hN : ∀ X, C X → X.N = N
  hsc : ∀ X, C X → X.env.scope = sc
  nd : N.Nodup
/-- slot i is the name x -/
structure Nm (N : List Str) (sc : Scope) (i : Nat) (x : Str) : Prop where
  at_ : N[i]? = some x
  vis : Vis sc x
  d1 : (x == ("__debug__" : Str)) = false
  d2 : (x == ("__classdict__" : Str)) = false
/-- .. and may be stored to -/
structure Lm (C : Cx → Prop) (N : List Str) (sc : Scope) (i : Nat) (x : Str) : Prop where
  at_ : N[i]? = some x
  loc : Loc sc x
  fn : sc.names.lookup x = some .local ∨ ∀ X, C X → X.fn x = true
/-- a global name -/
structure Gm (sc : Scope) (x : Str) : Prop where
  g : sc.names.lookup x = some .globalImplicit
  d : (x == ("__debug__" : Str)) = false
theorem Gm.gl {C : Cx → Prop} {P : Program} {w : World} {K : PySem.W.Frag} {mg : Str → Option Value} {base : Heap} {k : Nat} {W : WX} {N : List Str} {sc : Scope} {x : Str} (c : Cxs C P w K mg base k W N sc) (g : Gm sc x) (X : Cx) (h : C X) : Gl X x := by
  show X.env.scope.names.lookup x = some .globalImplicit
  rw [c.hsc X h]
  exact g.g

section
variable (C : Cx → Prop) (K : PySem.W.Frag) (mg : Str → Option Value) (W : WX)
def DE (e : Expr) (f : Env → R D) : Prop := ∃ t, (∀ X, C X → PE X e t) ∧ Ev K mg W t f
def DT (e : Expr) (f : Env → R Bool) : Prop := ∃ t, (∀ X, C X → PT X e t) ∧ EvT K mg W t f
def DW (e : Expr) (f : Env → R Bool) : Prop := ∃ t, (∀ X, C X → PW X e t) ∧ EvT K mg W t f
def DA (es : List Expr) (f : Env → R (List D)) : Prop := ∃ t, (∀ X, C X → PA X es t) ∧ EvA K mg W t f
def DN (e : Expr) (f : Env → R (List D)) : Prop := ∃ t, (∀ X, C X → PE X e t) ∧ EvL K mg W t f
end
def rdD (i : Nat) (ρ : Env) : R D := match ρ[i]? with
  | some (.dat d) => .ok d
  | _ => .bad

section
variable {C : Cx → Prop} {P : Program} {w : World} {K : PySem.W.Frag} {mg : Str → Option Value} {base : Heap} {k : Nat} {W : WX} {N : List Str} {sc : Scope}
variable {a b e : Expr} {fa fb fc : Env → R D} {pos : Pos} {x : Str} {i : Nat}

theorem de_name (c : Cxs C P w K mg base k W N sc) (n : Nm N sc i x) : DE C K mg W (.Name x pos) (rdD i) := by
  refine ⟨tVar i, fun X h => pe_var (by rw [c.hN X h]; exact n.at_) (by rw [c.hsc X h]; exact n.vis) n.d1 n.d2, fun B0 H0 B H σ ρ Q gd wx q => ?_⟩
  have e : ∃ d, rdD i ρ = .ok d ∧ ρ[i]? = some (.dat d) := by
    unfold rdD at wx ⊢
    split at wx
    · rename_i d h; exact ⟨d, rfl, h⟩
    · exact wx.elim
  obtain ⟨d, e1, e2⟩ := e
  obtain ⟨v, h1, h2⟩ := gd.dat e2
  exact ⟨v, h1, q d B H v e1 (Gr.refl gd.sub) h2⟩
theorem ev_c {v : V} {d : D} (r : ∀ H, Rp H v d) : Ev K mg W (tC v) (fun _ => .ok d) := fun B0 H0 B H σ ρ Q gd _ q => q d B H v rfl (Gr.refl gd.sub) (r B)
theorem de_int {n : Int} {j : Nat} : DE C K mg W (.Constant (.int n) j pos) (fun _ => .ok (.int n)) := ⟨_, fun _ _ => pe_int, ev_c fun _ => .int n⟩
theorem de_bl {n : Bool} {j : Nat} : DE C K mg W (.Constant (.bool n) j pos) (fun _ => .ok (.bool n)) := ⟨_, fun _ _ => pe_bl, ev_c fun _ => .bl n⟩
theorem de_non {j : Nat} : DE C K mg W (.Constant .none j pos) (fun _ => .ok .none) := ⟨_, fun _ _ => pe_non, ev_c fun _ => .non⟩
theorem de_str {n : Str} {j : Nat} : DE C K mg W (.Constant (.str n) j pos) (fun _ => .ok (.str n)) := ⟨_, fun _ _ => pe_str, ev_c fun _ => .str n⟩
/-- a module's constant -/
theorem de_globI {n : Int} {t : Tok} (c : Cxs C P w K mg base k W N sc) (g : Gm sc x) (m : mg x = some (.int n t)) : DE C K mg W (.Name x pos) (fun _ => .ok (.int n)) :=
  ⟨_, fun X h => pe_glob (g.gl c X h) (by rw [c.hmg X h]; exact m) (v := .int n) ⟨t, rfl⟩ g.d, ev_c fun _ => .int n⟩
theorem de_globS {n : Str} {t : Tok} (c : Cxs C P w K mg base k W N sc) (g : Gm sc x) (m : mg x = some (.str n t)) : DE C K mg W (.Name x pos) (fun _ => .ok (.str n)) :=
  ⟨_, fun X h => pe_glob (g.gl c X h) (by rw [c.hmg X h]; exact m) (v := .str n) ⟨t, rfl⟩ g.d, ev_c fun _ => .str n⟩

def opR (g : D → D → R D) (fa fb : Env → R D) : Env → R D := fun ρ => (fa ρ).bind fun x => (fb ρ).bind fun y => g x y
theorem pu_add : Pure2 addD := by intro x y c; cases x <;> cases y <;> simp only [addD] <;> (try split) <;> simp
theorem pu_sub : Pure2 subD := by intro x y c; cases x <;> cases y <;> simp [subD]
theorem pu_mul : Pure2 mulD := by intro x y c; cases x <;> cases y <;> simp only [mulD] <;> (try split) <;> simp
theorem pu_div : Pure2 divD := by intro x y c; cases x <;> cases y <;> simp only [divD] <;> (try split) <;> simp
theorem pu_mod : Pure2 modD := by intro x y c; cases x <;> cases y <;> simp only [modD] <;> (try split) <;> simp
theorem pu_cmp {p : Int → Int → Bool} : Pure2 (cmpD p) := by intro x y c; cases x <;> cases y <;> simp [cmpD]
theorem pu_eq : Pure2 eqD := by intro x y c; unfold eqD; split <;> simp
theorem pu_ne : Pure2 neD := by intro x y c; unfold neD; split <;> simp
theorem pu_is {n : Bool} : Pure2 (pIs n) := by intro x y c; cases y <;> simp [pIs]
theorem pu_in {n : Bool} : Pure2 (inD n) := by
  intro x y c
  unfold inD
  split <;> (try split) <;> (try split) <;> simp

theorem de_add (c : Cxs C P w K mg base k W N sc) (ha : DE C K mg W a fa) (hb : DE C K mg W b fb) : DE C K mg W (.BinOp a .Add b pos) (opR addD fa fb) :=
  let ⟨ta, pa, va⟩ := ha; let ⟨tb, pb, vb⟩ := hb
  ⟨_, fun X h => pe_op (r := rAdds K) (by have := c.hK X h; subst this; exact op_adds) (pa X h) (pb X h), ev_op o2_add pu_add va vb⟩
theorem de_sub (ha : DE C K mg W a fa) (hb : DE C K mg W b fb) : DE C K mg W (.BinOp a .Sub b pos) (opR subD fa fb) :=
  let ⟨ta, pa, va⟩ := ha; let ⟨tb, pb, vb⟩ := hb
  ⟨_, fun X h => pe_op op_sub (pa X h) (pb X h), ev_op o2_sub pu_sub va vb⟩
theorem de_mul (ha : DE C K mg W a fa) (hb : DE C K mg W b fb) : DE C K mg W (.BinOp a .Mult b pos) (opR mulD fa fb) :=
  let ⟨ta, pa, va⟩ := ha; let ⟨tb, pb, vb⟩ := hb
  ⟨_, fun X h => pe_op op_muls (pa X h) (pb X h), ev_op o2_mul pu_mul va vb⟩
theorem de_div (ha : DE C K mg W a fa) (hb : DE C K mg W b fb) : DE C K mg W (.BinOp a .FloorDiv b pos) (opR divD fa fb) :=
  let ⟨ta, pa, va⟩ := ha; let ⟨tb, pb, vb⟩ := hb
  ⟨_, fun X h => pe_op op_fdiv (pa X h) (pb X h), ev_op o2_div pu_div va vb⟩
theorem de_mod (ha : DE C K mg W a fa) (hb : DE C K mg W b fb) : DE C K mg W (.BinOp a .Mod b pos) (opR modD fa fb) :=
  let ⟨ta, pa, va⟩ := ha; let ⟨tb, pb, vb⟩ := hb
  ⟨_, fun X h => pe_op op_mod (pa X h) (pb X h), ev_op o2_mod pu_mod va vb⟩
/-- a negative constant -/
theorem de_neg {n : Int} {j : Nat} {p2 : Pos} : DE C K mg W (.UnaryOp .USub (.Constant (.int n) j p2) pos) (fun _ => .ok (.int (-n))) :=
  ⟨_, fun X h => pe_un un_neg pe_int, fun B0 H0 B H σ ρ Q gd _ q => ⟨n, rfl, q _ B H _ rfl (Gr.refl gd.sub) (.int _)⟩⟩
/-! comparisons -/
abbrev ltD := cmpD fun i j => decide (i < j)
abbrev leD := cmpD fun i j => decide (i ≤ j)
abbrev gtD := cmpD fun i j => decide (j < i)
abbrev geD := cmpD fun i j => decide (j ≤ i)
theorem de_cmp {op : CmpOp} {r : Cx → R2} {r' : R2} {g : D → D → R D} (ho : ∀ X, C X → OpR X (compareOp op) (r X)) (hr : ∀ X, C X → r X = r') (h2 : Op2 r' g) (hp : Pure2 g) (ha : DE C K mg W a fa) (hb : DE C K mg W b fb) (hm : behindInMarks op b = false) :
    DE C K mg W (.Compare a [op] [b] pos) (opR g fa fb) :=
  let ⟨ta, pa, va⟩ := ha; let ⟨tb, pb, vb⟩ := hb
  ⟨_, fun X h => pe_cmpR (r := r') (by rw [← hr X h]; exact ho X h) (pa X h) (pb X h) hm, ev_op h2 hp va vb⟩
theorem de_lt (ha : DE C K mg W a fa) (hb : DE C K mg W b fb) : DE C K mg W (.Compare a [.Lt] [b] pos) (opR ltD fa fb) := de_cmp (r := fun _ => _) (fun _ _ => op_lt) (fun _ _ => rfl) o2_cmp pu_cmp ha hb (nomark _)
theorem de_le (ha : DE C K mg W a fa) (hb : DE C K mg W b fb) : DE C K mg W (.Compare a [.LtE] [b] pos) (opR leD fa fb) := de_cmp (r := fun _ => _) (fun _ _ => op_le) (fun _ _ => rfl) o2_cmp pu_cmp ha hb (nomark _)
theorem de_gt (ha : DE C K mg W a fa) (hb : DE C K mg W b fb) : DE C K mg W (.Compare a [.Gt] [b] pos) (opR gtD fa fb) := de_cmp (r := fun _ => _) (fun _ _ => op_gt) (fun _ _ => rfl) o2_cmp pu_cmp ha hb (nomark _)
theorem de_ge (ha : DE C K mg W a fa) (hb : DE C K mg W b fb) : DE C K mg W (.Compare a [.GtE] [b] pos) (opR geD fa fb) := de_cmp (r := fun _ => _) (fun _ _ => op_ge) (fun _ _ => rfl) o2_cmp pu_cmp ha hb (nomark _)
theorem de_eq (c : Cxs C P w K mg base k W N sc) (ha : DE C K mg W a fa) (hb : DE C K mg W b fb) : DE C K mg W (.Compare a [.Eq] [b] pos) (opR eqD fa fb) :=
  de_cmp (r := fun X => rEqD X.K) (fun X h => op_eqD (c.room X h).units) (fun X h => by rw [c.hK X h]) o2_eq pu_eq ha hb (nomark _)
theorem de_ne (c : Cxs C P w K mg base k W N sc) (ha : DE C K mg W a fa) (hb : DE C K mg W b fb) : DE C K mg W (.Compare a [.NotEq] [b] pos) (opR neD fa fb) :=
  de_cmp (r := fun X => rNeD X.K) (fun X h => op_neD (c.room X h).units) (fun X h => by rw [c.hK X h]) o2_ne pu_ne ha hb (nomark _)
theorem de_isN (ha : DE C K mg W a fa) (hb : DE C K mg W b fb) : DE C K mg W (.Compare a [.Is] [b] pos) (opR (pIs false) fa fb) := de_cmp (r := fun _ => _) (fun _ _ => op_isN) (fun _ _ => rfl) o2_isN pu_is ha hb (nomark _)
theorem de_notN (ha : DE C K mg W a fa) (hb : DE C K mg W b fb) : DE C K mg W (.Compare a [.IsNot] [b] pos) (opR (pIs true) fa fb) := de_cmp (r := fun _ => _) (fun _ _ => op_notN) (fun _ _ => rfl) o2_notN pu_is ha hb (nomark _)
def rIns (K : PySem.W.Frag) : R2 := fun x y H Q => rInD K x y H Q ∨ rIn K false x y H Q ∨ (∃ (c : Nat) (z : Str), x = .str ⟨#[c]⟩ ∧ y = .str z ∧ Q (.bl (decide (c ∈ z.cps.toList))) H)
def rNotIns (K : PySem.W.Frag) : R2 := fun x y H Q => rNotInD K x y H Q ∨ rIn K true x y H Q ∨ (∃ (c : Nat) (z : Str), x = .str ⟨#[c]⟩ ∧ y = .str z ∧ Q (.bl (!decide (c ∈ z.cps.toList))) H)
theorem one_sign {z : Str} (h : z.cps.size = 1) : z = ⟨#[z.cps.getD 0 0]⟩ := by
  obtain ⟨a⟩ := z
  obtain ⟨l⟩ := a
  match l, h with
  | [y], _ => rfl
theorem o2_in : Op2 (rIns K) (inD false) := by
  intro B H x y dx dy d Q s rx ry e q
  unfold inD at e
  split at e
  · split at e
    · rename_i ds hc; cases e
      exact .inl ⟨dx, ds, (rx.mono s).dpS hc.1, (ry.mono s).dpS hc.2, hc.1, hc.2, q B H _ (Gr.refl s) (.bl _)⟩
    · cases e
  · split at e
    · rename_i ds hc; cases e
      cases ry with
      | @tup p ys es hy ay =>
        refine .inr (.inl ⟨p, ys, rfl, .inr (SqT.of (s _ _ hy)), rx.flat hc.1, ay.flat hc.2, ?_⟩)
        rw [RpA.inV rx hc.1 ay hc.2]
        exact q B H _ (Gr.refl s) (.bl _)
    · cases e
  · split at e
    · rename_i z
      split at e
      · rename_i hs; cases e; cases rx; cases ry
        exact .inr (.inr ⟨_, _, congrArg V.str (one_sign hs), rfl, q B H _ (Gr.refl s) (.bl _)⟩)
      · cases e
    · cases e
  · cases e
theorem o2_notin : Op2 (rNotIns K) (inD true) := by
  intro B H x y dx dy d Q s rx ry e q
  unfold inD at e
  split at e
  · split at e
    · rename_i ds hc; cases e
      exact .inl ⟨dx, ds, (rx.mono s).dpS hc.1, (ry.mono s).dpS hc.2, hc.1, hc.2, q B H _ (Gr.refl s) (.bl _)⟩
    · cases e
  · split at e
    · rename_i ds hc; cases e
      cases ry with
      | @tup p ys es hy ay =>
        refine .inr (.inl ⟨p, ys, rfl, .inr (SqT.of (s _ _ hy)), rx.flat hc.1, ay.flat hc.2, ?_⟩)
        rw [RpA.inV rx hc.1 ay hc.2]
        exact q B H _ (Gr.refl s) (.bl _)
    · cases e
  · split at e
    · rename_i z
      split at e
      · rename_i hs; cases e; cases rx; cases ry
        exact .inr (.inr ⟨_, _, congrArg V.str (one_sign hs), rfl, q B H _ (Gr.refl s) (.bl _)⟩)
      · cases e
    · cases e
  · cases e
theorem Room.u65 {k : Nat} {A : Around} (r : Room k A) : A.units + 65 < cLine := by have := r.un; omega
theorem de_in (c : Cxs C P w K mg base k W N sc) (ha : DE C K mg W a fa) (hb : DE C K mg W b fb) (hm : behindInMarks .In b = false := by rfl) : DE C K mg W (.Compare a [.In] [b] pos) (opR (inD false) fa fb) :=
  de_cmp (r := fun X => rIns X.K) (fun X h => (op_inD (Room.u65 (c.room X h))).or (op_in_seq.or op_in_sign)) (fun X h => by rw [c.hK X h]) o2_in pu_in ha hb hm
theorem de_notin (c : Cxs C P w K mg base k W N sc) (ha : DE C K mg W a fa) (hb : DE C K mg W b fb) (hm : behindInMarks .NotIn b = false := by rfl) : DE C K mg W (.Compare a [.NotIn] [b] pos) (opR (inD true) fa fb) :=
  de_cmp (r := fun X => rNotIns X.K) (fun X h => (op_notInD (Room.u65 (c.room X h))).or (op_notIn_seq.or op_notIn_sign)) (fun X h => by rw [c.hK X h]) o2_notin pu_in ha hb hm
/-! chains of two -/
def chainR (g g' : D → D → R D) (fa fb fc : Env → R D) : Env → R D := fun ρ => (fa ρ).bind fun x => (fb ρ).bind fun y => (g x y).bind fun z => match z with
  | .bool true => (fc ρ).bind fun v => g' y v
  | .bool false => .ok (.bool false)
  | _ => .bad
theorem ev_chain {r r' : R2} {g g' : D → D → R D} {ta tb tc : TE} (h1 : Op2 r g) (h2 : Op2 r' g') (p1 : Pure2 g) (p2 : Pure2 g') (ha : Ev K mg W ta fa) (hb : Ev K mg W tb fb) (hc : Ev K mg W tc fc) : Ev K mg W (tChain r r' ta tb tc) (chainR g g' fa fb fc) := by
  intro B0 H0 B H σ ρ Q gd wx q
  unfold chainR at wx
  refine ha B0 H0 B H σ ρ _ gd wx.of_bind fun dx B1 H1 x e1 g1 r1 => ?_
  have w1 := wx.then e1
  refine hb B0 H0 B1 H1 σ ρ _ (gd.grow g1) w1.of_bind fun dy B2 H2 y e2 g2 r2 => ?_
  have w2 := w1.then e2
  cases e3 : g dx dy with
  | bad => rw [e3] at w2; exact w2.elim
  | exc c => exact (p1 _ _ _ e3).elim
  | ok d =>
    have w3 := w2.then e3
    refine h1 B2 H2 x y dx dy d _ g2.s (r1.mono g2.b) r2 e3 fun B3 H3 v g3 r3 => ?_
    have e0 : chainR g g' fa fb fc ρ = _ := (bind_eq e1).trans ((bind_eq e2).trans (bind_eq e3))
    cases r3 with
    | bl b =>
      refine ⟨b, rfl, ?_⟩
      cases b with
      | false => exact iteF (q _ B3 H3 _ e0 ((g1.trans g2).trans g3) (.bl _))
      | true =>
        refine iteT ?_
        have w4 : Wx mg W H0 σ ((fc ρ).bind fun v => g' dy v) := w3
        refine hc B0 H0 B3 H3 σ ρ _ (((gd.grow g1).grow g2).grow g3) w4.of_bind fun dz B4 H4 z e4 g4 r4 => ?_
        have w5 := w4.then e4
        cases e5 : g' dy dz with
        | bad => rw [e5] at w5; exact w5.elim
        | exc c => exact (p2 _ _ _ e5).elim
        | ok d5 =>
          exact h2 B4 H4 y z dy dz d5 _ g4.s ((r2.mono g3.b).mono g4.b) r4 e5 fun B5 H5 v5 g5 r5 => q d5 B5 H5 v5 (e0.trans ((bind_eq e4).trans e5)) ((((g1.trans g2).trans g3).trans g4).trans g5) r5
    | _ => exact w3.elim
theorem de_chain {op op' : CmpOp} {r r' : R2} {g g' : D → D → R D} (h1 : Op2 r g) (h2 : Op2 r' g') (p1 : Pure2 g) (p2 : Pure2 g') (o1 : ∀ X, OpR X (compareOp op) r) (o2 : ∀ X, OpR X (compareOp op') r')
    (ha : DE C K mg W a fa) (hb : DE C K mg W b fb) (hc : DE C K mg W e fc) (hm : lastMarks [op, op'] [b, e] = false) : DE C K mg W (.Compare a [op, op'] [b, e] pos) (chainR g g' fa fb fc) :=
  let ⟨ta, pa, va⟩ := ha; let ⟨tb, pb, vb⟩ := hb; let ⟨tc, pc, vc⟩ := hc
  ⟨_, fun X h => pe_chain (o1 X) (o2 X) (pa X h) (pb X h) (pc X h) hm, ev_chain h1 h2 p1 p2 va vb vc⟩
theorem de_lele (ha : DE C K mg W a fa) (hb : DE C K mg W b fb) (hc : DE C K mg W e fc) (hm : lastMarks [.LtE, .LtE] [b, e] = false := by with_unfolding_all rfl) : DE C K mg W (.Compare a [.LtE, .LtE] [b, e] pos) (chainR leD leD fa fb fc) :=
  de_chain o2_cmp o2_cmp pu_cmp pu_cmp (fun _ => op_le) (fun _ => op_le) ha hb hc hm
theorem de_lelt (ha : DE C K mg W a fa) (hb : DE C K mg W b fb) (hc : DE C K mg W e fc) (hm : lastMarks [.LtE, .Lt] [b, e] = false := by with_unfolding_all rfl) : DE C K mg W (.Compare a [.LtE, .Lt] [b, e] pos) (chainR leD ltD fa fb fc) :=
  de_chain o2_cmp o2_cmp pu_cmp pu_cmp (fun _ => op_le) (fun _ => op_lt) ha hb hc hm
theorem de_ltlt (ha : DE C K mg W a fa) (hb : DE C K mg W b fb) (hc : DE C K mg W e fc) (hm : lastMarks [.Lt, .Lt] [b, e] = false := by with_unfolding_all rfl) : DE C K mg W (.Compare a [.Lt, .Lt] [b, e] pos) (chainR ltD ltD fa fb fc) :=
  de_chain o2_cmp o2_cmp pu_cmp pu_cmp (fun _ => op_lt) (fun _ => op_lt) ha hb hc hm
end
end DL
set_option Elab.async false
set_option linter.all false
set_option maxRecDepth 100000
set_option maxHeartbeats 1000000
namespace DL
open PySem L2

section
variable {C : Cx → Prop} {P : Program} {w : World} {K : PySem.W.Frag} {mg : Str → Option Value} {base : Heap} {k : Nat} {W : WX} {N : List Str} {sc : Scope}
variable {a b e : Expr} {es rest : List Expr} {fa fb fc : Env → R D} {pos : Pos} {x : Str} {i : Nat} {ta tb : TE} {tt tu : TT}

/-! ### and, or, not as values -/
def andR (fa fb : Env → R D) : Env → R D := fun ρ => (fa ρ).bind fun x => match x with
  | .bool true => fb ρ
  | .bool false => .ok (.bool false)
  | _ => .bad
def orR (fa fb : Env → R D) : Env → R D := fun ρ => (fa ρ).bind fun x => match x with
  | .bool false => fb ρ
  | .bool true => .ok (.bool true)
  | _ => .bad
def notR (fa : Env → R D) : Env → R D := fun ρ => (fa ρ).bind fun x => match x with
  | .bool b => .ok (.bool !b)
  | _ => .bad
theorem ev_andV (ha : Ev K mg W ta fa) (hb : Ev K mg W tb fb) : Ev K mg W (tAndV ta tb) (andR fa fb) := by
  intro B0 H0 B H σ ρ Q gd wx q
  unfold andR at wx
  refine ha B0 H0 B H σ ρ _ gd wx.of_bind fun dx B1 H1 x e1 g1 r1 => ?_
  have w1 := wx.then e1
  have e0 : andR fa fb ρ = _ := bind_eq e1
  cases r1 with
  | bl c =>
    refine ⟨c, rfl, ?_⟩
    cases c with
    | false => exact iteF (q _ B1 H1 _ e0 g1 (.bl _))
    | true => exact iteT (hb B0 H0 B1 H1 σ ρ _ (gd.grow g1) w1 fun d B2 H2 v e2 g2 r2 => q d B2 H2 v (e0.trans e2) (g1.trans g2) r2)
  | _ => exact w1.elim
theorem ev_orV (ha : Ev K mg W ta fa) (hb : Ev K mg W tb fb) : Ev K mg W (tOrV ta tb) (orR fa fb) := by
  intro B0 H0 B H σ ρ Q gd wx q
  unfold orR at wx
  refine ha B0 H0 B H σ ρ _ gd wx.of_bind fun dx B1 H1 x e1 g1 r1 => ?_
  have w1 := wx.then e1
  have e0 : orR fa fb ρ = _ := bind_eq e1
  cases r1 with
  | bl c =>
    refine ⟨c, rfl, ?_⟩
    cases c with
    | true => exact iteT (q _ B1 H1 _ e0 g1 (.bl _))
    | false => exact iteF (hb B0 H0 B1 H1 σ ρ _ (gd.grow g1) w1 fun d B2 H2 v e2 g2 r2 => q d B2 H2 v (e0.trans e2) (g1.trans g2) r2)
  | _ => exact w1.elim
theorem ev_notV (ha : Ev K mg W ta fa) : Ev K mg W (tNotV ta) (notR fa) := by
  intro B0 H0 B H σ ρ Q gd wx q
  unfold notR at wx
  refine ha B0 H0 B H σ ρ _ gd wx.of_bind fun dx B1 H1 x e1 g1 r1 => ?_
  have w1 := wx.then e1
  have e0 : notR fa ρ = _ := bind_eq e1
  cases r1 with
  | bl c => exact ⟨c, rfl, q _ B1 H1 _ e0 g1 (.bl _)⟩
  | _ => exact w1.elim
theorem de_and (ha : DE C K mg W a fa) (hb : DE C K mg W (.BoolOp .And (b :: rest) pos) fb) : DE C K mg W (.BoolOp .And (a :: b :: rest) pos) (andR fa fb) :=
  let ⟨ta, pa, va⟩ := ha; let ⟨tb, pb, vb⟩ := hb
  ⟨_, fun X h => pe_and (pa X h) (pb X h), ev_andV va vb⟩
theorem de_or (ha : DE C K mg W a fa) (hb : DE C K mg W (.BoolOp .Or (b :: rest) pos) fb) : DE C K mg W (.BoolOp .Or (a :: b :: rest) pos) (orR fa fb) :=
  let ⟨ta, pa, va⟩ := ha; let ⟨tb, pb, vb⟩ := hb
  ⟨_, fun X h => pe_or (pa X h) (pb X h), ev_orV va vb⟩
theorem de_one {op : BoolOp} (ha : DE C K mg W a fa) : DE C K mg W (.BoolOp op [a] pos) fa :=
  let ⟨ta, pa, va⟩ := ha
  ⟨_, fun X h => pe_one (pa X h), va⟩
theorem de_not (ha : DE C K mg W a fa) : DE C K mg W (.UnaryOp .Not a pos) (notR fa) :=
  let ⟨ta, pa, va⟩ := ha
  ⟨_, fun X h => pe_not (pa X h), ev_notV va⟩

/-! ### tests -/
def boolR : D → R Bool
  | .bool b => .ok b
  | _ => .bad
def toB (f : Env → R D) : Env → R Bool := fun ρ => (f ρ).bind boolR
theorem evt_test (ha : Ev K mg W ta fa) : EvT K mg W (tTest ta) (toB fa) := by
  intro B0 H0 B H σ ρ Q gd wx q
  unfold toB at wx
  refine ha B0 H0 B H σ ρ _ gd wx.of_bind fun dx B1 H1 x e1 g1 r1 => ?_
  have w1 := wx.then e1
  have e0 : toB fa ρ = _ := bind_eq e1
  cases r1 with
  | bl c => exact ⟨c, rfl, q _ B1 H1 e0 g1⟩
  | _ => exact w1.elim
def truD : D → R Bool
  | .none => .ok false
  | .bool b => .ok b
  | .int i => .ok (i != 0)
  | .str s => if fits s.length then .ok ((s.length : Int) != 0) else .bad
  | .list ds => .ok (!ds.isEmpty)
  | .tuple ds => .ok (!ds.isEmpty)
  | .dict [] => .ok false
  | .dict (_ :: _) => .bad
def toT (f : Env → R D) : Env → R Bool := fun ρ => (f ρ).bind truD
theorem RpA.emp {B : Hp} {xs : List V} {ds : List D} (r : RpA B xs ds) : (!ds.isEmpty) = !xs.isEmpty := by cases r <;> rfl
theorem evt_truth (ha : Ev K mg W ta fa) : EvT K mg W (fun σ H Q => ta σ H fun x H' => ∃ k, TruV K x H' k ∧ Q k H') (toT fa) := by
  intro B0 H0 B H σ ρ Q gd wx q
  unfold toT at wx
  refine ha B0 H0 B H σ ρ _ gd wx.of_bind fun dx B1 H1 x e1 g1 r1 => ?_
  have w1 := wx.then e1
  have e0 : toT fa ρ = _ := bind_eq e1
  cases r1 with
  | non => exact ⟨false, rfl, q _ B1 H1 e0 g1⟩
  | bl c => exact ⟨c, rfl, q _ B1 H1 e0 g1⟩
  | int c => exact ⟨_, rfl, q _ B1 H1 e0 g1⟩
  | str s =>
    simp only [truD] at w1 e0
    by_cases hf : fits s.length = true
    · rw [if_pos hf] at e0
      exact ⟨_, ⟨fits_line hf, rfl⟩, q _ B1 H1 e0 g1⟩
    · rw [if_neg hf] at w1; exact w1.elim
  | @lst p xs ds h ax => exact ⟨_, .inl ⟨xs, SqL.of (g1.s _ _ h), ax.emp⟩, q _ B1 H1 e0 g1⟩
  | @tup p xs ds h ax => exact ⟨_, .inr (.inl ⟨xs, SqT.of (g1.s _ _ h), ax.emp⟩), q _ B1 H1 e0 g1⟩
  | @dct p h => exact ⟨false, .inr (.inr ⟨[], g1.s _ _ h, rfl⟩), q _ B1 H1 e0 g1⟩
/-- names, calls, constants, subscripts: by their truth -/
theorem dt_tru (c : Cxs C P w K mg base k W N sc) (ha : DE C K mg W a fa) (he : ∀ X, C X → ∀ whole, isTrue a X.env whole = (do let v ← whole; standAt a.pos; holding [v] (truthy v)) := by intro _ _ _; rfl) : DT C K mg W a (toT fa) :=
  let ⟨ta, pa, va⟩ := ha
  ⟨_, fun X h => by have e := c.hK X h; subst e; exact pt_truth (pa X h) (he X h), evt_truth va⟩
theorem dt_cmp {op : CmpOp} {r : Cx → R2} {r' : R2} {g : D → D → R D} (ho : ∀ X, C X → OpR X (compareOp op) (r X)) (hr : ∀ X, C X → r X = r') (h2 : Op2 r' g) (hp : Pure2 g) (ha : DE C K mg W a fa) (hb : DE C K mg W b fb) (hm : behindInMarks op b = false) :
    DT C K mg W (.Compare a [op] [b] pos) (toB (opR g fa fb)) :=
  let ⟨ta, pa, va⟩ := ha; let ⟨tb, pb, vb⟩ := hb
  ⟨_, fun X h => pt_cmpR (r := r') (by rw [← hr X h]; exact ho X h) (pa X h) (pb X h) hm, evt_test (ev_op h2 hp va vb)⟩
theorem dt_lt (ha : DE C K mg W a fa) (hb : DE C K mg W b fb) : DT C K mg W (.Compare a [.Lt] [b] pos) (toB (opR ltD fa fb)) := dt_cmp (r := fun _ => _) (fun _ _ => op_lt) (fun _ _ => rfl) o2_cmp pu_cmp ha hb (nomark _)
theorem dt_le (ha : DE C K mg W a fa) (hb : DE C K mg W b fb) : DT C K mg W (.Compare a [.LtE] [b] pos) (toB (opR leD fa fb)) := dt_cmp (r := fun _ => _) (fun _ _ => op_le) (fun _ _ => rfl) o2_cmp pu_cmp ha hb (nomark _)
theorem dt_gt (ha : DE C K mg W a fa) (hb : DE C K mg W b fb) : DT C K mg W (.Compare a [.Gt] [b] pos) (toB (opR gtD fa fb)) := dt_cmp (r := fun _ => _) (fun _ _ => op_gt) (fun _ _ => rfl) o2_cmp pu_cmp ha hb (nomark _)
theorem dt_ge (ha : DE C K mg W a fa) (hb : DE C K mg W b fb) : DT C K mg W (.Compare a [.GtE] [b] pos) (toB (opR geD fa fb)) := dt_cmp (r := fun _ => _) (fun _ _ => op_ge) (fun _ _ => rfl) o2_cmp pu_cmp ha hb (nomark _)
theorem dt_eq (c : Cxs C P w K mg base k W N sc) (ha : DE C K mg W a fa) (hb : DE C K mg W b fb) : DT C K mg W (.Compare a [.Eq] [b] pos) (toB (opR eqD fa fb)) :=
  dt_cmp (r := fun X => rEqD X.K) (fun X h => op_eqD (c.room X h).units) (fun X h => by rw [c.hK X h]) o2_eq pu_eq ha hb (nomark _)
theorem dt_ne (c : Cxs C P w K mg base k W N sc) (ha : DE C K mg W a fa) (hb : DE C K mg W b fb) : DT C K mg W (.Compare a [.NotEq] [b] pos) (toB (opR neD fa fb)) :=
  dt_cmp (r := fun X => rNeD X.K) (fun X h => op_neD (c.room X h).units) (fun X h => by rw [c.hK X h]) o2_ne pu_ne ha hb (nomark _)
theorem dt_isN (ha : DE C K mg W a fa) (hb : DE C K mg W b fb) : DT C K mg W (.Compare a [.Is] [b] pos) (toB (opR (pIs false) fa fb)) := dt_cmp (r := fun _ => _) (fun _ _ => op_isN) (fun _ _ => rfl) o2_isN pu_is ha hb (nomark _)
theorem dt_notN (ha : DE C K mg W a fa) (hb : DE C K mg W b fb) : DT C K mg W (.Compare a [.IsNot] [b] pos) (toB (opR (pIs true) fa fb)) := dt_cmp (r := fun _ => _) (fun _ _ => op_notN) (fun _ _ => rfl) o2_notN pu_is ha hb (nomark _)
theorem dt_in (c : Cxs C P w K mg base k W N sc) (ha : DE C K mg W a fa) (hb : DE C K mg W b fb) (hm : behindInMarks .In b = false := by rfl) : DT C K mg W (.Compare a [.In] [b] pos) (toB (opR (inD false) fa fb)) :=
  dt_cmp (r := fun X => rIns X.K) (fun X h => (op_inD (Room.u65 (c.room X h))).or (op_in_seq.or op_in_sign)) (fun X h => by rw [c.hK X h]) o2_in pu_in ha hb hm
theorem dt_notin (c : Cxs C P w K mg base k W N sc) (ha : DE C K mg W a fa) (hb : DE C K mg W b fb) (hm : behindInMarks .NotIn b = false := by rfl) : DT C K mg W (.Compare a [.NotIn] [b] pos) (toB (opR (inD true) fa fb)) :=
  dt_cmp (r := fun X => rNotIns X.K) (fun X h => (op_notInD (Room.u65 (c.room X h))).or (op_notIn_seq.or op_notIn_sign)) (fun X h => by rw [c.hK X h]) o2_notin pu_in ha hb hm
theorem dt_chain {op op' : CmpOp} {r r' : R2} {g g' : D → D → R D} (h1 : Op2 r g) (h2 : Op2 r' g') (p1 : Pure2 g) (p2 : Pure2 g') (o1 : ∀ X, OpR X (compareOp op) r) (o2 : ∀ X, OpR X (compareOp op') r')
    (ha : DE C K mg W a fa) (hb : DE C K mg W b fb) (hc : DE C K mg W e fc) (hm : lastMarks [op, op'] [b, e] = false) : DT C K mg W (.Compare a [op, op'] [b, e] pos) (toB (chainR g g' fa fb fc)) :=
  let ⟨ta, pa, va⟩ := ha; let ⟨tb, pb, vb⟩ := hb; let ⟨tc, pc, vc⟩ := hc
  ⟨_, fun X h => pt_chain (o1 X) (o2 X) (pa X h) (pb X h) (pc X h) hm, evt_test (ev_chain h1 h2 p1 p2 va vb vc)⟩
theorem dt_lele (ha : DE C K mg W a fa) (hb : DE C K mg W b fb) (hc : DE C K mg W e fc) (hm : lastMarks [.LtE, .LtE] [b, e] = false := by with_unfolding_all rfl) : DT C K mg W (.Compare a [.LtE, .LtE] [b, e] pos) (toB (chainR leD leD fa fb fc)) :=
  dt_chain o2_cmp o2_cmp pu_cmp pu_cmp (fun _ => op_le) (fun _ => op_le) ha hb hc hm
theorem dt_lelt (ha : DE C K mg W a fa) (hb : DE C K mg W b fb) (hc : DE C K mg W e fc) (hm : lastMarks [.LtE, .Lt] [b, e] = false := by with_unfolding_all rfl) : DT C K mg W (.Compare a [.LtE, .Lt] [b, e] pos) (toB (chainR leD ltD fa fb fc)) :=
  dt_chain o2_cmp o2_cmp pu_cmp pu_cmp (fun _ => op_le) (fun _ => op_lt) ha hb hc hm
theorem dt_ltlt (ha : DE C K mg W a fa) (hb : DE C K mg W b fb) (hc : DE C K mg W e fc) (hm : lastMarks [.Lt, .Lt] [b, e] = false := by with_unfolding_all rfl) : DT C K mg W (.Compare a [.Lt, .Lt] [b, e] pos) (toB (chainR ltD ltD fa fb fc)) :=
  dt_chain o2_cmp o2_cmp pu_cmp pu_cmp (fun _ => op_lt) (fun _ => op_lt) ha hb hc hm
/-! and, or, not as tests -/
def andT (f g : Env → R Bool) : Env → R Bool := fun ρ => (f ρ).bind fun b => if b = true then g ρ else .ok false
def orT (f g : Env → R Bool) : Env → R Bool := fun ρ => (f ρ).bind fun b => if b = true then .ok true else g ρ
def notT (f : Env → R Bool) : Env → R Bool := fun ρ => (f ρ).bind fun b => .ok !b
variable {ga gb : Env → R Bool}
theorem evt_and (ha : EvT K mg W tt ga) (hb : EvT K mg W tu gb) : EvT K mg W (tAnd tt tu) (andT ga gb) := by
  intro B0 H0 B H σ ρ Q gd wx q
  unfold andT at wx
  refine ha B0 H0 B H σ ρ _ gd wx.of_bind fun c B1 H1 e1 g1 => ?_
  have w1 := wx.then e1
  have e0 : andT ga gb ρ = _ := bind_eq e1
  cases c with
  | false => exact iteF (q _ B1 H1 e0 g1)
  | true => exact iteT (hb B0 H0 B1 H1 σ ρ _ (gd.grow g1) w1 fun d B2 H2 e2 g2 => q d B2 H2 (e0.trans e2) (g1.trans g2))
theorem evt_or (ha : EvT K mg W tt ga) (hb : EvT K mg W tu gb) : EvT K mg W (tOr tt tu) (orT ga gb) := by
  intro B0 H0 B H σ ρ Q gd wx q
  unfold orT at wx
  refine ha B0 H0 B H σ ρ _ gd wx.of_bind fun c B1 H1 e1 g1 => ?_
  have w1 := wx.then e1
  have e0 : orT ga gb ρ = _ := bind_eq e1
  cases c with
  | true => exact iteT (q _ B1 H1 e0 g1)
  | false => exact iteF (hb B0 H0 B1 H1 σ ρ _ (gd.grow g1) w1 fun d B2 H2 e2 g2 => q d B2 H2 (e0.trans e2) (g1.trans g2))
theorem evt_not (ha : EvT K mg W tt ga) : EvT K mg W (tNot tt) (notT ga) := by
  intro B0 H0 B H σ ρ Q gd wx q
  unfold notT at wx
  exact ha B0 H0 B H σ ρ _ gd wx.of_bind fun c B1 H1 e1 g1 => q _ B1 H1 (bind_eq e1) g1
theorem dw_and1 (ha : DT C K mg W a ga) : DW C K mg W (.BoolOp .And [a] pos) ga :=
  let ⟨ta, pa, va⟩ := ha
  ⟨_, fun X h => pw_and1 (pa X h), va⟩
theorem dw_or1 (ha : DT C K mg W a ga) : DW C K mg W (.BoolOp .Or [a] pos) ga :=
  let ⟨ta, pa, va⟩ := ha
  ⟨_, fun X h => pw_or1 (pa X h), va⟩
theorem dw_and (ha : DT C K mg W a ga) (hb : DW C K mg W (.BoolOp .And (b :: rest) pos) gb) : DW C K mg W (.BoolOp .And (a :: b :: rest) pos) (andT ga gb) :=
  let ⟨ta, pa, va⟩ := ha; let ⟨tb, pb, vb⟩ := hb
  ⟨_, fun X h => pw_and (pa X h) (pb X h), evt_and va vb⟩
theorem dw_or (ha : DT C K mg W a ga) (hb : DW C K mg W (.BoolOp .Or (b :: rest) pos) gb) : DW C K mg W (.BoolOp .Or (a :: b :: rest) pos) (orT ga gb) :=
  let ⟨ta, pa, va⟩ := ha; let ⟨tb, pb, vb⟩ := hb
  ⟨_, fun X h => pw_or (pa X h) (pb X h), evt_or va vb⟩
theorem dt_w (h : DW C K mg W a ga) : DT C K mg W a ga :=
  let ⟨ta, pa, va⟩ := h
  ⟨_, fun X h => (pa X h).pt, va⟩
theorem dt_not (ha : DT C K mg W a ga) : DT C K mg W (.UnaryOp .Not a pos) (notT ga) :=
  let ⟨ta, pa, va⟩ := ha
  ⟨_, fun X h => pt_not (pa X h), evt_not va⟩
/-! x if t else y -/
def ifR (g : Env → R Bool) (fa fb : Env → R D) : Env → R D := fun ρ => (g ρ).bind fun b => if b = true then fa ρ else fb ρ
theorem ev_if (hc : EvT K mg W tt ga) (ha : Ev K mg W ta fa) (hb : Ev K mg W tb fb) : Ev K mg W (tIf tt ta tb) (ifR ga fa fb) := by
  intro B0 H0 B H σ ρ Q gd wx q
  unfold ifR at wx
  refine hc B0 H0 B H σ ρ _ gd wx.of_bind fun c B1 H1 e1 g1 => ?_
  have w1 := wx.then e1
  have e0 : ifR ga fa fb ρ = _ := bind_eq e1
  cases c with
  | true => exact iteT (ha B0 H0 B1 H1 σ ρ _ (gd.grow g1) w1 fun d B2 H2 v e2 g2 r2 => q d B2 H2 v (e0.trans e2) (g1.trans g2) r2)
  | false => exact iteF (hb B0 H0 B1 H1 σ ρ _ (gd.grow g1) w1 fun d B2 H2 v e2 g2 r2 => q d B2 H2 v (e0.trans e2) (g1.trans g2) r2)
theorem de_if (hc : DT C K mg W e ga) (ha : DE C K mg W a fa) (hb : DE C K mg W b fb) : DE C K mg W (.IfExp e a b pos) (ifR ga fa fb) :=
  let ⟨tc, pc, vc⟩ := hc; let ⟨ta, pa, va⟩ := ha; let ⟨tb, pb, vb⟩ := hb
  ⟨_, fun X h => pe_ifExp (pc X h) (pa X h) (pb X h), ev_if vc va vb⟩

/-! ### arguments, displays -/
variable {fs : Env → R (List D)} {tr : TA}
def consR (fa : Env → R D) (fs : Env → R (List D)) : Env → R (List D) := fun ρ => (fa ρ).bind fun x => (fs ρ).bind fun xs => .ok (x :: xs)
theorem ea_cons (ha : Ev K mg W ta fa) (hs : EvA K mg W tr fs) : EvA K mg W (tCons ta tr) (consR fa fs) := by
  intro B0 H0 B H σ ρ Q gd wx q
  unfold consR at wx
  refine ha B0 H0 B H σ ρ _ gd wx.of_bind fun dx B1 H1 x e1 g1 r1 => ?_
  have w1 := wx.then e1
  refine hs B0 H0 B1 H1 σ ρ _ (gd.grow g1) w1.of_bind fun ds B2 H2 vs e2 g2 r2 => ?_
  exact q (dx :: ds) B2 H2 (x :: vs) ((bind_eq e1).trans (bind_eq e2)) (g1.trans g2) (.cons (r1.mono g2.b) r2)
theorem da_nil : DA C K mg W [] (fun _ => .ok []) := ⟨tNil, fun _ _ => pa_nil, fun B0 H0 B H σ ρ Q gd _ q => q [] B H [] rfl (Gr.refl gd.sub) .nil⟩
theorem da_cons (ha : DE C K mg W a fa) (hs : DA C K mg W es fs) (he : ∀ X, C X → starEach (a :: es) X.env = (false, eval a X.env) :: starEach es X.env := by intro _ _; rfl) : DA C K mg W (a :: es) (consR fa fs) :=
  let ⟨ta, pa, va⟩ := ha; let ⟨tb, pb, vb⟩ := hs
  ⟨_, fun X h => pa_cons (pa X h) (pb X h) (he X h), ea_cons va vb⟩
def tupR (fs : Env → R (List D)) : Env → R D := fun ρ => (fs ρ).bind fun xs => if fits xs.length then .ok (.tuple xs) else .bad
theorem ev_tup (hs : EvA K mg W tr fs) : Ev K mg W (tTup tr) (tupR fs) := by
  intro B0 H0 B H σ ρ Q gd wx q
  unfold tupR at wx
  refine hs B0 H0 B H σ ρ _ gd wx.of_bind fun ds B1 H1 vs e1 g1 r1 => ?_
  have w1 := wx.then e1
  have e0 : tupR fs ρ = _ := bind_eq e1
  by_cases hf : fits ds.length = true
  · rw [if_pos hf] at e0
    refine ⟨fits_line (by rw [r1.length]; exact hf), fun p hp => ?_⟩
    have g := Gr.new (o := .tup vs) g1.s hp
    exact q _ _ _ _ e0 (g1.trans g) (.tup upd_same (r1.mono g.b))
  · rw [if_neg hf] at w1; exact w1.elim
theorem de_tup (hs : DA C K mg W es fs) {x1 : Nat} : DE C K mg W (.Tuple es x1 pos) (tupR fs) :=
  let ⟨tb, pb, vb⟩ := hs
  ⟨_, fun X h => pe_tup (pb X h), ev_tup vb⟩
def lstR (fs : Env → R (List D)) : Env → R (List D) := fun ρ => (fs ρ).bind fun xs => if fits xs.length then .ok xs else .bad
theorem el_lst (hs : EvA K mg W tr fs) : EvL K mg W (tLst tr) (lstR fs) := by
  intro B0 H0 B H σ ρ Q gd wx q
  unfold lstR at wx
  refine hs B0 H0 B H σ ρ _ gd wx.of_bind fun ds B1 H1 vs e1 g1 r1 => ?_
  have w1 := wx.then e1
  have e0 : lstR fs ρ = _ := bind_eq e1
  by_cases hf : fits ds.length = true
  · rw [if_pos hf] at e0
    refine ⟨fits_line (by rw [r1.length]; exact hf), fun p hp => ?_⟩
    have hb : B1 p = none := g1.s.free hp
    exact q _ B1 _ p vs e0 ⟨g1.b, fun x u e => by rw [upd_ne (ne_of_none e hb)]; exact g1.s _ _ e, fun x u e => by rw [upd_ne (ne_of_none (g1.h _ _ e) hp)]; exact g1.h _ _ e, g1.n⟩ (g1.none hp) hb upd_same r1
  · rw [if_neg hf] at w1; exact w1.elim
theorem dn_lst (hs : DA C K mg W es fs) : DN C K mg W (.List es pos) (lstR fs) :=
  let ⟨tb, pb, vb⟩ := hs
  ⟨_, fun X h => pe_lst (pb X h), el_lst vb⟩
/-- a new list as a datum -/
def asL (fs : Env → R (List D)) : Env → R D := fun ρ => (fs ρ).bind fun xs => .ok (.list xs)
theorem Gr.own {B H B' H' : Hp} {p : Addr} {o : HO} (g : Gr B H B' H') (h0 : H p = Option.none) (h1 : B' p = Option.none) (h2 : H' p = some o) : Gr B H (upd B' p o) H' := by
  refine ⟨fun x u e => ?_, fun x u e => ?_, g.h, fun x u e => ?_⟩
  · rw [upd_ne (ne_of_none (g.b _ _ e) h1)]; exact g.b _ _ e
  · by_cases hx : x = p
    · subst hx; rw [upd_same] at e; cases e; exact h2
    · rw [upd_ne hx] at e; exact g.s _ _ e
  · rw [upd_ne (ne_of_none e h0)]; exact g.n _ _ e
theorem Same.upd {B : Hp} {p : Addr} {o : HO} (h : B p = Option.none) : Same B (L2.upd B p o) := fun x u e => by rw [upd_ne (ne_of_none e h)]; exact e
theorem ev_asL {te : TE} (h : EvL K mg W te fs) : Ev K mg W te (asL fs) := by
  intro B0 H0 B H σ ρ Q gd wx q
  unfold asL at wx
  refine h B0 H0 B H σ ρ _ gd wx.of_bind fun ds B1 H1 p vs e1 g1 h0 h1 h2 r1 => ?_
  have e0 : asL fs ρ = _ := bind_eq e1
  exact q _ _ _ _ e0 (g1.own h0 h1 h2) (.lst upd_same (r1.mono (Same.upd h1)))
theorem de_l (h : DN C K mg W a fs) : DE C K mg W a (asL fs) :=
  let ⟨tb, pb, vb⟩ := h
  ⟨_, pb, ev_asL vb⟩
end
end DL
set_option Elab.async false
set_option linter.all false
set_option maxRecDepth 100000
set_option maxHeartbeats 1000000
namespace DL
open PySem L2

/-! ### a def as a function on data -/
/-- the promise: g's datum, or the exception that g names -/
def spD (mg : Str → Option Value) (n : Nat) (g : List D → R D) : Sp := fun vs H Q E => vs.length = n ∧ ∃ (B : Hp) (ds : List D), Same B H ∧ RpA B vs ds ∧
  (match g ds with
    | .bad => False
    | .ok _ => True
    | .exc c => ∀ (H' : Hp) (C : Addr), Same H H' → mg c = some (.ref C) → E (.ref C) none H') ∧
  ∀ d B' H' v, g ds = .ok d → Gr B H B' H' → Rp B' v d → Q v H'
/-- a def of the text at the name x that keeps it, by level k -/
structure Fn (P : Program) (w : World) (K : PySem.W.Frag) (mg : Str → Option Value) (base : Heap) (k : Nat) (x : Str) (n : Nat) (g : List D → R D) : Prop where
  ex : ∃ (f : Addr) (fd : FuncData) (ps : List Str), FnOk P w K mg base (L2.CX P w) k f fd ps (spD mg n g) ∧ mg x = some (.ref f) ∧ PySem.W.keepIn K (.ref f) = true ∧ Binds K fd ps []
  len : ∀ ds, g ds ≠ .bad → ds.length = n
theorem Fn.mono {P : Program} {w : World} {K : PySem.W.Frag} {mg : Str → Option Value} {base : Heap} {j k : Nat} {x : Str} {n : Nat} {g : List D → R D} (F : Fn P w K mg base j x n g) (h : j ≤ k) : Fn P w K mg base k x n g :=
  let ⟨f, fd, ps, h1, h2⟩ := F.ex
  ⟨⟨f, fd, ps, h1.mono h, h2⟩, F.len⟩
/-- another function that tells no more -/
theorem Fn.imp {P : Program} {w : World} {K : PySem.W.Frag} {mg : Str → Option Value} {base : Heap} {k : Nat} {x : Str} {n : Nat} {g g' : List D → R D} (F : Fn P w K mg base k x n g) (h : ∀ ds, g' ds ≠ .bad → g ds = g' ds) : Fn P w K mg base k x n g' := by
  obtain ⟨f, fd, ps, h1, h2⟩ := F.ex
  have e : ∀ ds, g' ds ≠ .bad → g ds = g' ds := h
  refine ⟨⟨f, fd, ps, h1.imp fun vs H Q E q => ?_, h2⟩, fun ds z => F.len ds (by rw [h ds z]; exact z)⟩
  obtain ⟨q0, B, ds, q1, q2, q3, q4⟩ := q
  have nb : g' ds ≠ .bad := fun z => by rw [z] at q3; exact q3
  refine ⟨q0, B, ds, q1, q2, ?_, ?_⟩
  · rw [h ds nb]; exact q3
  · rw [h ds nb]; exact q4

section
variable {C : Cx → Prop} {P : Program} {w : World} {K : PySem.W.Frag} {mg : Str → Option Value} {base : Heap} {k : Nat} {W : WX} {N : List Str} {sc : Scope}
variable {a b e : Expr} {es rest : List Expr} {fa fb fc : Env → R D} {fs : Env → R (List D)} {pos p : Pos} {x : Str} {i : Nat} {ta tb : TE} {tt tu : TT} {tr : TA}

def callR (g : List D → R D) (fs : Env → R (List D)) : Env → R D := fun ρ => (fs ρ).bind g
theorem ev_call {g : List D → R D} {n : Nat} (hlen : ∀ ds, g ds ≠ .bad → ds.length = n) (hs : EvA K mg W tr fs) : Ev K mg W (tCallS (spD mg n g) (WE W) tr) (callR g fs) := by
  intro B0 H0 B H σ ρ Q gd wx q
  unfold callR at wx
  refine hs B0 H0 B H σ ρ _ gd wx.of_bind fun ds B1 H1 vs e1 g1 r1 => ?_
  have w1 := wx.then e1
  have e0 : callR g fs ρ = g ds := bind_eq e1
  have nb : g ds ≠ .bad := fun z => by rw [z] at w1; exact w1
  refine ⟨r1.length.trans (hlen ds nb), B1, ds, g1.s, r1, ?_, fun d B2 H2 v e2 g2 r2 => q d B2 H2 v (e0.trans e2) (g1.trans g2) r2⟩
  cases e3 : g ds with
  | bad => exact nb e3
  | ok d => exact True.intro
  | exc c => rw [e3] at w1; exact fun H2 C s2 m => w1 H2 C ((gd.old.trans g1.h).trans s2) m
theorem de_call {j n : Nat} {g : List D → R D} (c : Cxs C P w K mg base k W N sc) (F : Fn P w K mg base j x n g) (hj : j ≤ k) (gx : Gm sc x) (ha : DA C K mg W (e :: es) fs)
    (he : ∀ X, C X → starEach (e :: es) X.env = (false, eval e X.env) :: starEach es X.env := by intro _ _; rfl) (hpl : ∀ X, C X → (backTo pos (starEach es X.env)).any (·.1) = false := by intro _ _; rfl) :
    DE C K mg W (.Call (.Name x p) (e :: es) [] pos) (callR g fs) := by
  obtain ⟨tr, pa, va⟩ := ha
  obtain ⟨f, fd, ps, h1, h2, h3, h4⟩ := F.ex
  refine ⟨_, fun X h => ?_, ev_call F.len va⟩
  have c1 := c.hP X h; have c2 := c.hw X h; have c3 := c.hK X h; have c4 := c.hmg X h; have c5 := c.hbase X h
  subst c1 c2 c3 c4 c5
  exact pe_callS h1 ((c.room X h).mono hj) (gx.gl c X h) h2 h3 h4 (fun σ => passAt (c.takes X h) σ) (pa X h) gx.d (he X h) (hpl X h)

/-! ### built-ins by name -/
def CR1 (r : List V → Hp → VK → Prop) (g : List D → R D) : Prop := ∀ (B H : Hp) (xs : List V) (ds : List D) (d : D) (Q : VK), Same B H → RpA B xs ds → g ds = .ok d → (∀ B' H' v, Gr B H B' H' → Rp B' v d → Q v H') → r xs H Q
def Pure1 (g : List D → R D) : Prop := ∀ ds c, g ds ≠ .exc c
theorem ev_cb {r : List V → Hp → VK → Prop} {g : List D → R D} (hr : CR1 r g) (hp : Pure1 g) (hs : EvA K mg W tr fs) : Ev K mg W (tCB r tr) (callR g fs) := by
  intro B0 H0 B H σ ρ Q gd wx q
  unfold callR at wx
  refine hs B0 H0 B H σ ρ _ gd wx.of_bind fun ds B1 H1 vs e1 g1 r1 => ?_
  have w1 := wx.then e1
  have e0 : callR g fs ρ = g ds := bind_eq e1
  cases e3 : g ds with
  | bad => rw [e3] at w1; exact w1.elim
  | exc c => exact (hp _ _ e3).elim
  | ok d => exact hr B1 H1 vs ds d Q g1.s r1 e3 fun B2 H2 v g2 r2 => q d B2 H2 v (e0.trans e3) (g1.trans g2) r2
theorem de_blt {id : String} {r : Cx → List V → Hp → VK → Prop} {r' : List V → Hp → VK → Prop} {g : List D → R D} (c : Cxs C P w K mg base k W N sc) (gx : Gm sc x) (m : mg x = none) (hv : bootBuiltins x = some (.builtin id)) (hn : x ≠ "__name__")
    (ho : ∀ X, C X → CallR X (.builtin id) (r X)) (hr : ∀ X, C X → r X = r') (h1 : CR1 r' g) (hp : Pure1 g) (ha : DA C K mg W (e :: es) fs)
    (he : ∀ X, C X → starEach (e :: es) X.env = (false, eval e X.env) :: starEach es X.env) (hpl : ∀ X, C X → (backTo pos (starEach es X.env)).any (·.1) = false) :
    DE C K mg W (.Call (.Name x p) (e :: es) [] pos) (callR g fs) := by
  obtain ⟨tr, pa, va⟩ := ha
  exact ⟨_, fun X h => pe_callB (r := r') (by rw [← hr X h]; exact ho X h) (gx.gl c X h) (by rw [c.hmg X h]; exact m) hv (pa X h) hn gx.d (he X h) (hpl X h), ev_cb h1 hp va⟩
theorem de_bty {T : String} {r : Cx → List V → Hp → VK → Prop} {r' : List V → Hp → VK → Prop} {g : List D → R D} (c : Cxs C P w K mg base k W N sc) (gx : Gm sc x) (m : mg x = none) (hv : bootBuiltins x = some (.type T)) (hn : x ≠ "__name__")
    (ho : ∀ X, C X → CallR X (.type T) (r X)) (hr : ∀ X, C X → r X = r') (h1 : CR1 r' g) (hp : Pure1 g) (ha : DA C K mg W (e :: es) fs)
    (he : ∀ X, C X → starEach (e :: es) X.env = (false, eval e X.env) :: starEach es X.env) (hpl : ∀ X, C X → (backTo pos (starEach es X.env)).any (·.1) = false) :
    DE C K mg W (.Call (.Name x p) (e :: es) [] pos) (callR g fs) := by
  obtain ⟨tr, pa, va⟩ := ha
  exact ⟨_, fun X h => pe_callTy (r := r') (by rw [← hr X h]; exact ho X h) (gx.gl c X h) (by rw [c.hmg X h]; exact m) hv (pa X h) hn gx.d (he X h) (hpl X h), ev_cb h1 hp va⟩
/-! len -/
def lenD : List D → R D
  | [.str s] => if fits s.length then .ok (.int s.length) else .bad
  | [.list ds] => .ok (.int ds.length)
  | [.tuple ds] => .ok (.int ds.length)
  | _ => .bad
theorem RpA.one {B : Hp} {xs : List V} {d : D} (r : RpA B xs [d]) : ∃ v, xs = [v] ∧ Rp B v d := by
  cases r with
  | cons r1 r2 => cases r2; exact ⟨_, rfl, r1⟩
theorem RpA.two {B : Hp} {xs : List V} {d e : D} (r : RpA B xs [d, e]) : ∃ v u, xs = [v, u] ∧ Rp B v d ∧ Rp B u e := by
  cases r with
  | cons r1 r2 =>
    cases r2 with
    | cons r3 r4 => cases r4; exact ⟨_, _, rfl, r1, r3⟩
def rLenK (K : PySem.W.Frag) : List V → Hp → VK → Prop := fun xs H Q => ∃ x n, xs = [x] ∧ LenV K x H n ∧ Q (.int n) H
theorem cr_len : CR1 (rLenK K) lenD := by
  intro B H xs ds d Q s ra e q
  unfold lenD at e
  split at e
  · split at e
    · rename_i hf; cases e
      obtain ⟨v, rfl, r⟩ := ra.one
      cases r
      exact ⟨_, _, rfl, ⟨fits_line hf, rfl⟩, q B H _ (Gr.refl s) (.int _)⟩
    · cases e
  · cases e
    obtain ⟨v, rfl, r⟩ := ra.one
    cases r with
    | @lst p ys es h ay => exact ⟨_, _, rfl, .inl ⟨ys, SqL.of (s _ _ h), rfl⟩, by rw [ay.length]; exact q B H _ (Gr.refl s) (.int _)⟩
  · cases e
    obtain ⟨v, rfl, r⟩ := ra.one
    cases r with
    | @tup p ys es h ay => exact ⟨_, _, rfl, .inr ⟨ys, SqT.of (s _ _ h), rfl⟩, by rw [ay.length]; exact q B H _ (Gr.refl s) (.int _)⟩
  · cases e
theorem pu_len : Pure1 lenD := by intro ds c; unfold lenD; split <;> (try split) <;> simp
theorem de_len (c : Cxs C P w K mg base k W N sc) (g : Gm sc "len") (m : mg "len" = none) (ha : DA C K mg W [a] fs)
    (he : ∀ X, C X → starEach [a] X.env = (false, eval a X.env) :: starEach [] X.env := by intro _ _; rfl) (hpl : ∀ X, C X → (backTo pos (starEach [] X.env)).any (·.1) = false := by intro _ _; rfl) :
    DE C K mg W (.Call (.Name "len" p) [a] [] pos) (callR lenD fs) :=
  de_blt (r := fun X => rLenK X.K) c g m boot_len (by decide) (fun X _ => call_len) (fun X h => by rw [c.hK X h]) cr_len pu_len ha he hpl
/-! isinstance(x, T), T a built-in type -/
def tyD : D → String
  | .none => "NoneType"
  | .bool _ => "bool"
  | .int _ => "int"
  | .str _ => "str"
  | .list _ => "list"
  | .tuple _ => "tuple"
  | .dict _ => "dict"
theorem Rp.ty {B H : Hp} {v : V} {d : D} (r : Rp B v d) (s : Same B H) : TyX K H v (.type (tyD d)) := by
  cases r with
  | non => exact .base .non
  | bl b => exact .base (.bl b)
  | int i => exact .base (.int i)
  | str x => exact .base (.str x)
  | lst h _ => exact .base (.lst (s _ _ h))
  | tup h _ => exact .base (.tup (s _ _ h))
  | dct h => exact .base (.dK (s _ _ h))
/-- by the built-in types' own order -/
def isiD (T : String) (d : D) : R D := match kitB (tyD d) T with
  | some b => .ok (.bool b)
  | none => .bad
theorem de_isi {T : String} {q : Pos} {y : Str} (c : Cxs C P w K mg base k W N sc) (g : Gm sc "isinstance") (m : mg "isinstance" = none) (ha : DE C K mg W a fa) (gT : Gm sc y) (mT : mg y = none) (hv : bootBuiltins y = some (.type T)) (hn : y ≠ "__name__")
    (he : ∀ X, C X → starEach [a, .Name y q] X.env = (false, eval a X.env) :: starEach [.Name y q] X.env := by intro _ _; rfl) (he2 : ∀ X, C X → starEach [.Name y q] X.env = (false, eval (.Name y q) X.env) :: starEach [] X.env := by intro _ _; rfl)
    (hpl : ∀ X, C X → (backTo pos (starEach [.Name y q] X.env)).any (·.1) = false := by intro _ _; rfl) :
    DE C K mg W (.Call (.Name "isinstance" p) [a, .Name y q] [] pos) (fun ρ => (fa ρ).bind (isiD T)) := by
  obtain ⟨ta, pa, va⟩ := ha
  refine ⟨tCB (rIsi K) (tCons ta (tCons (tC (.ty T)) tNil)), fun X h => ?_, ?_⟩
  · have e := c.hK X h
    subst e
    exact pe_callB call_isi (g.gl c X h) (by rw [c.hmg X h]; exact m) (by decide +kernel) (pa_cons (pa X h) (pa_cons (pe_bltn (gT.gl c X h) (by rw [c.hmg X h]; exact mT) hv rfl hn gT.d) pa_nil (he2 X h)) (he X h)) (by decide) g.d (he X h) (hpl X h)
  · intro B0 H0 B H σ ρ Q gd wx q
    refine va B0 H0 B H σ ρ _ gd wx.of_bind fun d B1 H1 v e1 g1 r1 => ?_
    have w1 := wx.then e1
    have e0 : (fa ρ).bind (isiD T) = _ := bind_eq e1
    cases e2 : kitB (tyD d) T with
    | none => unfold isiD at w1; rw [e2] at w1; exact w1.elim
    | some b =>
      have e3 : isiD T d = .ok (.bool b) := by unfold isiD; rw [e2]
      exact ⟨v, .ty T, .type (tyD d), .type T, b, rfl, .ty T, r1.ty g1.s, kit_ty e2, q _ B1 H1 _ (e0.trans e3) g1 (.bl b)⟩
/-! all, any -/
def blsD : List D → Option (List Bool)
  | [] => some []
  | .bool b :: r => (blsD r).map (b :: ·)
  | _ :: _ => none
theorem bls_rp {B : Hp} : ∀ {ds : List D} {xs : List V} {bs : List Bool}, RpA B xs ds → blsD ds = some bs → xs = bs.map V.bl
  | [], _, _, .nil, e => by cases e; rfl
  | .bool b :: r, _, bs, .cons h t, e => by
    cases h
    simp only [blsD, Option.map_eq_some_iff] at e
    obtain ⟨bs', e1, rfl⟩ := e
    rw [List.map_cons, bls_rp t e1]
  | .none :: _, _, _, _, e => by cases e
  | .int _ :: _, _, _, _, e => by cases e
  | .str _ :: _, _, _, _, e => by cases e
  | .list _ :: _, _, _, _, e => by cases e
  | .tuple _ :: _, _, _, _, e => by cases e
  | .dict _ :: _, _, _, _, e => by cases e
def allD : List D → R D
  | [.list ds] => match blsD ds with
    | some bs => .ok (.bool (bs.all id))
    | none => .bad
  | _ => .bad
def anyD : List D → R D
  | [.list ds] => match blsD ds with
    | some bs => .ok (.bool (bs.any id))
    | none => .bad
  | _ => .bad
theorem pu_all : Pure1 allD := by intro ds c; unfold allD; split <;> (try split) <;> simp
theorem pu_any : Pure1 anyD := by intro ds c; unfold anyD; split <;> (try split) <;> simp
theorem cr_allD : CR1 (rAll K) allD := by
  intro B H xs ds d Q s ra e q
  unfold allD at e
  split at e
  · split at e
    · rename_i bs hb; cases e
      obtain ⟨v, rfl, r⟩ := ra.one
      cases r with
      | @lst p ys es h ay =>
        have := bls_rp ay hb
        subst this
        exact ⟨p, bs, rfl, SqL.of (s _ _ h), q B H _ (Gr.refl s) (.bl _)⟩
    · cases e
  · cases e
theorem cr_anyD : CR1 (rAny K) anyD := by
  intro B H xs ds d Q s ra e q
  unfold anyD at e
  split at e
  · split at e
    · rename_i bs hb; cases e
      obtain ⟨v, rfl, r⟩ := ra.one
      cases r with
      | @lst p ys es h ay =>
        have := bls_rp ay hb
        subst this
        exact ⟨p, bs, rfl, SqL.of (s _ _ h), q B H _ (Gr.refl s) (.bl _)⟩
    · cases e
  · cases e
theorem de_all (c : Cxs C P w K mg base k W N sc) (g : Gm sc "all") (m : mg "all" = none) (ha : DA C K mg W [a] fs)
    (he : ∀ X, C X → starEach [a] X.env = (false, eval a X.env) :: starEach [] X.env := by intro _ _; rfl) (hpl : ∀ X, C X → (backTo pos (starEach [] X.env)).any (·.1) = false := by intro _ _; rfl) :
    DE C K mg W (.Call (.Name "all" p) [a] [] pos) (callR allD fs) :=
  de_blt (r := fun X => rAll X.K) c g m (by decide +kernel) (by decide) (fun X h => cr_all (c.calm X h)) (fun X h => by rw [c.hK X h]) cr_allD pu_all ha he hpl
theorem de_any (c : Cxs C P w K mg base k W N sc) (g : Gm sc "any") (m : mg "any" = none) (ha : DA C K mg W [a] fs)
    (he : ∀ X, C X → starEach [a] X.env = (false, eval a X.env) :: starEach [] X.env := by intro _ _; rfl) (hpl : ∀ X, C X → (backTo pos (starEach [] X.env)).any (·.1) = false := by intro _ _; rfl) :
    DE C K mg W (.Call (.Name "any" p) [a] [] pos) (callR anyD fs) :=
  de_blt (r := fun X => rAny X.K) c g m (by decide +kernel) (by decide) (fun X h => cr_any (c.calm X h)) (fun X h => by rw [c.hK X h]) cr_anyD pu_any ha he hpl
/-! lists of ints: sum, min, max -/
def intsD : List D → Option (List Int)
  | [] => some []
  | .int i :: r => (intsD r).map (i :: ·)
  | _ :: _ => none
theorem intsD_map (ns : List Int) : intsD (ns.map .int) = some ns := by
  induction ns with
  | nil => rfl
  | cons n r ih => rw [List.map_cons, intsD, ih]; rfl
theorem intsD_eq : ∀ {ds : List D} {ns : List Int}, intsD ds = some ns → ds = ns.map .int
  | [], _, e => by cases e; rfl
  | .int i :: r, ns, e => by
    simp only [intsD, Option.map_eq_some_iff] at e
    obtain ⟨ns', e1, rfl⟩ := e
    rw [List.map_cons, ← intsD_eq e1]
  | .none :: _, _, e => by cases e
  | .bool _ :: _, _, e => by cases e
  | .str _ :: _, _, e => by cases e
  | .list _ :: _, _, e => by cases e
  | .tuple _ :: _, _, e => by cases e
  | .dict _ :: _, _, e => by cases e
theorem RpA.ints {B : Hp} : ∀ {ns : List Int} {xs : List V}, RpA B xs (ns.map .int) → xs = ns.map V.int
  | [], _, .nil => rfl
  | n :: r, _, .cons h t => by cases h; rw [List.map_cons, RpA.ints t]
theorem RpA.ofInts {B : Hp} : ∀ (ns : List Int), RpA B (ns.map V.int) (ns.map .int)
  | [] => .nil
  | n :: r => .cons (.int n) (RpA.ofInts r)
def minD : List D → R D
  | [.list ds] => match intsD ds with
    | some (n :: r) => .ok (.int (r.foldl min n))
    | _ => .bad
  | _ => .bad
def maxD : List D → R D
  | [.list ds] => match intsD ds with
    | some (n :: r) => .ok (.int (r.foldl max n))
    | _ => .bad
  | _ => .bad
def sumD : List D → R D
  | [.list ds] => match intsD ds with
    | some ns => .ok (.int ns.sum)
    | _ => .bad
  | _ => .bad
theorem foldl_min_spec : ∀ (r : List Int) (n : Int), (r.foldl min n ∈ n :: r) ∧ ∀ y ∈ n :: r, r.foldl min n ≤ y
  | [], n => by simp
  | m :: r, n => by
    obtain ⟨h1, h2⟩ := foldl_min_spec r (min n m)
    rw [List.foldl_cons]
    refine ⟨?_, fun y hy => ?_⟩
    · rcases List.mem_cons.mp h1 with e | e
      · rw [e]
        rcases Int.le_total n m with z | z
        · rw [Int.min_eq_left z]; exact List.mem_cons_self
        · rw [Int.min_eq_right z]; exact List.mem_cons_of_mem _ List.mem_cons_self
      · exact List.mem_cons_of_mem _ (List.mem_cons_of_mem _ e)
    · have h3 := h2 (min n m) List.mem_cons_self
      rcases List.mem_cons.mp hy with e | e
      · subst e; omega
      · rcases List.mem_cons.mp e with e | e
        · subst e; omega
        · exact h2 y (List.mem_cons_of_mem _ e)
theorem foldl_max_spec : ∀ (r : List Int) (n : Int), (r.foldl max n ∈ n :: r) ∧ ∀ y ∈ n :: r, y ≤ r.foldl max n
  | [], n => by simp
  | m :: r, n => by
    obtain ⟨h1, h2⟩ := foldl_max_spec r (max n m)
    rw [List.foldl_cons]
    refine ⟨?_, fun y hy => ?_⟩
    · rcases List.mem_cons.mp h1 with e | e
      · rw [e]
        rcases Int.le_total n m with z | z
        · rw [Int.max_eq_right z]; exact List.mem_cons_of_mem _ List.mem_cons_self
        · rw [Int.max_eq_left z]; exact List.mem_cons_self
      · exact List.mem_cons_of_mem _ (List.mem_cons_of_mem _ e)
    · have h3 := h2 (max n m) List.mem_cons_self
      rcases List.mem_cons.mp hy with e | e
      · subst e; omega
      · rcases List.mem_cons.mp e with e | e
        · subst e; omega
        · exact h2 y (List.mem_cons_of_mem _ e)
theorem pu_min : Pure1 minD := by intro ds c; unfold minD; split <;> (try split) <;> simp
theorem pu_max : Pure1 maxD := by intro ds c; unfold maxD; split <;> (try split) <;> simp
theorem pu_sum : Pure1 sumD := by intro ds c; unfold sumD; split <;> (try split) <;> simp
theorem cr_minD : CR1 (rMin K) minD := by
  intro B H xs ds d Q s ra e q
  unfold minD at e
  split at e
  · split at e
    · rename_i n r hb; cases e
      obtain ⟨v, rfl, rr⟩ := ra.one
      have := intsD_eq hb
      subst this
      cases rr with
      | @lst p ys es h ay =>
        have := ay.ints
        subst this
        refine ⟨p, n :: r, rfl, SqL.of (s _ _ h), Nat.succ_pos _, fun m hm hle => ?_⟩
        obtain ⟨h1, h2⟩ := foldl_min_spec r n
        have e : m = r.foldl min n := by have a := hle _ h1; have b := h2 _ hm; omega
        rw [e]
        exact q B H _ (Gr.refl s) (.int _)
    · cases e
  · cases e
theorem cr_maxD : CR1 (rMax K) maxD := by
  intro B H xs ds d Q s ra e q
  unfold maxD at e
  split at e
  · split at e
    · rename_i n r hb; cases e
      obtain ⟨v, rfl, rr⟩ := ra.one
      have := intsD_eq hb
      subst this
      cases rr with
      | @lst p ys es h ay =>
        have := ay.ints
        subst this
        refine ⟨p, n :: r, rfl, SqL.of (s _ _ h), Nat.succ_pos _, fun m hm hle => ?_⟩
        obtain ⟨h1, h2⟩ := foldl_max_spec r n
        have e : m = r.foldl max n := by have a := hle _ h1; have b := h2 _ hm; omega
        rw [e]
        exact q B H _ (Gr.refl s) (.int _)
    · cases e
  · cases e
theorem cr_sumD : CR1 (rSum K) sumD := by
  intro B H xs ds d Q s ra e q
  unfold sumD at e
  split at e
  · split at e
    · rename_i ns hb; cases e
      obtain ⟨v, rfl, rr⟩ := ra.one
      have := intsD_eq hb
      subst this
      cases rr with
      | @lst p ys es h ay =>
        have := ay.ints
        subst this
        exact ⟨p, ns, rfl, SqL.of (s _ _ h), q B H _ (Gr.refl s) (.int _)⟩
    · cases e
  · cases e
theorem de_min (c : Cxs C P w K mg base k W N sc) (g : Gm sc "min") (m : mg "min" = none) (ha : DA C K mg W [a] fs)
    (he : ∀ X, C X → starEach [a] X.env = (false, eval a X.env) :: starEach [] X.env := by intro _ _; rfl) (hpl : ∀ X, C X → (backTo pos (starEach [] X.env)).any (·.1) = false := by intro _ _; rfl) :
    DE C K mg W (.Call (.Name "min" p) [a] [] pos) (callR minD fs) :=
  de_blt (r := fun X => rMin X.K) c g m (by decide +kernel) (by decide) (fun X h => cr_min (c.calm X h)) (fun X h => by rw [c.hK X h]) cr_minD pu_min ha he hpl
theorem de_max (c : Cxs C P w K mg base k W N sc) (g : Gm sc "max") (m : mg "max" = none) (ha : DA C K mg W [a] fs)
    (he : ∀ X, C X → starEach [a] X.env = (false, eval a X.env) :: starEach [] X.env := by intro _ _; rfl) (hpl : ∀ X, C X → (backTo pos (starEach [] X.env)).any (·.1) = false := by intro _ _; rfl) :
    DE C K mg W (.Call (.Name "max" p) [a] [] pos) (callR maxD fs) :=
  de_blt (r := fun X => rMax X.K) c g m (by decide +kernel) (by decide) (fun X h => cr_max (c.calm X h)) (fun X h => by rw [c.hK X h]) cr_maxD pu_max ha he hpl
theorem de_sum (c : Cxs C P w K mg base k W N sc) (g : Gm sc "sum") (m : mg "sum" = none) (ha : DA C K mg W [a] fs)
    (he : ∀ X, C X → starEach [a] X.env = (false, eval a X.env) :: starEach [] X.env := by intro _ _; rfl) (hpl : ∀ X, C X → (backTo pos (starEach [] X.env)).any (·.1) = false := by intro _ _; rfl) :
    DE C K mg W (.Call (.Name "sum" p) [a] [] pos) (callR sumD fs) :=
  de_blt (r := fun X => rSum X.K) c g m (by decide +kernel) (by decide) (fun X h => cr_sum (c.calm X h)) (fun X h => by rw [c.hK X h]) cr_sumD pu_sum ha he hpl
/-! int(..), tuple(..) -/
def intD : List D → R D
  | [.int i] => .ok (.int i)
  | [.bool b] => .ok (.int (if b then 1 else 0))
  | _ => .bad
theorem pu_int : Pure1 intD := by intro ds c; unfold intD; split <;> simp
theorem cr_intD : CR1 (fun xs H Q => (∃ i, xs = [.int i] ∧ Q (.int i) H) ∨ ∃ k, xs = [.bl k] ∧ Q (.int (if k then 1 else 0)) H) intD := by
  intro B H xs ds d Q s ra e q
  unfold intD at e
  split at e
  · cases e
    obtain ⟨v, rfl, rr⟩ := ra.one
    cases rr
    exact .inl ⟨_, rfl, q B H _ (Gr.refl s) (.int _)⟩
  · cases e
    obtain ⟨v, rfl, rr⟩ := ra.one
    cases rr
    exact .inr ⟨_, rfl, q B H _ (Gr.refl s) (.int _)⟩
  · cases e
theorem de_intc (c : Cxs C P w K mg base k W N sc) (g : Gm sc "int") (m : mg "int" = none) (ha : DA C K mg W [a] fs)
    (he : ∀ X, C X → starEach [a] X.env = (false, eval a X.env) :: starEach [] X.env := by intro _ _; rfl) (hpl : ∀ X, C X → (backTo pos (starEach [] X.env)).any (·.1) = false := by intro _ _; rfl) :
    DE C K mg W (.Call (.Name "int" p) [a] [] pos) (callR intD fs) :=
  de_bty (r := fun X => _) c g m (by decide +kernel) (by decide) (fun X h => call_int1) (fun X h => rfl) cr_intD pu_int ha he hpl
def tupD : List D → R D
  | [.list ds] => .ok (.tuple ds)
  | [.tuple ds] => .ok (.tuple ds)
  | _ => .bad
theorem pu_tup : Pure1 tupD := by intro ds c; unfold tupD; split <;> simp
def rTupK (K : PySem.W.Frag) : List V → Hp → VK → Prop := fun xs H Q => ∃ p ys, xs = [.ref p] ∧ ((SqL K H p ys ∧ ∀ l, H l = none → Q (.ref l) (upd H l (.tup ys))) ∨ (SqT K H p ys ∧ Q (.ref p) H))
theorem cr_tupD : CR1 (rTupK K) tupD := by
  intro B H xs ds d Q s ra e q
  unfold tupD at e
  split at e
  · cases e
    obtain ⟨v, rfl, rr⟩ := ra.one
    cases rr with
    | @lst p ys es h ay =>
      refine ⟨p, ys, rfl, .inl ⟨SqL.of (s _ _ h), fun l hl => ?_⟩⟩
      have g := Gr.new (o := .tup ys) s hl
      exact q _ _ _ g (.tup upd_same (ay.mono g.b))
  · cases e
    obtain ⟨v, rfl, rr⟩ := ra.one
    cases rr with
    | @tup p ys es h ay => exact ⟨p, ys, rfl, .inr ⟨SqT.of (s _ _ h), q B H _ (Gr.refl s) (.tup h ay)⟩⟩
  · cases e
theorem de_tupc (c : Cxs C P w K mg base k W N sc) (g : Gm sc "tuple") (m : mg "tuple" = none) (ha : DA C K mg W [a] fs)
    (he : ∀ X, C X → starEach [a] X.env = (false, eval a X.env) :: starEach [] X.env := by intro _ _; rfl) (hpl : ∀ X, C X → (backTo pos (starEach [] X.env)).any (·.1) = false := by intro _ _; rfl) :
    DE C K mg W (.Call (.Name "tuple" p) [a] [] pos) (callR tupD fs) :=
  de_bty (r := fun X => rTupK X.K) c g m (by decide +kernel) (by decide) (fun X h => call_tuple_of) (fun X h => by rw [c.hK X h]) cr_tupD pu_tup ha he hpl
end
end DL
set_option Elab.async false
set_option linter.all false
set_option maxRecDepth 100000
set_option maxHeartbeats 1000000
namespace DL
open PySem L2

section
variable {C : Cx → Prop} {P : Program} {w : World} {K : PySem.W.Frag} {mg : Str → Option Value} {base : Heap} {k : Nat} {W : WX} {N : List Str} {sc : Scope}
variable {a b e : Expr} {es rest : List Expr} {fa fb fc : Env → R D} {fs : Env → R (List D)} {pos p p2 p3 : Pos} {x : Str} {i : Nat} {ta tb : TE} {tt tu : TT} {tr : TA}

/-! ### subscripts -/
def ixD : D → D → R D
  | .list ds, .int i => match atI ds i with
    | some d => .ok d
    | none => .bad
  | .tuple ds, .int i => match atI ds i with
    | some d => .ok d
    | none => .bad
  | .str z, .int i => if fits z.length then (match atI z.cps.toList i with
    | some c => .ok (.str ⟨#[c]⟩)
    | none => .bad) else .bad
  | _, _ => .bad
theorem atI_rp {B : Hp} {xs : List V} {ds : List D} (r : RpA B xs ds) {i : Int} {d : D} (h : atI ds i = some d) : ∃ v, atI xs i = some v ∧ Rp B v d := by
  unfold atI at h ⊢
  rw [r.length]
  cases e : ixN ds.length i with
  | none => rw [e] at h; cases h
  | some j =>
    rw [e] at h
    obtain ⟨v, h1, h2⟩ := r.get (i := j) (d := d) h
    exact ⟨v, h1, h2⟩
theorem pu_ix : Pure2 ixD := by intro x y c; unfold ixD; split <;> (try split) <;> (try split) <;> simp
theorem o2_ix : Op2 (rIx K) ixD := by
  intro B H x y dx dy d Q s rx ry e q
  unfold ixD at e
  split at e
  · split at e
    · rename_i ds i d' h; cases e
      cases ry
      cases rx with
      | @lst p xs es hp ax =>
        obtain ⟨v, h1, h2⟩ := atI_rp ax h
        exact .inl ⟨p, xs, _, v, rfl, rfl, SqL.of (s _ _ hp), h1, q B H v (Gr.refl s) h2⟩
    · cases e
  · split at e
    · rename_i ds i d' h; cases e
      cases ry
      cases rx with
      | @tup p xs es hp ax =>
        obtain ⟨v, h1, h2⟩ := atI_rp ax h
        exact .inr (.inl ⟨p, xs, _, v, rfl, rfl, SqT.of (s _ _ hp), h1, q B H v (Gr.refl s) h2⟩)
    · cases e
  · split at e
    · rename_i hf
      split at e
      · rename_i c h; cases e
        cases rx; cases ry
        exact .inr (.inr ⟨_, _, c, rfl, rfl, fits_line hf, h, q B H _ (Gr.refl s) (.str _)⟩)
      · cases e
    · cases e
  · cases e
theorem de_ix (c : Cxs C P w K mg base k W N sc) (ha : DE C K mg W a fa) (hb : DE C K mg W b fb) (hs : PlainIx b := by intro _ _; rfl) : DE C K mg W (.Subscript a b pos) (opR ixD fa fb) :=
  let ⟨ta, pa, va⟩ := ha; let ⟨tb, pb, vb⟩ := hb
  ⟨_, fun X h => pe_ix (r := rIx K) (by have e := c.hK X h; subst e; exact ix_seq) (pa X h) (pb X h) hs, ev_op o2_ix pu_ix va vb⟩

/-! ### slices -/
def DO (C : Cx → Prop) (K : PySem.W.Frag) (mg : Str → Option Value) (W : WX) (o : Option Expr) (f : Env → R (Option Int)) : Prop :=
  ∃ t, (∀ X, C X → PO X o t) ∧ ∀ (B0 H0 B H : Hp) (σ : St) (ρ : Env) (Q : Option Int → Hp → Prop), Gd K B0 H0 B H σ ρ → Wx mg W H0 σ (f ρ) → (∀ d B' H', f ρ = .ok d → Gr B H B' H' → Q d H') → t σ H Q
def partR : D → R (Option Int)
  | .int i => .ok (some i)
  | _ => .bad
theorem do_none : DO C K mg W none (fun _ => .ok none) := ⟨_, fun X h => po_none, fun B0 H0 B H σ ρ Q gd _ q => q _ B H rfl (Gr.refl gd.sub)⟩
theorem do_some (ha : DE C K mg W a fa) : DO C K mg W (some a) (fun ρ => (fa ρ).bind partR) := by
  obtain ⟨ta, pa, va⟩ := ha
  refine ⟨_, fun X h => po_some (pa X h), fun B0 H0 B H σ ρ Q gd wx q => ?_⟩
  refine va B0 H0 B H σ ρ _ gd wx.of_bind fun d B1 H1 v e1 g1 r1 => ?_
  have w1 := wx.then e1
  have e0 : (fa ρ).bind partR = _ := bind_eq e1
  cases r1 with
  | int i => exact ⟨i, rfl, q _ B1 H1 e0 g1⟩
  | _ => exact w1.elim
def cutD {α : Type} (xs : List α) (lo hi : Option Int) : List α := (xs.drop (HT.sIx xs.length 0 lo)).take (HT.sIx xs.length xs.length hi - HT.sIx xs.length 0 lo)
theorem RpA.cut {B : Hp} {xs : List V} {ds : List D} (r : RpA B xs ds) (lo hi : Option Int) : RpA B (cutV xs lo hi) (cutD ds lo hi) := by
  unfold cutV cutD
  rw [r.length]
  exact (r.drop _).take _
def slD (lo hi : Option Int) : D → R D
  | .list ds => .ok (.list (cutD ds lo hi))
  | .tuple ds => .ok (.tuple (cutD ds lo hi))
  | .str z => if fits z.length then .ok (.str (cutS z lo hi)) else .bad
  | _ => .bad
def slR (fa : Env → R D) (fl fh : Env → R (Option Int)) : Env → R D := fun ρ => (fa ρ).bind fun d => (fl ρ).bind fun lo => (fh ρ).bind fun hi => slD lo hi d
theorem cutV_whole {xs : List V} {lo hi : Option Int} (h : HT.sIx xs.length 0 lo = 0 ∧ HT.sIx xs.length xs.length hi = xs.length) : cutV xs lo hi = xs := by
  unfold cutV
  rw [h.1, h.2, List.drop_zero, Nat.sub_zero, List.take_length]
theorem cutD_whole {α : Type} {xs : List α} {lo hi : Option Int} (h : HT.sIx xs.length 0 lo = 0 ∧ HT.sIx xs.length xs.length hi = xs.length) : cutD xs lo hi = xs := by
  unfold cutD
  rw [h.1, h.2, List.drop_zero, Nat.sub_zero, List.take_length]
theorem de_slice {lo hi : Option Expr} {fl fh : Env → R (Option Int)} (c : Cxs C P w K mg base k W N sc) (ha : DE C K mg W a fa) (hl : DO C K mg W lo fl) (hh : DO C K mg W hi fh) :
    DE C K mg W (.Subscript a (.Slice lo hi none p2) pos) (slR fa fl fh) := by
  obtain ⟨ta, pa, va⟩ := ha; obtain ⟨tl, pl, vl⟩ := hl; obtain ⟨th, ph, vh⟩ := hh
  refine ⟨tSl (fun x lo hi H Q => rSlL K x lo hi H Q ∨ rSlA K x lo hi H Q ∨ rSlS x lo hi H Q) ta tl th, fun X h => ?_, ?_⟩
  · have e := c.hK X h
    subst e
    exact pe_slice (sl_list.or (sl_tupA.or sl_str)) (pa X h) (pl X h) (ph X h)
  · intro B0 H0 B H σ ρ Q gd wx q
    unfold slR at wx
    refine va B0 H0 B H σ ρ _ gd wx.of_bind fun d B1 H1 v e1 g1 r1 => ?_
    have w1 := wx.then e1
    refine vl B0 H0 B1 H1 σ ρ _ (gd.grow g1) w1.of_bind fun lo' B2 H2 e2 g2 => ?_
    have w2 := w1.then e2
    refine vh B0 H0 B2 H2 σ ρ _ ((gd.grow g1).grow g2) w2.of_bind fun hi' B3 H3 e3 g3 => ?_
    have w3 := w2.then e3
    have e0 : slR fa fl fh ρ = slD lo' hi' d := (bind_eq e1).trans ((bind_eq e2).trans (bind_eq e3))
    have g := (g1.trans g2).trans g3
    have r3 := (r1.mono g2.b).mono g3.b
    cases r3 with
    | str z =>
      by_cases hf : fits z.length = true
      · have e4 : slD lo' hi' (.str z) = .ok (.str (cutS z lo' hi')) := if_pos hf
        exact .inr (.inr ⟨z, rfl, fits_line hf, q _ B3 H3 _ (e0.trans e4) g (.str _)⟩)
      · have w4 : Wx mg W H0 σ (slD lo' hi' (.str z)) := w3
        rw [show slD lo' hi' (.str z) = .bad from if_neg hf] at w4; exact w4.elim
    | @lst p xs ds hp ax =>
      refine .inl ⟨p, xs, rfl, SqL.of (g.s _ _ hp), fun l hl => ?_⟩
      have gn := Gr.new (o := .lst (cutV xs lo' hi')) g.s hl
      exact q _ _ _ _ e0 (g.trans gn) (.lst upd_same ((ax.cut lo' hi').mono gn.b))
    | @tup p xs ds hp ax =>
      refine .inr (.inl ⟨p, xs, rfl, SqT.of (g.s _ _ hp), fun hw => ?_, fun hw l hl => ?_⟩)
      · refine q _ B3 H3 _ e0 g ?_
        have hw' := hw
        rw [ax.length] at hw'
        rw [cutD_whole hw']
        exact .tup hp ax
      · have gn := Gr.new (o := .tup (cutV xs lo' hi')) g.s hl
        exact q _ _ _ _ e0 (g.trans gn) (.tup upd_same ((ax.cut lo' hi').mono gn.b))
    | _ => exact w3.elim
/-- a list's slice, the new list not yet told -/
def slLR (fa : Env → R D) (fl fh : Env → R (Option Int)) : Env → R (List D) := fun ρ => (fa ρ).bind fun d => (fl ρ).bind fun lo => (fh ρ).bind fun hi => match d with
  | .list ds => .ok (cutD ds lo hi)
  | _ => .bad
theorem Gr.mk1 {B H : Hp} {p : Addr} {o : HO} (s : Same B H) (h : H p = Option.none) : Gr B H B (upd H p o) ∧ B p = Option.none :=
  ⟨⟨Same.refl _, fun x u e => by rw [upd_ne (ne_of_none (s _ _ e) h)]; exact s _ _ e, Same.upd h, fun _ _ _ => rfl⟩, s.free h⟩
theorem dn_slice {lo hi : Option Expr} {fl fh : Env → R (Option Int)} (c : Cxs C P w K mg base k W N sc) (ha : DE C K mg W a fa) (hl : DO C K mg W lo fl) (hh : DO C K mg W hi fh) :
    DN C K mg W (.Subscript a (.Slice lo hi none p2) pos) (slLR fa fl fh) := by
  obtain ⟨ta, pa, va⟩ := ha; obtain ⟨tl, pl, vl⟩ := hl; obtain ⟨th, ph, vh⟩ := hh
  refine ⟨tSl (rSlL K) ta tl th, fun X h => ?_, ?_⟩
  · have e := c.hK X h
    subst e
    exact pe_slice sl_list (pa X h) (pl X h) (ph X h)
  · intro B0 H0 B H σ ρ Q gd wx q
    unfold slLR at wx
    refine va B0 H0 B H σ ρ _ gd wx.of_bind fun d B1 H1 v e1 g1 r1 => ?_
    have w1 := wx.then e1
    refine vl B0 H0 B1 H1 σ ρ _ (gd.grow g1) w1.of_bind fun lo' B2 H2 e2 g2 => ?_
    have w2 := w1.then e2
    refine vh B0 H0 B2 H2 σ ρ _ ((gd.grow g1).grow g2) w2.of_bind fun hi' B3 H3 e3 g3 => ?_
    have w3 := w2.then e3
    have e0 : slLR fa fl fh ρ = _ := (bind_eq e1).trans ((bind_eq e2).trans (bind_eq e3))
    have g := (g1.trans g2).trans g3
    have r3 := (r1.mono g2.b).mono g3.b
    cases r3 with
    | @lst p xs ds hp ax =>
      refine ⟨p, xs, rfl, SqL.of (g.s _ _ hp), fun l hl => ?_⟩
      obtain ⟨gm, hb⟩ := Gr.mk1 (o := .lst (cutV xs lo' hi')) g.s hl
      exact q _ B3 _ l _ e0 (g.trans gm) (g.none hl) hb upd_same (ax.cut lo' hi')
    | _ => exact w3.elim
/-- xs[::-1] of a list -/
def revR (fa : Env → R D) : Env → R (List D) := fun ρ => (fa ρ).bind fun d => match d with
  | .list ds => .ok ds.reverse
  | _ => .bad
theorem dn_rev {j : Nat} {q1 q2 : Pos} (c : Cxs C P w K mg base k W N sc) (ha : DE C K mg W a fa) : DN C K mg W (.Subscript a (.Slice none none (some (.UnaryOp .USub (.Constant (.int 1) j q1) q2)) p3) pos) (revR fa) := by
  obtain ⟨ta, pa, va⟩ := ha
  refine ⟨tRevL K ta, fun X h => ?_, ?_⟩
  · have e := c.hK X h
    subst e
    exact pe_revL (pa X h)
  · intro B0 H0 B H σ ρ Q gd wx q
    unfold revR at wx
    refine va B0 H0 B H σ ρ _ gd wx.of_bind fun d B1 H1 v e1 g1 r1 => ?_
    have w1 := wx.then e1
    have e0 : revR fa ρ = _ := bind_eq e1
    cases r1 with
    | @lst p xs ds hp ax =>
      refine ⟨p, xs, rfl, SqL.of (g1.s _ _ hp), fun l hl => ?_⟩
      obtain ⟨gm, hb⟩ := Gr.mk1 (o := .lst xs.reverse) g1.s hl
      exact q _ B1 _ l _ e0 (g1.trans gm) (g1.none hl) hb upd_same ax.reverse
    | _ => exact w1.elim

/-! ### new lists by calls -/
def CRL (r : List V → Hp → VK → Prop) (g : List D → R (List D)) : Prop := ∀ (B H : Hp) (xs : List V) (ds es : List D) (Q : VK), Same B H → RpA B xs ds → g ds = .ok es → (∀ H' p vs, Gr B H B H' → H p = Option.none → H' p = some (.lst vs) → RpA B vs es → Q (.ref p) H') → r xs H Q
theorem dn_cb {r : List V → Hp → VK → Prop} {g : List D → R (List D)} (hr : CRL r g) (hp : ∀ ds c, g ds ≠ .exc c) (hs : EvA K mg W tr fs) : EvL K mg W (tCB r tr) (fun ρ => (fs ρ).bind g) := by
  intro B0 H0 B H σ ρ Q gd wx q
  refine hs B0 H0 B H σ ρ _ gd wx.of_bind fun ds B1 H1 vs e1 g1 r1 => ?_
  have w1 := wx.then e1
  have e0 : (fs ρ).bind g = g ds := bind_eq e1
  cases e3 : g ds with
  | bad => rw [e3] at w1; exact w1.elim
  | exc c => exact (hp _ _ e3).elim
  | ok d => exact hr B1 H1 vs ds d Q g1.s r1 e3 fun H2 p us g2 h0 h2 r2 => q d B1 H2 p us (e0.trans e3) (g1.trans g2) (g1.none h0) (g1.s.free h0) h2 r2
theorem dn_bty {T : String} {r : Cx → List V → Hp → VK → Prop} {r' : List V → Hp → VK → Prop} {g : List D → R (List D)} (c : Cxs C P w K mg base k W N sc) (gx : Gm sc x) (m : mg x = none) (hv : bootBuiltins x = some (.type T)) (hn : x ≠ "__name__")
    (ho : ∀ X, C X → CallR X (.type T) (r X)) (hr : ∀ X, C X → r X = r') (h1 : CRL r' g) (hp : ∀ ds c, g ds ≠ .exc c) (ha : DA C K mg W (e :: es) fs)
    (he : ∀ X, C X → starEach (e :: es) X.env = (false, eval e X.env) :: starEach es X.env) (hpl : ∀ X, C X → (backTo pos (starEach es X.env)).any (·.1) = false) :
    DN C K mg W (.Call (.Name x p) (e :: es) [] pos) (fun ρ => (fs ρ).bind g) := by
  obtain ⟨tr, pa, va⟩ := ha
  exact ⟨_, fun X h => pe_callTy (r := r') (by rw [← hr X h]; exact ho X h) (gx.gl c X h) (by rw [c.hmg X h]; exact m) hv (pa X h) hn gx.d (he X h) (hpl X h), dn_cb h1 hp va⟩
theorem dn_blt {id : String} {r : Cx → List V → Hp → VK → Prop} {r' : List V → Hp → VK → Prop} {g : List D → R (List D)} (c : Cxs C P w K mg base k W N sc) (gx : Gm sc x) (m : mg x = none) (hv : bootBuiltins x = some (.builtin id)) (hn : x ≠ "__name__")
    (ho : ∀ X, C X → CallR X (.builtin id) (r X)) (hr : ∀ X, C X → r X = r') (h1 : CRL r' g) (hp : ∀ ds c, g ds ≠ .exc c) (ha : DA C K mg W (e :: es) fs)
    (he : ∀ X, C X → starEach (e :: es) X.env = (false, eval e X.env) :: starEach es X.env) (hpl : ∀ X, C X → (backTo pos (starEach es X.env)).any (·.1) = false) :
    DN C K mg W (.Call (.Name x p) (e :: es) [] pos) (fun ρ => (fs ρ).bind g) := by
  obtain ⟨tr, pa, va⟩ := ha
  exact ⟨_, fun X h => pe_callB (r := r') (by rw [← hr X h]; exact ho X h) (gx.gl c X h) (by rw [c.hmg X h]; exact m) hv (pa X h) hn gx.d (he X h) (hpl X h), dn_cb h1 hp va⟩
def listD : List D → R (List D)
  | [.list ds] => .ok ds
  | [.tuple ds] => .ok ds
  | _ => .bad
def rListK (K : PySem.W.Frag) : List V → Hp → VK → Prop := fun xs H Q => ∃ p ys, xs = [.ref p] ∧ (SqL K H p ys ∨ SqT K H p ys) ∧ ∀ l, H l = none → Q (.ref l) (upd H l (.lst ys))
theorem cr_listD : CRL (rListK K) listD := by
  intro B H xs ds es Q s ra e q
  unfold listD at e
  split at e
  · cases e
    obtain ⟨v, rfl, rr⟩ := ra.one
    cases rr with
    | @lst p ys es h ay => exact ⟨p, ys, rfl, .inl (SqL.of (s _ _ h)), fun l hl => q _ l ys (Gr.mk1 s hl).1 hl upd_same ay⟩
  · cases e
    obtain ⟨v, rfl, rr⟩ := ra.one
    cases rr with
    | @tup p ys es h ay => exact ⟨p, ys, rfl, .inr (SqT.of (s _ _ h)), fun l hl => q _ l ys (Gr.mk1 s hl).1 hl upd_same ay⟩
  · cases e
theorem dn_list (c : Cxs C P w K mg base k W N sc) (g : Gm sc "list") (m : mg "list" = none) (ha : DA C K mg W [a] fs)
    (he : ∀ X, C X → starEach [a] X.env = (false, eval a X.env) :: starEach [] X.env := by intro _ _; rfl) (hpl : ∀ X, C X → (backTo pos (starEach [] X.env)).any (·.1) = false := by intro _ _; rfl) :
    DN C K mg W (.Call (.Name "list" p) [a] [] pos) (fun ρ => (fs ρ).bind listD) :=
  dn_bty (r := fun X => rListK X.K) c g m (by decide +kernel) (by decide) (fun X h => call_list_of) (fun X h => by rw [c.hK X h]) cr_listD (by intro ds c; unfold listD; split <;> simp) ha he hpl
/-! sorted of ints -/
def insI (n : Int) : List Int → List Int
  | [] => [n]
  | m :: r => if n ≤ m then n :: m :: r else m :: insI n r
def isort : List Int → List Int
  | [] => []
  | n :: r => insI n (isort r)
theorem insI_perm (n : Int) : ∀ l : List Int, (insI n l).Perm (n :: l)
  | [] => List.Perm.refl _
  | m :: r => by
    unfold insI
    split
    · exact List.Perm.refl _
    · exact ((insI_perm n r).cons m).trans (List.Perm.swap n m r)
theorem insI_sorted (n : Int) : ∀ l : List Int, l.Pairwise (· ≤ ·) → (insI n l).Pairwise (· ≤ ·)
  | [], _ => by simp [insI]
  | m :: r, h => by
    unfold insI
    have h' := List.pairwise_cons.mp h
    split
    · rename_i hn
      refine List.pairwise_cons.mpr ⟨fun y hy => ?_, h⟩
      rcases List.mem_cons.mp hy with e | e
      · subst e; exact hn
      · exact Int.le_trans hn (h'.1 y e)
    · rename_i hn
      refine List.pairwise_cons.mpr ⟨fun y hy => ?_, insI_sorted n r h'.2⟩
      rcases List.mem_cons.mp ((insI_perm n r).mem_iff.mp hy) with e | e
      · subst e; omega
      · exact h'.1 y e
theorem isort_perm : ∀ l : List Int, (isort l).Perm l
  | [] => List.Perm.refl _
  | n :: r => (insI_perm n _).trans ((isort_perm r).cons n)
theorem isort_sorted : ∀ l : List Int, (isort l).Pairwise (· ≤ ·)
  | [] => List.Pairwise.nil
  | n :: r => insI_sorted n _ (isort_sorted r)
theorem sorted_uniq : ∀ {l m : List Int}, l.Perm m → l.Pairwise (· ≤ ·) → m.Pairwise (· ≤ ·) → l = m := fun h1 h2 h3 =>
  List.Perm.eq_of_pairwise (le := fun a b => a ≤ b) (fun a b _ _ h h' => Int.le_antisymm h h') h2 h3 h1
def sortD : List D → R (List D)
  | [.list ds] => match intsD ds with
    | some ns => .ok ((isort ns).map .int)
    | none => .bad
  | _ => .bad
theorem cr_sortD : CRL (rSortedI K) sortD := by
  intro B H xs ds es Q s ra e q
  unfold sortD at e
  split at e
  · split at e
    · rename_i ns hb; cases e
      obtain ⟨v, rfl, rr⟩ := ra.one
      have := intsD_eq hb
      subst this
      cases rr with
      | @lst p ys es h ay =>
        have := ay.ints
        subst this
        refine ⟨p, ns, rfl, SqL.of (s _ _ h), fun ns' l hp ho hl => ?_⟩
        have e : ns' = isort ns := sorted_uniq (hp.trans (isort_perm ns).symm) ho (isort_sorted ns)
        rw [e]
        exact q _ l _ (Gr.mk1 s hl).1 hl upd_same (RpA.ofInts _)
    · cases e
  · cases e
theorem dn_sorted (c : Cxs C P w K mg base k W N sc) (g : Gm sc "sorted") (m : mg "sorted" = none) (ha : DA C K mg W [a] fs)
    (he : ∀ X, C X → starEach [a] X.env = (false, eval a X.env) :: starEach [] X.env := by intro _ _; rfl) (hpl : ∀ X, C X → (backTo pos (starEach [] X.env)).any (·.1) = false := by intro _ _; rfl) :
    DN C K mg W (.Call (.Name "sorted" p) [a] [] pos) (fun ρ => (fs ρ).bind sortD) :=
  dn_blt (r := fun X => rSortedI X.K) c g m (by decide +kernel) (by decide) (fun X h => cr_sortedI) (fun X h => by rw [c.hK X h]) cr_sortD (by intro ds c; unfold sortD; split <;> (try split) <;> simp) ha he hpl
/-! list(range(n)), list(range(m, n)) -/
def rangeI (lo : Int) (n : Nat) : List D := (List.range n).map fun i => .int (lo + (i : Nat))
theorem RpA.range {B : Hp} (a b : Int) : RpA B (rgV a b) (rangeI a (b - a).toNat) := by
  unfold rgV rangeI
  generalize List.range (b - a).toNat = l
  induction l with
  | nil => exact .nil
  | cons j r ih => rw [List.map_cons, List.map_cons]; exact .cons (.int _) ih
def rgOk (a b : Int) : Bool := decide (-16777216 ≤ a) && decide (a ≤ 16777216) && decide (-16777216 ≤ b) && decide (b ≤ 16777216) && decide (b - a ≤ 16777216)
theorem rgOk_is {a b : Int} (h : rgOk a b = true) : RgOk a b := by
  unfold rgOk at h
  simp only [Bool.and_eq_true, decide_eq_true_eq] at h
  exact ⟨by omega, by omega, by omega, by omega, by omega⟩
def lrg1 : D → R (List D)
  | .int n => if rgOk 0 n then .ok (rangeI 0 n.toNat) else .bad
  | _ => .bad
theorem dn_listRange {q1 q2 : Pos} (c : Cxs C P w K mg base k W N sc) (g : Gm sc "list") (m : mg "list" = none) (g2 : Gm sc "range") (m2 : mg "range" = none) (ha : DE C K mg W a fa)
    (he : ∀ X, C X → starEach [.Call (.Name "range" q1) [a] [] q2] X.env = (false, eval (.Call (.Name "range" q1) [a] [] q2) X.env) :: starEach [] X.env := by intro _ _; rfl) (he2 : ∀ X, C X → starEach [a] X.env = (false, eval a X.env) :: starEach [] X.env := by intro _ _; rfl) :
    DN C K mg W (.Call (.Name "list" p) [.Call (.Name "range" q1) [a] [] q2] [] pos) (fun ρ => (fa ρ).bind lrg1) := by
  obtain ⟨ta, pa, va⟩ := ha
  refine ⟨_, fun X h => pe_listRg (c.calm X h) (g.gl c X h) (by rw [c.hmg X h]; exact m) (prg_1 (g2.gl c X h) (by rw [c.hmg X h]; exact m2) (pa X h) (he2 X h)) (he X h), ?_⟩
  intro B0 H0 B H σ ρ Q gd wx q
  refine va B0 H0 B H σ ρ _ gd wx.of_bind fun d B1 H1 v e1 g1 r1 => ?_
  have w1 := wx.then e1
  have e0 : (fa ρ).bind lrg1 = _ := bind_eq e1
  cases r1 with
  | int n =>
    by_cases hr : rgOk 0 n = true
    · have e2 : lrg1 (.int n) = .ok (rangeI 0 n.toNat) := if_pos hr
      refine ⟨n, rfl, rgOk_is hr, fun l hl => ?_⟩
      obtain ⟨gm, hb⟩ := Gr.mk1 (o := .lst (rgV 0 n)) g1.s hl
      have rr : RpA B1 (rgV 0 n) (rangeI 0 n.toNat) := by have z := RpA.range (B := B1) 0 n; rw [Int.sub_zero] at z; exact z
      exact q _ B1 _ l _ (e0.trans e2) (g1.trans gm) (g1.none hl) hb upd_same rr
    · rw [show lrg1 (.int n) = .bad from if_neg hr] at w1; exact w1.elim
  | _ => exact w1.elim
/-! len(set(xs)), xs ints -/
def metI (ns : List Int) : List Int := PyProof.Rows.firstMet (fun i => ns.getD i 0) ns.length
def lenSetD : D → R D
  | .list ds => match intsD ds with
    | some ns => if ns.length ≤ 4000 then .ok (.int (metI ns).length) else .bad
    | none => .bad
  | _ => .bad
def tLenSet (K : PySem.W.Frag) (ta : TE) : TE := fun σ H Q => ta σ H fun x H1 => ∃ (l : Addr) (ns : List Int), x = .ref l ∧ SqL K H1 l (ns.map V.int) ∧ ns.length ≤ 4000 ∧ Q (.int ((metI ns).length : Nat)) H1
end
section
open PyProof.Rows PySem.Calls
theorem ints_vals : ∀ {ns : List Int} {us : List Value}, Vals (ns.map V.int) us → PyProof.Rows.IntsAre us ns
  | [], _, .nil => .nil
  | n :: ns, _, .cons r t => by
    obtain ⟨k, rfl⟩ := r
    exact .cons n k (ints_vals t)
theorem pe_lenSet {X : Cx} {a : Expr} {ta : TE} {p p2 q pos : Pos} (hg : Gl X "len") (hm : X.mg "len" = none) (hg2 : Gl X "set") (hm2 : X.mg "set" = none) (ha : PE X a ta) (hc : X.calm = true)
    (na : starEach [a] X.env = (false, eval a X.env) :: starEach [] X.env) : PE X (.Call (.Name "len" p) [.Call (.Name "set" p2) [a] [] q] [] pos) (tLenSet X.K ta) := by
  refine ⟨fun pins s σ H Q I h => ?_⟩
  refine Call_ (ld_blt I hg hm boot_len ?_)
  refine PyProof.Rows.callWith_builtin1 (PyProof.Rows.args_cons ?_ rfl) rfl rfl
  refine Call_ (ld_blt I hg2 hm2 boot_set ?_)
  refine PyProof.Rows.callWith_type1 (PyProof.Rows.args_cons (thn (ha.run pins s σ H _ I h) fun v s1 ⟨x, H1, I1, r1, q1⟩ => PyProof.Rows.args_nil ?_) na) na rfl
  obtain ⟨l, ns, rfl, hq, hl, q1⟩ := q1
  cases r1
  obtain ⟨its, r, pl, hz⟩ := I1.list hq
  have hlen : its.toArray.size = ns.length := by rw [List.size_toArray, ← r.length, List.length_map]
  have hml : (metI ns).length ≤ ns.length := firstMet_length_le _ _
  refine call_set_list (I1.ok.hd hc) pl.isList (by simpa using ints_vals r) (by rw [hlen]; unfold scanBound; omega) fun h' tk hS hk => ?_
  refine PyProof.Rows.args_nil ?_
  rw [hlen] at hS
  obtain ⟨o, es, ep, t, ho, hex, hd, _, _, _, hf, hn⟩ := hS
  have I2 : Inv X pins σ H1 { s1 with heap := h', toks := tk } := I1.kept fun b o e => hk b o (Heap.lt_size e) e
  have hn' : es.size = (metI ns).length := hn
  exact call_len_set ho hex hd hf (by rw [hn'] <;> omega) ⟨.int (metI ns).length, H1, I2.tok _, ⟨_, by rw [hn']⟩, q1⟩
end
section
variable {C : Cx → Prop} {P : Program} {w : World} {K : PySem.W.Frag} {mg : Str → Option Value} {base : Heap} {k : Nat} {W : WX} {N : List Str} {sc : Scope}
variable {a b e : Expr} {es rest : List Expr} {fa fb fc : Env → R D} {fs : Env → R (List D)} {pos p p2 p3 : Pos} {x : Str} {i : Nat} {ta tb : TE} {tt tu : TT} {tr : TA}
theorem de_lenset {q1 q2 : Pos} (c : Cxs C P w K mg base k W N sc) (g : Gm sc "len") (m : mg "len" = none) (g2 : Gm sc "set") (m2 : mg "set" = none) (ha : DE C K mg W a fa)
    (he : ∀ X, C X → starEach [a] X.env = (false, eval a X.env) :: starEach [] X.env := by intro _ _; rfl) :
    DE C K mg W (.Call (.Name "len" p) [.Call (.Name "set" q1) [a] [] q2] [] pos) (fun ρ => (fa ρ).bind lenSetD) := by
  obtain ⟨ta, pa, va⟩ := ha
  refine ⟨tLenSet K ta, fun X h => ?_, ?_⟩
  · have e := c.hK X h
    subst e
    exact pe_lenSet (g.gl c X h) (by rw [c.hmg X h]; exact m) (g2.gl c X h) (by rw [c.hmg X h]; exact m2) (pa X h) (c.calm X h) (he X h)
  · intro B0 H0 B H σ ρ Q gd wx q
    refine va B0 H0 B H σ ρ _ gd wx.of_bind fun d B1 H1 v e1 g1 r1 => ?_
    have w1 := wx.then e1
    have e0 : (fa ρ).bind lenSetD = _ := bind_eq e1
    cases r1 with
    | @lst p xs ds hp ax =>
      cases hb : intsD ds with
      | none => simp only [lenSetD, hb] at w1; exact w1.elim
      | some ns =>
        have := intsD_eq hb
        subst this
        have := ax.ints
        subst this
        by_cases hl : ns.length ≤ 4000
        · have e2 : lenSetD (.list (ns.map .int)) = .ok (.int (metI ns).length) := by simp only [lenSetD, hb, if_pos hl]
          exact ⟨p, ns, rfl, SqL.of (g1.s _ _ hp), hl, q _ B1 H1 _ (e0.trans e2) g1 (.int _)⟩
        · simp only [lenSetD, hb, if_neg hl] at w1; exact w1.elim
    | _ => exact w1.elim
end
end DL
set_option Elab.async false
set_option linter.all false
set_option maxRecDepth 100000
set_option maxHeartbeats 1000000
namespace DL
open PySem L2

/-! ### the state, stored to -/
section
variable {K : PySem.W.Frag} {B0 H0 B H : Hp} {σ : St} {ρ : Env} {i : Nat}
theorem Gd.lt (g : Gd K B0 H0 B H σ ρ) (h : i < ρ.length) : i < σ.length := by rw [g.len]; exact h
theorem Gd.set {v : V} {d : D} (g : Gd K B0 H0 B H σ ρ) (r : Rp B v d) : Gd K B0 H0 B H (σ.set i (some v)) (ρ.set i (.dat d)) := by
  refine ⟨g.sub0, g.sub, g.old, g.oldB, by rw [List.length_set, List.length_set]; exact g.len, fun j s e => ?_, fun j l ds es a e1 e2 e3 e4 => ?_⟩
  · by_cases hj : i = j
    · subst hj
      by_cases hl : i < ρ.length
      · rw [List.getElem?_set_self hl] at e; cases e
        exact ⟨v, by rw [List.getElem?_set_self (g.lt hl)], r⟩
      · rw [List.getElem?_eq_none (by simpa using hl)] at e; cases e
    · rw [List.getElem?_set_ne hj] at e ⊢
      exact g.slots j s e
  · have nj : ∀ {j : Nat} {ds : List D}, (ρ.set i (.dat d))[j]? = some (.own ds) → i ≠ j ∧ ρ[j]? = some (.own ds) := fun {j ds} e => by
      by_cases hj : i = j
      · subst hj
        by_cases hl : i < ρ.length
        · rw [List.getElem?_set_self hl] at e; cases e
        · rw [List.getElem?_eq_none (by simpa using hl)] at e; cases e
      · rw [List.getElem?_set_ne hj] at e; exact ⟨hj, e⟩
    obtain ⟨n1, e1'⟩ := nj e1
    obtain ⟨n2, e2'⟩ := nj e2
    rw [List.getElem?_set_ne n1] at e3
    rw [List.getElem?_set_ne n2] at e4
    exact g.apart j l ds es a e1' e2' e3 e4
/-- a slot forgotten -/
theorem Gd.clr {o : Option V} (g : Gd K B0 H0 B H σ ρ) : Gd K B0 H0 B H (σ.set i o) (ρ.set i .no) := by
  refine ⟨g.sub0, g.sub, g.old, g.oldB, by rw [List.length_set, List.length_set]; exact g.len, fun j s e => ?_, fun j l ds es a e1 e2 e3 e4 => ?_⟩
  · by_cases hj : i = j
    · subst hj
      by_cases hl : i < ρ.length
      · rw [List.getElem?_set_self hl] at e; cases e; exact True.intro
      · rw [List.getElem?_eq_none (by simpa using hl)] at e; cases e
    · rw [List.getElem?_set_ne hj] at e ⊢
      exact g.slots j s e
  · have nj : ∀ {j : Nat} {ds : List D}, (ρ.set i .no)[j]? = some (.own ds) → i ≠ j ∧ ρ[j]? = some (.own ds) := fun {j ds} e => by
      by_cases hj : i = j
      · subst hj
        by_cases hl : i < ρ.length
        · rw [List.getElem?_set_self hl] at e; cases e
        · rw [List.getElem?_eq_none (by simpa using hl)] at e; cases e
      · rw [List.getElem?_set_ne hj] at e; exact ⟨hj, e⟩
    obtain ⟨n1, e1'⟩ := nj e1
    obtain ⟨n2, e2'⟩ := nj e2
    rw [List.getElem?_set_ne n1] at e3
    rw [List.getElem?_set_ne n2] at e4
    exact g.apart j l ds es a e1' e2' e3 e4
/-- a new list's slot -/
theorem Gd.setL {B' H' : Hp} {p : Addr} {vs : List V} {ds : List D} (g0 : Gd K B0 H0 B H σ ρ) (r : Gr B H B' H') (h0 : H p = none) (h1 : B' p = none) (h2 : H' p = some (.lst vs)) (ra : RpA B' vs ds) :
    Gd K B0 H0 B' H' (σ.set i (some (.ref p))) (ρ.set i (.own ds)) := by
  have g := g0.grow r
  have far : ∀ {j : Nat} {es : List D} {a : Addr}, ρ[j]? = some (.own es) → σ[j]? = some (some (.ref a)) → a ≠ p := fun {j es a} e1 e2 => by
    obtain ⟨a', us, q1, q2, _⟩ := g0.slots j _ e1
    rw [e2] at q1; cases q1
    exact ne_of_none q2 h0
  refine ⟨g.sub0, g.sub, g.old, g.oldB, by rw [List.length_set, List.length_set]; exact g.len, fun j s e => ?_, fun j l xs ys a e1 e2 e3 e4 => ?_⟩
  · by_cases hj : i = j
    · subst hj
      by_cases hl : i < ρ.length
      · rw [List.getElem?_set_self hl] at e; cases e
        exact ⟨p, vs, by rw [List.getElem?_set_self (g.lt hl)], h2, h1, g0.old.free h0, ra⟩
      · rw [List.getElem?_eq_none (by simpa using hl)] at e; cases e
    · rw [List.getElem?_set_ne hj] at e ⊢
      exact g.slots j s e
  · have at_ : ∀ {j : Nat} {xs : List D}, (ρ.set i (Sl.own ds))[j]? = some (Sl.own xs) → (σ.set i (some (.ref p)))[j]? = some (some (.ref a)) → (i = j ∧ a = p) ∨ (i ≠ j ∧ ρ[j]? = some (.own xs) ∧ σ[j]? = some (some (.ref a))) := fun {j xs} e e' => by
      by_cases hj : i = j
      · subst hj
        by_cases hl : i < ρ.length
        · rw [List.getElem?_set_self (g.lt hl)] at e'; cases e'; exact .inl ⟨rfl, rfl⟩
        · rw [List.getElem?_eq_none (by simpa using hl)] at e; cases e
      · rw [List.getElem?_set_ne hj] at e e'; exact .inr ⟨hj, e, e'⟩
    rcases at_ e1 e3 with ⟨z1, z2⟩ | ⟨n1, f1, f3⟩
    · rcases at_ e2 e4 with ⟨z3, _⟩ | ⟨n2, f2, f4⟩
      · exact z1.symm.trans z3
      · exact absurd z2 (far f2 f4)
    · rcases at_ e2 e4 with ⟨_, z4⟩ | ⟨n2, f2, f4⟩
      · exact absurd z4 (far f1 f3)
      · exact g.apart j l xs ys a f1 f2 f3 f4
/-- an owned list changed -/
theorem Gd.mut {a : Addr} {vs' : List V} {ds ds' : List D} (g : Gd K B0 H0 B H σ ρ) (e : ρ[i]? = some (.own ds)) (hs : σ[i]? = some (some (.ref a))) (ra : RpA B vs' ds') :
    Gd K B0 H0 B (upd H a (.lst vs')) σ (ρ.set i (.own ds')) := by
  obtain ⟨a', vs, q1, q2, q3, q4, q5⟩ := g.slots i _ e
  rw [hs] at q1; cases q1
  have hl : i < ρ.length := (List.getElem?_eq_some_iff.mp e).1
  refine ⟨g.sub0, fun x u hx => ?_, fun x u hx => ?_, g.oldB, by rw [List.length_set]; exact g.len, fun j s ej => ?_, fun j l xs ys b e1 e2 e3 e4 => ?_⟩
  · rw [upd_ne (ne_of_none hx q3)]; exact g.sub _ _ hx
  · rw [upd_ne (ne_of_none hx q4)]; exact g.old _ _ hx
  · by_cases hj : i = j
    · subst hj
      rw [List.getElem?_set_self hl] at ej; cases ej
      exact ⟨a, vs', hs, upd_same, q3, q4, ra⟩
    · rw [List.getElem?_set_ne hj] at ej
      have z := g.slots j s ej
      cases s with
      | no => exact True.intro
      | dat d => exact z
      | scr ns => exact z
      | own es =>
        obtain ⟨b, us, z1, z2, z3, z4, z5⟩ := z
        have nb : b ≠ a := fun z => hj (g.apart i j ds es a e ej hs (by rw [z1, z]))
        exact ⟨b, us, z1, by rw [upd_ne nb]; exact z2, z3, z4, z5⟩
  · have at_ : ∀ {j : Nat} {xs : List D}, (ρ.set i (Sl.own ds'))[j]? = some (Sl.own xs) → ∃ ys : List D, ρ[j]? = some (Sl.own ys) := fun {j xs} e' => by
      by_cases hj : i = j
      · subst hj; exact ⟨ds, e⟩
      · rw [List.getElem?_set_ne hj] at e'; exact ⟨xs, e'⟩
    obtain ⟨y1, f1⟩ := at_ e1
    obtain ⟨y2, f2⟩ := at_ e2
    exact g.apart j l y1 y2 b f1 f2 e3 e4
/-- an owned list becomes a datum -/
theorem Gd.freeze {a : Addr} {vs : List V} {ds : List D} (g : Gd K B0 H0 B H σ ρ) (e : ρ[i]? = some (.own ds)) (hs : σ[i]? = some (some (.ref a))) (hH : H a = some (.lst vs)) :
    Gd K B0 H0 (upd B a (.lst vs)) H σ (ρ.set i (.dat (.list ds))) ∧ Same B (upd B a (.lst vs)) := by
  obtain ⟨a', vs', q1, q2, q3, q4, q5⟩ := g.slots i _ e
  rw [hs] at q1; cases q1
  rw [hH] at q2; cases q2
  have sB : Same B (upd B a (.lst vs)) := Same.upd q3
  have hl : i < ρ.length := (List.getElem?_eq_some_iff.mp e).1
  refine ⟨⟨g.sub0, fun x u hx => ?_, g.old, fun x u hx => ?_, by rw [List.length_set]; exact g.len, fun j s ej => ?_, fun j l xs ys b e1 e2 e3 e4 => ?_⟩, sB⟩
  · by_cases hxa : x = a
    · subst hxa; rw [upd_same] at hx; cases hx; exact hH
    · rw [upd_ne hxa] at hx; exact g.sub _ _ hx
  · rw [upd_ne (ne_of_none hx q4)]; exact g.oldB _ _ hx
  · by_cases hj : i = j
    · subst hj
      rw [List.getElem?_set_self hl] at ej; cases ej
      exact ⟨_, hs, .lst upd_same (q5.mono sB)⟩
    · rw [List.getElem?_set_ne hj] at ej
      have z := g.slots j s ej
      cases s with
      | no => exact True.intro
      | dat d => obtain ⟨v, z1, z2⟩ := z; exact ⟨v, z1, z2.mono sB⟩
      | scr ns => obtain ⟨b, z1, z2⟩ := z; exact ⟨b, z1, sB.seq z2⟩
      | own es =>
        obtain ⟨b, us, z1, z2, z3, z4, z5⟩ := z
        have nb : b ≠ a := fun z => hj (g.apart i j ds es a e ej hs (by rw [z1, z]))
        exact ⟨b, us, z1, z2, by rw [upd_ne nb]; exact z3, z4, z5.mono sB⟩
  · have at_ : ∀ {j : Nat} {xs : List D}, (ρ.set i (Sl.dat (.list ds)))[j]? = some (Sl.own xs) → ρ[j]? = some (Sl.own xs) := fun {j xs} e' => by
      by_cases hj : i = j
      · subst hj; rw [List.getElem?_set_self hl] at e'; cases e'
      · rw [List.getElem?_set_ne hj] at e'; exact e'
    exact g.apart j l xs ys b (at_ e1) (at_ e2) e3 e4
end
/-- B may grow while H stays -/
theorem Gd.wipeG {K : PySem.W.Frag} {B0 H0 B H : Hp} {σ : St} {ρ : Env} (g : Gd K B0 H0 B H σ ρ) : ∀ vs : List Nat, Gd K B0 H0 B H (wipe σ vs) (vs.foldr (fun i r => r.set i .no) ρ)
  | [] => g
  | v :: vs => by
    unfold wipe
    rw [List.foldr_cons]
    exact (g.wipeG vs).clr

/-! ### what is walked -/
structure Walk (K : PySem.W.Frag) (B : Hp) (J : It) (ds : List D) : Prop where
  go : ∀ (B' H' : Hp) (i : Nat), Same B B' → Same B' H' → i < ds.length → J.go i H'
  yld : ∀ (B' H' : Hp) (i : Nat) (d : D) (x : V) (H2 : Hp), Same B B' → Same B' H' → ds[i]? = some d → J.yld i H' x H2 → ∃ B2, Gr B' H' B2 H2 ∧ Rp B2 x d
  stop : ∀ (B' H' : Hp) (i : Nat), Same B B' → Same B' H' → ds.length ≤ i → J.stop i H'
def EvI (K : PySem.W.Frag) (mg : Str → Option Value) (W : WX) (wi : TI) (f : Env → R (List D)) : Prop := ∀ (B0 H0 B H : Hp) (σ : St) (ρ : Env) (Rr : It → Hp → Prop), Gd K B0 H0 B H σ ρ → Wx mg W H0 σ (f ρ) →
  (∀ ds B' H' J, f ρ = .ok ds → Gr B H B' H' → Walk K B' J ds → Rr J H') → wi σ H Rr
def DI (C : Cx → Prop) (K : PySem.W.Frag) (mg : Str → Option Value) (W : WX) (tg iter : Expr) (f : Env → R (List D)) : Prop := ∃ wi, (∀ X, C X → PI X tg iter wi) ∧ EvI K mg W wi f
theorem walk_list {K : PySem.W.Frag} {B : Hp} {a : Addr} {xs : List V} {ds : List D} (h : B a = some (.lst xs)) (r : RpA B xs ds) : Walk K B (Itl K a) ds where
  go := fun B' H' i s1 s2 hi => by
    obtain ⟨v, h1, _⟩ := r.get (List.getElem?_eq_getElem hi)
    exact ⟨xs, v, SqL.of (s2 _ _ (s1 _ _ h)), h1⟩
  yld := fun B' H' i d x H2 s1 s2 e y => by
    obtain ⟨rfl, y2⟩ := y
    obtain ⟨v, h1, h2⟩ := r.get e
    have ev : v = x := Option.some.inj (h1.symm.trans (y2 xs (SqL.of (s2 _ _ (s1 _ _ h)))))
    subst ev
    exact ⟨B', Gr.refl s2, h2.mono s1⟩
  stop := fun B' H' i s1 s2 hi => ⟨xs, SqL.of (s2 _ _ (s1 _ _ h)), by rw [r.length]; exact hi⟩
theorem walk_tup {K : PySem.W.Frag} {B : Hp} {a : Addr} {xs : List V} {ds : List D} (h : B a = some (.tup xs)) (r : RpA B xs ds) : Walk K B (Itt K a) ds where
  go := fun B' H' i s1 s2 hi => by
    obtain ⟨v, h1, _⟩ := r.get (List.getElem?_eq_getElem hi)
    exact ⟨xs, v, SqT.of (s2 _ _ (s1 _ _ h)), h1⟩
  yld := fun B' H' i d x H2 s1 s2 e y => by
    obtain ⟨rfl, y2⟩ := y
    obtain ⟨v, h1, h2⟩ := r.get e
    have ev : v = x := Option.some.inj (h1.symm.trans (y2 xs (SqT.of (s2 _ _ (s1 _ _ h)))))
    subst ev
    exact ⟨B', Gr.refl s2, h2.mono s1⟩
  stop := fun B' H' i s1 s2 hi => ⟨xs, SqT.of (s2 _ _ (s1 _ _ h)), by rw [r.length]; exact hi⟩
theorem walk_range {K : PySem.W.Frag} {B : Hp} (lo : Int) (n : Nat) : Walk K B (Itr lo n) (rangeI lo n) where
  go := fun B' H' i s1 s2 hi => by unfold rangeI at hi; rw [List.length_map, List.length_range] at hi; exact hi
  yld := fun B' H' i d x H2 s1 s2 e y => by
    obtain ⟨rfl, rfl⟩ := y
    unfold rangeI at e
    rw [List.getElem?_map] at e
    obtain ⟨j, e1, rfl⟩ := Option.map_eq_some_iff.mp e
    obtain ⟨hi, rfl⟩ := List.getElem?_eq_some_iff.mp e1
    rw [List.getElem_range]
    exact ⟨B', Gr.refl s2, .int _⟩
  stop := fun B' H' i s1 s2 hi => by unfold rangeI at hi; rw [List.length_map, List.length_range] at hi; exact hi
/-- the items with their places -/
def enumI (ds : List D) : List D := (List.range ds.length).zipWith (fun i d => .tuple [.int (i : Nat), d]) ds
theorem enumI_length (ds : List D) : (enumI ds).length = ds.length := by unfold enumI; rw [List.length_zipWith, List.length_range, Nat.min_self]
theorem enumI_get {ds : List D} {i : Nat} {e : D} (h : (enumI ds)[i]? = some e) : ∃ d, ds[i]? = some d ∧ e = .tuple [.int (i : Nat), d] := by
  have hl : i < ds.length := by rw [← enumI_length]; exact (List.getElem?_eq_some_iff.mp h).1
  unfold enumI at h
  rw [List.getElem?_zipWith, List.getElem?_eq_getElem hl, List.getElem?_eq_getElem (by rw [List.length_range]; exact hl), List.getElem_range] at h
  exact ⟨_, List.getElem?_eq_getElem hl, (Option.some.inj h).symm⟩
theorem walk_enum {K : PySem.W.Frag} {B : Hp} {a : Addr} {xs : List V} {ds : List D} (h : B a = some (.lst xs)) (r : RpA B xs ds) : Walk K B (Ite K a) (enumI ds) where
  go := fun B' H' i s1 s2 hi => by
    rw [enumI_length] at hi
    obtain ⟨v, h1, _⟩ := r.get (List.getElem?_eq_getElem hi)
    exact ⟨xs, v, SqL.of (s2 _ _ (s1 _ _ h)), h1⟩
  yld := fun B' H' i e x H2 s1 s2 he y => by
    obtain ⟨d, hd, rfl⟩ := enumI_get he
    obtain ⟨T, x', rfl, hT, rfl, y2⟩ := y
    obtain ⟨v, h1, h2⟩ := r.get hd
    have ev : v = x' := Option.some.inj (h1.symm.trans (y2 xs (SqL.of (s2 _ _ (s1 _ _ h)))))
    subst ev
    have g := Gr.new (o := .tup [.int (i : Nat), v]) s2 hT
    exact ⟨_, g, .tup upd_same (.cons (.int _) (.cons ((h2.mono s1).mono g.b) .nil))⟩
  stop := fun B' H' i s1 s2 hi => by
    rw [enumI_length] at hi
    exact ⟨xs, SqL.of (s2 _ _ (s1 _ _ h)), by rw [r.length]; exact hi⟩

section
variable {C : Cx → Prop} {P : Program} {w : World} {K : PySem.W.Frag} {mg : Str → Option Value} {base : Heap} {k : Nat} {W : WX} {N : List Str} {sc : Scope}
variable {a b e tg : Expr} {es rest : List Expr} {fa fb fc : Env → R D} {fs : Env → R (List D)} {pos p p2 p3 : Pos} {x : Str} {i : Nat} {ta tb : TE} {tt tu : TT} {tr : TA}
/-! the items of a datum that is walked by a for: a list's, a tuple's (by the text's own rule) -/
def itemsL : D → R (List D)
  | .list ds => .ok ds
  | _ => .bad
def itemsT : D → R (List D)
  | .tuple ds => .ok ds
  | _ => .bad
theorem di_list (c : Cxs C P w K mg base k W N sc) (ha : DE C K mg W a fa) : DI C K mg W tg a (fun ρ => (fa ρ).bind itemsL) := by
  obtain ⟨ta, pa, va⟩ := ha
  refine ⟨iList K ta, fun X h => ?_, ?_⟩
  · have e := c.hK X h
    subst e
    exact pi_list (pa X h)
  · intro B0 H0 B H σ ρ Rr gd wx q
    refine va B0 H0 B H σ ρ _ gd wx.of_bind fun d B1 H1 v e1 g1 r1 => ?_
    have w1 := wx.then e1
    have e0 : (fa ρ).bind itemsL = _ := bind_eq e1
    cases r1 with
    | @lst p xs ds hp ax => exact ⟨p, rfl, ⟨xs, SqL.of (g1.s _ _ hp)⟩, q ds B1 H1 _ e0 g1 (walk_list hp ax)⟩
    | _ => exact w1.elim
theorem di_tup (c : Cxs C P w K mg base k W N sc) (ha : DE C K mg W a fa) : DI C K mg W tg a (fun ρ => (fa ρ).bind itemsT) := by
  obtain ⟨ta, pa, va⟩ := ha
  refine ⟨iTup K ta, fun X h => ?_, ?_⟩
  · have e := c.hK X h
    subst e
    exact pi_tup (pa X h)
  · intro B0 H0 B H σ ρ Rr gd wx q
    refine va B0 H0 B H σ ρ _ gd wx.of_bind fun d B1 H1 v e1 g1 r1 => ?_
    have w1 := wx.then e1
    have e0 : (fa ρ).bind itemsT = _ := bind_eq e1
    cases r1 with
    | @tup p xs ds hp ax => exact ⟨p, rfl, ⟨xs, SqT.of (g1.s _ _ hp)⟩, q ds B1 H1 _ e0 g1 (walk_tup hp ax)⟩
    | _ => exact w1.elim
def rg1 : D → R (List D)
  | .int n => if rgOk 0 n then .ok (rangeI 0 n.toNat) else .bad
  | _ => .bad
theorem di_range1 (c : Cxs C P w K mg base k W N sc) (g : Gm sc "range") (m : mg "range" = none) (ha : DE C K mg W a fa)
    (hs : ∀ X, C X → starEach [a] X.env = [(false, eval a X.env)] := by intro _ _; rfl) : DI C K mg W tg (.Call (.Name "range" p) [a] [] pos) (fun ρ => (fa ρ).bind rg1) := by
  obtain ⟨ta, pa, va⟩ := ha
  refine ⟨_, fun X h => pi_range1 (g.gl c X h) (by rw [c.hmg X h]; exact m) (pa_cons (pa X h) pa_nil (hs X h)) (hs X h), ?_⟩
  intro B0 H0 B H σ ρ Rr gd wx q
  refine va B0 H0 B H σ ρ _ gd wx.of_bind fun d B1 H1 v e1 g1 r1 => ?_
  have w1 := wx.then e1
  have e0 : (fa ρ).bind rg1 = _ := bind_eq e1
  cases r1 with
  | int n =>
    by_cases hr : rgOk 0 n = true
    · have e2 : rg1 (.int n) = .ok (rangeI 0 n.toNat) := if_pos hr
      have hr' := rgOk_is hr
      exact ⟨n, rfl, hr'.2.2.1, hr'.2.2.2.1, q _ B1 H1 _ (e0.trans e2) g1 (walk_range 0 n.toNat)⟩
    · rw [show rg1 (.int n) = .bad from if_neg hr] at w1; exact w1.elim
  | _ => exact w1.elim
def rg2 : D → D → R (List D)
  | .int m, .int n => if rgOk m n then .ok (rangeI m (n - m).toNat) else .bad
  | _, _ => .bad
theorem di_range2 (c : Cxs C P w K mg base k W N sc) (g : Gm sc "range") (m : mg "range" = none) (ha : DE C K mg W a fa) (hb : DE C K mg W b fb)
    (hs : ∀ X, C X → starEach [a, b] X.env = [(false, eval a X.env), (false, eval b X.env)] := by intro _ _; rfl) (hs2 : ∀ X, C X → starEach [b] X.env = [(false, eval b X.env)] := by intro _ _; rfl) :
    DI C K mg W tg (.Call (.Name "range" p) [a, b] [] pos) (fun ρ => (fa ρ).bind fun x => (fb ρ).bind fun y => rg2 x y) := by
  obtain ⟨ta, pa, va⟩ := ha; obtain ⟨tb, pb, vb⟩ := hb
  refine ⟨_, fun X h => pi_range2 (g.gl c X h) (by rw [c.hmg X h]; exact m) (pa_cons (pa X h) (pa_cons (pb X h) pa_nil (hs2 X h)) (by rw [hs X h, hs2 X h])) (hs X h) (hs2 X h), ?_⟩
  intro B0 H0 B H σ ρ Rr gd wx q
  refine va B0 H0 B H σ ρ _ gd wx.of_bind fun d B1 H1 v e1 g1 r1 => ?_
  have w1 := wx.then e1
  refine vb B0 H0 B1 H1 σ ρ _ (gd.grow g1) w1.of_bind fun d2 B2 H2 v2 e2 g2 r2 => ?_
  have w2 := w1.then e2
  have e0 : ((fa ρ).bind fun x => (fb ρ).bind fun y => rg2 x y) = rg2 d d2 := (bind_eq e1).trans (bind_eq e2)
  cases r1 with
  | int m' =>
    cases r2 with
    | int n =>
      by_cases hr : rgOk m' n = true
      · have e3 : rg2 (.int m') (.int n) = .ok (rangeI m' (n - m').toNat) := if_pos hr
        have hr' := rgOk_is hr
        exact ⟨m', n, rfl, ⟨hr'.1, hr'.2.1, hr'.2.2.1, hr'.2.2.2.1⟩, q _ B2 H2 _ (e0.trans e3) (g1.trans g2) (walk_range m' (n - m').toNat)⟩
      · rw [show rg2 (.int m') (.int n) = .bad from if_neg hr] at w2; exact w2.elim
    | _ => exact w2.elim
  | _ => cases r2 <;> exact w2.elim
def enumL : D → R (List D)
  | .list ds => .ok (enumI ds)
  | _ => .bad
theorem di_enum {elts : List Expr} {kk : Nat} {tpos : Pos} (c : Cxs C P w K mg base k W N sc) (g : Gm sc "enumerate") (m : mg "enumerate" = none) (ha : DE C K mg W a fa)
    (hs : ∀ X, C X → starEach [a] X.env = [(false, eval a X.env)] := by intro _ _; rfl) : DI C K mg W (.Tuple elts kk tpos) (.Call (.Name "enumerate" p) [a] [] pos) (fun ρ => (fa ρ).bind enumL) := by
  obtain ⟨ta, pa, va⟩ := ha
  refine ⟨iEnum K (tCons ta tNil), fun X h => ?_, ?_⟩
  · have e := c.hK X h
    subst e
    exact pi_enum (g.gl c X h) (by rw [c.hmg X h]; exact m) (pa_cons (pa X h) pa_nil (hs X h)) (hs X h)
  · intro B0 H0 B H σ ρ Rr gd wx q
    refine va B0 H0 B H σ ρ _ gd wx.of_bind fun d B1 H1 v e1 g1 r1 => ?_
    have w1 := wx.then e1
    have e0 : (fa ρ).bind enumL = _ := bind_eq e1
    cases r1 with
    | @lst p xs ds hp ax => exact ⟨p, xs, rfl, SqL.of (g1.s _ _ hp), q _ B1 H1 _ e0 g1 (walk_enum hp ax)⟩
    | _ => exact w1.elim

/-! ### targets -/
def EvG (K : PySem.W.Frag) (g : TG) (tf : D → Env → R Env) (is : List Nat) : Prop := ∀ (B0 H0 B H : Hp) (σ : St) (ρ : Env) (v : V) (d : D) (ρ' : Env) (Q : St → Hp → Prop), Gd K B0 H0 B H σ ρ → Rp B v d → tf d ρ = .ok ρ' →
  (∀ σ', Gd K B0 H0 B H σ' ρ' → (∀ vs : List Nat, (∀ i ∈ is, i ∈ vs) → wipe σ' vs = wipe σ vs) → Q σ' H) → g v σ H Q
def DG (C : Cx → Prop) (K : PySem.W.Frag) (tg : Expr) (tf : D → Env → R Env) (is : List Nat) : Prop := ∃ g, (∀ X, C X → PG X tg g) ∧ EvG K g tf is
theorem wipe_set {σ : St} {i : Nat} {o : Option V} : ∀ {vs : List Nat}, i ∈ vs → wipe (σ.set i o) vs = wipe σ vs
  | v :: vs, h => by
    unfold wipe
    by_cases hi : i ∈ vs
    · rw [wipe_set hi]
    · have e : i = v := by rcases List.mem_cons.mp h with e | e; exact e; exact absurd e hi
      subst e
      have far : ∀ {vs : List Nat}, i ∉ vs → wipe (σ.set i o) vs = (wipe σ vs).set i o := by
        intro vs
        induction vs with
        | nil => intro _; rfl
        | cons u us ih =>
          intro hn
          unfold wipe
          rw [ih (fun z => hn (List.mem_cons_of_mem _ z))]
          exact List.set_comm _ _ (fun z => hn (by rw [z]; exact List.mem_cons_self))
      rw [far hi, List.set_set]
def tgN (i : Nat) : D → Env → R Env := fun d ρ => .ok (ρ.set i (.dat d))
theorem dg_name (c : Cxs C P w K mg base k W N sc) (l : Lm C N sc i x) : DG C K (.Name x pos) (tgN i) [i] := by
  refine ⟨gName i, fun X h => pg_name (by rw [c.hN X h]; exact c.nd) (by rw [c.hN X h]; exact l.at_) (by rw [c.hsc X h]; exact l.loc) ?_, ?_⟩
  · rcases l.fn with z | z
    · exact .inr (by rw [c.hsc X h]; exact z)
    · exact .inl (z X h)
  · intro B0 H0 B H σ ρ v d ρ' Q gd r e q
    cases e
    exact q _ (gd.set r) fun vs h => wipe_set (h i List.mem_cons_self)
def EvGs (K : PySem.W.Frag) (t : TGs) (tf : List D → Env → R Env) (is : List Nat) : Prop := ∀ (B0 H0 B H : Hp) (σ : St) (ρ : Env) (vs : List V) (ds : List D) (ρ' : Env) (Q : St → Hp → Prop), Gd K B0 H0 B H σ ρ → RpA B vs ds → tf ds ρ = .ok ρ' →
  (∀ σ', Gd K B0 H0 B H σ' ρ' → (∀ us : List Nat, (∀ i ∈ is, i ∈ us) → wipe σ' us = wipe σ us) → Q σ' H) → t vs σ H Q
def DGs (C : Cx → Prop) (K : PySem.W.Frag) (tgs : List Expr) (tf : List D → Env → R Env) (is : List Nat) : Prop := ∃ g, (∀ X, C X → PGs X tgs g) ∧ EvGs K g tf is
def tgs0 : List D → Env → R Env := fun ds ρ => match ds with
  | [] => .ok ρ
  | _ => .bad
def tgs1 (f : D → Env → R Env) (g : List D → Env → R Env) : List D → Env → R Env := fun ds ρ => match ds with
  | d :: r => (f d ρ).bind (g r)
  | [] => .bad
theorem dgs_nil : DGs C K [] tgs0 [] := by
  refine ⟨gNil, fun X h => pgs_nil, ?_⟩
  intro B0 H0 B H σ ρ vs ds ρ' Q gd r e q
  cases r with
  | nil => cases e; exact ⟨rfl, q σ gd fun _ _ => rfl⟩
  | cons _ _ => cases e
theorem dgs_cons {f : D → Env → R Env} {g : List D → Env → R Env} {is js : List Nat} (h1 : DG C K e f is) (h2 : DGs C K es g js)
    (hs : ∀ X, C X → (assignEach (e :: es) X.env).map (·.2) = assign e X.env :: (assignEach es X.env).map (·.2) := by intro _ _; rfl) : DGs C K (e :: es) (tgs1 f g) (is ++ js) := by
  obtain ⟨t1, p1, v1⟩ := h1; obtain ⟨t2, p2, v2⟩ := h2
  refine ⟨gCons t1 t2, fun X h => pgs_cons (p1 X h) (p2 X h) (hs X h), ?_⟩
  intro B0 H0 B H σ ρ vs ds ρ' Q gd r e q
  cases r with
  | nil => cases e
  | @cons v vr d dr r1 r2 =>
    refine ⟨v, vr, rfl, ?_⟩
    cases e1 : f d ρ with
    | bad => simp only [tgs1, e1] at e; cases e
    | exc c => simp only [tgs1, e1] at e; cases e
    | ok ρ1 =>
      simp only [tgs1, e1] at e
      refine v1 B0 H0 B H σ ρ v d ρ1 _ gd r1 e1 fun σ1 gd1 w1 => ?_
      exact v2 B0 H0 B H σ1 ρ1 vr dr ρ' Q gd1 r2 e fun σ2 gd2 w2 => q σ2 gd2 fun us hu => (w2 us fun i hi => hu i (List.mem_append_right _ hi)).trans (w1 us fun i hi => hu i (List.mem_append_left _ hi))
def tgT (n : Nat) (g : List D → Env → R Env) : D → Env → R Env := fun d ρ => match d with
  | .tuple ds => if ds.length = n then g ds ρ else .bad
  | _ => .bad
theorem dg_tup {g : List D → Env → R Env} {is : List Nat} {kk n : Nat} (c : Cxs C P w K mg base k W N sc) (h1 : DGs C K es g is)
    (hn : ∀ X, C X → (assignEach es X.env).length = n := by intro _ _; rfl) (hst : ∀ X, C X → (assignEach es X.env).findIdx? (·.1) = none := by intro _ _; rfl) : DG C K (.Tuple es kk pos) (tgT n g) is := by
  obtain ⟨t1, p1, v1⟩ := h1
  refine ⟨gTup K n t1, fun X h => ?_, ?_⟩
  · have e := c.hK X h
    subst e
    exact pg_tup (c.calm X h) (p1 X h) (hn X h) (hst X h)
  · intro B0 H0 B H σ ρ v d ρ' Q gd r e q
    cases r with
    | @tup p xs ds hp ax =>
      by_cases hl : ds.length = n
      · have e' : g ds ρ = .ok ρ' := by
          have z : tgT n g (.tuple ds) ρ = g ds ρ := if_pos hl
          rw [← z]; exact e
        exact ⟨p, xs, rfl, SqT.of (gd.sub _ _ hp), ax.length.trans hl, v1 B0 H0 B H σ ρ xs ds ρ' Q gd ax e' q⟩
      · have z : tgT n g (.tuple ds) ρ = .bad := if_neg hl
        rw [z] at e; cases e
    | _ => cases e
end
end DL
set_option Elab.async false
set_option linter.all false
set_option maxRecDepth 100000
set_option maxHeartbeats 1000000
namespace DL
open PySem L2

section
variable {C : Cx → Prop} {P : Program} {w : World} {K : PySem.W.Frag} {mg : Str → Option Value} {base : Heap} {k : Nat} {W : WX} {N : List Str} {sc : Scope}
variable {a b e tg iter elt : Expr} {es rest ifs : List Expr} {fa fb fc : Env → R D} {fs : Env → R (List D)} {pos p p2 p3 : Pos} {x : Str} {i : Nat} {ta tb : TE} {tt tu : TT} {tr : TA}

/-! ### comprehensions -/
/-- the contexts of a block -/
def blkC (C : Cx → Prop) (scope : Scope) : Cx → Prop := fun Y => ∃ X, C X ∧ ∃ (s : Shared) (H : Hp) (A : Addr) (cl : List (Str × Addr)) (fp : List Addr), Y = X.blk s H scope (compEnvC scope cl A X.env) fp
abbrev W0 : WX := fun _ _ _ _ => False
theorem cxs_blk {scope : Scope} (c : Cxs C P w K mg base k W N sc) : Cxs (blkC C scope) P w K mg base k W0 N (relS scope sc) where
  hP := by rintro _ ⟨X, h, s, H, A, cl, fp, rfl⟩; exact c.hP X h
  hw := by rintro _ ⟨X, h, s, H, A, cl, fp, rfl⟩; exact c.hw X h
  hK := by rintro _ ⟨X, h, s, H, A, cl, fp, rfl⟩; exact c.hK X h
  hmg := by rintro _ ⟨X, h, s, H, A, cl, fp, rfl⟩; exact c.hmg X h
  hbase := by rintro _ ⟨X, h, s, H, A, cl, fp, rfl⟩; exact c.hbase X h
  calm := by rintro _ ⟨X, h, s, H, A, cl, fp, rfl⟩; exact c.calm X h
  room := by rintro _ ⟨X, h, s, H, A, cl, fp, rfl⟩; exact c.room X h
  takes := by rintro _ ⟨X, h, s, H, A, cl, fp, rfl⟩; exact takes0
  own := by rintro _ ⟨X, h, s, H, A, cl, fp, rfl⟩; exact PassesOwn.never
  hN := by rintro _ ⟨X, h, s, H, A, cl, fp, rfl⟩; exact c.hN X h
  hsc := by
    rintro _ ⟨X, h, s, H, A, cl, fp, rfl⟩
    rw [← c.hsc X h]
    rfl
  nd := c.nd
theorem lm_blkCell {scope : Scope} {sc' : Scope} (h1 : N[i]? = some x) (h2 : Loc sc' x) (h3 : scope.names.lookup x = some .cell) : Lm (blkC C scope) N sc' i x :=
  ⟨h1, h2, .inr (by rintro _ ⟨X, h, s, H, A, cl, fp, rfl⟩; show (scope.names.lookup x == some .cell) = true; rw [h3]; rfl)⟩
def DTs (C : Cx → Prop) (K : PySem.W.Frag) (mg : Str → Option Value) (W : WX) (ifs : List Expr) (f : Env → R Bool) : Prop := ∃ t, (∀ X, C X → PTs X ifs t) ∧ EvT K mg W t f
theorem dts_nil : DTs C K mg W [] (fun _ => .ok true) := ⟨tYes, fun _ _ => pts_nil, fun B0 H0 B H σ ρ Q gd _ q => q true B H rfl (Gr.refl gd.sub)⟩
theorem dts_one {ga : Env → R Bool} (h : DT C K mg W a ga) : DTs C K mg W [a] ga :=
  let ⟨ta, pa, va⟩ := h
  ⟨_, fun X h => pts_one (pa X h), va⟩
/-- what the block makes of the items, from the slots ρ -/
def compR (tf : D → Env → R Env) (ft : Env → R Bool) (fe : Env → R D) (ρ : Env) : List D → R (List D)
  | [] => .ok []
  | d :: ds => match tf d ρ with
    | .ok ρ1 => match ft ρ1 with
      | .ok true => match fe ρ1 with
        | .ok e => (compR tf ft fe ρ ds).bind fun r => .ok (e :: r)
        | _ => .bad
      | .ok false => compR tf ft fe ρ ds
      | _ => .bad
    | _ => .bad
def wipeE (own : List Nat) (ρ : Env) : Env := own.foldr (fun i r => r.set i .no) ρ
/-- .. and the whole -/
def lcR (fi : Env → R (List D)) (tf : D → Env → R Env) (ft : Env → R Bool) (fe : Env → R D) (own : List Nat) : Env → R (List D) := fun ρ => (fi ρ).bind fun its => (compR tf ft fe (wipeE own ρ) its).bind fun r => if fits its.length then .ok r else .bad
theorem compR_len {tf : D → Env → R Env} {ft : Env → R Bool} {fe : Env → R D} {ρ : Env} : ∀ {ds r : List D}, compR tf ft fe ρ ds = .ok r → r.length ≤ ds.length
  | [], r, h => by cases h; exact Nat.le_refl _
  | d :: ds, r, h => by
    unfold compR at h
    split at h
    · split at h
      · split at h
        · cases e : compR tf ft fe ρ ds with
          | bad => rw [e] at h; cases h
          | exc c => rw [e] at h; cases h
          | ok r' => rw [e] at h; cases h; have := compR_len e; simp only [List.length_cons]; omega
        · cases h
      · have := compR_len h; simp only [List.length_cons]; omega
      · cases h
    · cases h
theorem compR_noexc {tf : D → Env → R Env} {ft : Env → R Bool} {fe : Env → R D} {ρ : Env} {c : Str} : ∀ {ds : List D}, compR tf ft fe ρ ds ≠ .exc c
  | [], h => by cases h
  | d :: ds, h => by
    unfold compR at h
    split at h
    · split at h
      · split at h
        · cases e : compR tf ft fe ρ ds with
          | bad => rw [e] at h; cases h
          | exc c' => exact compR_noexc e
          | ok r' => rw [e] at h; cases h
        · cases h
      · exact compR_noexc h
      · cases h
    · cases h
theorem el_lc {wi : TI} {g : TG} {tt : TT} {te : TE} {fi : Env → R (List D)} {tf : D → Env → R Env} {ft : Env → R Bool} {fe : Env → R D} {own is : List Nat} (hi : EvI K mg W wi fi) (hg : EvG K g tf is) (ho : ∀ i ∈ is, i ∈ own) (ht : EvT K mg W0 tt ft) (he : Ev K mg W0 te fe) :
    EvL K mg W (tLc wi g tt te own) (lcR fi tf ft fe own) := by
  intro B0 H0 B H σ ρ Q gd wx q
  unfold lcR at wx
  refine hi B0 H0 B H σ ρ _ gd wx.of_bind fun its B1 H1 J e1 g1 wk => ?_
  have w1 := wx.then e1
  have e0 : lcR fi tf ft fe own ρ = _ := bind_eq e1
  cases ec : compR tf ft fe (wipeE own ρ) its with
  | bad => rw [ec] at w1; exact w1.elim
  | exc c => exact (compR_noexc ec).elim
  | ok r =>
    have w2 := w1.then ec
    have e0' := e0.trans (bind_eq ec)
    by_cases hf : fits its.length = true
    · rw [if_pos hf] at e0'
      intro Da hD
      have gd1 := gd.grow g1
      -- the invariant: behind i items the list holds what comes of them; what is left comes of the rest
      refine ⟨fun i m H' => m = its.length - i ∧ i ≤ its.length ∧ ∃ (B' : Hp) (acc : List V) (ds rs : List D), Same B1 B' ∧ Same B' H' ∧ Same H1 H' ∧ (∀ x o, H1 x = some o → B' x = B1 x) ∧ B' Da = none ∧ H' Da = some (.lst acc) ∧ RpA B' acc ds ∧ acc.length ≤ i ∧
        compR tf ft fe (wipeE own ρ) (its.drop i) = .ok rs ∧ r = ds ++ rs, ⟨its.length, by simp, Nat.zero_le _, B1, [], [], r, Same.refl _, ?_, Same.upd hD, fun _ _ _ => rfl, g1.s.free hD, upd_same, .nil, Nat.le_refl _, ec, rfl⟩, ?_⟩
      · exact fun x u z => by rw [upd_ne (ne_of_none (g1.s _ _ z) hD)]; exact g1.s _ _ z
      · rintro i m H' ⟨rfl, hil, B', acc, ds, rs, s1, s2, s3, s4, s5, s6, ra, hal, hc, hr⟩
        have gdN : Gd K B0 H0 B' H' σ ρ := by
          refine ⟨gd1.sub0, s2, gd1.old.trans s3, fun x o z => (s4 x o (gd1.old _ _ z)).trans (gd1.oldB x o z), gd1.len, fun j s z => ?_, gd1.apart⟩
          have y := gd1.slots j s z
          cases s with
          | no => exact True.intro
          | dat d => obtain ⟨v, y1, y2⟩ := y; exact ⟨v, y1, y2.mono s1⟩
          | scr ns => obtain ⟨v, y1, y2⟩ := y; exact ⟨v, y1, s1.seq y2⟩
          | own es =>
            obtain ⟨b, us, y1, y2, y3, y4, y5⟩ := y
            exact ⟨b, us, y1, s3 _ _ y2, (s4 b _ y2).trans y3, y4, y5.mono s1⟩
        by_cases hlt : i < its.length
        · have hd : its[i]? = some its[i] := List.getElem?_eq_getElem hlt
          have hdrop : its.drop i = its[i] :: its.drop (i + 1) := List.drop_eq_getElem_cons hlt
          rw [hdrop] at hc
          refine .inr ⟨wk.go B' H' i s1 s2 hlt, fun H2 => ∃ (B2 : Hp) (acc : List V) (ds rs : List D), Same B1 B2 ∧ Same B2 H2 ∧ Same H1 H2 ∧ (∀ x o, H1 x = some o → B2 x = B1 x) ∧ B2 Da = none ∧ H2 Da = some (.lst acc) ∧ RpA B2 acc ds ∧ acc.length ≤ i + 1 ∧
            compR tf ft fe (wipeE own ρ) (its.drop (i + 1)) = .ok rs ∧ r = ds ++ rs, fun H2 z => ⟨its.length - (i + 1), by omega, rfl, hlt, z⟩, fun y H2 hy => ?_⟩
          obtain ⟨B2, g2, r2⟩ := wk.yld B' H' i _ y H2 s1 s2 hd hy
          have gw : Gd K B0 H0 B2 H2 (wipe σ own) (wipeE own ρ) := (gdN.grow g2).wipeG own
          unfold compR at hc
          cases et : tf its[i] (wipeE own ρ) with
          | bad => rw [et] at hc; cases hc
          | exc _ => rw [et] at hc; cases hc
          | ok ρ1 =>
            simp only [et] at hc
            refine hg B0 H0 B2 H2 _ _ y _ ρ1 _ gw r2 et fun σ1 gσ hwp => ⟨hwp own ho |>.trans ?_, ?_⟩
            · -- the block's own slots are empty already
              have idem : ∀ (vs us : List Nat), (∀ v ∈ us, v ∈ vs) → wipe (wipe σ vs) us = wipe σ vs := by
                intro vs us
                induction us with
                | nil => intro _; rfl
                | cons u us ih =>
                  intro hu
                  have e : wipe (wipe σ vs) (u :: us) = (wipe (wipe σ vs) us).set u none := rfl
                  rw [e, ih fun v hv => hu v (List.mem_cons_of_mem _ hv)]
                  have m : u ∈ vs := hu u List.mem_cons_self
                  clear e ih hu
                  induction vs with
                  | nil => cases m
                  | cons v vs ih2 =>
                    show ((wipe σ vs).set v none).set u none = (wipe σ vs).set v none
                    by_cases huv : u = v
                    · subst huv; rw [List.set_set]
                    · rw [List.set_comm _ _ (Ne.symm huv), ih2 (by rcases List.mem_cons.mp m with z | z; exact absurd z huv; exact z)]
              exact idem own own fun _ h => h
            · cases eb : ft ρ1 with
              | bad => rw [eb] at hc; cases hc
              | exc _ => rw [eb] at hc; cases hc
              | ok b =>
                simp only [eb] at hc
                refine ht B0 H0 B2 H2 σ1 ρ1 _ gσ (by rw [eb]; exact True.intro) fun b' B3 H3 eb' g3 => ?_
                rw [eb] at eb'; cases eb'
                have nD2 : B2 Da = none := by rw [g2.n Da _ s6]; exact s5
                have k3 : B3 Da = none := by rw [g3.n Da _ (g2.h _ _ s6)]; exact nD2
                cases b with
                | false =>
                  exact iteF ⟨B3, acc, ds, rs, (s1.trans g2.b).trans g3.b, g3.s, (s3.trans g2.h).trans g3.h, fun x o z => ((g3.n x o (g2.h _ _ (s3 _ _ z))).trans (g2.n x o (s3 _ _ z))).trans (s4 x o z), k3, g3.h _ _ (g2.h _ _ s6), (ra.mono g2.b).mono g3.b, Nat.le_succ_of_le hal, hc, hr⟩
                | true =>
                  refine iteT ?_
                  cases ee : fe ρ1 with
                  | bad => rw [ee] at hc; cases hc
                  | exc _ => rw [ee] at hc; cases hc
                  | ok ed =>
                    simp only [ee] at hc
                    cases er : compR tf ft fe (wipeE own ρ) (its.drop (i + 1)) with
                    | bad => rw [er] at hc; cases hc
                    | exc _ => rw [er] at hc; cases hc
                    | ok rs' =>
                      rw [er] at hc
                      have hrs : rs = ed :: rs' := by cases hc; rfl
                      refine he B0 H0 B3 H3 σ1 ρ1 _ (gσ.grow g3) (by rw [ee]; exact True.intro) fun ed' B4 H4 v e4 g4 r4 => ?_
                      rw [ee] at e4; cases e4
                      have k4 : B4 Da = none := by rw [g4.n Da _ (g3.h _ _ (g2.h _ _ s6))]; exact k3
                      have d4 : H4 Da = some (.lst acc) := g4.h _ _ (g3.h _ _ (g2.h _ _ s6))
                      have sz : acc.length < sizeLine := by
                        have z := of_decide_eq_true hf
                        rw [sizeLine_eq]; omega
                      refine ⟨acc, d4, sz, B4, acc ++ [v], ds ++ [ed], rs', ((s1.trans g2.b).trans g3.b).trans g4.b, fun x u z => ?_, fun x u z => ?_, fun x o z => (((g4.n x o (g3.h _ _ (g2.h _ _ (s3 _ _ z)))).trans (g3.n x o (g2.h _ _ (s3 _ _ z)))).trans (g2.n x o (s3 _ _ z))).trans (s4 x o z), k4, upd_same,
                        (((ra.mono g2.b).mono g3.b).mono g4.b).append (.cons r4 .nil), ?_, rfl, ?_⟩
                      · rw [upd_ne (ne_of_none z k4)]; exact g4.s _ _ z
                      · have nx : x ≠ Da := ne_of_none z hD
                        rw [upd_ne nx]; exact g4.h _ _ (g3.h _ _ (g2.h _ _ (s3 _ _ z)))
                      · rw [List.length_append]; simp only [List.length_cons, List.length_nil]; omega
                      · rw [hr, hrs, List.append_assoc]; rfl
        · have ei : i = its.length := by omega
          subst ei
          rw [List.drop_length] at hc
          cases hc
          refine .inl ⟨wk.stop B' H' its.length s1 s2 (Nat.le_refl _), ?_⟩
          rw [List.append_nil] at hr
          subst hr
          exact q r B' H' Da acc e0' ⟨g1.b.trans s1, s2, g1.h.trans s3, fun x o z => (s4 x o (g1.h _ _ z)).trans (g1.n x o z)⟩ (g1.h.free hD) s5 s6 ra
    · rw [if_neg hf] at w2; exact w2.elim
theorem dn_lc {scope : Scope} {own : List (Str × Nat)} {fi : Env → R (List D)} {tf : D → Env → R Env} {ft : Env → R Bool} {fe : Env → R D} {is : List Nat} (c : Cxs C P w K mg base k W N sc) (hi : DI C K mg W tg iter fi) (ok : L2.blkC N sc scope own = true)
    (hg : DG (blkC C scope) K tg tf is) (ho : ∀ i ∈ is, i ∈ own.map (·.2)) (ht : DTs (blkC C scope) K mg W0 ifs ft) (he : DE (blkC C scope) K mg W0 elt fe) (hs : ∀ X, C X → ∀ x, foldedSetIterable iter X.env x = pure x := by intro _ _ _; rfl) :
    DN C K mg W (.ListComp elt [⟨tg, iter, ifs, 0⟩] scope pos) (lcR fi tf ft fe (own.map (·.2))) := by
  obtain ⟨wi, p1, v1⟩ := hi; obtain ⟨g, p2, v2⟩ := hg; obtain ⟨tt, p3, v3⟩ := ht; obtain ⟨te, p4, v4⟩ := he
  refine ⟨tLc wi g tt te (own.map (·.2)), fun X h => ?_, el_lc v1 v2 ho v3 v4⟩
  exact pe_lc (own := own) (c.calm X h) (by rw [c.hN X h]; exact c.nd) (p1 X h) (by rw [c.hN X h, c.hsc X h]; exact blkOk_by ok) (fun s H A cl fp => p2 _ ⟨X, h, s, H, A, cl, fp, rfl⟩) (fun s H A cl fp => p3 _ ⟨X, h, s, H, A, cl, fp, rfl⟩) (fun s H A cl fp => p4 _ ⟨X, h, s, H, A, cl, fp, rfl⟩) (hs X h)

/-! ### statements -/
end
inductive Out where
  | bad
  | nx (ρ : Env)
  | rt (d : D)
  | bk (ρ : Env)
  | ct (ρ : Env)
  | exc (c : Str)
def R.out {α : Type} (r : R α) (f : α → Out) : Out := match r with
  | .bad => .bad
  | .ok a => f a
  | .exc c => .exc c
@[simp] theorem R.out_ok {α : Type} (a : α) (f : α → Out) : (R.ok a).out f = f a := R.nr rfl
@[simp] theorem R.out_bad {α : Type} (f : α → Out) : (R.bad : R α).out f = .bad := R.nr rfl
@[simp] theorem R.out_exc {α : Type} (c : Str) (f : α → Out) : (R.exc c : R α).out f = .exc c := R.nr rfl
def Out.then (o : Out) (f : Env → Out) : Out := match o with
  | .nx ρ => f ρ
  | o => o
@[simp] theorem Out.then_nx (ρ : Env) (f : Env → Out) : (Out.nx ρ).then f = f ρ := R.nr rfl
@[simp] theorem Out.then_rt (d : D) (f : Env → Out) : (Out.rt d).then f = .rt d := R.nr rfl
@[simp] theorem Out.then_bad (f : Env → Out) : (Out.bad).then f = .bad := R.nr rfl
@[simp] theorem Out.then_exc (c : Str) (f : Env → Out) : (Out.exc c).then f = .exc c := R.nr rfl
@[simp] theorem Out.then_bk (ρ : Env) (f : Env → Out) : (Out.bk ρ).then f = .bk ρ := R.nr rfl
@[simp] theorem Out.then_ct (ρ : Env) (f : Env → Out) : (Out.ct ρ).then f = .ct ρ := R.nr rfl
section
variable (K : PySem.W.Frag) (mg : Str → Option Value) (W : WX)
/-- what is wanted behind a statement; B stood still at its start -/
def PostS (B0 H0 B : Hp) (E : Ends) : Out → Prop
  | .bad => False
  | .nx ρ => ∀ (B' H' : Hp) (σ' : St), Same B B' → Gd K B0 H0 B' H' σ' ρ → E.nx σ' H'
  | .rt d => ∀ (B' H' : Hp) (v : V), Same B B' → Same B' H' → Same H0 H' → (∀ a o, H0 a = some o → B' a = B0 a) → Rp B' v d → E.rt v H'
  | .bk ρ => ∀ (B' H' : Hp) (σ' : St), Same B B' → Gd K B0 H0 B' H' σ' ρ → E.bk σ' H'
  | .ct ρ => ∀ (B' H' : Hp) (σ' : St), Same B B' → Gd K B0 H0 B' H' σ' ρ → E.ct σ' H'
  | .exc c => ∀ (σ' : St) (H' : Hp) (C : Addr), Same H0 H' → mg c = some (.ref C) → W (.ref C) none σ' H'
def EvS (t : TS) (F : Env → Out) : Prop := ∀ (B0 H0 B H : Hp) (σ : St) (ρ : Env) (E : Ends), Gd K B0 H0 B H σ ρ → PostS K mg W B0 H0 B E (F ρ) → t E σ H
end
section
variable (C : Cx → Prop) (K : PySem.W.Frag) (mg : Str → Option Value) (W : WX)
def DS (st : Stmt) (F : Env → Out) : Prop := ∃ t, (∀ X, C X → PS X st t) ∧ EvS K mg W t F
def DSs (sts : List Stmt) (F : Env → Out) : Prop := ∃ t, (∀ X, C X → PSs X sts t) ∧ EvS K mg W t F
end
section
variable {K : PySem.W.Frag} {mg : Str → Option Value} {W : WX} {B0 H0 B B' : Hp} {E : Ends}
theorem PostS.mono {o : Out} (s : Same B B') (h : PostS K mg W B0 H0 B E o) : PostS K mg W B0 H0 B' E o := by
  cases o with
  | bad => exact h
  | nx ρ => exact fun B2 H2 σ2 s2 g => h B2 H2 σ2 (s.trans s2) g
  | rt d => exact fun B2 H2 v s2 s3 s4 s5 r => h B2 H2 v (s.trans s2) s3 s4 s5 r
  | bk ρ => exact fun B2 H2 σ2 s2 g => h B2 H2 σ2 (s.trans s2) g
  | ct ρ => exact fun B2 H2 σ2 s2 g => h B2 H2 σ2 (s.trans s2) g
  | exc c => exact h
theorem PostS.wx {α : Type} {r : R α} {f : α → Out} {σ : St} (h : PostS K mg W B0 H0 B E (r.out f)) : Wx mg W H0 σ r := by
  cases r with
  | bad => exact h
  | ok a => exact True.intro
  | exc c => exact fun H' C s m => h σ H' C s m
theorem PostS.ok {α : Type} {r : R α} {f : α → Out} {a : α} (h : PostS K mg W B0 H0 B E (r.out f)) (e : r = .ok a) : PostS K mg W B0 H0 B E (f a) := by rw [e] at h; exact h
end

section
variable {C : Cx → Prop} {P : Program} {w : World} {K : PySem.W.Frag} {mg : Str → Option Value} {base : Heap} {k : Nat} {W : WX} {N : List Str} {sc : Scope}
variable {a b e tg iter elt : Expr} {es rest ifs : List Expr} {fa fb fc : Env → R D} {fs : Env → R (List D)} {pos p p2 p3 : Pos} {x : Str} {i : Nat} {ta tb : TE} {tt tu : TT} {tr : TA} {st : Stmt} {sts sts2 : List Stmt} {F G : Env → Out}
/-! blocks -/
theorem dss_nil : DSs C K mg W [] (fun ρ => .nx ρ) := ⟨tNext, fun _ _ => pss_nil, fun B0 H0 B H σ ρ E gd h => h B H σ (Same.refl _) gd⟩
def seqS (F G : Env → Out) : Env → Out := fun ρ => (F ρ).then G
theorem dss_cons (h1 : DS C K mg W st F) (h2 : DSs C K mg W sts G) : DSs C K mg W (st :: sts) (seqS F G) := by
  obtain ⟨t1, p1, v1⟩ := h1; obtain ⟨t2, p2, v2⟩ := h2
  refine ⟨tSeq t1 t2, fun X h => pss_cons (p1 X h) (p2 X h), fun B0 H0 B H σ ρ E gd h => ?_⟩
  refine v1 B0 H0 B H σ ρ { E with nx := t2 E } gd ?_
  unfold seqS at h
  cases e : F ρ with
  | bad => rw [e] at h; exact h
  | nx ρ1 => rw [e] at h; exact fun B' H' σ' s g => v2 B0 H0 B' H' σ' ρ1 E g (PostS.mono s h)
  | rt d => rw [e] at h; exact h
  | bk ρ1 => rw [e] at h; exact h
  | ct ρ1 => rw [e] at h; exact h
  | exc c => rw [e] at h; exact h
theorem dss_one (h1 : DS C K mg W st F) : DSs C K mg W [st] F := by
  obtain ⟨t1, p1, v1⟩ := h1
  exact ⟨t1, fun X h => pss_one (p1 X h), v1⟩
theorem ds_pass : DS C K mg W (.Pass pos) (fun ρ => .nx ρ) := ⟨tNext, fun _ _ => ps_pass, fun B0 H0 B H σ ρ E gd h => h B H σ (Same.refl _) gd⟩
theorem ds_break : DS C K mg W (.Break pos) (fun ρ => .bk ρ) := ⟨tBreak, fun _ _ => ps_break, fun B0 H0 B H σ ρ E gd h => h B H σ (Same.refl _) gd⟩
theorem ds_continue : DS C K mg W (.Continue pos) (fun ρ => .ct ρ) := ⟨tCont, fun _ _ => ps_continue, fun B0 H0 B H σ ρ E gd h => h B H σ (Same.refl _) gd⟩
def retS (fa : Env → R D) : Env → Out := fun ρ => (fa ρ).out fun d => .rt d
theorem ds_ret (ha : DE C K mg W a fa) : DS C K mg W (.Return (some a) pos) (retS fa) := by
  obtain ⟨ta, pa, va⟩ := ha
  refine ⟨tRet ta, fun X h => ps_ret (pa X h), fun B0 H0 B H σ ρ E gd h => ?_⟩
  unfold retS at h
  exact va B0 H0 B H σ ρ _ gd h.wx fun d B1 H1 v e1 g1 r1 => (h.ok e1) B1 H1 v g1.b g1.s (gd.old.trans g1.h) (fun x o z => (gd.grow g1).oldB x o z) r1
theorem ds_retN : DS C K mg W (.Return none pos) (fun _ => .rt .none) := ⟨tRetN, fun _ _ => ps_retN, fun B0 H0 B H σ ρ E gd h => h B H .non (Same.refl _) gd.sub gd.old gd.oldB .non⟩
/-- an expression alone: what it tells is dropped -/
def dropS (fa : Env → R D) : Env → Out := fun ρ => (fa ρ).out fun _ => .nx ρ
theorem ds_expr (ha : DE C K mg W a fa) (hs : ∀ X, C X → swapsWith a none pos.line X.env = pure false := by intro _ _; rfl) : DS C K mg W (.Expr a pos) (dropS fa) := by
  obtain ⟨ta, pa, va⟩ := ha
  refine ⟨tDrop ta, fun X h => ps_expr (pa X h) (hs X h), fun B0 H0 B H σ ρ E gd h => ?_⟩
  unfold dropS at h
  exact va B0 H0 B H σ ρ _ gd h.wx fun d B1 H1 v e1 g1 r1 => (h.ok e1) B1 H1 σ g1.b (gd.grow g1)
/-! stores -/
def setS (i : Nat) (fa : Env → R D) : Env → Out := fun ρ => (fa ρ).out fun d => .nx (ρ.set i (.dat d))
theorem ds_set {pos' : Pos} (c : Cxs C P w K mg base k W N sc) (l : Lm C N sc i x) (ha : DE C K mg W a fa) (hs : ∀ X, C X → swapsWith a (some (.Name x pos')) pos.line X.env = pure false := by intro _ _; rfl) : DS C K mg W (.Assign [.Name x pos'] a pos) (setS i fa) := by
  obtain ⟨ta, pa, va⟩ := ha
  refine ⟨tAsg ta (gName i), fun X h => ps_set (by rw [c.hN X h]; exact c.nd) (by rw [c.hN X h]; exact l.at_) (by rw [c.hsc X h]; exact l.loc) (pa X h) (hs X h) ?_, fun B0 H0 B H σ ρ E gd h => ?_⟩
  · rcases l.fn with z | z
    · exact .inr (by rw [c.hsc X h]; exact z)
    · exact .inl (z X h)
  · unfold setS at h
    exact va B0 H0 B H σ ρ _ gd h.wx fun d B1 H1 v e1 g1 r1 => (h.ok e1) B1 H1 _ g1.b ((gd.grow g1).set r1)
def setL (i : Nat) (fs : Env → R (List D)) : Env → Out := fun ρ => (fs ρ).out fun ds => .nx (ρ.set i (.own ds))
theorem ds_setN {pos' : Pos} (c : Cxs C P w K mg base k W N sc) (l : Lm C N sc i x) (ha : DN C K mg W a fs) (hs : ∀ X, C X → swapsWith a (some (.Name x pos')) pos.line X.env = pure false := by intro _ _; rfl) : DS C K mg W (.Assign [.Name x pos'] a pos) (setL i fs) := by
  obtain ⟨ta, pa, va⟩ := ha
  refine ⟨tAsg ta (gName i), fun X h => ps_set (by rw [c.hN X h]; exact c.nd) (by rw [c.hN X h]; exact l.at_) (by rw [c.hsc X h]; exact l.loc) (pa X h) (hs X h) ?_, fun B0 H0 B H σ ρ E gd h => ?_⟩
  · rcases l.fn with z | z
    · exact .inr (by rw [c.hsc X h]; exact z)
    · exact .inl (z X h)
  · unfold setL at h
    exact va B0 H0 B H σ ρ _ gd h.wx fun ds B1 H1 p vs e1 g1 h0 h1 h2 r1 => (h.ok e1) B1 H1 _ g1.b (gd.setL g1 h0 h1 h2 r1)
/-- y = [..] on one line, y a local: a data slot -/
theorem ds_setLc {scope : Scope} {own : List (Str × Nat)} {fi : Env → R (List D)} {tf : D → Env → R Env} {ft : Env → R Bool} {fe : Env → R D} {is : List Nat} {pos' pl : Pos} (c : Cxs C P w K mg base k W N sc) (hy : N[i]? = some x) (hyl : sc.names.lookup x = some .local)
    (hi : DI C K mg W tg iter fi) (ok : L2.blkC N sc scope own = true)
    (hg : DG (blkC C scope) K tg tf is) (ho : ∀ i ∈ is, i ∈ own.map (·.2)) (ht : DTs (blkC C scope) K mg W0 ifs ft) (he : DE (blkC C scope) K mg W0 elt fe)
    (hl : (pos'.line == pl.line) = true) (hfun : sc.kind = .function) (hno : (scope.names.any fun (n, k) => n == x && (k == .local || k == .cell)) = false)
    (hs : ∀ X, C X → ∀ x, foldedSetIterable iter X.env x = pure x := by intro _ _ _; rfl) :
    DS C K mg W (.Assign [.Name x pos'] (.ListComp elt [⟨tg, iter, ifs, 0⟩] scope pl) pos) (setL i (lcR fi tf ft fe (own.map (·.2)))) := by
  obtain ⟨wi, p1, v1⟩ := hi; obtain ⟨g, p2, v2⟩ := hg; obtain ⟨tt, p3, v3⟩ := ht; obtain ⟨te, p4, v4⟩ := he
  refine ⟨tAsg (tLc wi g tt te (own.map (·.2))) (gName i), fun X h => ?_, fun B0 H0 B H σ ρ E gd h => ?_⟩
  · exact ps_setLc (own := own) (c.calm X h) (by rw [c.hN X h]; exact c.nd) (by rw [c.hN X h]; exact hy) (by rw [c.hsc X h]; exact hyl) (sw_true (by rw [c.hsc X h]; exact hfun) (by rw [c.hsc X h]; exact hyl) hl hno) (p1 X h) (by rw [c.hN X h, c.hsc X h]; exact blkOk_by ok)
      (fun s H A cl fp => p2 _ ⟨X, h, s, H, A, cl, fp, rfl⟩) (fun s H A cl fp => p3 _ ⟨X, h, s, H, A, cl, fp, rfl⟩) (fun s H A cl fp => p4 _ ⟨X, h, s, H, A, cl, fp, rfl⟩) (hs X h)
  · unfold setL at h
    exact el_lc v1 v2 ho v3 v4 B0 H0 B H σ ρ _ gd h.wx fun ds B1 H1 p vs e1 g1 h0 h1 h2 r1 => (h.ok e1) B1 H1 _ g1.b (gd.setL g1 h0 h1 h2 r1)
/-- a slot that owns a list may be taken for a datum -/
def frzE (i : Nat) (ρ : Env) : Env := match ρ[i]? with
  | some (.own ds) => ρ.set i (.dat (.list ds))
  | _ => ρ
theorem Gd.frz {B0 H0 B H : Hp} {σ : St} {ρ : Env} (g : Gd K B0 H0 B H σ ρ) (i : Nat) : ∃ B', Same B B' ∧ Gd K B0 H0 B' H σ (frzE i ρ) := by
  unfold frzE
  split
  · rename_i ds e
    obtain ⟨a, vs, h1, h2, _⟩ := g.slots i _ e
    obtain ⟨z1, z2⟩ := g.freeze e h1 h2
    exact ⟨_, z2, z1⟩
  · exact ⟨B, Same.refl _, g⟩
theorem ds_frz (i : Nat) (h1 : DS C K mg W st F) : DS C K mg W st (fun ρ => F (frzE i ρ)) := by
  obtain ⟨t, p, v⟩ := h1
  refine ⟨t, p, fun B0 H0 B H σ ρ E gd h => ?_⟩
  obtain ⟨B', s, g⟩ := gd.frz i
  exact v B0 H0 B' H σ _ E g (PostS.mono s h)
/-- target = value, the target several names -/
def asgS (tf : D → Env → R Env) (fa : Env → R D) : Env → Out := fun ρ => (fa ρ).out fun d => (tf d ρ).out fun ρ' => .nx ρ'
theorem ds_asg {tf : D → Env → R Env} {is : List Nat} (hne : ∀ d ρ c, tf d ρ ≠ .exc c) (ha : DE C K mg W a fa) (hg : DG C K tg tf is) (hs : ∀ X, C X → swapsWithSole [tg] a pos.line X.env = pure false := by intro _ _; rfl) (hw : ∀ X, C X → swappedStores [tg] a X.env = pure none := by intro _ _; rfl)
    (h1 : ∀ X, C X → (assignEach [tg] X.env).map (·.2) = [assign tg X.env] := by intro _ _; rfl) : DS C K mg W (.Assign [tg] a pos) (asgS tf fa) := by
  obtain ⟨ta, pa, va⟩ := ha; obtain ⟨g, pg, vg⟩ := hg
  refine ⟨tAsg ta g, fun X h => ps_asg (pa X h) (pg X h) (hs X h) (hw X h) (h1 X h), fun B0 H0 B H σ ρ E gd h => ?_⟩
  unfold asgS at h
  refine va B0 H0 B H σ ρ _ gd h.wx fun d B1 H1 v e1 g1 r1 => ?_
  have h2 := h.ok e1
  cases e2 : tf d ρ with
  | bad => rw [e2] at h2; exact h2.elim
  | exc c => exact (hne _ _ _ e2).elim
  | ok ρ' =>
    rw [e2] at h2
    exact vg B0 H0 B1 H1 σ ρ v d ρ' _ (gd.grow g1) r1 e2 fun σ' gσ _ => h2 B1 H1 σ' g1.b gσ
/-- x += e, ints -/
def augS (i : Nat) (fa : Env → R D) : Env → Out := fun ρ => (rdD i ρ).out fun x => (fa ρ).out fun y => match x, y with
  | .int m, .int n => .nx (ρ.set i (.dat (.int (m + n))))
  | _, _ => .bad
theorem ds_aug {pos' : Pos} (c : Cxs C P w K mg base k W N sc) (l : Lm C N sc i x) (ha : DE C K mg W a fa) : DS C K mg W (.AugAssign (.Name x pos') .Add a pos) (augS i fa) := by
  obtain ⟨ta, pa, va⟩ := ha
  refine ⟨_, fun X h => ps_aug (by rw [c.hN X h]; exact c.nd) (by rw [c.hN X h]; exact l.at_) (by rw [c.hsc X h]; exact l.loc) (pa X h) ip_add ?_, fun B0 H0 B H σ ρ E gd h => ?_⟩
  · rcases l.fn with z | z
    · exact .inr (by rw [c.hsc X h]; exact z)
    · exact .inl (z X h)
  · unfold augS at h
    have ex : ∃ d, rdD i ρ = .ok d ∧ ρ[i]? = some (.dat d) := by
      have wx := h.wx (σ := σ)
      unfold rdD at wx ⊢
      split at wx
      · rename_i d h; exact ⟨d, rfl, h⟩
      · exact wx.elim
    obtain ⟨d, e1, e2⟩ := ex
    obtain ⟨v, h1, h2⟩ := gd.dat e2
    have h3 := h.ok e1
    refine ⟨v, h1, va B0 H0 B H σ ρ _ gd h3.wx fun d' B1 H1 v' e1' g1 r1 => ?_⟩
    have h4 := h3.ok e1'
    cases h2 with
    | int m =>
      cases r1 with
      | int n => exact ⟨m, n, rfl, rfl, h4 B1 H1 _ g1.b ((gd.grow g1).set (.int _))⟩
      | _ => exact h4.elim
    | _ => cases r1 <;> exact h4.elim
/-! owned lists changed -/
def rdO (i : Nat) (ρ : Env) : R (List D) := match ρ[i]? with
  | some (.own ds) => .ok ds
  | _ => .bad
theorem rdO_eq {ρ : Env} {ds : List D} (h : rdO i ρ = .ok ds) : ρ[i]? = some (.own ds) := by
  unfold rdO at h
  split at h
  · rename_i es e; cases h; exact e
  · cases h
def appS (i : Nat) (fa : Env → R D) : Env → Out := fun ρ => (rdO i ρ).out fun ds => (fa ρ).out fun d => if fits (ds.length + 1) = true then .nx (ρ.set i (.own (ds ++ [d]))) else .bad
theorem ds_append {apos p1 : Pos} (c : Cxs C P w K mg base k W N sc) (n : Nm N sc i x) (ha : DE C K mg W a fa)
    (pr : ∀ (X : Cx) (t : TE), C X → PE X (.Name x p1) (tVar i) → PE X a t → PE X (.Call (.Attribute (.Name x p1) "append" apos) [a] [] p) (tBM X.K "list" rAppend (tVar i) (tCons t tNil)))
    (hs : ∀ X, C X → swapsWith (.Call (.Attribute (.Name x p1) "append" apos) [a] [] p) none pos.line X.env = pure false := by intro _ _; rfl) :
    DS C K mg W (.Expr (.Call (.Attribute (.Name x p1) "append" apos) [a] [] p) pos) (appS i fa) := by
  obtain ⟨ta, pa, va⟩ := ha
  refine ⟨tDrop (tBM K "list" rAppend (tVar i) (tCons ta tNil)), fun X h => ps_expr ?_ (hs X h), fun B0 H0 B H σ ρ E gd h => ?_⟩
  · have e := pr X ta h (pe_var (by rw [c.hN X h]; exact n.at_) (by rw [c.hsc X h]; exact n.vis) n.d1 n.d2) (pa X h)
    rw [c.hK X h] at e
    exact e
  · unfold appS at h
    cases e1 : rdO i ρ with
    | bad => rw [e1] at h; exact h.elim
    | exc _ => unfold rdO at e1; split at e1 <;> cases e1
    | ok ds =>
      rw [e1] at h
      have eo := rdO_eq e1
      obtain ⟨l, vs, h1, h2, h3, h4, h5⟩ := gd.slots i _ eo
      refine ⟨_, h1, .inl ⟨rfl, _, .inl (.inl h2)⟩, va B0 H0 B H σ ρ _ gd (PostS.wx (f := fun d => _) h) fun d B1 H1 v e2 g1 r1 => ?_⟩
      have h6 := PostS.ok (f := fun d => if fits (ds.length + 1) = true then Out.nx (ρ.set i (.own (ds ++ [d]))) else .bad) h e2
      by_cases hl : fits (ds.length + 1) = true
      · rw [if_pos hl] at h6
        have g := gd.grow g1
        have ra : RpA B1 (vs ++ [v]) (ds ++ [d]) := (h5.mono g1.b).append (.cons r1 .nil)
        exact ⟨l, vs, v, rfl, rfl, g1.h _ _ h2, by have z := of_decide_eq_true hl; rw [sizeLine_eq, h5.length]; omega, h6 B1 _ σ g1.b (g.mut eo h1 ra)⟩
      · rw [if_neg hl] at h6; exact h6.elim
def extS (i : Nat) (fa : Env → R D) : Env → Out := fun ρ => (rdO i ρ).out fun ds => (fa ρ).out fun d => match d with
  | .list es => if fits (ds.length + es.length) = true then .nx (ρ.set i (.own (ds ++ es))) else .bad
  | _ => .bad
theorem ds_extend {apos p1 : Pos} (c : Cxs C P w K mg base k W N sc) (n : Nm N sc i x) (ha : DE C K mg W a fa)
    (pr : ∀ (X : Cx) (t : TE), C X → PE X (.Name x p1) (tVar i) → PE X a t → PE X (.Call (.Attribute (.Name x p1) "extend" apos) [a] [] p) (tBM X.K "list" rExtend (tVar i) (tCons t tNil)))
    (hs : ∀ X, C X → swapsWith (.Call (.Attribute (.Name x p1) "extend" apos) [a] [] p) none pos.line X.env = pure false := by intro _ _; rfl) :
    DS C K mg W (.Expr (.Call (.Attribute (.Name x p1) "extend" apos) [a] [] p) pos) (extS i fa) := by
  obtain ⟨ta, pa, va⟩ := ha
  refine ⟨tDrop (tBM K "list" rExtend (tVar i) (tCons ta tNil)), fun X h => ps_expr ?_ (hs X h), fun B0 H0 B H σ ρ E gd h => ?_⟩
  · have e := pr X ta h (pe_var (by rw [c.hN X h]; exact n.at_) (by rw [c.hsc X h]; exact n.vis) n.d1 n.d2) (pa X h)
    rw [c.hK X h] at e
    exact e
  · unfold extS at h
    cases e1 : rdO i ρ with
    | bad => rw [e1] at h; exact h.elim
    | exc _ => unfold rdO at e1; split at e1 <;> cases e1
    | ok ds =>
      rw [e1] at h
      have eo := rdO_eq e1
      obtain ⟨l, vs, h1, h2, h3, h4, h5⟩ := gd.slots i _ eo
      refine ⟨_, h1, .inl ⟨rfl, _, .inl (.inl h2)⟩, va B0 H0 B H σ ρ _ gd (PostS.wx (f := fun d => _) h) fun d B1 H1 v e2 g1 r1 => ?_⟩
      have h6 := PostS.ok (f := fun d => match d with
        | .list es => if fits (ds.length + es.length) = true then Out.nx (ρ.set i (.own (ds ++ es))) else .bad
        | _ => .bad) h e2
      cases r1 with
      | @lst q ws es hq aq =>
        by_cases hl : fits (ds.length + es.length) = true
        · have h7 : PostS K mg W B0 H0 B E (Out.nx (ρ.set i (.own (ds ++ es)))) := by
            simp only [hl, if_true] at h6
            exact h6
          have g := gd.grow g1
          have ra : RpA B1 (vs ++ ws) (ds ++ es) := (h5.mono g1.b).append aq
          exact ⟨l, q, vs, ws, rfl, rfl, g1.h _ _ h2, g1.s _ _ hq, fits_line (by rw [h5.length, aq.length]; exact hl), h7 B1 _ σ g1.b (g.mut eo h1 ra)⟩
        · simp only [hl] at h6; exact h6.elim
      | _ => exact h6.elim
/-! if, for, while -/
def ifS (g : Env → R Bool) (F G : Env → Out) : Env → Out := fun ρ => (g ρ).out fun b => if b = true then F ρ else G ρ
theorem ds_if {ga : Env → R Bool} (hc : DT C K mg W a ga) (h1 : DSs C K mg W sts F) (h2 : DSs C K mg W sts2 G) : DS C K mg W (.If a sts sts2 pos) (ifS ga F G) := by
  obtain ⟨tc, pc, vc⟩ := hc; obtain ⟨t1, p1, v1⟩ := h1; obtain ⟨t2, p2, v2⟩ := h2
  refine ⟨tIfS tc t1 t2, fun X h => ps_if (pc X h) (p1 X h) (p2 X h), fun B0 H0 B H σ ρ E gd h => ?_⟩
  unfold ifS at h
  refine vc B0 H0 B H σ ρ _ gd h.wx fun b B1 H1 e1 g1 => ?_
  have h3 := h.ok e1
  cases b with
  | true => exact iteT (v1 B0 H0 B1 H1 σ ρ E (gd.grow g1) (PostS.mono g1.b h3))
  | false => exact iteF (v2 B0 H0 B1 H1 σ ρ E (gd.grow g1) (PostS.mono g1.b h3))
/-- a turn's end -/
def turnS (o : Out) (f : Env → Out) : Out := match o with
  | .nx ρ => f ρ
  | .ct ρ => f ρ
  | .bk ρ => .nx ρ
  | o => o
@[simp] theorem turnS_nx (ρ : Env) (f : Env → Out) : turnS (.nx ρ) f = f ρ := R.nr rfl
@[simp] theorem turnS_ct (ρ : Env) (f : Env → Out) : turnS (.ct ρ) f = f ρ := R.nr rfl
@[simp] theorem turnS_bk (ρ : Env) (f : Env → Out) : turnS (.bk ρ) f = .nx ρ := R.nr rfl
@[simp] theorem turnS_rt (d : D) (f : Env → Out) : turnS (.rt d) f = .rt d := R.nr rfl
@[simp] theorem turnS_exc (c : Str) (f : Env → Out) : turnS (.exc c) f = .exc c := R.nr rfl
@[simp] theorem turnS_bad (f : Env → Out) : turnS .bad f = .bad := R.nr rfl
def forS (tf : D → Env → R Env) (body : Env → Out) : List D → Env → Out
  | [], ρ => .nx ρ
  | d :: ds, ρ => (tf d ρ).out fun ρ1 => turnS (body ρ1) (forS tf body ds)
theorem ds_for {fi : Env → R (List D)} {tf : D → Env → R Env} {is : List Nat} (c : Cxs C P w K mg base k W N sc) (hne : ∀ d ρ c, tf d ρ ≠ .exc c) (hi : DI C K mg W tg iter fi) (hg : DG C K tg tf is) (hb : DSs C K mg W sts F)
    (hs : ∀ X, C X → ∀ x, foldedSetIterable iter X.env x = pure x := by intro _ _ _; rfl) : DS C K mg W (.For tg iter sts [] pos) (fun ρ => (fi ρ).out fun its => forS tf F its ρ) := by
  obtain ⟨wi, p1, v1⟩ := hi; obtain ⟨g, p2, v2⟩ := hg; obtain ⟨tb, p3, v3⟩ := hb
  refine ⟨tFor wi g tb, fun X h => ps_for (c.own X h) (c.calm X h) (p1 X h) (p2 X h) (p3 X h) (hs X h), fun B0 H0 B H σ ρ E gd h => ?_⟩
  refine v1 B0 H0 B H σ ρ _ gd h.wx fun its B1 H1 J e1 g1 wk => ?_
  have h1 := PostS.mono g1.b (h.ok e1)
  refine ⟨fun i m σ' H' => m = its.length - i ∧ i ≤ its.length ∧ ∃ B' ρ', Same B1 B' ∧ Gd K B0 H0 B' H' σ' ρ' ∧ PostS K mg W B0 H0 B' E (forS tf F (its.drop i) ρ'), ⟨its.length, by simp, Nat.zero_le _, B1, ρ, Same.refl _, gd.grow g1, h1⟩, ?_⟩
  rintro i m σ' H' ⟨rfl, hil, B', ρ', s1, gd', h2⟩
  by_cases hlt : i < its.length
  · have hd : its[i]? = some its[i] := List.getElem?_eq_getElem hlt
    have hdrop : its.drop i = its[i] :: its.drop (i + 1) := List.drop_eq_getElem_cons hlt
    rw [hdrop] at h2
    refine .inr ⟨wk.go B' H' i s1 gd'.sub hlt, fun σ2 H2 => ∃ B2 ρ2, Same B1 B2 ∧ Gd K B0 H0 B2 H2 σ2 ρ2 ∧ PostS K mg W B0 H0 B2 E (forS tf F (its.drop (i + 1)) ρ2), fun σ2 H2 z => ⟨its.length - (i + 1), by omega, rfl, hlt, z⟩, fun y H2 hy => ?_⟩
    obtain ⟨B2, g2, r2⟩ := wk.yld B' H' i _ y H2 s1 gd'.sub hd hy
    have h3 : PostS K mg W B0 H0 B' E ((tf its[i] ρ').out fun ρ1 => turnS (F ρ1) (forS tf F (its.drop (i + 1)))) := h2
    cases et : tf its[i] ρ' with
    | bad => rw [et] at h3; exact h3.elim
    | exc c => exact (hne _ _ _ et).elim
    | ok ρ1 =>
      rw [et] at h3
      have h4 : PostS K mg W B0 H0 B' E (turnS (F ρ1) (forS tf F (its.drop (i + 1)))) := h3
      refine v2 B0 H0 B2 H2 σ' ρ' y _ ρ1 _ (gd'.grow g2) r2 et fun σ1 gσ _ => ?_
      refine v3 B0 H0 B2 H2 σ1 ρ1 _ gσ ?_
      have s2 : Same B1 B2 := s1.trans g2.b
      cases ef : F ρ1 with
      | bad => rw [ef] at h4; exact h4
      | nx ρ2 => rw [ef] at h4; exact fun B3 H3 σ3 s3 g3 => ⟨B3, ρ2, s2.trans s3, g3, PostS.mono (g2.b.trans s3) h4⟩
      | ct ρ2 => rw [ef] at h4; exact fun B3 H3 σ3 s3 g3 => ⟨B3, ρ2, s2.trans s3, g3, PostS.mono (g2.b.trans s3) h4⟩
      | bk ρ2 => rw [ef] at h4; exact fun B3 H3 σ3 s3 g3 => h4 B3 H3 σ3 (g2.b.trans s3) g3
      | rt d => rw [ef] at h4; exact PostS.mono g2.b h4
      | exc c => rw [ef] at h4; exact h4
  · have ei : i = its.length := by omega
    subst ei
    rw [List.drop_length] at h2
    exact .inl ⟨wk.stop B' H' its.length s1 gd'.sub (Nat.le_refl _), h2 B' H' σ' (Same.refl _) gd'⟩
def whileS (g : Env → R Bool) (F : Env → Out) : Nat → Env → Out
  | 0, _ => .bad
  | n + 1, ρ => (g ρ).out fun b => if b = true then turnS (F ρ) (whileS g F n) else .nx ρ
theorem ds_while {ga : Env → R Bool} (n : Env → Nat) (c : Cxs C P w K mg base k W N sc) (hc : DT C K mg W a ga) (hb : DSs C K mg W sts F) : DS C K mg W (.While a sts [] pos) (fun ρ => whileS ga F (n ρ) ρ) := by
  obtain ⟨tc, pc, vc⟩ := hc; obtain ⟨tb, pb, vb⟩ := hb
  refine ⟨tWhile tc tb, fun X h => ps_while (c.own X h) (pc X h) (pb X h), fun B0 H0 B H σ ρ E gd h => ?_⟩
  refine ⟨fun m σ' H' => ∃ B' ρ', Same B B' ∧ Gd K B0 H0 B' H' σ' ρ' ∧ PostS K mg W B0 H0 B' E (whileS ga F m ρ'), ⟨n ρ, B, ρ, Same.refl _, gd, h⟩, ?_⟩
  rintro m σ' H' ⟨B', ρ', s1, gd', h2⟩
  cases m with
  | zero => exact h2.elim
  | succ m =>
    have h3 : PostS K mg W B0 H0 B' E ((ga ρ').out fun b => if b = true then turnS (F ρ') (whileS ga F m) else .nx ρ') := h2
    refine vc B0 H0 B' H' σ' ρ' _ gd' h3.wx fun b B2 H2 e1 g1 => ?_
    have h4 := PostS.mono g1.b (h3.ok e1)
    cases b with
    | false => exact iteF (h4 B2 H2 σ' (Same.refl _) (gd'.grow g1))
    | true =>
      refine iteT ⟨fun σ2 H2 => ∃ B2 ρ2, Same B B2 ∧ Gd K B0 H0 B2 H2 σ2 ρ2 ∧ PostS K mg W B0 H0 B2 E (whileS ga F m ρ2), fun σ2 H2 z => ⟨m, Nat.lt_succ_self _, z⟩, ?_⟩
      refine vb B0 H0 B2 H2 σ' ρ' _ (gd'.grow g1) ?_
      have h5 : PostS K mg W B0 H0 B2 E (turnS (F ρ') (whileS ga F m)) := h4
      have s2 : Same B B2 := s1.trans g1.b
      cases ef : F ρ' with
      | bad => rw [ef] at h5; exact h5
      | nx ρ2 => rw [ef] at h5; exact fun B3 H3 σ3 s3 g3 => ⟨B3, ρ2, s2.trans s3, g3, PostS.mono s3 h5⟩
      | ct ρ2 => rw [ef] at h5; exact fun B3 H3 σ3 s3 g3 => ⟨B3, ρ2, s2.trans s3, g3, PostS.mono s3 h5⟩
      | bk ρ2 => rw [ef] at h5; exact fun B3 H3 σ3 s3 g3 => h5 B3 H3 σ3 s3 g3
      | rt d => rw [ef] at h5; exact h5
      | exc c => rw [ef] at h5; exact h5
end
end DL
set_option Elab.async false
set_option linter.all false
set_option maxRecDepth 100000
set_option maxHeartbeats 1000000
namespace DL
open PySem L2

section
variable {C : Cx → Prop} {P : Program} {w : World} {K : PySem.W.Frag} {mg : Str → Option Value} {base : Heap} {k : Nat} {W : WX} {N : List Str} {sc : Scope}
variable {a b e tg iter elt : Expr} {es rest ifs : List Expr} {fa fb fc : Env → R D} {fs : Env → R (List D)} {pos p p2 p3 : Pos} {x y : Str} {i j : Nat} {ta tb : TE} {tt tu : TT} {tr : TA} {st : Stmt} {sts sts2 : List Stmt} {F G : Env → Out}
/-! ### raise -/
/-- an exception class of the text, over ValueError, without an __init__ of its own -/
structure Ex (K : PySem.W.Frag) (mg : Str → Option Value) (x : Str) (C : Addr) : Prop where
  g : mg x = some (.ref C)
  x : PySem.W.excIn K C [.type "ValueError", .type "Exception", .type "BaseException", .type "object"] "ValueError.__new__" = true
  k : PySem.W.keepIn K (.ref C) = true
  b : PySem.W.subIn K (.ref C) (.type "BaseException") = some true
  t : PySem.W.typeIn K (.ref C) = some (.type "type")
theorem ds_raise {Cx' : Addr} {m : Str} {j' : Nat} {q1 q2 : Pos} (c : Cxs C P w K mg base k W N sc) (T : Ex K mg x Cx') (g : Gm sc x) : DS C K mg W (.Raise (some (.Call (.Name x q1) [.Constant (.str m) j' q2] [] p)) none pos) (fun _ => .exc x) := by
  refine ⟨fun D σ H => W (.ref Cx') none σ H, fun X h => ?_, fun B0 H0 B H σ ρ E gd h => ?_⟩
  · exact ps_raise (c.calm X h) (c.takes X h) (pmk_own PySem.F.excBase_ValueError (by rw [c.hK X h]; exact T.x) (by rw [c.hmg X h]; exact T.g) (by rw [c.hK X h]; exact T.k) (raises_own (by rw [c.hK X h]; exact T.b) (by rw [c.hK X h]; exact T.t)) (g.gl c X h) g.d)
  · exact h σ H Cx' gd.old T.g
/-! ### x.append(y.pop(e)) -/
def popD (ds : List D) : D → R (D × List D)
  | .int i => if 0 ≤ i ∧ i < ds.length ∧ fits ds.length = true then .ok (ds.getD i.toNat .none, ds.eraseIdx i.toNat) else .bad
  | _ => .bad
def appPopS (i j : Nat) (fa : Env → R D) : Env → Out := fun ρ => (rdO i ρ).out fun ds => (rdO j ρ).out fun es => (fa ρ).out fun d => (popD es d).out fun r => if fits (ds.length + 1) = true then .nx ((ρ.set j (.own r.2)).set i (.own (ds ++ [r.1]))) else .bad
theorem RpA.erase {B : Hp} : ∀ {xs : List V} {ds : List D} (n : Nat), RpA B xs ds → RpA B (xs.eraseIdx n) (ds.eraseIdx n)
  | _, _, _, .nil => .nil
  | _, _, 0, .cons _ b => b
  | _, _, n + 1, .cons a b => .cons a (RpA.erase n b)
theorem seqIx {i : Int} {n : Nat} (h0 : 0 ≤ i) (h1 : i < n) : seqIndex? i n = some i.toNat := PySem.StrLaws.seqIndex_nonneg h0 h1
theorem ds_appPop {q1 q2 q3 q4 q5 : Pos} (c : Cxs C P w K mg base k W N sc) (hij : i ≠ j) (nx : Nm N sc i x) (ny : Nm N sc j y) (ha : DE C K mg W a fa)
    (pr : ∀ (X : Cx) (t : TE), C X → PE X (.Name x q1) (tVar i) → PE X (.Name y q2) (tVar j) → PE X a t → PE X (.Call (.Attribute (.Name x q1) "append" q3) [.Call (.Attribute (.Name y q2) "pop" q4) [a] [] q5] [] p) (tBM X.K "list" rAppend (tVar i) (tCons (tBM X.K "list" rPopAt (tVar j) (tCons t tNil)) tNil)))
    (hs : ∀ X, C X → swapsWith (.Call (.Attribute (.Name x q1) "append" q3) [.Call (.Attribute (.Name y q2) "pop" q4) [a] [] q5] [] p) none pos.line X.env = pure false := by intro _ _; rfl) :
    DS C K mg W (.Expr (.Call (.Attribute (.Name x q1) "append" q3) [.Call (.Attribute (.Name y q2) "pop" q4) [a] [] q5] [] p) pos) (appPopS i j fa) := by
  obtain ⟨ta, pa, va⟩ := ha
  refine ⟨tDrop (tBM K "list" rAppend (tVar i) (tCons (tBM K "list" rPopAt (tVar j) (tCons ta tNil)) tNil)), fun X h => ps_expr ?_ (hs X h), fun B0 H0 B H σ ρ E gd h => ?_⟩
  · have e := pr X ta h (pe_var (by rw [c.hN X h]; exact nx.at_) (by rw [c.hsc X h]; exact nx.vis) nx.d1 nx.d2) (pe_var (by rw [c.hN X h]; exact ny.at_) (by rw [c.hsc X h]; exact ny.vis) ny.d1 ny.d2) (pa X h)
    rw [c.hK X h] at e
    exact e
  · unfold appPopS at h
    cases e1 : rdO i ρ with
    | bad => rw [e1] at h; exact h.elim
    | exc _ => unfold rdO at e1; split at e1 <;> cases e1
    | ok ds =>
      rw [e1] at h
      cases e2 : rdO j ρ with
      | bad => rw [e2] at h; exact h.elim
      | exc _ => unfold rdO at e2; split at e2 <;> cases e2
      | ok es =>
        rw [e2] at h
        have eo := rdO_eq e1
        have ep := rdO_eq e2
        obtain ⟨l, vs, h1, h2, h3, h4, h5⟩ := gd.slots i _ eo
        obtain ⟨m, us, k1, k2, k3, k4, k5⟩ := gd.slots j _ ep
        have nlm : m ≠ l := fun z => hij (gd.apart i j ds es l eo ep h1 (by rw [k1, z]))
        refine ⟨_, h1, .inl ⟨rfl, _, .inl (.inl h2)⟩, _, k1, .inl ⟨rfl, _, .inl (.inl k2)⟩, va B0 H0 B H σ ρ _ gd (PostS.wx (f := fun d => _) h) fun d B1 H1 v e3 g1 r1 => ?_⟩
        have h6 := PostS.ok (f := fun d => (popD es d).out fun r => if fits (ds.length + 1) = true then Out.nx ((ρ.set j (.own r.2)).set i (.own (ds ++ [r.1]))) else .bad) h e3
        cases r1 with
        | int z =>
          by_cases hz : 0 ≤ z ∧ z < es.length ∧ fits es.length = true
          · rw [show popD es (.int z) = .ok (es.getD z.toNat .none, es.eraseIdx z.toNat) from if_pos hz] at h6
            have h7 : PostS K mg W B0 H0 B E (if fits (ds.length + 1) = true then Out.nx ((ρ.set j (.own (es.eraseIdx z.toNat))).set i (.own (ds ++ [es.getD z.toNat .none]))) else .bad) := h6
            by_cases hl : fits (ds.length + 1) = true
            · rw [if_pos hl] at h7
              have hzl : z.toNat < es.length := by omega
              obtain ⟨u, u1, u2⟩ := (k5.mono g1.b).get (List.getElem?_eq_getElem hzl)
              have ulen := k5.length
              have hzf := of_decide_eq_true hz.2.2
              refine ⟨m, us, z, z.toNat, u, rfl, rfl, g1.h _ _ k2, by omega, by omega, seqIx hz.1 (by rw [ulen]; exact hz.2.1), u1, ?_⟩
              have g := gd.grow g1
              have ga := g.mut ep k1 ((k5.mono g1.b).erase z.toNat)
              have eo' : (ρ.set j (.own (es.eraseIdx z.toNat)))[i]? = some (.own ds) := by rw [List.getElem?_set_ne (Ne.symm hij)]; exact eo
              have hd : es.getD z.toNat .none = es[z.toNat] := by rw [List.getD_eq_getElem?_getD, List.getElem?_eq_getElem hzl]; rfl
              have ra : RpA B1 (vs ++ [u]) (ds ++ [es.getD z.toNat .none]) := (h5.mono g1.b).append (.cons (by rw [hd]; exact u2) .nil)
              have gb := ga.mut eo' h1 ra
              refine ⟨l, vs, u, rfl, rfl, by rw [upd_ne (Ne.symm nlm)]; exact g1.h _ _ h2, by have y := of_decide_eq_true hl; rw [sizeLine_eq, h5.length]; omega, ?_⟩
              exact h7 B1 _ σ g1.b gb
            · rw [if_neg hl] at h7; exact h7.elim
          · rw [show popD es (.int z) = .bad from if_neg hz] at h6; exact h6.elim
        | _ => exact h6.elim
end

/-! ### a def of the text -/
def startE (N : List Str) (ds : List D) : Env := ds.map .dat ++ List.replicate (N.length - ds.length) .no
def defR : Out → R D
  | .rt d => .ok d
  | .nx _ => .ok .none
  | .exc c => .exc c
  | _ => .bad
section
variable {P : Program} {w : World} {K : PySem.W.Frag} {mg : Str → Option Value} {base : Heap} {k : Nat}
abbrev cxD (P : Program) (w : World) (K : PySem.W.Frag) (mg : Str → Option Value) (base : Heap) (N : List Str) (qual : Str) (sc : Scope) (f : Addr) (cdv : Value) (A : Around) (outer : List PySem.Env) (s : Shared) (H : Hp) (E : XK) : Cx := cxOf (L2.CX P w) P w K mg base N qual sc f cdv A outer s H E
theorem cxs_def {N ps : List Str} {qual : Str} {sc : Scope} {f : Addr} {cdv : Value} {A : Around} {outer : List PySem.Env} {s : Shared} {H : Hp} {E : XK} (S : FnScope N ps sc) (hr : Room k (A.deeper (PyProof.Rows.envOfC qual sc s.heap.objs.size f cdv))) :
    Cxs (· = cxD P w K mg base N qual sc f cdv A outer s H E) P w K mg base k (fun cls d _ H => E cls d H) N sc where
  hP := by rintro _ rfl; rfl
  hw := by rintro _ rfl; rfl
  hK := by rintro _ rfl; rfl
  hmg := by rintro _ rfl; rfl
  hbase := by rintro _ rfl; rfl
  calm := by rintro _ rfl; rfl
  room := by rintro _ rfl; exact hr
  takes := by rintro _ rfl; exact takes_of rfl rfl rfl rfl
  own := by rintro _ rfl; exact passes_of rfl
  hN := by rintro _ rfl; rfl
  hsc := by rintro _ rfl; rfl
  nd := S.nd
theorem lm_def {N : List Str} {qual : Str} {sc : Scope} {f : Addr} {cdv : Value} {A : Around} {outer : List PySem.Env} {s : Shared} {H : Hp} {E : XK} {i : Nat} {x : Str} (h1 : N[i]? = some x) (h2 : Loc sc x) :
    Lm (· = cxD P w K mg base N qual sc f cdv A outer s H E) N sc i x := ⟨h1, h2, .inr (by rintro _ rfl; rfl)⟩
theorem gd_start {N ps : List Str} {sc : Scope} (S : FnScope N ps sc) {B H : Hp} {vs : List V} {ds : List D} (s : Same B H) (r : RpA B vs ds) (hl : vs.length = ps.length) : Gd K B H B H (L2.start N vs) (startE N ds) := by
  have hpl : ps.length ≤ N.length := by have := congrArg List.length S.pre; rw [List.length_take] at this; omega
  have hn : ∀ (i : Nat) (d : Sl), (startE N ds)[i]? = some d → (∃ e v, d = .dat e ∧ (L2.start N vs)[i]? = some (some v) ∧ Rp B v e) ∨ d = .no := fun i d e => by
    unfold startE at e
    unfold L2.start
    by_cases hi : i < ds.length
    · rw [List.getElem?_append_left (by simpa using hi), List.getElem?_map] at e
      obtain ⟨e', h1, h2⟩ := Option.map_eq_some_iff.mp e
      obtain ⟨v, h3, h4⟩ := r.get h1
      refine .inl ⟨e', v, h2.symm, ?_, h4⟩
      rw [List.getElem?_append_left (by rw [List.length_map, r.length]; exact hi), List.getElem?_map, h3]
      rfl
    · rw [List.getElem?_append_right (by simpa using hi), List.getElem?_replicate] at e
      split at e
      · cases e; exact .inr rfl
      · cases e
  refine ⟨s, s, Same.refl _, fun _ _ _ => rfl, ?_, fun i d e => ?_, fun i j xs ys a e1 _ _ _ => ?_⟩
  · unfold L2.start startE
    rw [List.length_append, List.length_append, List.length_map, List.length_map, List.length_replicate, List.length_replicate, r.length]
  · rcases hn i d e with ⟨e', v, rfl, h2, h3⟩ | rfl
    · exact ⟨v, h2, h3⟩
    · exact True.intro
  · rcases hn i _ e1 with ⟨e', v, z, _⟩ | z <;> cases z
theorem fn_def {x qual y : Str} {st : Stmt} {f : Addr} {fd : FuncData} {N ps : List Str} {F : Env → Out} {g : List D → R D} (Fu : L2.Fun K x qual st f fd) (S : FnScope N ps (defScope st)) (gx : mg y = some (.ref f)) (hb : Binds K fd ps [])
    (bd : ∀ (cdv : Value) (A : Around) (outer : List PySem.Env) (s : Shared) (H : Hp) (E : XK), Room k (A.deeper (PyProof.Rows.envOfC qual (defScope st) s.heap.objs.size f cdv)) →
      DSs (· = cxD P w K mg base N qual (defScope st) f cdv A outer s H E) K mg (fun cls d _ H => E cls d H) (defBody st) F)
    (ok : ∀ ds, g ds ≠ .bad → ds.length = ps.length ∧ defR (F (startE N ds)) = g ds) : Fn P w K mg base (k + 1) y ps.length g := by
  refine ⟨⟨f, fd, ps, Fu.okX S (fun vs H Q E h => h.1) (fun cdv A outer s H vs Q E hr h => ?_), gx, Fu.kp, hb⟩, fun ds z => (ok ds z).1⟩
  obtain ⟨hl, B, ds, sB, ra, h1, h2⟩ := h
  obtain ⟨t, p, v⟩ := bd cdv A outer s H E hr
  refine ⟨t, p _ rfl, v B H B H _ (startE N ds) _ (gd_start S sB ra hl) ?_⟩
  have nb : g ds ≠ .bad := fun z => by rw [z] at h1; exact h1
  have e := (ok ds nb).2
  cases eF : F (startE N ds) with
  | bad => rw [eF] at e; exact (nb e.symm).elim
  | bk ρ => rw [eF] at e; exact (nb e.symm).elim
  | ct ρ => rw [eF] at e; exact (nb e.symm).elim
  | nx ρ => rw [eF] at e; exact fun B' H' σ' s1 gd => h2 .none B' H' .non e.symm ⟨s1, gd.sub, gd.old, gd.oldB⟩ .non
  | rt d => rw [eF] at e; exact fun B' H' v' s1 s2 s3 s4 r => h2 d B' H' v' e.symm ⟨s1, s2, s3, s4⟩ r
  | exc c =>
    rw [eF] at e
    have e' : g ds = .exc c := e.symm
    rw [e'] at h1
    exact fun σ' H' C s m => h1 H' C s m
end
end DL
set_option Elab.async false
set_option linter.all false
set_option maxRecDepth 100000
set_option maxHeartbeats 1000000
namespace DL
open PySem L2
section
variable {C : Cx → Prop} {P : Program} {w : World} {K : PySem.W.Frag} {mg : Str → Option Value} {base : Heap} {k : Nat} {W : WX} {N : List Str} {sc : Scope}
variable {a b e tg iter elt : Expr} {es rest ifs : List Expr} {fa fb fc : Env → R D} {fs : Env → R (List D)} {pos p p2 p3 : Pos} {x y : Str} {i j : Nat} {ta tb : TE} {tt tu : TT} {tr : TA} {st : Stmt} {sts sts2 : List Stmt} {F G : Env → Out}
/-! ### an owned list looked at on the way -/
theorem Rp.flatB {B B' : Hp} {v : V} {d : D} (r : Rp B v d) (f : flatD d = true) : Rp B' v d := by
  cases r <;> first | (simp [flatD] at f; done) | skip
  · exact .non
  · exact .bl _
  · exact .int _
  · exact .str _
def scalD (d : D) : R D := if flatD d = true then .ok d else .bad
theorem peek_gr {B0 H0 B H B2 H2 : Hp} {σ : St} {ρ : Env} {a : Addr} {vs : List V} (hB : B a = none) (hH : H a = some (.lst vs)) (g : Gr (upd B a (.lst vs)) H B2 H2) : Gr B H (fun x => if x = a then none else B2 x) H2 := by
  refine ⟨fun x u e => ?_, fun x u e => ?_, g.h, fun x u e => ?_⟩
  · have nx := ne_of_none e hB
    show (if x = a then none else B2 x) = some u
    rw [if_neg nx]
    exact g.b x u (by rw [upd_ne nx]; exact e)
  · by_cases hx : x = a
    · rw [if_pos hx] at e; cases e
    · rw [if_neg hx] at e; exact g.s x u e
  · show (if x = a then none else B2 x) = B x
    by_cases hx : x = a
    · subst hx; rw [if_pos rfl]; exact hB.symm
    · rw [if_neg hx, g.n x u e, upd_ne hx]
theorem de_peek (i : Nat) (h : DE C K mg W a fa) : DE C K mg W a (fun ρ => (fa (frzE i ρ)).bind scalD) := by
  obtain ⟨t, p, v⟩ := h
  refine ⟨t, p, fun B0 H0 B H σ ρ Q gd wx q => ?_⟩
  by_cases ho : ∃ ds, ρ[i]? = some (.own ds)
  · obtain ⟨ds, eo⟩ := ho
    obtain ⟨l, vs, h1, h2, h3, _⟩ := gd.slots i _ eo
    obtain ⟨g', s'⟩ := gd.freeze eo h1 h2
    have ef : frzE i ρ = ρ.set i (.dat (.list ds)) := by unfold frzE; rw [eo]
    refine v B0 H0 _ H σ (frzE i ρ) Q (by rw [ef]; exact g') wx.of_bind fun d B2 H2 u e2 g2 r2 => ?_
    have w2 := wx.then e2
    by_cases hf : flatD d = true
    · refine q d _ H2 u ((bind_eq e2).trans (if_pos hf)) (peek_gr (B0 := B0) (H0 := H0) (σ := σ) (ρ := ρ) h3 h2 g2) (r2.flatB hf)
    · rw [show scalD d = .bad from if_neg hf] at w2; exact w2.elim
  · have ef : frzE i ρ = ρ := by
      unfold frzE
      split
      · rename_i ds e; exact absurd ⟨ds, e⟩ ho
      · rfl
    have wx : Wx mg W H0 σ ((fa (frzE i ρ)).bind scalD) := wx
    rw [ef] at wx
    refine v B0 H0 B H σ ρ Q gd wx.of_bind fun d B2 H2 u e2 g2 r2 => ?_
    have w2 := wx.then e2
    by_cases hf : flatD d = true
    · exact q d B2 H2 u (by show (fa (frzE i ρ)).bind scalD = _; rw [ef]; exact (bind_eq e2).trans (if_pos hf)) g2 r2
    · rw [show scalD d = .bad from if_neg hf] at w2; exact w2.elim
theorem dt_peek {ga : Env → R Bool} (i : Nat) (h : DT C K mg W a ga) : DT C K mg W a (fun ρ => ga (frzE i ρ)) := by
  obtain ⟨t, p, v⟩ := h
  refine ⟨t, p, fun B0 H0 B H σ ρ Q gd wx q => ?_⟩
  by_cases ho : ∃ ds, ρ[i]? = some (.own ds)
  · obtain ⟨ds, eo⟩ := ho
    obtain ⟨l, vs, h1, h2, h3, _⟩ := gd.slots i _ eo
    obtain ⟨g', s'⟩ := gd.freeze eo h1 h2
    have ef : frzE i ρ = ρ.set i (.dat (.list ds)) := by unfold frzE; rw [eo]
    exact v B0 H0 _ H σ (frzE i ρ) Q (by rw [ef]; exact g') wx fun d B2 H2 e2 g2 => q d _ H2 e2 (peek_gr (B0 := B0) (H0 := H0) (σ := σ) (ρ := ρ) h3 h2 g2)
  · have ef : frzE i ρ = ρ := by
      unfold frzE
      split
      · rename_i ds e; exact absurd ⟨ds, e⟩ ho
      · rfl
    have wx : Wx mg W H0 σ (ga (frzE i ρ)) := wx
    rw [ef] at wx
    exact v B0 H0 B H σ ρ Q gd wx fun d B2 H2 e2 g2 => q d B2 H2 (by show ga (frzE i ρ) = _; rw [ef]; exact e2) g2

/-- y = [..] on one line, y a data slot -/
theorem ds_setLcD {scope : Scope} {own : List (Str × Nat)} {fi : Env → R (List D)} {tf : D → Env → R Env} {ft : Env → R Bool} {fe : Env → R D} {is : List Nat} {pos' pl : Pos} (c : Cxs C P w K mg base k W N sc) (hy : N[i]? = some x) (hyl : sc.names.lookup x = some .local)
    (hi : DI C K mg W tg iter fi) (ok : L2.blkC N sc scope own = true)
    (hg : DG (blkC C scope) K tg tf is) (ho : ∀ i ∈ is, i ∈ own.map (·.2)) (ht : DTs (blkC C scope) K mg W0 ifs ft) (he : DE (blkC C scope) K mg W0 elt fe)
    (hl : (pos'.line == pl.line) = true) (hfun : sc.kind = .function) (hno : (scope.names.any fun (n, k) => n == x && (k == .local || k == .cell)) = false)
    (hs : ∀ X, C X → ∀ x, foldedSetIterable iter X.env x = pure x := by intro _ _ _; rfl) :
    DS C K mg W (.Assign [.Name x pos'] (.ListComp elt [⟨tg, iter, ifs, 0⟩] scope pl) pos) (setS i (asL (lcR fi tf ft fe (own.map (·.2))))) := by
  obtain ⟨wi, p1, v1⟩ := hi; obtain ⟨g, p2, v2⟩ := hg; obtain ⟨tt, p3, v3⟩ := ht; obtain ⟨te, p4, v4⟩ := he
  refine ⟨tAsg (tLc wi g tt te (own.map (·.2))) (gName i), fun X h => ?_, fun B0 H0 B H σ ρ E gd h => ?_⟩
  · exact ps_setLc (own := own) (c.calm X h) (by rw [c.hN X h]; exact c.nd) (by rw [c.hN X h]; exact hy) (by rw [c.hsc X h]; exact hyl) (sw_true (by rw [c.hsc X h]; exact hfun) (by rw [c.hsc X h]; exact hyl) hl hno) (p1 X h) (by rw [c.hN X h, c.hsc X h]; exact blkOk_by ok)
      (fun s H A cl fp => p2 _ ⟨X, h, s, H, A, cl, fp, rfl⟩) (fun s H A cl fp => p3 _ ⟨X, h, s, H, A, cl, fp, rfl⟩) (fun s H A cl fp => p4 _ ⟨X, h, s, H, A, cl, fp, rfl⟩) (hs X h)
  · unfold setS at h
    exact ev_asL (el_lc v1 v2 ho v3 v4) B0 H0 B H σ ρ _ gd h.wx fun d B1 H1 v e1 g1 r1 => (h.ok e1) B1 H1 _ g1.b ((gd.grow g1).set r1)

/-! ### names by a look of the kernel -/
def kindIs (sc : Scope) (x : Str) (k : NameKind) : Bool := decide (sc.names.lookup x = some k)
def nmC (N : List Str) (sc : Scope) (i : Nat) (x : Str) : Bool := decide (N[i]? = some x) && (kindIs sc x .local || kindIs sc x .cell || kindIs sc x .free) && !(x == ("__debug__" : Str)) && !(x == ("__classdict__" : Str))
theorem nm_of (h : nmC N sc i x = true) : Nm N sc i x := by
  unfold nmC kindIs at h
  simp only [Bool.and_eq_true, Bool.or_eq_true, decide_eq_true_eq, Bool.not_eq_true'] at h
  obtain ⟨⟨⟨h1, h2⟩, h3⟩, h4⟩ := h
  exact ⟨h1, by rcases h2 with (h | h) | h; exact .inl h; exact .inr (.inl h); exact .inr (.inr h), h3, h4⟩
theorem gm_of (h : (kindIs sc x .globalImplicit && !(x == ("__debug__" : Str))) = true) : Gm sc x := by
  unfold kindIs at h
  simp only [Bool.and_eq_true, decide_eq_true_eq, Bool.not_eq_true'] at h
  exact ⟨h.1, h.2⟩
theorem lm_of (h : (decide (N[i]? = some x) && kindIs sc x .local) = true) : Lm C N sc i x := by
  unfold kindIs at h
  simp only [Bool.and_eq_true, decide_eq_true_eq] at h
  exact ⟨h.1, .inl h.2, .inl h.2⟩
theorem lm_ofD {qual : Str} {f : Addr} {cdv : Value} {A : Around} {outer : List PySem.Env} {s : Shared} {H : Hp} {E : XK} (h : (decide (N[i]? = some x) && (kindIs sc x .local || kindIs sc x .cell)) = true) :
    Lm (· = cxD P w K mg base N qual sc f cdv A outer s H E) N sc i x := by
  unfold kindIs at h
  simp only [Bool.and_eq_true, Bool.or_eq_true, decide_eq_true_eq] at h
  exact lm_def h.1 h.2
theorem lm_ofB {scope : Scope} {sc' : Scope} (h : (decide (N[i]? = some x) && kindIs sc' x .cell && kindIs scope x .cell) = true) : Lm (blkC C scope) N sc' i x := by
  unfold kindIs at h
  simp only [Bool.and_eq_true, decide_eq_true_eq] at h
  exact lm_blkCell h.1.1 (.inr h.1.2) h.2
/-- targets raise nothing -/
theorem nx_N (i : Nat) : ∀ d ρ c, tgN i d ρ ≠ .exc c := fun _ _ _ h => by cases h
theorem nx_0 : ∀ d ρ c, tgs0 d ρ ≠ .exc c := fun d ρ c h => by unfold tgs0 at h; split at h <;> cases h
theorem nx_1 {f : D → Env → R Env} {g : List D → Env → R Env} (h1 : ∀ d ρ c, f d ρ ≠ .exc c) (h2 : ∀ d ρ c, g d ρ ≠ .exc c) : ∀ d ρ c, tgs1 f g d ρ ≠ .exc c := fun d ρ c h => by
  cases d with
  | nil => cases h
  | cons x r =>
    simp only [tgs1] at h
    cases e : f x ρ with
    | bad => rw [e] at h; cases h
    | exc c' => exact h1 _ _ _ e
    | ok ρ' => rw [e] at h; exact h2 _ _ _ h
theorem nx_T {n : Nat} {g : List D → Env → R Env} (h2 : ∀ d ρ c, g d ρ ≠ .exc c) : ∀ d ρ c, tgT n g d ρ ≠ .exc c := fun d ρ c h => by
  unfold tgT at h
  split at h
  · split at h
    · exact h2 _ _ _ h
    · cases h
  · cases h
/-! ### the def's own function -/
def defG (n : Nat) (N : List Str) (F : Env → Out) : List D → R D := fun ds => if ds.length = n then defR (F (startE N ds)) else .bad
theorem defG_ok {n : Nat} {ps : List Str} {N : List Str} {F : Env → Out} (hn : ps.length = n) : ∀ ds, defG n N F ds ≠ .bad → ds.length = ps.length ∧ defR (F (startE N ds)) = defG n N F ds := fun ds h => by
  unfold defG at h ⊢
  by_cases hl : ds.length = n
  · rw [if_pos hl]; exact ⟨hl.trans hn.symm, rfl⟩
  · rw [if_neg hl] at h; exact absurd rfl h
theorem Fn.bad {f : Addr} {fd : FuncData} {ps : List Str} {n : Nat} (hn : ps.length = n) (gx : mg x = some (.ref f)) (kp : PySem.W.keepIn K (.ref f) = true) (hb : Binds K fd ps []) : Fn P w K mg base k x n (fun _ => .bad) :=
  ⟨⟨f, fd, ps, ⟨fun vs H Q E h => h.1.trans hn.symm, fun A outer s H args us vs Q E _ _ _ _ h => by obtain ⟨_, _, _, _, _, h, _⟩ := h; exact h.elim⟩, gx, kp, hb⟩, fun ds h => absurd rfl h⟩
end
end DL
set_option Elab.async false
set_option linter.all false
set_option maxRecDepth 100000
set_option maxHeartbeats 1000000
namespace DL
open PySem L2
section
variable {C : Cx → Prop} {P : Program} {w : World} {K : PySem.W.Frag} {mg : Str → Option Value} {base : Heap} {k : Nat} {W : WX} {N : List Str} {sc : Scope}
variable {pos p p2 p3 : Pos} {x y : Str} {i j : Nat}
/-! ### the script -/
def scrSl (i : Nat) (fl fh : Env → R (Option Int)) : Env → R (List D) := fun ρ => match ρ[i]? with
  | some (.scr ns) => (fl ρ).bind fun lo => (fh ρ).bind fun hi => .ok ((cutD ns lo hi).map .int)
  | _ => .bad
theorem cutV_map (ns : List Int) (lo hi : Option Int) : cutV (ns.map V.int) lo hi = (cutD ns lo hi).map V.int := by
  unfold cutV cutD
  rw [List.length_map, List.map_take, List.map_drop]
theorem dn_sliceScr {lo hi : Option Expr} {fl fh : Env → R (Option Int)} (c : Cxs C P w K mg base k W N sc) (n : Nm N sc i x) (hl : DO C K mg W lo fl) (hh : DO C K mg W hi fh) :
    DN C K mg W (.Subscript (.Name x p) (.Slice lo hi none p2) pos) (scrSl i fl fh) := by
  obtain ⟨tl, pl, vl⟩ := hl; obtain ⟨th, ph, vh⟩ := hh
  refine ⟨tSl (rSlL K) (tVar i) tl th, fun X h => ?_, ?_⟩
  · have e := c.hK X h
    subst e
    exact pe_slice sl_list (pe_var (by rw [c.hN X h]; exact n.at_) (by rw [c.hsc X h]; exact n.vis) n.d1 n.d2) (pl X h) (ph X h)
  · intro B0 H0 B H σ ρ Q gd wx q
    unfold scrSl at wx
    cases e : ρ[i]? with
    | none => rw [e] at wx; exact wx.elim
    | some s =>
      cases s with
      | scr ns =>
        rw [e] at wx
        have wx : Wx mg W H0 σ ((fl ρ).bind fun lo => (fh ρ).bind fun hi => R.ok ((cutD ns lo hi).map PyData.int)) := wx
        obtain ⟨a, h1, h2⟩ := gd.slots i _ e
        refine ⟨_, h1, vl B0 H0 B H σ ρ _ gd wx.of_bind fun lo' B2 H2 e2 g2 => ?_⟩
        have w2 := wx.then e2
        refine vh B0 H0 B2 H2 σ ρ _ (gd.grow g2) w2.of_bind fun hi' B3 H3 e3 g3 => ?_
        have g := g2.trans g3
        refine ⟨a, ns.map V.int, rfl, (g.b.trans g.s).seq h2, fun l hl => ?_⟩
        obtain ⟨gm, hb⟩ := Gr.mk1 (o := .lst (cutV (ns.map V.int) lo' hi')) g.s hl
        refine q _ B3 _ l _ ?_ (g.trans gm) (g.none hl) hb upd_same (by rw [cutV_map]; exact RpA.ofInts _)
        unfold scrSl
        rw [e]
        show ((fl ρ).bind fun lo => (fh ρ).bind fun hi => R.ok ((cutD ns lo hi).map PyData.int)) = _
        exact (bind_eq e2).trans (bind_eq e3)
      | _ => rw [e] at wx; exact wx.elim
/-- the law's own promise -/
def spLaw (K : PySem.W.Frag) : Sp := fun vs H Q _ => ∃ (a : Addr) (ns : List Int), vs = [.ref a] ∧ SqL K H a (ns.map V.int) ∧ ns.length ≤ 63 ∧ ∀ H', Q (.bl true) H'
theorem law_def {x qual : Str} {st : Stmt} {f : Addr} {fd : FuncData} {N : List Str} {F : Env → Out} (Fu : L2.Fun K x qual st f fd) (S : FnScope N [y] (defScope st))
    (bd : ∀ (cdv : Value) (A : Around) (outer : List PySem.Env) (s : Shared) (H : Hp) (E : XK), Room k (A.deeper (PyProof.Rows.envOfC qual (defScope st) s.heap.objs.size f cdv)) →
      DSs (· = cxD P w K mg base N qual (defScope st) f cdv A outer s H E) K mg (fun cls d _ H => E cls d H) (defBody st) F)
    (ok : ∀ ns : List Int, ns.length ≤ 63 → F (.scr ns :: List.replicate (N.length - 1) .no) = .rt (.bool true)) : FnOk P w K mg base (L2.CX P w) (k + 1) f fd [y] (spLaw K) := by
  refine Fu.okX S (fun vs H Q E h => by obtain ⟨a, ns, rfl, _⟩ := h; rfl) (fun cdv A outer s H vs Q E hr h => ?_)
  obtain ⟨a, ns, rfl, hS, hl, h2⟩ := h
  obtain ⟨t, p, v⟩ := bd cdv A outer s H E hr
  have hpl : 1 ≤ N.length := by have := congrArg List.length S.pre; rw [List.length_take] at this; simp at this; omega
  have gd : Gd K H H H H (L2.start N [.ref a]) (.scr ns :: List.replicate (N.length - 1) .no) := by
    refine ⟨Same.refl _, Same.refl _, Same.refl _, fun _ _ _ => rfl, ?_, fun i d e => ?_, fun i j xs ys b e1 _ _ _ => ?_⟩
    · unfold L2.start
      simp
    · cases i with
      | zero => cases e; exact ⟨a, rfl, hS⟩
      | succ i =>
        rw [List.getElem?_cons_succ, List.getElem?_replicate] at e
        split at e <;> cases e
        exact True.intro
    · cases i with
      | zero => cases e1
      | succ i =>
        rw [List.getElem?_cons_succ, List.getElem?_replicate] at e1
        split at e1 <;> cases e1
  refine ⟨t, p _ rfl, v H H H H _ _ _ gd ?_⟩
  rw [ok ns hl]
  exact fun B' H' v' s1 s2 s3 s4 r => by cases r; exact h2 H'
/-- the goal that k_head leaves, from the law's promise -/
theorem walk {l : PySem.W.OpenLaw} {k : Nat} {q : Program} {loose : List Str} {XP : (Str → Option Value) → Heap → Prop} {YP : World → Heap → Prop} {d : DefRec} {K : Params → PySem.W.Frag} {x : Str}
    (hn : l.most = some 63) (hdf : d.params.defaults = []) (hr : Room k callerA)
    (hY : ∀ (w : World) (h : Heap), YP w h → (K w.params).In h)
    (F : ∀ (w : World) (mg : Str → Option Value) (fa : Addr) (h : Heap), (K w.params).In h → h.Ns mainGlobals mg → mg d.name = some (.ref fa) →
      ∃ fd : FuncData, (∀ (s : Shared) (u : Value), BindsTo s fd ⟨[u], []⟩ [(x, u)]) ∧
        ∀ base : Heap, (K w.params).In base → base.Ns mainGlobals mg → FnOk l.prog w (K w.params) mg base (L2.CX l.prog w) k fa fd [x] (spLaw (K w.params))) :
    PySem.W.WalkO q loose XP YP l.row.toRowW d [] (fun f vs => PySem.call f vs) :=
  L2.walk_of (n := 63) (k := k) (x := x) (CX := fun w => L2.CX l.prog w) (sp := fun w => spLaw (K w.params)) hn (by decide) hdf hr hY F (fun w H a ns hl _ hS => ⟨a, ns, rfl, hS, hl, fun _ => rfl⟩)
    (fun w H s e s' h => by obtain ⟨_, _, _, _, _, _, _, _, _, _, _, _, z⟩ := h; exact z)
end

/-! ### evaluation, for simp -/
/-- an equation that simp shall not take for one by definition -/
theorem nrfl {α : Type} {a b : α} (h : a = b) : a = b := h
section
variable {g g' : D → D → R D} {fa fb fc : Env → R D} {ga gb : Env → R Bool} {fs : Env → R (List D)} {ρ : Env} {F G : Env → Out}
/-- small words for what the generator writes -/
def bdR {α β : Type} (f : Env → R α) (g : α → R β) : Env → R β := fun ρ => (f ρ).bind g
def bd2R {α : Type} (g : D → D → R α) (fa fb : Env → R D) : Env → R α := fun ρ => (fa ρ).bind fun x => (fb ρ).bind fun y => g x y
def frR {α : Type} (i : Nat) (f : Env → α) : Env → α := fun ρ => f (frzE i ρ)
def forI (fi : Env → R (List D)) (tf : D → Env → R Env) (F : Env → Out) : Env → Out := fun ρ => (fi ρ).out fun its => forS tf F its ρ
def whileI (g : Env → R Bool) (F : Env → Out) (n : Env → Nat) : Env → Out := fun ρ => whileS g F (n ρ) ρ
def nxS : Env → Out := fun ρ => Out.nx ρ
@[simp] theorem bdR_at {α β : Type} {f : Env → R α} {g : α → R β} : bdR f g ρ = (f ρ).bind g := nrfl rfl
@[simp] theorem bd2R_at {α : Type} {g : D → D → R α} : bd2R g fa fb ρ = (fa ρ).bind fun x => (fb ρ).bind fun y => g x y := nrfl rfl
@[simp] theorem frR_at {α : Type} {i : Nat} {f : Env → α} : frR i f ρ = f (frzE i ρ) := nrfl rfl
@[simp] theorem forI_at {fi : Env → R (List D)} {tf : D → Env → R Env} : forI fi tf F ρ = (fi ρ).out fun its => forS tf F its ρ := nrfl rfl
@[simp] theorem nxS_at : nxS ρ = .nx ρ := nrfl rfl
@[simp] theorem opR_at : opR g fa fb ρ = (fa ρ).bind fun x => (fb ρ).bind fun y => g x y := nrfl rfl
@[simp] theorem andR_at : andR fa fb ρ = (fa ρ).bind fun x => match x with
  | .bool true => fb ρ
  | .bool false => .ok (.bool false)
  | _ => .bad := nrfl rfl
@[simp] theorem orR_at : orR fa fb ρ = (fa ρ).bind fun x => match x with
  | .bool false => fb ρ
  | .bool true => .ok (.bool true)
  | _ => .bad := nrfl rfl
@[simp] theorem notR_at : notR fa ρ = (fa ρ).bind fun x => match x with
  | .bool b => .ok (.bool !b)
  | _ => .bad := nrfl rfl
@[simp] theorem chainR_at : chainR g g' fa fb fc ρ = (fa ρ).bind fun x => (fb ρ).bind fun y => (g x y).bind fun z => match z with
  | .bool true => (fc ρ).bind fun v => g' y v
  | .bool false => .ok (.bool false)
  | _ => .bad := nrfl rfl
@[simp] theorem toB_at : toB fa ρ = (fa ρ).bind boolR := nrfl rfl
@[simp] theorem toT_at : toT fa ρ = (fa ρ).bind truD := nrfl rfl
@[simp] theorem andT_at : andT ga gb ρ = (ga ρ).bind fun b => if b = true then gb ρ else .ok false := nrfl rfl
@[simp] theorem orT_at : orT ga gb ρ = (ga ρ).bind fun b => if b = true then .ok true else gb ρ := nrfl rfl
@[simp] theorem notT_at : notT ga ρ = (ga ρ).bind fun b => .ok !b := nrfl rfl
@[simp] theorem ifR_at : ifR ga fa fb ρ = (ga ρ).bind fun b => if b = true then fa ρ else fb ρ := nrfl rfl
@[simp] theorem consR_at : consR fa fs ρ = (fa ρ).bind fun x => (fs ρ).bind fun xs => .ok (x :: xs) := nrfl rfl
@[simp] theorem callR_at {g : List D → R D} : callR g fs ρ = (fs ρ).bind g := nrfl rfl
@[simp] theorem asL_at : asL fs ρ = (fs ρ).bind fun xs => .ok (.list xs) := nrfl rfl
@[simp] theorem seqS_at : seqS F G ρ = (F ρ).then G := nrfl rfl
@[simp] theorem retS_at : retS fa ρ = (fa ρ).out fun d => .rt d := nrfl rfl
@[simp] theorem dropS_at : dropS fa ρ = (fa ρ).out fun _ => .nx ρ := nrfl rfl
@[simp] theorem setS_at {i : Nat} : setS i fa ρ = (fa ρ).out fun d => .nx (ρ.set i (.dat d)) := nrfl rfl
@[simp] theorem setL_at {i : Nat} : setL i fs ρ = (fs ρ).out fun d => .nx (ρ.set i (.own d)) := nrfl rfl
@[simp] theorem ifS_at : ifS ga F G ρ = (ga ρ).out fun b => if b = true then F ρ else G ρ := nrfl rfl
@[simp] theorem forS_nil {tf : D → Env → R Env} : forS tf F [] ρ = .nx ρ := nrfl rfl
@[simp] theorem forS_cons {tf : D → Env → R Env} {d : D} {ds : List D} : forS tf F (d :: ds) ρ = (tf d ρ).out fun ρ1 => turnS (F ρ1) (forS tf F ds) := nrfl rfl
@[simp] theorem rdD_z {d : D} {r : Env} : rdD 0 (.dat d :: r) = .ok d := nrfl rfl
@[simp] theorem rdD_s {n : Nat} {s : Sl} {r : Env} : rdD (n + 1) (s :: r) = rdD n r := nrfl rfl
@[simp] theorem rdO_z {d : List D} {r : Env} : rdO 0 (.own d :: r) = .ok d := nrfl rfl
@[simp] theorem rdO_s {n : Nat} {s : Sl} {r : Env} : rdO (n + 1) (s :: r) = rdO n r := nrfl rfl
@[simp] theorem frzE_o {ds : List D} {r : Env} : frzE 0 (.own ds :: r) = .dat (.list ds) :: r := nrfl rfl
@[simp] theorem frzE_d {d : D} {r : Env} : frzE 0 (.dat d :: r) = .dat d :: r := nrfl rfl
@[simp] theorem frzE_n {r : Env} : frzE 0 (.no :: r) = .no :: r := nrfl rfl
@[simp] theorem frzE_s {n : Nat} {s : Sl} {r : Env} : frzE (n + 1) (s :: r) = s :: frzE n r := by
  unfold frzE
  rw [List.getElem?_cons_succ]
  cases e : r[n]? with
  | none => rfl
  | some x => cases x <;> rfl
@[simp] theorem scrSl_z {fl fh : Env → R (Option Int)} {ns : List Int} {r : Env} : scrSl 0 fl fh (.scr ns :: r) = (fl (.scr ns :: r)).bind fun lo => (fh (.scr ns :: r)).bind fun hi => .ok ((cutD ns lo hi).map .int) := nrfl rfl
@[simp] theorem lstR_at : lstR fs ρ = (fs ρ).bind fun xs => if fits xs.length then .ok xs else .bad := nrfl rfl
@[simp] theorem tupR_at : tupR fs ρ = (fs ρ).bind fun xs => if fits xs.length then .ok (.tuple xs) else .bad := nrfl rfl
@[simp] theorem slR_at {fl fh : Env → R (Option Int)} : slR fa fl fh ρ = (fa ρ).bind fun d => (fl ρ).bind fun lo => (fh ρ).bind fun hi => slD lo hi d := nrfl rfl
@[simp] theorem slLR_at {fl fh : Env → R (Option Int)} : slLR fa fl fh ρ = (fa ρ).bind fun d => (fl ρ).bind fun lo => (fh ρ).bind fun hi => match d with
  | .list ds => .ok (cutD ds lo hi)
  | _ => .bad := nrfl rfl
@[simp] theorem revR_at : revR fa ρ = (fa ρ).bind fun d => match d with
  | .list ds => .ok ds.reverse
  | _ => .bad := nrfl rfl
@[simp] theorem slD_l {ds : List D} {lo hi : Option Int} : slD lo hi (.list ds) = .ok (.list (cutD ds lo hi)) := nrfl rfl
@[simp] theorem slD_t {ds : List D} {lo hi : Option Int} : slD lo hi (.tuple ds) = .ok (.tuple (cutD ds lo hi)) := nrfl rfl
@[simp] theorem appS_at {i : Nat} : appS i fa ρ = (rdO i ρ).out fun ds => (fa ρ).out fun d => if fits (ds.length + 1) = true then .nx (ρ.set i (.own (ds ++ [d]))) else .bad := nrfl rfl
@[simp] theorem extS_at {i : Nat} : extS i fa ρ = (rdO i ρ).out fun ds => (fa ρ).out fun d => match d with
  | .list es => if fits (ds.length + es.length) = true then .nx (ρ.set i (.own (ds ++ es))) else .bad
  | _ => .bad := nrfl rfl
@[simp] theorem appPopS_at {i j : Nat} : appPopS i j fa ρ = (rdO i ρ).out fun ds => (rdO j ρ).out fun es => (fa ρ).out fun d => (popD es d).out fun r => if fits (ds.length + 1) = true then .nx ((ρ.set j (.own r.2)).set i (.own (ds ++ [r.1]))) else .bad := nrfl rfl
@[simp] theorem scalD_i {i : Int} : scalD (.int i) = .ok (.int i) := nrfl rfl
@[simp] theorem scalD_b {i : Bool} : scalD (.bool i) = .ok (.bool i) := nrfl rfl
@[simp] theorem augS_at {i : Nat} : augS i fa ρ = (rdD i ρ).out fun x => (fa ρ).out fun y => match x, y with
  | .int m, .int n => .nx (ρ.set i (.dat (.int (m + n))))
  | _, _ => .bad := nrfl rfl
@[simp] theorem asgS_at {tf : D → Env → R Env} : asgS tf fa ρ = (fa ρ).out fun d => (tf d ρ).out fun ρ' => .nx ρ' := nrfl rfl
@[simp] theorem listD_l {ds : List D} : listD [.list ds] = .ok ds := nrfl rfl
@[simp] theorem listD_t {ds : List D} : listD [.tuple ds] = .ok ds := nrfl rfl
@[simp] theorem tupD_l {ds : List D} : tupD [.list ds] = .ok (.tuple ds) := nrfl rfl
@[simp] theorem tupD_t {ds : List D} : tupD [.tuple ds] = .ok (.tuple ds) := nrfl rfl
@[simp] theorem intD_b {b : Bool} : intD [.bool b] = .ok (.int (if b then 1 else 0)) := nrfl rfl
@[simp] theorem boolR_b {b : Bool} : boolR (.bool b) = .ok b := nrfl rfl
@[simp] theorem cmpD_i {p : Int → Int → Bool} {i j : Int} : cmpD p (.int i) (.int j) = .ok (.bool (p i j)) := nrfl rfl
@[simp] theorem addD_i {i j : Int} : addD (.int i) (.int j) = .ok (.int (i + j)) := nrfl rfl
@[simp] theorem subD_i {i j : Int} : subD (.int i) (.int j) = .ok (.int (i - j)) := nrfl rfl
@[simp] theorem pIs_n {n : Bool} {d : D} : pIs n d .none = .ok (.bool (if n then !isNoneD d else isNoneD d)) := nrfl rfl
@[simp] theorem isN_n : isNoneD .none = true := nrfl rfl
@[simp] theorem isN_i {i : Int} : isNoneD (.int i) = false := nrfl rfl
@[simp] theorem isN_b {i : Bool} : isNoneD (.bool i) = false := nrfl rfl
@[simp] theorem isN_s {i : Str} : isNoneD (.str i) = false := nrfl rfl
@[simp] theorem isN_l {i : List D} : isNoneD (.list i) = false := nrfl rfl
@[simp] theorem isN_t {i : List D} : isNoneD (.tuple i) = false := nrfl rfl
@[simp] theorem lenD_l {ds : List D} : lenD [.list ds] = .ok (.int ds.length) := nrfl rfl
@[simp] theorem lenD_t {ds : List D} : lenD [.tuple ds] = .ok (.int ds.length) := nrfl rfl
@[simp] theorem itemsL_l {ds : List D} : itemsL (.list ds) = .ok ds := nrfl rfl
@[simp] theorem itemsT_t {ds : List D} : itemsT (.tuple ds) = .ok ds := nrfl rfl
@[simp] theorem enumL_l {ds : List D} : enumL (.list ds) = .ok (enumI ds) := nrfl rfl
@[simp] theorem partR_i {i : Int} : partR (.int i) = .ok (some i) := nrfl rfl
@[simp] theorem tgN_at {i : Nat} {d : D} : tgN i d ρ = .ok (ρ.set i (.dat d)) := nrfl rfl
@[simp] theorem tgs0_at : tgs0 [] ρ = .ok ρ := nrfl rfl
@[simp] theorem tgs1_at {f : D → Env → R Env} {g : List D → Env → R Env} {d : D} {r : List D} : tgs1 f g (d :: r) ρ = (f d ρ).bind (g r) := nrfl rfl
theorem tgT_at {n : Nat} {g : List D → Env → R Env} {ds : List D} (h : ds.length = n) : tgT n g (.tuple ds) ρ = g ds ρ := if_pos h
@[simp] theorem tgT2 {g : List D → Env → R Env} {a b : D} : tgT 2 g (.tuple [a, b]) ρ = g [a, b] ρ := nrfl rfl
@[simp] theorem defR_rt {d : D} : defR (.rt d) = .ok d := nrfl rfl
@[simp] theorem defR_nx : defR (.nx ρ) = .ok .none := nrfl rfl
@[simp] theorem defR_exc {c : Str} : defR (.exc c) = .exc c := nrfl rfl
@[simp] theorem truD_b {b : Bool} : truD (.bool b) = .ok b := nrfl rfl
theorem mulD_l {i j : Int} (h1 : -18446744073709551616 < i) (h2 : i < 18446744073709551616) : mulD (.int i) (.int j) = .ok (.int (i * j)) := if_pos (.inl ⟨h1, h2⟩)
theorem mulD_r {i j : Int} (h1 : -18446744073709551616 < j) (h2 : j < 18446744073709551616) : mulD (.int i) (.int j) = .ok (.int (i * j)) := if_pos (.inr ⟨h1, h2⟩)
theorem divD_i {i j : Int} (h1 : 0 < j) (h2 : j < 1073741824) : divD (.int i) (.int j) = .ok (.int (i / j)) := if_pos ⟨h1, h2⟩
theorem modD_i {i j : Int} (h1 : 0 < j) : modD (.int i) (.int j) = .ok (.int (i % j)) := if_pos h1
theorem enumI_eq : ∀ ds : List D, enumI ds = (ds.zipIdx.map fun p => .tuple [.int (p.2 : Nat), p.1]) := fun ds => by
  refine List.ext_getElem? fun i => ?_
  by_cases h : i < ds.length
  · cases e : (enumI ds)[i]? with
    | none => rw [List.getElem?_eq_none_iff, enumI_length] at e; omega
    | some x =>
      obtain ⟨d, h1, rfl⟩ := enumI_get e
      rw [List.getElem?_map, List.getElem?_zipIdx, h1]
      simp
  · rw [List.getElem?_eq_none (by rw [enumI_length]; omega), List.getElem?_eq_none (by simp; omega)]
/-- the items with places from n on -/
def enF (n : Nat) : List D → List D
  | [] => []
  | d :: r => .tuple [.int (n : Nat), d] :: enF (n + 1) r
theorem enF_eq : ∀ (ds : List D) (n : Nat), enF n ds = ((ds.zipIdx n).map fun p => .tuple [.int (p.2 : Nat), p.1])
  | [], _ => rfl
  | d :: r, n => by rw [List.zipIdx_cons, List.map_cons, ← enF_eq r (n + 1)]; rfl
theorem enumI_F (ds : List D) : enumI ds = enF 0 ds := by rw [enumI_eq, enF_eq]
theorem defG_at {n : Nat} {N : List Str} {F : Env → Out} {ds : List D} (h : ds.length = n) : defG n N F ds = defR (F (startE N ds)) := if_pos h
/-- a loop that goes through all its items -/
theorem forS_inv {tf : D → Env → R Env} {body : Env → Out} (I : Env → Prop) : ∀ (ds : List D) (ρ : Env), I ρ → (∀ d ∈ ds, ∀ ρ, I ρ → ∃ ρ1 ρ2, tf d ρ = .ok ρ1 ∧ (body ρ1 = .nx ρ2 ∨ body ρ1 = .ct ρ2) ∧ I ρ2) → ∃ ρ', forS tf body ds ρ = .nx ρ' ∧ I ρ'
  | [], ρ, h, _ => ⟨ρ, rfl, h⟩
  | d :: ds, ρ, h, hs => by
    obtain ⟨ρ1, ρ2, e1, e2, h2⟩ := hs d List.mem_cons_self ρ h
    obtain ⟨ρ', e3, h3⟩ := forS_inv I ds ρ2 h2 fun d' hd => hs d' (List.mem_cons_of_mem _ hd)
    refine ⟨ρ', ?_, h3⟩
    rw [forS_cons, e1]
    rcases e2 with e2 | e2
    · show turnS (body ρ1) _ = _
      rw [e2]; exact e3
    · show turnS (body ρ1) _ = _
      rw [e2]; exact e3
end
end DL
set_option Elab.async false
set_option linter.all false
set_option maxRecDepth 100000
set_option maxHeartbeats 1000000
namespace DL
open PySem L2
/-! ### data that hold ints -/
theorem canLay_ints : ∀ ns : List Int, PyData.canLayAll0 (ns.map PyData.int) = true
  | [] => rfl
  | _ :: r => by simp [PyData.canLayAll0, PyData.canLay0, canLay_ints r]
theorem depth_ints : ∀ ns : List Int, PyData.depthAll (ns.map PyData.int) = 0
  | [] => rfl
  | _ :: r => by simp [PyData.depthAll, PyData.depth, depth_ints r]
theorem shaped_ints (ns : List Int) : SeqAt.shaped (.list (ns.map PyData.int)) = true := by
  simp [SeqAt.shaped, PyData.canLay0, PyData.depth, canLay_ints, depth_ints]
@[simp] theorem shaped_int (n : Int) : SeqAt.shaped (.int n) = true := by simp [SeqAt.shaped, PyData.canLay0, PyData.depth]
@[simp] theorem shaped_bool (n : Bool) : SeqAt.shaped (.bool n) = true := by simp [SeqAt.shaped, PyData.canLay0, PyData.depth]
@[simp] theorem shaped_none : SeqAt.shaped .none = true := by simp [SeqAt.shaped, PyData.canLay0, PyData.depth]
theorem canLay_shaped {d : D} (h : SeqAt.shaped d = true) : PyData.canLay0 d = true := SeqAt.canLay_of_shaped h
theorem eqvAll_ints : ∀ ns ms : List Int, PyData.eqvAll (ns.map PyData.int) (ms.map PyData.int) = decide (ns = ms)
  | [], [] => by simp [PyData.eqvAll]
  | [], _ :: _ => by simp [PyData.eqvAll]
  | _ :: _, [] => by simp [PyData.eqvAll]
  | a :: r, b :: t => by
    simp only [List.map_cons, PyData.eqvAll, PyData.eqv, eqvAll_ints r t]
    by_cases h : a = b <;> by_cases h' : r = t <;> simp [h, h']
theorem eqv_ints (ns ms : List Int) : PyData.eqv (.list (ns.map PyData.int)) (.list (ms.map PyData.int)) = decide (ns = ms) := by
  simp only [PyData.eqv]; exact eqvAll_ints ns ms
theorem eqD_ints (ns ms : List Int) : eqD (.list (ns.map PyData.int)) (.list (ms.map PyData.int)) = .ok (.bool (decide (ns = ms))) := by
  unfold eqD; rw [if_pos ⟨shaped_ints _, shaped_ints _⟩, eqv_ints]
theorem neD_ints (ns ms : List Int) : neD (.list (ns.map PyData.int)) (.list (ms.map PyData.int)) = .ok (.bool (!decide (ns = ms))) := by
  unfold neD; rw [if_pos ⟨shaped_ints _, shaped_ints _⟩, eqv_ints]
@[simp] theorem eqD_int (n m : Int) : eqD (.int n) (.int m) = .ok (.bool (decide (n = m))) := by
  unfold eqD; rw [if_pos ⟨shaped_int _, shaped_int _⟩]; simp only [PyData.eqv]; by_cases h : n = m <;> simp [h]
@[simp] theorem neD_int (n m : Int) : neD (.int n) (.int m) = .ok (.bool (!decide (n = m))) := by
  unfold neD; rw [if_pos ⟨shaped_int _, shaped_int _⟩]; simp only [PyData.eqv]; by_cases h : n = m <;> simp [h]
theorem neD_self {d : D} (h : SeqAt.shaped d = true) : neD d d = .ok (.bool false) := by
  unfold neD; rw [if_pos ⟨h, h⟩, SeqAt.eqv_refl d (canLay_shaped h)]; rfl
theorem eqD_self {d : D} (h : SeqAt.shaped d = true) : eqD d d = .ok (.bool true) := by
  unfold eqD; rw [if_pos ⟨h, h⟩, SeqAt.eqv_refl d (canLay_shaped h)]
theorem any_ints (x : Int) : ∀ ns : List Int, ((ns.map PyData.int).any fun z => PyData.eqv z (.int x)) = decide (x ∈ ns)
  | [] => by simp
  | n :: r => by
    rw [List.map_cons, List.any_cons, any_ints x r]
    simp only [PyData.eqv]
    by_cases h : n = x
    · subst h; simp
    · have h' : ¬ x = n := fun z => h z.symm
      simp [h, h']
theorem inD_ints (n : Bool) (x : Int) (ns : List Int) : inD n (.int x) (.list (ns.map PyData.int)) = .ok (.bool (if n then !decide (x ∈ ns) else decide (x ∈ ns))) := by
  have e := any_ints x ns
  have c : SeqAt.shaped (.int x) = true ∧ SeqAt.shaped (.list (ns.map PyData.int)) = true := ⟨shaped_int _, shaped_ints _⟩
  show (if SeqAt.shaped (.int x) = true ∧ SeqAt.shaped (.list (ns.map PyData.int)) = true then R.ok (PyData.bool (if n = true then !(ns.map PyData.int).any fun z => PyData.eqv z (.int x) else (ns.map PyData.int).any fun z => PyData.eqv z (.int x))) else R.bad) = _
  rw [if_pos c, e]
/-! isinstance -/
theorem kb (a b : String) (r : Bool) (h : kitB a b = some r := by decide +kernel) : kitB a b = some r := h
theorem isi_int (d : D) : isiD "int" d = .ok (.bool (match d with | .int _ => true | .bool _ => true | _ => false)) := by
  cases d <;> (unfold isiD tyD) <;> first
    | rw [show kitB "NoneType" "int" = some false by decide +kernel]
    | rw [show kitB "bool" "int" = some true by decide +kernel]
    | rw [show kitB "int" "int" = some true by decide +kernel]
    | rw [show kitB "str" "int" = some false by decide +kernel]
    | rw [show kitB "list" "int" = some false by decide +kernel]
    | rw [show kitB "tuple" "int" = some false by decide +kernel]
    | rw [show kitB "dict" "int" = some false by decide +kernel]
theorem isi_bool (d : D) : isiD "bool" d = .ok (.bool (match d with | .bool _ => true | _ => false)) := by
  cases d <;> (unfold isiD tyD) <;> first
    | rw [show kitB "NoneType" "bool" = some false by decide +kernel]
    | rw [show kitB "bool" "bool" = some true by decide +kernel]
    | rw [show kitB "int" "bool" = some false by decide +kernel]
    | rw [show kitB "str" "bool" = some false by decide +kernel]
    | rw [show kitB "list" "bool" = some false by decide +kernel]
    | rw [show kitB "tuple" "bool" = some false by decide +kernel]
    | rw [show kitB "dict" "bool" = some false by decide +kernel]
theorem isi_list (d : D) : isiD "list" d = .ok (.bool (match d with | .list _ => true | _ => false)) := by
  cases d <;> (unfold isiD tyD) <;> first
    | rw [show kitB "NoneType" "list" = some false by decide +kernel]
    | rw [show kitB "bool" "list" = some false by decide +kernel]
    | rw [show kitB "int" "list" = some false by decide +kernel]
    | rw [show kitB "str" "list" = some false by decide +kernel]
    | rw [show kitB "list" "list" = some true by decide +kernel]
    | rw [show kitB "tuple" "list" = some false by decide +kernel]
    | rw [show kitB "dict" "list" = some false by decide +kernel]
theorem isi_tuple (d : D) : isiD "tuple" d = .ok (.bool (match d with | .tuple _ => true | _ => false)) := by
  cases d <;> (unfold isiD tyD) <;> first
    | rw [show kitB "NoneType" "tuple" = some false by decide +kernel]
    | rw [show kitB "bool" "tuple" = some false by decide +kernel]
    | rw [show kitB "int" "tuple" = some false by decide +kernel]
    | rw [show kitB "str" "tuple" = some false by decide +kernel]
    | rw [show kitB "list" "tuple" = some false by decide +kernel]
    | rw [show kitB "tuple" "tuple" = some true by decide +kernel]
    | rw [show kitB "dict" "tuple" = some false by decide +kernel]
theorem isi_str (d : D) : isiD "str" d = .ok (.bool (match d with | .str _ => true | _ => false)) := by
  cases d <;> (unfold isiD tyD) <;> first
    | rw [show kitB "NoneType" "str" = some false by decide +kernel]
    | rw [show kitB "bool" "str" = some false by decide +kernel]
    | rw [show kitB "int" "str" = some false by decide +kernel]
    | rw [show kitB "str" "str" = some true by decide +kernel]
    | rw [show kitB "list" "str" = some false by decide +kernel]
    | rw [show kitB "tuple" "str" = some false by decide +kernel]
    | rw [show kitB "dict" "str" = some false by decide +kernel]
/-! comprehensions -/
theorem compR_filter {tf : D → Env → R Env} {ft : Env → R Bool} {fe : Env → R D} {ρ : Env} (p : D → Bool) (h : D → D) : ∀ ds : List D, (∀ d ∈ ds, ∃ ρ1, tf d ρ = .ok ρ1 ∧ ft ρ1 = .ok (p d) ∧ (p d = true → fe ρ1 = .ok (h d))) → compR tf ft fe ρ ds = .ok ((ds.filter p).map h)
  | [], _ => rfl
  | d :: ds, hs => by
    obtain ⟨ρ1, e1, e2, e3⟩ := hs d List.mem_cons_self
    have ih := compR_filter p h ds fun d' hd => hs d' (List.mem_cons_of_mem _ hd)
    unfold compR
    rw [e1]
    simp only [e2]
    cases hp : p d with
    | true =>
      rw [List.filter_cons_of_pos hp, List.map_cons]
      simp only [e3 hp, ih]
      rfl
    | false =>
      rw [List.filter_cons_of_neg (by rw [hp]; exact Bool.false_ne_true)]
      exact ih
theorem compR_map {tf : D → Env → R Env} {fe : Env → R D} {ρ : Env} (h : D → D) (ds : List D) (hs : ∀ d ∈ ds, ∃ ρ1, tf d ρ = .ok ρ1 ∧ fe ρ1 = .ok (h d)) : compR tf (fun _ => .ok true) fe ρ ds = .ok (ds.map h) := by
  rw [compR_filter (fun _ => true) h ds fun d hd => let ⟨ρ1, e1, e2⟩ := hs d hd; ⟨ρ1, e1, rfl, fun _ => e2⟩, List.filter_eq_self.mpr fun _ _ => rfl]
theorem lcR_ok {fi : Env → R (List D)} {tf : D → Env → R Env} {ft : Env → R Bool} {fe : Env → R D} {own : List Nat} {ρ : Env} {its r : List D} (h1 : fi ρ = .ok its) (h2 : compR tf ft fe (wipeE own ρ) its = .ok r) (h3 : its.length ≤ 16777216) : lcR fi tf ft fe own ρ = .ok r := by
  unfold lcR
  rw [h1]
  show (compR tf ft fe (wipeE own ρ) its).bind _ = _
  rw [h2]
  exact if_pos (fits_of h3)
theorem blsD_map (bs : List Bool) : blsD (bs.map .bool) = some bs := by
  induction bs with
  | nil => rfl
  | cons b r ih => rw [List.map_cons, blsD, ih]; rfl
theorem allD_map (bs : List Bool) : allD [.list (bs.map .bool)] = .ok (.bool (bs.all id)) := by
  simp only [allD, blsD_map]
theorem anyD_map (bs : List Bool) : anyD [.list (bs.map .bool)] = .ok (.bool (bs.any id)) := by
  simp only [anyD, blsD_map]
theorem metI_nodup {ns : List Int} (h : ns.Nodup) : (metI ns).length = ns.length := by
  unfold metI
  have e : PyProof.Rows.firstMet (fun i => ns.getD i 0) ns.length = ns.take ns.length := RZ.firstMet_nodup h ns.length (Nat.le_refl _)
  rw [e, List.take_length]
theorem lenSetD_ok {ns : List Int} (h : ns.Nodup) (hl : ns.length ≤ 4000) : lenSetD (.list (ns.map .int)) = .ok (.int ns.length) := by
  simp only [lenSetD, intsD_map, if_pos hl, metI_nodup h]
/-- slices by naturals -/
theorem cutD_nat {α : Type} (xs : List α) (i j : Nat) : cutD xs (some (i : Int)) (some (j : Int)) = (xs.drop i).take (j - i) := by
  unfold cutD
  rw [HT.sIx_nat, HT.sIx_nat]
  by_cases h : i ≤ xs.length
  · rw [Nat.min_eq_left h]
    by_cases h2 : j ≤ xs.length
    · rw [Nat.min_eq_left h2]
    · rw [Nat.min_eq_right (by omega)]
      rw [List.take_of_length_le (by rw [List.length_drop]; omega), List.take_of_length_le (by rw [List.length_drop]; omega)]
  · rw [Nat.min_eq_right (show xs.length ≤ i by omega), List.drop_of_length_le (Nat.le_refl _), List.drop_of_length_le (show xs.length ≤ i by omega), List.take_nil, List.take_nil]
theorem cutD_to {α : Type} (xs : List α) (j : Nat) : cutD xs none (some (j : Int)) = xs.take j := by
  unfold cutD
  rw [HT.sIx_none, HT.sIx_nat, Nat.sub_zero, List.drop_zero]
  by_cases h2 : j ≤ xs.length
  · rw [Nat.min_eq_left h2]
  · rw [Nat.min_eq_right (by omega), List.take_length, List.take_of_length_le (by omega)]
theorem cutD_from {α : Type} (xs : List α) (i : Nat) : cutD xs (some (i : Int)) none = xs.drop i := by
  unfold cutD
  rw [HT.sIx_none, HT.sIx_nat]
  by_cases h : i ≤ xs.length
  · rw [Nat.min_eq_left h, List.take_of_length_le (by rw [List.length_drop]; omega)]
  · rw [Nat.min_eq_right (show xs.length ≤ i by omega), List.drop_of_length_le (Nat.le_refl _), List.drop_of_length_le (show xs.length ≤ i by omega), List.take_nil]
theorem cutD_all {α : Type} (xs : List α) : cutD xs none none = xs := by
  unfold cutD
  rw [HT.sIx_none, HT.sIx_none, List.drop_zero, Nat.sub_zero, List.take_length]
theorem cutD_map {α β : Type} (f : α → β) (xs : List α) (lo hi : Option Int) : cutD (xs.map f) lo hi = (cutD xs lo hi).map f := by
  unfold cutD; rw [List.length_map, List.map_take, List.map_drop]
theorem cutD_sub {α : Type} (xs : List α) (lo hi : Option Int) : (cutD xs lo hi).Sublist xs := by
  unfold cutD; exact (List.take_sublist _ _).trans (List.drop_sublist _ _)
theorem atI_ok {α : Type} {xs : List α} {i : Int} (h0 : 0 ≤ i) (h1 : i < xs.length) : atI xs i = xs[i.toNat]? := by
  unfold atI ixN
  rw [if_pos h0, if_pos h1]; rfl
theorem ixD_l {ds : List D} {i : Int} {d : D} (h : atI ds i = some d) : ixD (.list ds) (.int i) = .ok d := by unfold ixD; simp only [h]
theorem ixD_t {ds : List D} {i : Int} {d : D} (h : atI ds i = some d) : ixD (.tuple ds) (.int i) = .ok d := by unfold ixD; simp only [h]
/-- a body that goes on -/
def okO (I : Env → Prop) : Out → Prop
  | .nx ρ => I ρ
  | .ct ρ => I ρ
  | _ => False
theorem for_then {tf : D → Env → R Env} {body G : Env → Out} {ds : List D} {ρ : Env} {X : Out} (I : Env → Prop) (h0 : I ρ) (hs : ∀ d ∈ ds, ∀ ρ, I ρ → ∃ ρ1, tf d ρ = .ok ρ1 ∧ okO I (body ρ1)) (hG : ∀ ρ', I ρ' → G ρ' = X) : (forS tf body ds ρ).then G = X := by
  obtain ⟨ρ', e, h⟩ := forS_inv I ds ρ h0 fun d hd ρ hI => by
    obtain ⟨ρ1, e1, h1⟩ := hs d hd ρ hI
    cases e2 : body ρ1 with
    | nx ρ2 => rw [e2] at h1; exact ⟨ρ1, ρ2, e1, .inl e2, h1⟩
    | ct ρ2 => rw [e2] at h1; exact ⟨ρ1, ρ2, e1, .inr e2, h1⟩
    | bk ρ2 => rw [e2] at h1; exact h1.elim
    | rt d => rw [e2] at h1; exact h1.elim
    | exc c => rw [e2] at h1; exact h1.elim
    | bad => rw [e2] at h1; exact h1.elim
  rw [e, Out.then_nx]; exact hG ρ' h
theorem ixD_l0 {d : D} {r : List D} : ixD (.list (d :: r)) (.int 0) = .ok d := ixD_l (by rw [atI_ok (by decide) (by simp)]; rfl)
theorem ixD_l1 {d e : D} {r : List D} : ixD (.list (d :: e :: r)) (.int 1) = .ok e := ixD_l (by rw [atI_ok (by decide) (by simp; omega)]; rfl)
theorem ixD_t0 {d : D} {r : List D} : ixD (.tuple (d :: r)) (.int 0) = .ok d := ixD_t (by rw [atI_ok (by decide) (by simp)]; rfl)
theorem ixD_t1 {d e : D} {r : List D} : ixD (.tuple (d :: e :: r)) (.int 1) = .ok e := ixD_t (by rw [atI_ok (by decide) (by simp; omega)]; rfl)
end DL
set_option Elab.async false
set_option linter.all false
set_option maxRecDepth 100000
set_option maxHeartbeats 4000000
namespace K11
open PySem L2 DL
/-! ## the text -/
def topS (i : Nat) : Stmt := PySem.Challenge.pw_sidebyside_k11_parted_at.main.body.getD i (.Pass ⟨0, 0, 0, 0⟩)
/-! ### is_among -/
abbrev s_is_among : Stmt := topS 6
abbrev N_is_among : List Str := ["thing", "least", "most"]
theorem sc_is_among : FnScope N_is_among ["thing", "least", "most"] (defScope s_is_among) := ⟨rfl, rfl, rfl, by decide +kernel, rfl, by decide +kernel, by decide +kernel⟩
theorem nm_is_among_0 : Nm N_is_among (defScope s_is_among) 0 "thing" := nm_of (by decide +kernel)
theorem nm_is_among_1 : Nm N_is_among (defScope s_is_among) 1 "least" := nm_of (by decide +kernel)
theorem nm_is_among_2 : Nm N_is_among (defScope s_is_among) 2 "most" := nm_of (by decide +kernel)
def F_is_among : DL.Env → Out := (retS (andR (bdR (rdD 0) (isiD "int")) (andR (notR (bdR (rdD 0) (isiD "bool"))) (chainR leD leD (rdD 1) (rdD 0) (rdD 2)))))
def G_is_among : List D → R D := defG 3 N_is_among (F_is_among  )
section
variable {P : Program} {w : World} {K : PySem.W.Frag} {mg : Str → Option Value} {base : Heap} {k : Nat}
theorem bd_is_among (m_isinstance : mg "isinstance" = none) (m_bool : mg "bool" = none) (m_int : mg "int" = none) {f : Addr} {cdv : Value} {A : Around} {outer : List PySem.Env} {s : Shared} {H : Hp} {E : XK} (hr : Room k (A.deeper (PyProof.Rows.envOfC "is_among" (defScope s_is_among) s.heap.objs.size f cdv))) :
    DSs (· = cxD P w K mg base N_is_among "is_among" (defScope s_is_among) f cdv A outer s H E) K mg (fun cls d _ H => E cls d H) (defBody s_is_among) (F_is_among  ) := by
  have c := cxs_def (P := P) (w := w) (K := K) (mg := mg) (base := base) (H := H) (E := E) (outer := outer) sc_is_among hr
  exact (dss_one (ds_ret (de_and (de_isi (T := "int") c (gm_of (by decide +kernel)) m_isinstance (de_name c nm_is_among_0) (gm_of (by decide +kernel)) m_int (by decide +kernel) (by decide)) (de_and (de_not (de_isi (T := "bool") c (gm_of (by decide +kernel)) m_isinstance (de_name c nm_is_among_0) (gm_of (by decide +kernel)) m_bool (by decide +kernel) (by decide))) (de_one (de_lele (de_name c nm_is_among_1) (de_name c nm_is_among_0) (de_name c nm_is_among_2)))))))
theorem fn_is_among (m_isinstance : mg "isinstance" = none) (m_bool : mg "bool" = none) (m_int : mg "int" = none) {f : Addr} {fd : FuncData} (Fu : L2.Fun K "is_among" "is_among" s_is_among f fd) (gx : mg "is_among" = some (.ref f)) (hb : Binds K fd ["thing", "least", "most"] []) : Fn P w K mg base (k + 1) "is_among" 3 (G_is_among  ) :=
  fn_def Fu sc_is_among gx hb (fun cdv A outer s H E hr => bd_is_among  m_isinstance m_bool m_int hr) (defG_ok rfl)
end
def g_is_among : List D → R D := G_is_among 
theorem e_is_among (a0 a1 a2 : D) : g_is_among [a0, a1, a2] = defR (F_is_among  [.dat a0, .dat a1, .dat a2]) := nrfl rfl
/-! ### is_group -/
abbrev s_is_group : Stmt := topS 8
abbrev N_is_group : List Str := ["thing", "many", "one"]
theorem sc_is_group : FnScope N_is_group ["thing", "many"] (defScope s_is_group) := ⟨rfl, rfl, rfl, by decide +kernel, rfl, by decide +kernel, by decide +kernel⟩
theorem nm_is_group_0 : Nm N_is_group (defScope s_is_group) 0 "thing" := nm_of (by decide +kernel)
theorem nm_is_group_1 : Nm N_is_group (defScope s_is_group) 1 "many" := nm_of (by decide +kernel)
def F_is_group (g_is_among : List D → R D) : DL.Env → Out := (seqS (ifS (orT (notT (toT (bdR (rdD 0) (isiD "list")))) (notT (toT (callR allD (consR (asL (lcR (bdR (rdD 0) itemsL) (tgN 2) (fun _ => R.ok true) (callR g_is_among (consR (rdD 2) (consR (fun _ => R.ok (.int 0)) (consR (opR subD (rdD 1) (fun _ => R.ok (.int 1))) (fun _ => R.ok []))))) [2])) (fun _ => R.ok [])))))) (retS (fun _ => R.ok (.bool false))) nxS) (retS (opR eqD (bdR (rdD 0) lenSetD) (callR lenD (consR (rdD 0) (fun _ => R.ok []))))))
def G_is_group (g_is_among : List D → R D) : List D → R D := defG 2 N_is_group (F_is_group g_is_among )
section
variable {P : Program} {w : World} {K : PySem.W.Frag} {mg : Str → Option Value} {base : Heap} {k : Nat}
theorem bd_is_group {g_is_among : List D → R D} (h_is_among : Fn P w K mg base k "is_among" 3 g_is_among) (m_isinstance : mg "isinstance" = none) (m_list : mg "list" = none) (m_all : mg "all" = none) (m_len : mg "len" = none) (m_set : mg "set" = none) {f : Addr} {cdv : Value} {A : Around} {outer : List PySem.Env} {s : Shared} {H : Hp} {E : XK} (hr : Room k (A.deeper (PyProof.Rows.envOfC "is_group" (defScope s_is_group) s.heap.objs.size f cdv))) :
    DSs (· = cxD P w K mg base N_is_group "is_group" (defScope s_is_group) f cdv A outer s H E) K mg (fun cls d _ H => E cls d H) (defBody s_is_group) (F_is_group g_is_among ) := by
  have c := cxs_def (P := P) (w := w) (K := K) (mg := mg) (base := base) (H := H) (E := E) (outer := outer) sc_is_group hr
  exact (dss_cons (ds_if (dt_w (dw_or (dt_not (dt_tru c (de_isi (T := "list") c (gm_of (by decide +kernel)) m_isinstance (de_name c nm_is_group_0) (gm_of (by decide +kernel)) m_list (by decide +kernel) (by decide)))) (dw_or1 (dt_not (dt_tru c (de_all c (gm_of (by decide +kernel)) m_all (da_cons (de_l (dn_lc (own := [("one", 2)]) c (di_list c (de_name c nm_is_group_0)) (by decide +kernel) (dg_name (cxs_blk c) (lm_of (i := 2) (by decide +kernel))) (by decide) dts_nil (de_call (cxs_blk c) h_is_among (Nat.le_refl _) (gm_of (by decide +kernel)) (da_cons (de_name (cxs_blk c) (nm_of (i := 2) (by decide +kernel))) (da_cons de_int (da_cons (de_sub (de_name (cxs_blk c) (nm_of (i := 1) (by decide +kernel))) de_int) da_nil)))))) da_nil))))))) (dss_one (ds_ret de_bl)) dss_nil) (dss_one (ds_ret (de_eq c (de_lenset c (gm_of (by decide +kernel)) m_len (gm_of (by decide +kernel)) m_set (de_name c nm_is_group_0)) (de_len c (gm_of (by decide +kernel)) m_len (da_cons (de_name c nm_is_group_0) da_nil))))))
theorem fn_is_group {g_is_among : List D → R D} (h_is_among : Fn P w K mg base k "is_among" 3 g_is_among) (m_isinstance : mg "isinstance" = none) (m_list : mg "list" = none) (m_all : mg "all" = none) (m_len : mg "len" = none) (m_set : mg "set" = none) {f : Addr} {fd : FuncData} (Fu : L2.Fun K "is_group" "is_group" s_is_group f fd) (gx : mg "is_group" = some (.ref f)) (hb : Binds K fd ["thing", "many"] []) : Fn P w K mg base (k + 1) "is_group" 2 (G_is_group g_is_among ) :=
  fn_def Fu sc_is_group gx hb (fun cdv A outer s H E hr => bd_is_group  h_is_among m_isinstance m_list m_all m_len m_set hr) (defG_ok rfl)
end
def g_is_group : List D → R D := G_is_group g_is_among
theorem e_is_group (a0 a1 : D) : g_is_group [a0, a1] = defR (F_is_group g_is_among [.dat a0, .dat a1, .no]) := nrfl rfl
/-! ### need_group -/
abbrev s_need_group : Stmt := topS 9
abbrev N_need_group : List Str := ["group", "many"]
theorem sc_need_group : FnScope N_need_group ["group", "many"] (defScope s_need_group) := ⟨rfl, rfl, rfl, by decide +kernel, rfl, by decide +kernel, by decide +kernel⟩
theorem nm_need_group_0 : Nm N_need_group (defScope s_need_group) 0 "group" := nm_of (by decide +kernel)
theorem nm_need_group_1 : Nm N_need_group (defScope s_need_group) 1 "many" := nm_of (by decide +kernel)
def F_need_group (g_is_group : List D → R D) : DL.Env → Out := (ifS (notT (toT (callR g_is_group (consR (rdD 0) (consR (rdD 1) (fun _ => R.ok [])))))) (fun _ => Out.exc "BadGroup") nxS)
def G_need_group (g_is_group : List D → R D) : List D → R D := defG 2 N_need_group (F_need_group g_is_group )
section
variable {P : Program} {w : World} {K : PySem.W.Frag} {mg : Str → Option Value} {base : Heap} {k : Nat}
theorem bd_need_group {g_is_group : List D → R D} (h_is_group : Fn P w K mg base k "is_group" 2 g_is_group) {C_BadGroup : Addr} (x_BadGroup : Ex K mg "BadGroup" C_BadGroup) {f : Addr} {cdv : Value} {A : Around} {outer : List PySem.Env} {s : Shared} {H : Hp} {E : XK} (hr : Room k (A.deeper (PyProof.Rows.envOfC "need_group" (defScope s_need_group) s.heap.objs.size f cdv))) :
    DSs (· = cxD P w K mg base N_need_group "need_group" (defScope s_need_group) f cdv A outer s H E) K mg (fun cls d _ H => E cls d H) (defBody s_need_group) (F_need_group g_is_group ) := by
  have c := cxs_def (P := P) (w := w) (K := K) (mg := mg) (base := base) (H := H) (E := E) (outer := outer) sc_need_group hr
  exact (dss_one (ds_if (dt_not (dt_tru c (de_call c h_is_group (Nat.le_refl _) (gm_of (by decide +kernel)) (da_cons (de_name c nm_need_group_0) (da_cons (de_name c nm_need_group_1) da_nil))))) (dss_one (ds_raise c x_BadGroup (gm_of (by decide +kernel)))) dss_nil))
theorem fn_need_group {g_is_group : List D → R D} (h_is_group : Fn P w K mg base k "is_group" 2 g_is_group) {C_BadGroup : Addr} (x_BadGroup : Ex K mg "BadGroup" C_BadGroup) {f : Addr} {fd : FuncData} (Fu : L2.Fun K "need_group" "need_group" s_need_group f fd) (gx : mg "need_group" = some (.ref f)) (hb : Binds K fd ["group", "many"] []) : Fn P w K mg base (k + 1) "need_group" 2 (G_need_group g_is_group ) :=
  fn_def Fu sc_need_group gx hb (fun cdv A outer s H E hr => bd_need_group  h_is_group x_BadGroup hr) (defG_ok rfl)
end
def g_need_group : List D → R D := G_need_group g_is_group
theorem e_need_group (a0 a1 : D) : g_need_group [a0, a1] = defR (F_need_group g_is_group [.dat a0, .dat a1]) := nrfl rfl
/-! ### need_row -/
abbrev s_need_row : Stmt := topS 11
abbrev N_need_row : List Str := ["row", "many"]
theorem sc_need_row : FnScope N_need_row ["row", "many"] (defScope s_need_row) := ⟨rfl, rfl, rfl, by decide +kernel, rfl, by decide +kernel, by decide +kernel⟩
theorem nm_need_row_0 : Nm N_need_row (defScope s_need_row) 0 "row" := nm_of (by decide +kernel)
theorem nm_need_row_1 : Nm N_need_row (defScope s_need_row) 1 "many" := nm_of (by decide +kernel)
def F_need_row (g_is_group : List D → R D) : DL.Env → Out := (ifS (orT (notT (toT (callR g_is_group (consR (rdD 0) (consR (rdD 1) (fun _ => R.ok [])))))) (toB (opR neD (callR lenD (consR (rdD 0) (fun _ => R.ok []))) (rdD 1)))) (fun _ => Out.exc "BadRow") nxS)
def G_need_row (g_is_group : List D → R D) : List D → R D := defG 2 N_need_row (F_need_row g_is_group )
section
variable {P : Program} {w : World} {K : PySem.W.Frag} {mg : Str → Option Value} {base : Heap} {k : Nat}
theorem bd_need_row {g_is_group : List D → R D} (h_is_group : Fn P w K mg base k "is_group" 2 g_is_group) (m_len : mg "len" = none) {C_BadRow : Addr} (x_BadRow : Ex K mg "BadRow" C_BadRow) {f : Addr} {cdv : Value} {A : Around} {outer : List PySem.Env} {s : Shared} {H : Hp} {E : XK} (hr : Room k (A.deeper (PyProof.Rows.envOfC "need_row" (defScope s_need_row) s.heap.objs.size f cdv))) :
    DSs (· = cxD P w K mg base N_need_row "need_row" (defScope s_need_row) f cdv A outer s H E) K mg (fun cls d _ H => E cls d H) (defBody s_need_row) (F_need_row g_is_group ) := by
  have c := cxs_def (P := P) (w := w) (K := K) (mg := mg) (base := base) (H := H) (E := E) (outer := outer) sc_need_row hr
  exact (dss_one (ds_if (dt_w (dw_or (dt_not (dt_tru c (de_call c h_is_group (Nat.le_refl _) (gm_of (by decide +kernel)) (da_cons (de_name c nm_need_row_0) (da_cons (de_name c nm_need_row_1) da_nil))))) (dw_or1 (dt_ne c (de_len c (gm_of (by decide +kernel)) m_len (da_cons (de_name c nm_need_row_0) da_nil)) (de_name c nm_need_row_1))))) (dss_one (ds_raise c x_BadRow (gm_of (by decide +kernel)))) dss_nil))
theorem fn_need_row {g_is_group : List D → R D} (h_is_group : Fn P w K mg base k "is_group" 2 g_is_group) (m_len : mg "len" = none) {C_BadRow : Addr} (x_BadRow : Ex K mg "BadRow" C_BadRow) {f : Addr} {fd : FuncData} (Fu : L2.Fun K "need_row" "need_row" s_need_row f fd) (gx : mg "need_row" = some (.ref f)) (hb : Binds K fd ["row", "many"] []) : Fn P w K mg base (k + 1) "need_row" 2 (G_need_row g_is_group ) :=
  fn_def Fu sc_need_row gx hb (fun cdv A outer s H E hr => bd_need_row  h_is_group m_len x_BadRow hr) (defG_ok rfl)
end
def g_need_row : List D → R D := G_need_row g_is_group
theorem e_need_row (a0 a1 : D) : g_need_row [a0, a1] = defR (F_need_row g_is_group [.dat a0, .dat a1]) := nrfl rfl
/-! ### parted_at -/
abbrev s_parted_at : Stmt := topS 12
abbrev N_parted_at : List Str := ["row", "group", "places", "place", "guest"]
theorem sc_parted_at : FnScope N_parted_at ["row", "group"] (defScope s_parted_at) := ⟨rfl, rfl, rfl, by decide +kernel, rfl, by decide +kernel, by decide +kernel⟩
theorem nm_parted_at_0 : Nm N_parted_at (defScope s_parted_at) 0 "row" := nm_of (by decide +kernel)
theorem nm_parted_at_1 : Nm N_parted_at (defScope s_parted_at) 1 "group" := nm_of (by decide +kernel)
theorem nm_parted_at_2 : Nm N_parted_at (defScope s_parted_at) 2 "places" := nm_of (by decide +kernel)
theorem nm_parted_at_3 : Nm N_parted_at (defScope s_parted_at) 3 "place" := nm_of (by decide +kernel)
theorem nm_parted_at_4 : Nm N_parted_at (defScope s_parted_at) 4 "guest" := nm_of (by decide +kernel)
def F_parted_at (g_need_row g_need_group : List D → R D) : DL.Env → Out := (seqS (ifS (orT (notT (toT (bdR (rdD 0) (isiD "list")))) (notT (toB (chainR leD leD (fun _ => R.ok (.int 1)) (callR lenD (consR (rdD 0) (fun _ => R.ok []))) (fun _ => R.ok (.int 12)))))) (fun _ => Out.exc "BadRow") nxS) (seqS (dropS (callR g_need_row (consR (rdD 0) (consR (callR lenD (consR (rdD 0) (fun _ => R.ok []))) (fun _ => R.ok []))))) (seqS (dropS (callR g_need_group (consR (rdD 1) (consR (callR lenD (consR (rdD 0) (fun _ => R.ok []))) (fun _ => R.ok []))))) (seqS (setS 2 (asL (lcR (bdR (rdD 0) enumL) (tgT 2 (tgs1 (tgN 3) (tgs1 (tgN 4) tgs0))) (toB (opR (inD false) (rdD 4) (rdD 1))) (rdD 3) [3, 4]))) (seqS (forI (bdR (rdD 0) enumL) (tgT 2 (tgs1 (tgN 3) (tgs1 (tgN 4) tgs0))) (ifS (andT (toB (opR neD (rdD 2) (asL (lstR (fun _ => R.ok []))))) (andT (toB (chainR ltD ltD (opR ixD (rdD 2) (fun _ => R.ok (.int 0))) (rdD 3) (opR ixD (rdD 2) (fun _ => R.ok (.int (-1)))))) (toB (opR (inD true) (rdD 4) (rdD 1))))) (retS (rdD 3)) nxS)) (retS (fun _ => R.ok .none)))))))
def G_parted_at (g_need_row g_need_group : List D → R D) : List D → R D := defG 2 N_parted_at (F_parted_at g_need_row g_need_group )
section
variable {P : Program} {w : World} {K : PySem.W.Frag} {mg : Str → Option Value} {base : Heap} {k : Nat}
theorem bd_parted_at {g_need_row g_need_group : List D → R D} (h_need_row : Fn P w K mg base k "need_row" 2 g_need_row) (h_need_group : Fn P w K mg base k "need_group" 2 g_need_group) (m_isinstance : mg "isinstance" = none) (m_list : mg "list" = none) (m_len : mg "len" = none) (m_enumerate : mg "enumerate" = none) (v_MOST_GUESTS : ∃ t : Tok, mg "MOST_GUESTS" = some (.int 12 t)) {C_BadRow : Addr} (x_BadRow : Ex K mg "BadRow" C_BadRow) {f : Addr} {cdv : Value} {A : Around} {outer : List PySem.Env} {s : Shared} {H : Hp} {E : XK} (hr : Room k (A.deeper (PyProof.Rows.envOfC "parted_at" (defScope s_parted_at) s.heap.objs.size f cdv))) :
    DSs (· = cxD P w K mg base N_parted_at "parted_at" (defScope s_parted_at) f cdv A outer s H E) K mg (fun cls d _ H => E cls d H) (defBody s_parted_at) (F_parted_at g_need_row g_need_group ) := by
  have c := cxs_def (P := P) (w := w) (K := K) (mg := mg) (base := base) (H := H) (E := E) (outer := outer) sc_parted_at hr
  exact (dss_cons (ds_if (dt_w (dw_or (dt_not (dt_tru c (de_isi (T := "list") c (gm_of (by decide +kernel)) m_isinstance (de_name c nm_parted_at_0) (gm_of (by decide +kernel)) m_list (by decide +kernel) (by decide)))) (dw_or1 (dt_not (dt_lele de_int (de_len c (gm_of (by decide +kernel)) m_len (da_cons (de_name c nm_parted_at_0) da_nil)) (de_globI c (gm_of (by decide +kernel)) v_MOST_GUESTS.choose_spec)))))) (dss_one (ds_raise c x_BadRow (gm_of (by decide +kernel)))) dss_nil) (dss_cons (ds_expr (de_call c h_need_row (Nat.le_refl _) (gm_of (by decide +kernel)) (da_cons (de_name c nm_parted_at_0) (da_cons (de_len c (gm_of (by decide +kernel)) m_len (da_cons (de_name c nm_parted_at_0) da_nil)) da_nil)))) (dss_cons (ds_expr (de_call c h_need_group (Nat.le_refl _) (gm_of (by decide +kernel)) (da_cons (de_name c nm_parted_at_1) (da_cons (de_len c (gm_of (by decide +kernel)) m_len (da_cons (de_name c nm_parted_at_0) da_nil)) da_nil)))) (dss_cons (ds_setLcD (own := [("place", 3), ("guest", 4)]) c (i := 2) rfl (by decide +kernel) (di_enum c (gm_of (by decide +kernel)) m_enumerate (de_name c nm_parted_at_0)) (by decide +kernel) (dg_tup (cxs_blk c) (dgs_cons (dg_name (cxs_blk c) (lm_of (i := 3) (by decide +kernel))) (dgs_cons (dg_name (cxs_blk c) (lm_of (i := 4) (by decide +kernel))) dgs_nil))) (by decide) (dts_one (dt_in (cxs_blk c) (de_name (cxs_blk c) (nm_of (i := 4) (by decide +kernel))) (de_name (cxs_blk c) (nm_of (i := 1) (by decide +kernel))))) (de_name (cxs_blk c) (nm_of (i := 3) (by decide +kernel))) rfl rfl (by decide +kernel)) (dss_cons (ds_for c (nx_T (nx_1 (nx_N 3) (nx_1 (nx_N 4) nx_0))) (di_enum c (gm_of (by decide +kernel)) m_enumerate (de_name c nm_parted_at_0)) (dg_tup c (dgs_cons (dg_name c (lm_ofD (i := 3) (by decide +kernel))) (dgs_cons (dg_name c (lm_ofD (i := 4) (by decide +kernel))) dgs_nil))) (dss_one (ds_if (dt_w (dw_and (dt_ne c (de_name c nm_parted_at_2) (de_l (dn_lst da_nil))) (dw_and (dt_ltlt (de_ix c (de_name c nm_parted_at_2) de_int) (de_name c nm_parted_at_3) (de_ix c (de_name c nm_parted_at_2) de_neg)) (dw_and1 (dt_notin c (de_name c nm_parted_at_4) (de_name c nm_parted_at_1)))))) (dss_one (ds_ret (de_name c nm_parted_at_3))) dss_nil))) (dss_one (ds_ret de_non)))))))
theorem fn_parted_at {g_need_row g_need_group : List D → R D} (h_need_row : Fn P w K mg base k "need_row" 2 g_need_row) (h_need_group : Fn P w K mg base k "need_group" 2 g_need_group) (m_isinstance : mg "isinstance" = none) (m_list : mg "list" = none) (m_len : mg "len" = none) (m_enumerate : mg "enumerate" = none) (v_MOST_GUESTS : ∃ t : Tok, mg "MOST_GUESTS" = some (.int 12 t)) {C_BadRow : Addr} (x_BadRow : Ex K mg "BadRow" C_BadRow) {f : Addr} {fd : FuncData} (Fu : L2.Fun K "parted_at" "parted_at" s_parted_at f fd) (gx : mg "parted_at" = some (.ref f)) (hb : Binds K fd ["row", "group"] []) : Fn P w K mg base (k + 1) "parted_at" 2 (G_parted_at g_need_row g_need_group ) :=
  fn_def Fu sc_parted_at gx hb (fun cdv A outer s H E hr => bd_parted_at  h_need_row h_need_group m_isinstance m_list m_len m_enumerate v_MOST_GUESTS x_BadRow hr) (defG_ok rfl)
end
def g_parted_at : List D → R D := G_parted_at g_need_row g_need_group
theorem e_parted_at (a0 a1 : D) : g_parted_at [a0, a1] = defR (F_parted_at g_need_row g_need_group [.dat a0, .dat a1, .no, .no, .no]) := nrfl rfl
/-! ### _law_mixed -/
abbrev s__law_mixed : Stmt := topS 14
abbrev N__law_mixed : List Str := ["_law_cell", "_law_k"]
theorem sc__law_mixed : FnScope N__law_mixed ["_law_cell", "_law_k"] (defScope s__law_mixed) := ⟨rfl, rfl, rfl, by decide +kernel, rfl, by decide +kernel, by decide +kernel⟩
theorem nm__law_mixed_0 : Nm N__law_mixed (defScope s__law_mixed) 0 "_law_cell" := nm_of (by decide +kernel)
theorem nm__law_mixed_1 : Nm N__law_mixed (defScope s__law_mixed) 1 "_law_k" := nm_of (by decide +kernel)
def F__law_mixed : DL.Env → Out := (retS (opR modD (opR mulD (opR modD (opR addD (opR addD (opR mulD (rdD 0) (fun _ => R.ok (.int 48271))) (opR mulD (opR mulD (opR mulD (fun _ => R.ok (.int 7919)) (rdD 1)) (rdD 1)) (rdD 1))) (fun _ => R.ok (.int 104729))) (fun _ => R.ok (.int 2147483647))) (fun _ => R.ok (.int 16807))) (fun _ => R.ok (.int 2147483629))))
def G__law_mixed : List D → R D := defG 2 N__law_mixed (F__law_mixed  )
section
variable {P : Program} {w : World} {K : PySem.W.Frag} {mg : Str → Option Value} {base : Heap} {k : Nat}
theorem bd__law_mixed  {f : Addr} {cdv : Value} {A : Around} {outer : List PySem.Env} {s : Shared} {H : Hp} {E : XK} (hr : Room k (A.deeper (PyProof.Rows.envOfC "_law_mixed" (defScope s__law_mixed) s.heap.objs.size f cdv))) :
    DSs (· = cxD P w K mg base N__law_mixed "_law_mixed" (defScope s__law_mixed) f cdv A outer s H E) K mg (fun cls d _ H => E cls d H) (defBody s__law_mixed) (F__law_mixed  ) := by
  have c := cxs_def (P := P) (w := w) (K := K) (mg := mg) (base := base) (H := H) (E := E) (outer := outer) sc__law_mixed hr
  exact (dss_one (ds_ret (de_mod (de_mul (de_mod (de_add c (de_add c (de_mul (de_name c nm__law_mixed_0) de_int) (de_mul (de_mul (de_mul de_int (de_name c nm__law_mixed_1)) (de_name c nm__law_mixed_1)) (de_name c nm__law_mixed_1))) de_int) de_int) de_int) de_int)))
theorem fn__law_mixed  {f : Addr} {fd : FuncData} (Fu : L2.Fun K "_law_mixed" "_law_mixed" s__law_mixed f fd) (gx : mg "_law_mixed" = some (.ref f)) (hb : Binds K fd ["_law_cell", "_law_k"] []) : Fn P w K mg base (k + 1) "_law_mixed" 2 (G__law_mixed  ) :=
  fn_def Fu sc__law_mixed gx hb (fun cdv A outer s H E hr => bd__law_mixed   hr) (defG_ok rfl)
end
def g__law_mixed : List D → R D := G__law_mixed 
theorem e__law_mixed (a0 a1 : D) : g__law_mixed [a0, a1] = defR (F__law_mixed  [.dat a0, .dat a1]) := nrfl rfl
/-! ### _law_next -/
abbrev s__law_next : Stmt := topS 15
abbrev N__law_next : List Str := ["_law_number", "_law_k"]
theorem sc__law_next : FnScope N__law_next ["_law_number", "_law_k"] (defScope s__law_next) := ⟨rfl, rfl, rfl, by decide +kernel, rfl, by decide +kernel, by decide +kernel⟩
theorem nm__law_next_0 : Nm N__law_next (defScope s__law_next) 0 "_law_number" := nm_of (by decide +kernel)
theorem nm__law_next_1 : Nm N__law_next (defScope s__law_next) 1 "_law_k" := nm_of (by decide +kernel)
def F__law_next : DL.Env → Out := (retS (opR modD (opR mulD (opR addD (opR addD (opR mulD (rdD 0) (opR addD (opR mulD (rdD 1) (rdD 1)) (fun _ => R.ok (.int 1)))) (opR mulD (fun _ => R.ok (.int 1009)) (rdD 1))) (fun _ => R.ok (.int 11))) (fun _ => R.ok (.int 69621))) (fun _ => R.ok (.int 2147483629))))
def G__law_next : List D → R D := defG 2 N__law_next (F__law_next  )
section
variable {P : Program} {w : World} {K : PySem.W.Frag} {mg : Str → Option Value} {base : Heap} {k : Nat}
theorem bd__law_next  {f : Addr} {cdv : Value} {A : Around} {outer : List PySem.Env} {s : Shared} {H : Hp} {E : XK} (hr : Room k (A.deeper (PyProof.Rows.envOfC "_law_next" (defScope s__law_next) s.heap.objs.size f cdv))) :
    DSs (· = cxD P w K mg base N__law_next "_law_next" (defScope s__law_next) f cdv A outer s H E) K mg (fun cls d _ H => E cls d H) (defBody s__law_next) (F__law_next  ) := by
  have c := cxs_def (P := P) (w := w) (K := K) (mg := mg) (base := base) (H := H) (E := E) (outer := outer) sc__law_next hr
  exact (dss_one (ds_ret (de_mod (de_mul (de_add c (de_add c (de_mul (de_name c nm__law_next_0) (de_add c (de_mul (de_name c nm__law_next_1) (de_name c nm__law_next_1)) de_int)) (de_mul de_int (de_name c nm__law_next_1))) de_int) de_int) de_int)))
theorem fn__law_next  {f : Addr} {fd : FuncData} (Fu : L2.Fun K "_law_next" "_law_next" s__law_next f fd) (gx : mg "_law_next" = some (.ref f)) (hb : Binds K fd ["_law_number", "_law_k"] []) : Fn P w K mg base (k + 1) "_law_next" 2 (G__law_next  ) :=
  fn_def Fu sc__law_next gx hb (fun cdv A outer s H E hr => bd__law_next   hr) (defG_ok rfl)
end
def g__law_next : List D → R D := G__law_next 
theorem e__law_next (a0 a1 : D) : g__law_next [a0, a1] = defR (F__law_next  [.dat a0, .dat a1]) := nrfl rfl
/-! ### _law_whole -/
abbrev s__law_whole : Stmt := topS 16
abbrev N__law_whole : List Str := ["_law_found"]
theorem sc__law_whole : FnScope N__law_whole ["_law_found"] (defScope s__law_whole) := ⟨rfl, rfl, rfl, by decide +kernel, rfl, by decide +kernel, by decide +kernel⟩
theorem nm__law_whole_0 : Nm N__law_whole (defScope s__law_whole) 0 "_law_found" := nm_of (by decide +kernel)
def F__law_whole : DL.Env → Out := (retS (andR (bdR (rdD 0) (isiD "int")) (notR (bdR (rdD 0) (isiD "bool")))))
def G__law_whole : List D → R D := defG 1 N__law_whole (F__law_whole  )
section
variable {P : Program} {w : World} {K : PySem.W.Frag} {mg : Str → Option Value} {base : Heap} {k : Nat}
theorem bd__law_whole (m_isinstance : mg "isinstance" = none) (m_bool : mg "bool" = none) (m_int : mg "int" = none) {f : Addr} {cdv : Value} {A : Around} {outer : List PySem.Env} {s : Shared} {H : Hp} {E : XK} (hr : Room k (A.deeper (PyProof.Rows.envOfC "_law_whole" (defScope s__law_whole) s.heap.objs.size f cdv))) :
    DSs (· = cxD P w K mg base N__law_whole "_law_whole" (defScope s__law_whole) f cdv A outer s H E) K mg (fun cls d _ H => E cls d H) (defBody s__law_whole) (F__law_whole  ) := by
  have c := cxs_def (P := P) (w := w) (K := K) (mg := mg) (base := base) (H := H) (E := E) (outer := outer) sc__law_whole hr
  exact (dss_one (ds_ret (de_and (de_isi (T := "int") c (gm_of (by decide +kernel)) m_isinstance (de_name c nm__law_whole_0) (gm_of (by decide +kernel)) m_int (by decide +kernel) (by decide)) (de_one (de_not (de_isi (T := "bool") c (gm_of (by decide +kernel)) m_isinstance (de_name c nm__law_whole_0) (gm_of (by decide +kernel)) m_bool (by decide +kernel) (by decide)))))))
theorem fn__law_whole (m_isinstance : mg "isinstance" = none) (m_bool : mg "bool" = none) (m_int : mg "int" = none) {f : Addr} {fd : FuncData} (Fu : L2.Fun K "_law_whole" "_law_whole" s__law_whole f fd) (gx : mg "_law_whole" = some (.ref f)) (hb : Binds K fd ["_law_found"] []) : Fn P w K mg base (k + 1) "_law_whole" 1 (G__law_whole  ) :=
  fn_def Fu sc__law_whole gx hb (fun cdv A outer s H E hr => bd__law_whole  m_isinstance m_bool m_int hr) (defG_ok rfl)
end
def g__law_whole : List D → R D := G__law_whole 
theorem e__law_whole (a0 : D) : g__law_whole [a0] = defR (F__law_whole  [.dat a0]) := nrfl rfl
/-! ### _law_order -/
abbrev s__law_order : Stmt := topS 17
abbrev N__law_order : List Str := ["_law_number", "_law_many", "_law_left", "_law_found", "_law_k"]
theorem sc__law_order : FnScope N__law_order ["_law_number", "_law_many"] (defScope s__law_order) := ⟨rfl, rfl, rfl, by decide +kernel, rfl, by decide +kernel, by decide +kernel⟩
theorem nm__law_order_0 : Nm N__law_order (defScope s__law_order) 0 "_law_number" := nm_of (by decide +kernel)
theorem nm__law_order_1 : Nm N__law_order (defScope s__law_order) 1 "_law_many" := nm_of (by decide +kernel)
theorem nm__law_order_2 : Nm N__law_order (defScope s__law_order) 2 "_law_left" := nm_of (by decide +kernel)
theorem nm__law_order_3 : Nm N__law_order (defScope s__law_order) 3 "_law_found" := nm_of (by decide +kernel)
theorem nm__law_order_4 : Nm N__law_order (defScope s__law_order) 4 "_law_k" := nm_of (by decide +kernel)
def F__law_order (g__law_next : List D → R D) : DL.Env → Out := (seqS (setL 2 (bdR (rdD 1) lrg1)) (seqS (setL 3 (lstR (fun _ => R.ok []))) (seqS (forI (bdR (rdD 1) rg1) (tgN 4) (appPopS 3 2 (bdR (frR 2 (opR modD (opR divD (callR g__law_next (consR (rdD 0) (consR (rdD 4) (fun _ => R.ok [])))) (fun _ => R.ok (.int 3))) (callR lenD (consR (rdD 2) (fun _ => R.ok []))))) scalD))) (frR 3 (retS (rdD 3))))))
def G__law_order (g__law_next : List D → R D) : List D → R D := defG 2 N__law_order (F__law_order g__law_next )
section
variable {P : Program} {w : World} {K : PySem.W.Frag} {mg : Str → Option Value} {base : Heap} {k : Nat}
theorem bd__law_order {g__law_next : List D → R D} (h__law_next : Fn P w K mg base k "_law_next" 2 g__law_next) (m_list : mg "list" = none) (m_range : mg "range" = none) (m_len : mg "len" = none) {f : Addr} {cdv : Value} {A : Around} {outer : List PySem.Env} {s : Shared} {H : Hp} {E : XK} (hr : Room k (A.deeper (PyProof.Rows.envOfC "_law_order" (defScope s__law_order) s.heap.objs.size f cdv))) :
    DSs (· = cxD P w K mg base N__law_order "_law_order" (defScope s__law_order) f cdv A outer s H E) K mg (fun cls d _ H => E cls d H) (defBody s__law_order) (F__law_order g__law_next ) := by
  have c := cxs_def (P := P) (w := w) (K := K) (mg := mg) (base := base) (H := H) (E := E) (outer := outer) sc__law_order hr
  exact (dss_cons (ds_setN c (lm_ofD (i := 2) (by decide +kernel)) (dn_listRange c (gm_of (by decide +kernel)) m_list (gm_of (by decide +kernel)) m_range (de_name c nm__law_order_1))) (dss_cons (ds_setN c (lm_ofD (i := 3) (by decide +kernel)) (dn_lst da_nil)) (dss_cons (ds_for c (nx_N 4) (di_range1 c (gm_of (by decide +kernel)) m_range (de_name c nm__law_order_1)) (dg_name c (lm_ofD (i := 4) (by decide +kernel))) (dss_one (ds_appPop c (by decide) nm__law_order_3 nm__law_order_2 (de_peek 2 (de_mod (de_div (de_call c h__law_next (Nat.le_refl _) (gm_of (by decide +kernel)) (da_cons (de_name c nm__law_order_0) (da_cons (de_name c nm__law_order_4) da_nil))) de_int) (de_len c (gm_of (by decide +kernel)) m_len (da_cons (de_name c nm__law_order_2) da_nil)))) (fun X t h p1 p2 p3 => pe_bm PySem.F.plainAttrs_list PySem.F.slot_list_append PySem.F.type_list_append mt_append p1 (pa_cons (pe_bm PySem.F.plainAttrs_list PySem.F.slot_list_pop PySem.F.type_list_pop mt_popAt p2 (pa_cons p3 pa_nil)) pa_nil))))) (dss_one (ds_frz 3 (ds_ret (de_name c nm__law_order_3)))))))
theorem fn__law_order {g__law_next : List D → R D} (h__law_next : Fn P w K mg base k "_law_next" 2 g__law_next) (m_list : mg "list" = none) (m_range : mg "range" = none) (m_len : mg "len" = none) {f : Addr} {fd : FuncData} (Fu : L2.Fun K "_law_order" "_law_order" s__law_order f fd) (gx : mg "_law_order" = some (.ref f)) (hb : Binds K fd ["_law_number", "_law_many"] []) : Fn P w K mg base (k + 1) "_law_order" 2 (G__law_order g__law_next ) :=
  fn_def Fu sc__law_order gx hb (fun cdv A outer s H E hr => bd__law_order  h__law_next m_list m_range m_len hr) (defG_ok rfl)
end
def g__law_order : List D → R D := G__law_order g__law_next
theorem e__law_order (a0 a1 : D) : g__law_order [a0, a1] = defR (F__law_order g__law_next [.dat a0, .dat a1, .no, .no, .no]) := nrfl rfl
/-! ### _law_due -/
abbrev s__law_due : Stmt := topS 18
abbrev N__law_due : List Str := ["_law_row", "_law_group_here", "_law_left", "_law_is_within", "_law_place", "_law_guest"]
theorem sc__law_due : FnScope N__law_due ["_law_row", "_law_group_here"] (defScope s__law_due) := ⟨rfl, rfl, rfl, by decide +kernel, rfl, by decide +kernel, by decide +kernel⟩
theorem nm__law_due_0 : Nm N__law_due (defScope s__law_due) 0 "_law_row" := nm_of (by decide +kernel)
theorem nm__law_due_1 : Nm N__law_due (defScope s__law_due) 1 "_law_group_here" := nm_of (by decide +kernel)
theorem nm__law_due_2 : Nm N__law_due (defScope s__law_due) 2 "_law_left" := nm_of (by decide +kernel)
theorem nm__law_due_3 : Nm N__law_due (defScope s__law_due) 3 "_law_is_within" := nm_of (by decide +kernel)
theorem nm__law_due_4 : Nm N__law_due (defScope s__law_due) 4 "_law_place" := nm_of (by decide +kernel)
theorem nm__law_due_5 : Nm N__law_due (defScope s__law_due) 5 "_law_guest" := nm_of (by decide +kernel)
def F__law_due : DL.Env → Out := (seqS (setS 2 (callR lenD (consR (asL (lcR (bdR (rdD 0) itemsL) (tgN 5) (toB (opR (inD false) (rdD 5) (rdD 1))) (rdD 5) [5])) (fun _ => R.ok [])))) (seqS (setS 3 (fun _ => R.ok (.bool false))) (seqS (forI (bdR (rdD 0) enumL) (tgT 2 (tgs1 (tgN 4) (tgs1 (tgN 5) tgs0))) (ifS (toB (opR (inD false) (rdD 5) (rdD 1))) (seqS (setS 2 (opR subD (rdD 2) (fun _ => R.ok (.int 1)))) (setS 3 (fun _ => R.ok (.bool true)))) (ifS (andT (toT (rdD 3)) (toB (opR gtD (rdD 2) (fun _ => R.ok (.int 0))))) (retS (rdD 4)) nxS))) (retS (fun _ => R.ok .none)))))
def G__law_due : List D → R D := defG 2 N__law_due (F__law_due  )
section
variable {P : Program} {w : World} {K : PySem.W.Frag} {mg : Str → Option Value} {base : Heap} {k : Nat}
theorem bd__law_due (m_len : mg "len" = none) (m_enumerate : mg "enumerate" = none) {f : Addr} {cdv : Value} {A : Around} {outer : List PySem.Env} {s : Shared} {H : Hp} {E : XK} (hr : Room k (A.deeper (PyProof.Rows.envOfC "_law_due" (defScope s__law_due) s.heap.objs.size f cdv))) :
    DSs (· = cxD P w K mg base N__law_due "_law_due" (defScope s__law_due) f cdv A outer s H E) K mg (fun cls d _ H => E cls d H) (defBody s__law_due) (F__law_due  ) := by
  have c := cxs_def (P := P) (w := w) (K := K) (mg := mg) (base := base) (H := H) (E := E) (outer := outer) sc__law_due hr
  exact (dss_cons (ds_set c (lm_ofD (i := 2) (by decide +kernel)) (de_len c (gm_of (by decide +kernel)) m_len (da_cons (de_l (dn_lc (own := [("_law_guest", 5)]) c (di_list c (de_name c nm__law_due_0)) (by decide +kernel) (dg_name (cxs_blk c) (lm_of (i := 5) (by decide +kernel))) (by decide) (dts_one (dt_in (cxs_blk c) (de_name (cxs_blk c) (nm_of (i := 5) (by decide +kernel))) (de_name (cxs_blk c) (nm_of (i := 1) (by decide +kernel))))) (de_name (cxs_blk c) (nm_of (i := 5) (by decide +kernel))))) da_nil))) (dss_cons (ds_set c (lm_ofD (i := 3) (by decide +kernel)) de_bl) (dss_cons (ds_for c (nx_T (nx_1 (nx_N 4) (nx_1 (nx_N 5) nx_0))) (di_enum c (gm_of (by decide +kernel)) m_enumerate (de_name c nm__law_due_0)) (dg_tup c (dgs_cons (dg_name c (lm_ofD (i := 4) (by decide +kernel))) (dgs_cons (dg_name c (lm_ofD (i := 5) (by decide +kernel))) dgs_nil))) (dss_one (ds_if (dt_in c (de_name c nm__law_due_5) (de_name c nm__law_due_1)) (dss_cons (ds_set c (lm_ofD (i := 2) (by decide +kernel)) (de_sub (de_name c nm__law_due_2) de_int)) (dss_one (ds_set c (lm_ofD (i := 3) (by decide +kernel)) de_bl))) (dss_one (ds_if (dt_w (dw_and (dt_tru c (de_name c nm__law_due_3)) (dw_and1 (dt_gt (de_name c nm__law_due_2) de_int)))) (dss_one (ds_ret (de_name c nm__law_due_4))) dss_nil))))) (dss_one (ds_ret de_non)))))
theorem fn__law_due (m_len : mg "len" = none) (m_enumerate : mg "enumerate" = none) {f : Addr} {fd : FuncData} (Fu : L2.Fun K "_law_due" "_law_due" s__law_due f fd) (gx : mg "_law_due" = some (.ref f)) (hb : Binds K fd ["_law_row", "_law_group_here"] []) : Fn P w K mg base (k + 1) "_law_due" 2 (G__law_due  ) :=
  fn_def Fu sc__law_due gx hb (fun cdv A outer s H E hr => bd__law_due  m_len m_enumerate hr) (defG_ok rfl)
end
def g__law_due : List D → R D := G__law_due 
theorem e__law_due (a0 a1 : D) : g__law_due [a0, a1] = defR (F__law_due  [.dat a0, .dat a1, .no, .no, .no, .no]) := nrfl rfl
/-! ### _law_group -/
abbrev s__law_group : Stmt := topS 19
abbrev N__law_group : List Str := ["_law_row", "_law_number", "_law_many", "_law_begin", "_law_some", "_law_at"]
theorem sc__law_group : FnScope N__law_group ["_law_row", "_law_number"] (defScope s__law_group) := ⟨rfl, rfl, rfl, by decide +kernel, rfl, by decide +kernel, by decide +kernel⟩
theorem nm__law_group_0 : Nm N__law_group (defScope s__law_group) 0 "_law_row" := nm_of (by decide +kernel)
theorem nm__law_group_1 : Nm N__law_group (defScope s__law_group) 1 "_law_number" := nm_of (by decide +kernel)
theorem nm__law_group_2 : Nm N__law_group (defScope s__law_group) 2 "_law_many" := nm_of (by decide +kernel)
theorem nm__law_group_3 : Nm N__law_group (defScope s__law_group) 3 "_law_begin" := nm_of (by decide +kernel)
theorem nm__law_group_4 : Nm N__law_group (defScope s__law_group) 4 "_law_some" := nm_of (by decide +kernel)
theorem nm__law_group_5 : Nm N__law_group (defScope s__law_group) 5 "_law_at" := nm_of (by decide +kernel)
def F__law_group (g__law_order : List D → R D) : DL.Env → Out := (seqS (setS 2 (callR lenD (consR (rdD 0) (fun _ => R.ok [])))) (seqS (setS 3 (opR modD (opR divD (rdD 1) (fun _ => R.ok (.int 4))) (rdD 2))) (seqS (setS 4 (slR (rdD 0) (bdR (rdD 3) partR) (bdR (opR addD (opR addD (rdD 3) (fun _ => R.ok (.int 2))) (opR modD (opR divD (rdD 1) (fun _ => R.ok (.int 60))) (fun _ => R.ok (.int 5)))) partR))) (seqS (ifS (toB (opR eqD (opR modD (rdD 1) (fun _ => R.ok (.int 4))) (fun _ => R.ok (.int 0)))) (setS 4 (slR (callR g__law_order (consR (opR divD (rdD 1) (fun _ => R.ok (.int 4))) (consR (rdD 2) (fun _ => R.ok [])))) (fun _ => R.ok none) (bdR (opR modD (opR divD (rdD 1) (fun _ => R.ok (.int 60))) (opR addD (rdD 2) (fun _ => R.ok (.int 1)))) partR))) nxS) (seqS (ifS (toB (opR eqD (opR modD (rdD 1) (fun _ => R.ok (.int 4))) (fun _ => R.ok (.int 1)))) (seqS (setS 5 (opR modD (opR divD (rdD 1) (fun _ => R.ok (.int 400))) (callR lenD (consR (rdD 4) (fun _ => R.ok []))))) (setS 4 (opR addD (slR (rdD 4) (fun _ => R.ok none) (bdR (rdD 5) partR)) (slR (rdD 4) (bdR (opR addD (rdD 5) (fun _ => R.ok (.int 1))) partR) (fun _ => R.ok none))))) nxS) (retS (asL (lcR (bdR (callR g__law_order (consR (opR divD (rdD 1) (fun _ => R.ok (.int 7))) (consR (callR lenD (consR (rdD 4) (fun _ => R.ok []))) (fun _ => R.ok [])))) itemsL) (tgN 5) (fun _ => R.ok true) (opR ixD (rdD 4) (rdD 5)) [5]))))))))
def G__law_group (g__law_order : List D → R D) : List D → R D := defG 2 N__law_group (F__law_group g__law_order )
section
variable {P : Program} {w : World} {K : PySem.W.Frag} {mg : Str → Option Value} {base : Heap} {k : Nat}
theorem bd__law_group {g__law_order : List D → R D} (h__law_order : Fn P w K mg base k "_law_order" 2 g__law_order) (m_len : mg "len" = none) {f : Addr} {cdv : Value} {A : Around} {outer : List PySem.Env} {s : Shared} {H : Hp} {E : XK} (hr : Room k (A.deeper (PyProof.Rows.envOfC "_law_group" (defScope s__law_group) s.heap.objs.size f cdv))) :
    DSs (· = cxD P w K mg base N__law_group "_law_group" (defScope s__law_group) f cdv A outer s H E) K mg (fun cls d _ H => E cls d H) (defBody s__law_group) (F__law_group g__law_order ) := by
  have c := cxs_def (P := P) (w := w) (K := K) (mg := mg) (base := base) (H := H) (E := E) (outer := outer) sc__law_group hr
  exact (dss_cons (ds_set c (lm_ofD (i := 2) (by decide +kernel)) (de_len c (gm_of (by decide +kernel)) m_len (da_cons (de_name c nm__law_group_0) da_nil))) (dss_cons (ds_set c (lm_ofD (i := 3) (by decide +kernel)) (de_mod (de_div (de_name c nm__law_group_1) de_int) (de_name c nm__law_group_2))) (dss_cons (ds_set c (lm_ofD (i := 4) (by decide +kernel)) (de_slice c (de_name c nm__law_group_0) (do_some (de_name c nm__law_group_3)) (do_some (de_add c (de_add c (de_name c nm__law_group_3) de_int) (de_mod (de_div (de_name c nm__law_group_1) de_int) de_int))))) (dss_cons (ds_if (dt_eq c (de_mod (de_name c nm__law_group_1) de_int) de_int) (dss_one (ds_set c (lm_ofD (i := 4) (by decide +kernel)) (de_slice c (de_call c h__law_order (Nat.le_refl _) (gm_of (by decide +kernel)) (da_cons (de_div (de_name c nm__law_group_1) de_int) (da_cons (de_name c nm__law_group_2) da_nil))) do_none (do_some (de_mod (de_div (de_name c nm__law_group_1) de_int) (de_add c (de_name c nm__law_group_2) de_int)))))) dss_nil) (dss_cons (ds_if (dt_eq c (de_mod (de_name c nm__law_group_1) de_int) de_int) (dss_cons (ds_set c (lm_ofD (i := 5) (by decide +kernel)) (de_mod (de_div (de_name c nm__law_group_1) de_int) (de_len c (gm_of (by decide +kernel)) m_len (da_cons (de_name c nm__law_group_4) da_nil)))) (dss_one (ds_set c (lm_ofD (i := 4) (by decide +kernel)) (de_add c (de_slice c (de_name c nm__law_group_4) do_none (do_some (de_name c nm__law_group_5))) (de_slice c (de_name c nm__law_group_4) (do_some (de_add c (de_name c nm__law_group_5) de_int)) do_none))))) dss_nil) (dss_one (ds_ret (de_l (dn_lc (own := [("_law_at", 5)]) c (di_list c (de_call c h__law_order (Nat.le_refl _) (gm_of (by decide +kernel)) (da_cons (de_div (de_name c nm__law_group_1) de_int) (da_cons (de_len c (gm_of (by decide +kernel)) m_len (da_cons (de_name c nm__law_group_4) da_nil)) da_nil)))) (by decide +kernel) (dg_name (cxs_blk c) (lm_of (i := 5) (by decide +kernel))) (by decide) dts_nil (de_ix (cxs_blk c) (de_name (cxs_blk c) (nm_of (i := 4) (by decide +kernel))) (de_name (cxs_blk c) (nm_of (i := 5) (by decide +kernel)))))))))))))
theorem fn__law_group {g__law_order : List D → R D} (h__law_order : Fn P w K mg base k "_law_order" 2 g__law_order) (m_len : mg "len" = none) {f : Addr} {fd : FuncData} (Fu : L2.Fun K "_law_group" "_law_group" s__law_group f fd) (gx : mg "_law_group" = some (.ref f)) (hb : Binds K fd ["_law_row", "_law_number"] []) : Fn P w K mg base (k + 1) "_law_group" 2 (G__law_group g__law_order ) :=
  fn_def Fu sc__law_group gx hb (fun cdv A outer s H E hr => bd__law_group  h__law_order m_len hr) (defG_ok rfl)
end
def g__law_group : List D → R D := G__law_group g__law_order
theorem e__law_group (a0 a1 : D) : g__law_group [a0, a1] = defR (F__law_group g__law_order [.dat a0, .dat a1, .no, .no, .no, .no]) := nrfl rfl
/-! ### law -/
abbrev s_law : Stmt := topS 20
abbrev N_law : List Str := ["_law_script", "_law_k", "_law_cell", "_law_number", "_law_row", "_law_group_here", "_law_handed", "_law_turn", "_law_found", "_law_due_here"]
theorem sc_law : FnScope N_law ["_law_script"] (defScope s_law) := ⟨rfl, rfl, rfl, by decide +kernel, rfl, by decide +kernel, by decide +kernel⟩
theorem nm_law_0 : Nm N_law (defScope s_law) 0 "_law_script" := nm_of (by decide +kernel)
theorem nm_law_1 : Nm N_law (defScope s_law) 1 "_law_k" := nm_of (by decide +kernel)
theorem nm_law_2 : Nm N_law (defScope s_law) 2 "_law_cell" := nm_of (by decide +kernel)
theorem nm_law_3 : Nm N_law (defScope s_law) 3 "_law_number" := nm_of (by decide +kernel)
theorem nm_law_4 : Nm N_law (defScope s_law) 4 "_law_row" := nm_of (by decide +kernel)
theorem nm_law_5 : Nm N_law (defScope s_law) 5 "_law_group_here" := nm_of (by decide +kernel)
theorem nm_law_6 : Nm N_law (defScope s_law) 6 "_law_handed" := nm_of (by decide +kernel)
theorem nm_law_7 : Nm N_law (defScope s_law) 7 "_law_turn" := nm_of (by decide +kernel)
theorem nm_law_8 : Nm N_law (defScope s_law) 8 "_law_found" := nm_of (by decide +kernel)
theorem nm_law_9 : Nm N_law (defScope s_law) 9 "_law_due_here" := nm_of (by decide +kernel)
def F_law (g__law_mixed g__law_order g__law_group g__law_next g_parted_at g__law_due g__law_whole : List D → R D) : DL.Env → Out := (seqS (forI (bdR (asL (scrSl 0 (fun _ => R.ok none) (bdR (fun _ => R.ok (.int 63)) partR))) enumL) (tgT 2 (tgs1 (tgN 1) (tgs1 (tgN 2) tgs0))) (seqS (setS 3 (callR g__law_mixed (consR (rdD 2) (consR (rdD 1) (fun _ => R.ok []))))) (seqS (setS 4 (callR g__law_order (consR (opR divD (rdD 3) (fun _ => R.ok (.int 12))) (consR (opR addD (fun _ => R.ok (.int 1)) (opR modD (rdD 3) (fun _ => R.ok (.int 12)))) (fun _ => R.ok []))))) (seqS (setS 5 (callR g__law_group (consR (rdD 4) (consR (callR g__law_next (consR (rdD 3) (consR (fun _ => R.ok (.int 5)) (fun _ => R.ok [])))) (fun _ => R.ok []))))) (seqS (setS 6 (asL (lstR (consR (asL (bdR (consR (rdD 4) (fun _ => R.ok [])) listD)) (consR (asL (bdR (consR (rdD 5) (fun _ => R.ok [])) listD)) (fun _ => R.ok [])))))) (seqS (forI (bdR (fun _ => R.ok (.int 2)) rg1) (tgN 7) (seqS (setS 8 (callR g_parted_at (consR (opR ixD (rdD 6) (fun _ => R.ok (.int 0))) (consR (opR ixD (rdD 6) (fun _ => R.ok (.int 1))) (fun _ => R.ok []))))) (seqS (setS 9 (callR g__law_due (consR (rdD 4) (consR (rdD 5) (fun _ => R.ok []))))) (seqS (ifS (orT (andT (toB (opR (pIs false) (rdD 8) (fun _ => R.ok .none))) (toB (opR (pIs true) (rdD 9) (fun _ => R.ok .none)))) (andT (toB (opR (pIs true) (rdD 8) (fun _ => R.ok .none))) (orT (notT (toT (callR g__law_whole (consR (rdD 8) (fun _ => R.ok []))))) (toB (opR neD (rdD 8) (rdD 9)))))) (retS (fun _ => R.ok (.bool false))) nxS) (ifS (toB (opR neD (rdD 6) (asL (lstR (consR (rdD 4) (consR (rdD 5) (fun _ => R.ok []))))))) (retS (fun _ => R.ok (.bool false))) nxS))))) (seqS (ifS (orT (toB (opR (pIs true) (callR g_parted_at (consR (rdD 4) (consR (asL (lstR (fun _ => R.ok []))) (fun _ => R.ok [])))) (fun _ => R.ok .none))) (toB (opR (pIs true) (callR g_parted_at (consR (rdD 4) (consR (asL (revR (rdD 4))) (fun _ => R.ok [])))) (fun _ => R.ok .none)))) (retS (fun _ => R.ok (.bool false))) nxS) (ifS (toB (opR (pIs true) (callR g_parted_at (consR (rdD 4) (consR (slR (rdD 4) (bdR (fun _ => R.ok (.int (-1))) partR) (fun _ => R.ok none)) (fun _ => R.ok [])))) (fun _ => R.ok .none))) (retS (fun _ => R.ok (.bool false))) nxS)))))))) (retS (fun _ => R.ok (.bool true))))
section
variable {P : Program} {w : World} {K : PySem.W.Frag} {mg : Str → Option Value} {base : Heap} {k : Nat}
theorem bd_law {g__law_mixed g__law_order g__law_group g__law_next g_parted_at g__law_due g__law_whole : List D → R D} (h__law_mixed : Fn P w K mg base k "_law_mixed" 2 g__law_mixed) (h__law_order : Fn P w K mg base k "_law_order" 2 g__law_order) (h__law_group : Fn P w K mg base k "_law_group" 2 g__law_group) (h__law_next : Fn P w K mg base k "_law_next" 2 g__law_next) (h_parted_at : Fn P w K mg base k "parted_at" 2 g_parted_at) (h__law_due : Fn P w K mg base k "_law_due" 2 g__law_due) (h__law_whole : Fn P w K mg base k "_law_whole" 1 g__law_whole) (m_enumerate : mg "enumerate" = none) (m_list : mg "list" = none) (m_range : mg "range" = none) {f : Addr} {cdv : Value} {A : Around} {outer : List PySem.Env} {s : Shared} {H : Hp} {E : XK} (hr : Room k (A.deeper (PyProof.Rows.envOfC "law" (defScope s_law) s.heap.objs.size f cdv))) :
    DSs (· = cxD P w K mg base N_law "law" (defScope s_law) f cdv A outer s H E) K mg (fun cls d _ H => E cls d H) (defBody s_law) (F_law g__law_mixed g__law_order g__law_group g__law_next g_parted_at g__law_due g__law_whole) := by
  have c := cxs_def (P := P) (w := w) (K := K) (mg := mg) (base := base) (H := H) (E := E) (outer := outer) sc_law hr
  exact (dss_cons (ds_for c (nx_T (nx_1 (nx_N 1) (nx_1 (nx_N 2) nx_0))) (di_enum c (gm_of (by decide +kernel)) m_enumerate (de_l (dn_sliceScr c nm_law_0 do_none (do_some de_int)))) (dg_tup c (dgs_cons (dg_name c (lm_ofD (i := 1) (by decide +kernel))) (dgs_cons (dg_name c (lm_ofD (i := 2) (by decide +kernel))) dgs_nil))) (dss_cons (ds_set c (lm_ofD (i := 3) (by decide +kernel)) (de_call c h__law_mixed (Nat.le_refl _) (gm_of (by decide +kernel)) (da_cons (de_name c nm_law_2) (da_cons (de_name c nm_law_1) da_nil)))) (dss_cons (ds_set c (lm_ofD (i := 4) (by decide +kernel)) (de_call c h__law_order (Nat.le_refl _) (gm_of (by decide +kernel)) (da_cons (de_div (de_name c nm_law_3) de_int) (da_cons (de_add c de_int (de_mod (de_name c nm_law_3) de_int)) da_nil)))) (dss_cons (ds_set c (lm_ofD (i := 5) (by decide +kernel)) (de_call c h__law_group (Nat.le_refl _) (gm_of (by decide +kernel)) (da_cons (de_name c nm_law_4) (da_cons (de_call c h__law_next (Nat.le_refl _) (gm_of (by decide +kernel)) (da_cons (de_name c nm_law_3) (da_cons de_int da_nil))) da_nil)))) (dss_cons (ds_set c (lm_ofD (i := 6) (by decide +kernel)) (de_l (dn_lst (da_cons (de_l (dn_list c (gm_of (by decide +kernel)) m_list (da_cons (de_name c nm_law_4) da_nil))) (da_cons (de_l (dn_list c (gm_of (by decide +kernel)) m_list (da_cons (de_name c nm_law_5) da_nil))) da_nil))))) (dss_cons (ds_for c (nx_N 7) (di_range1 c (gm_of (by decide +kernel)) m_range de_int) (dg_name c (lm_ofD (i := 7) (by decide +kernel))) (dss_cons (ds_set c (lm_ofD (i := 8) (by decide +kernel)) (de_call c h_parted_at (Nat.le_refl _) (gm_of (by decide +kernel)) (da_cons (de_ix c (de_name c nm_law_6) de_int) (da_cons (de_ix c (de_name c nm_law_6) de_int) da_nil)))) (dss_cons (ds_set c (lm_ofD (i := 9) (by decide +kernel)) (de_call c h__law_due (Nat.le_refl _) (gm_of (by decide +kernel)) (da_cons (de_name c nm_law_4) (da_cons (de_name c nm_law_5) da_nil)))) (dss_cons (ds_if (dt_w (dw_or (dt_w (dw_and (dt_isN (de_name c nm_law_8) de_non) (dw_and1 (dt_notN (de_name c nm_law_9) de_non)))) (dw_or1 (dt_w (dw_and (dt_notN (de_name c nm_law_8) de_non) (dw_and1 (dt_w (dw_or (dt_not (dt_tru c (de_call c h__law_whole (Nat.le_refl _) (gm_of (by decide +kernel)) (da_cons (de_name c nm_law_8) da_nil)))) (dw_or1 (dt_ne c (de_name c nm_law_8) (de_name c nm_law_9))))))))))) (dss_one (ds_ret de_bl)) dss_nil) (dss_one (ds_if (dt_ne c (de_name c nm_law_6) (de_l (dn_lst (da_cons (de_name c nm_law_4) (da_cons (de_name c nm_law_5) da_nil))))) (dss_one (ds_ret de_bl)) dss_nil)))))) (dss_cons (ds_if (dt_w (dw_or (dt_notN (de_call c h_parted_at (Nat.le_refl _) (gm_of (by decide +kernel)) (da_cons (de_name c nm_law_4) (da_cons (de_l (dn_lst da_nil)) da_nil))) de_non) (dw_or1 (dt_notN (de_call c h_parted_at (Nat.le_refl _) (gm_of (by decide +kernel)) (da_cons (de_name c nm_law_4) (da_cons (de_l (dn_rev c (de_name c nm_law_4))) da_nil))) de_non)))) (dss_one (ds_ret de_bl)) dss_nil) (dss_one (ds_if (dt_notN (de_call c h_parted_at (Nat.le_refl _) (gm_of (by decide +kernel)) (da_cons (de_name c nm_law_4) (da_cons (de_slice c (de_name c nm_law_4) (do_some de_neg) do_none) da_nil))) de_non) (dss_one (ds_ret de_bl)) dss_nil))))))))) (dss_one (ds_ret de_bl)))
theorem fn_law {g__law_mixed g__law_order g__law_group g__law_next g_parted_at g__law_due g__law_whole : List D → R D} (h__law_mixed : Fn P w K mg base k "_law_mixed" 2 g__law_mixed) (h__law_order : Fn P w K mg base k "_law_order" 2 g__law_order) (h__law_group : Fn P w K mg base k "_law_group" 2 g__law_group) (h__law_next : Fn P w K mg base k "_law_next" 2 g__law_next) (h_parted_at : Fn P w K mg base k "parted_at" 2 g_parted_at) (h__law_due : Fn P w K mg base k "_law_due" 2 g__law_due) (h__law_whole : Fn P w K mg base k "_law_whole" 1 g__law_whole) (m_enumerate : mg "enumerate" = none) (m_list : mg "list" = none) (m_range : mg "range" = none) {f : Addr} {fd : FuncData} (Fu : L2.Fun K "law" "law" s_law f fd) (ok : ∀ ns : List Int, ns.length ≤ 63 → F_law g__law_mixed g__law_order g__law_group g__law_next g_parted_at g__law_due g__law_whole (.scr ns :: List.replicate (N_law.length - 1) .no) = .rt (.bool true)) : FnOk P w K mg base (L2.CX P w) (k + 1) f fd ["_law_script"] (spLaw K) :=
  law_def Fu sc_law (fun cdv A outer s H E hr => bd_law h__law_mixed h__law_order h__law_group h__law_next h_parted_at h__law_due h__law_whole m_enumerate m_list m_range hr) ok
end
set_option Elab.async false
set_option linter.all false
set_option maxRecDepth 100000
set_option maxHeartbeats 4000000

open PySem L2 DL

def mixedI (a k : Int) : Int := (a * 48271 + 7919 * k * k * k + 104729) % 2147483647 * 16807 % 2147483629
def nextI (a k : Int) : Int := (a * (k * k + 1) + 1009 * k + 11) * 69621 % 2147483629
theorem nextI_b (a k : Int) : 0 ≤ nextI a k ∧ nextI a k < 2147483629 := by unfold nextI; omega
theorem mixedI_b (a k : Int) : 0 ≤ mixedI a k ∧ mixedI a k < 2147483629 := by unfold mixedI; omega
theorem kk_lt {k : Int} (h0 : 0 ≤ k) (h1 : k < 4096) : 0 ≤ k * k ∧ k * k < 16777216 := by
  have a := Int.mul_le_mul (show k ≤ 4095 by omega) (show k ≤ 4095 by omega) h0 (by omega)
  have b := Int.mul_nonneg h0 h0
  omega
theorem ev_mixed (a k : Int) (h0 : 0 ≤ k) (h1 : k < 4096) : g__law_mixed [.int a, .int k] = .ok (.int (mixedI a k)) := by
  rw [e__law_mixed]
  simp (disch := omega) [F__law_mixed, mulD_r, modD_i]
  rfl
theorem ev_next (a k : Int) (h0 : 0 ≤ k) (h1 : k < 4096) : g__law_next [.int a, .int k] = .ok (.int (nextI a k)) := by
  rw [e__law_next]
  have h2 := kk_lt h0 h1
  simp (disch := omega) [F__law_next, mulD_r, modD_i]
  rfl
theorem ev_among (i lo hi : Int) : g_is_among [.int i, .int lo, .int hi] = .ok (.bool (decide (lo ≤ i) && decide (i ≤ hi))) := by
  rw [e_is_among]
  simp [F_is_among, isi_int, isi_bool]
  by_cases h : lo ≤ i <;> simp [h]

theorem rangeI_zero (lo : Int) : rangeI lo 0 = [] := rfl
theorem rangeI_succ (lo : Int) (n : Nat) : rangeI lo (n + 1) = .int lo :: rangeI (lo + 1) n := by
  unfold rangeI
  rw [List.range_succ_eq_map, List.map_cons, List.map_map]
  simp only [bdR_at, frR_at, forI_at, nxS_at, Int.ofNat_zero, Int.add_zero, List.cons.injEq, true_and, Int.natCast_zero]
  refine List.map_congr_left fun i _ => ?_
  show PyData.int (lo + ((i + 1 : Nat) : Int)) = PyData.int (lo + 1 + (i : Nat))
  congr 1
  omega
theorem rgOk_of {a b : Int} (h1 : -1000000 ≤ a) (h2 : a ≤ 1000000) (h3 : -1000000 ≤ b) (h4 : b ≤ 1000000) : rgOk a b = true := by
  unfold rgOk
  simp only [bdR_at, frR_at, forI_at, nxS_at, Bool.and_eq_true, decide_eq_true_eq]
  omega
theorem lrg1_ok {n : Int} (h1 : -1000000 ≤ n) (h2 : n ≤ 1000000) : lrg1 (.int n) = .ok (rangeI 0 n.toNat) := if_pos (rgOk_of (by omega) (by omega) h1 h2)
theorem rg1_ok {n : Int} (h1 : -1000000 ≤ n) (h2 : n ≤ 1000000) : rg1 (.int n) = .ok (rangeI 0 n.toNat) := if_pos (rgOk_of (by omega) (by omega) h1 h2)
theorem rangeI_map (n : Nat) : rangeI 0 n = ((List.range n).map fun i => ((i : Nat) : Int)).map .int := by
  unfold rangeI
  rw [List.map_map]
  refine List.map_congr_left fun i _ => ?_
  show PyData.int (0 + (i : Int)) = _
  rw [Int.zero_add]; rfl
def rangeZ (n : Nat) : List Int := (List.range n).map fun i => ((i : Nat) : Int)
theorem erase_map (l : List Int) : ∀ n : Nat, (l.map PyData.int).eraseIdx n = (l.eraseIdx n).map .int := by
  induction l with
  | nil => intro n; rfl
  | cons x r ih =>
    intro n
    cases n with
    | zero => rfl
    | succ n => rw [List.map_cons, List.eraseIdx_cons_succ, List.eraseIdx_cons_succ, List.map_cons, ih]
theorem popD_ok {left : List Int} {z : Int} (h0 : 0 ≤ z) (h1 : z < left.length) (h2 : left.length ≤ 16777216) : popD (left.map .int) (.int z) = .ok (.int (left.getD z.toNat 0), (left.eraseIdx z.toNat).map .int) := by
  have hl : z.toNat < left.length := by omega
  have e1 : (left.map PyData.int).getD z.toNat .none = .int (left.getD z.toNat 0) := by
    rw [List.getD_eq_getElem?_getD, List.getElem?_map, List.getElem?_eq_getElem hl, List.getD_eq_getElem?_getD, List.getElem?_eq_getElem hl]; rfl
  have e2 : (left.map PyData.int).eraseIdx z.toNat = (left.eraseIdx z.toNat).map .int := erase_map _ _
  show (if _ then _ else _) = _
  rw [if_pos ⟨h0, by rw [List.length_map]; exact h1, fits_of (by rw [List.length_map]; omega)⟩, e1, e2]
theorem getD_erase_perm : ∀ (left : List Int) (j : Nat) (h : j < left.length), (left.getD j 0 :: left.eraseIdx j).Perm left
  | x :: r, 0, _ => List.Perm.refl _
  | x :: r, j + 1, h => by
    rw [List.eraseIdx_cons_succ, List.getD_cons_succ]
    exact (List.Perm.swap _ _ _).trans ((getD_erase_perm r j (by simpa using h)).cons x)
theorem order_loop (a n : Int) (m : Nat) : ∀ (i : Nat) (left found : List Int) (s4 : Sl), left.length = m → i + m ≤ 1000 → found.length + m ≤ 1000 → ∃ (l' : List Int) (s4' : Sl),
    forS (tgN 4) (appPopS 3 2 (bdR (frR 2 (opR modD (opR divD (callR g__law_next (consR (rdD 0) (consR (rdD 4) (fun _ => R.ok [])))) (fun _ => R.ok (.int 3))) (callR lenD (consR (rdD 2) (fun _ => R.ok []))))) scalD)) (rangeI (i : Int) m)
      [.dat (.int a), .dat (.int n), .own (left.map .int), .own (found.map .int), s4] = .nx [.dat (.int a), .dat (.int n), .own [], .own (l'.map .int), s4'] ∧ l'.Perm (found ++ left) := by
  induction m with
  | zero =>
    intro i left found s4 hl _ _
    have : left = [] := List.eq_nil_of_length_eq_zero hl
    subst this
    exact ⟨found, s4, rfl, by rw [List.append_nil]⟩
  | succ m ih =>
    intro i left found s4 hl hi hf
    obtain ⟨z, hz⟩ : ∃ z, z = nextI a i / 3 % (m + 1 : Int) := ⟨_, rfl⟩
    have hz0 : 0 ≤ z := by rw [hz]; exact Int.emod_nonneg _ (by omega)
    have hz1 : z < m + 1 := by rw [hz]; exact Int.emod_lt_of_pos _ (by omega)
    have hzl : z.toNat < left.length := by omega
    obtain ⟨l', s4', e, hp⟩ := ih (i + 1) (left.eraseIdx z.toNat) (found ++ [left.getD z.toNat 0]) (.dat (.int i)) (by rw [List.length_eraseIdx_of_lt hzl]; omega) (by omega) (by rw [List.length_append, List.length_singleton]; omega)
    refine ⟨l', s4', ?_, ?_⟩
    · rw [rangeI_succ]
      have e2 : ((i : Int) + 1) = ((i + 1 : Nat) : Int) := by omega
      rw [e2]
      have hlen : ((left.map PyData.int).length : Int) = m + 1 := by rw [List.length_map, hl]; omega
      have ht : appPopS 3 2 (bdR (frR 2 (opR modD (opR divD (callR g__law_next (consR (rdD 0) (consR (rdD 4) (fun _ => R.ok [])))) (fun _ => R.ok (.int 3))) (callR lenD (consR (rdD 2) (fun _ => R.ok []))))) scalD)
          [.dat (.int a), .dat (.int n), .own (left.map .int), .own (found.map .int), .dat (.int i)] = .nx [.dat (.int a), .dat (.int n), .own ((left.eraseIdx z.toNat).map .int), .own ((found ++ [left.getD z.toNat 0]).map .int), .dat (.int i)] := by
        rw [appPopS_at]
        simp only [bdR_at, frR_at, forI_at, nxS_at, rdO_s, rdO_z, R.out_ok, frzE_s, frzE_o, opR_at, callR_at, consR_at, rdD_z, rdD_s, R.bind_ok, lenD_l]
        rw [ev_next _ _ (by omega) (by omega)]
        simp only [bdR_at, frR_at, forI_at, nxS_at, R.bind_ok, divD_i (show (0 : Int) < 3 by decide) (by decide), hlen]
        rw [modD_i (by omega), ← hz]
        simp only [bdR_at, frR_at, forI_at, nxS_at, R.bind_ok, scalD_i, R.out_ok]
        rw [popD_ok hz0 (by omega) (by omega)]
        simp only [bdR_at, frR_at, forI_at, nxS_at, R.out_ok]
        rw [if_pos (fits_of (by rw [List.length_map]; omega)), List.map_append]
        simp only [bdR_at, frR_at, forI_at, nxS_at, List.set_cons_succ, List.set_cons_zero, List.map_cons, List.map_nil]
      rw [forS_cons]
      simp only [bdR_at, frR_at, forI_at, nxS_at, tgN_at, R.out_ok, List.set_cons_succ, List.set_cons_zero]
      rw [ht, turnS_nx]
      exact e
    · refine hp.trans ?_
      rw [List.append_assoc]
      exact List.Perm.append_left _ (getD_erase_perm left z.toNat hzl)
theorem ev_order0 (a n : Int) (h0 : 0 ≤ n) (h1 : n ≤ 1000) : ∃ l : List Int, g__law_order [.int a, .int n] = .ok (.list (l.map .int)) ∧ l.Perm (rangeZ n.toNat) := by
  obtain ⟨l', s4', e, hp⟩ := order_loop a n n.toNat 0 (rangeZ n.toNat) [] .no (by unfold rangeZ; rw [List.length_map, List.length_range]) (by omega) (by rw [List.length_nil]; omega)
  refine ⟨l', ?_, by rw [List.nil_append] at hp; exact hp⟩
  rw [e__law_order]
  unfold F__law_order
  simp only [bdR_at, frR_at, forI_at, nxS_at, seqS_at, setL_at, rdD_s, rdD_z, R.bind_ok, lrg1_ok (show -1000000 ≤ n by omega) (show n ≤ 1000000 by omega), R.out_ok, List.set_cons_succ, List.set_cons_zero, Out.then_nx, lstR_at, List.length_nil, fits_of (Nat.zero_le _), if_true, rg1_ok (show -1000000 ≤ n by omega) (show n ≤ 1000000 by omega)]
  rw [rangeI_map]
  rw [show ((List.range n.toNat).map fun i => ((i : Nat) : Int)) = rangeZ n.toNat from rfl]
  have e' := e
  rw [show rangeI ((0 : Nat) : Int) n.toNat = (rangeZ n.toNat).map .int from rangeI_map _] at e'
  rw [show (List.map PyData.int ([] : List Int)) = [] from rfl] at e'
  rw [e']
  rfl
/-- the drawn order -/
noncomputable def orderI (a n : Int) : List Int := if h : 0 ≤ n ∧ n ≤ 1000 then (ev_order0 a n h.1 h.2).choose else []
theorem ev_order (a n : Int) (h0 : 0 ≤ n) (h1 : n ≤ 1000) : g__law_order [.int a, .int n] = .ok (.list ((orderI a n).map .int)) := by
  unfold orderI; rw [dif_pos ⟨h0, h1⟩]; exact (ev_order0 a n h0 h1).choose_spec.1
theorem orderI_perm (a n : Int) (h0 : 0 ≤ n) (h1 : n ≤ 1000) : (orderI a n).Perm (rangeZ n.toNat) := by
  unfold orderI; rw [dif_pos ⟨h0, h1⟩]; exact (ev_order0 a n h0 h1).choose_spec.2

theorem ev_is_group {ns : List Int} {m : Int} (hb : ∀ i ∈ ns, 0 ≤ i ∧ i ≤ m - 1) (hn : ns.Nodup) (hl : ns.length ≤ 4000) : g_is_group [.list (ns.map .int), .int m] = .ok (.bool true) := by
  rw [e_is_group]
  simp only [bdR_at, frR_at, forI_at, nxS_at, F_is_group, seqS_at, ifS_at, orT_at, notT_at, toT_at, callR_at, consR_at, asL_at, rdD_z, rdD_s, R.bind_ok, isi_list, truD_b]
  rw [lcR_ok (its := ns.map .int) (r := ns.map fun _ => .bool true) ?h1 ?h2 ?h3]
  case h1 => rfl
  case h3 => rw [List.length_map]; omega
  case h2 =>
    rw [show (ns.map fun _ => PyData.bool true) = (ns.map PyData.int).map (fun _ => .bool true) by rw [List.map_map]; rfl]
    refine compR_map _ _ fun d hd => ?_
    obtain ⟨i, hi, rfl⟩ := List.mem_map.1 hd
    refine ⟨_, rfl, ?_⟩
    simp only [bdR_at, frR_at, forI_at, nxS_at, wipeE, List.foldr_cons, List.foldr_nil, List.set_cons_succ, List.set_cons_zero, callR_at, consR_at, rdD_z, rdD_s, R.bind_ok, opR_at, subD_i, ev_among]
    rw [decide_eq_true (hb i hi).1, decide_eq_true (hb i hi).2]; rfl
  simp only [bdR_at, frR_at, forI_at, nxS_at, R.bind_ok]
  rw [show (ns.map fun _ => PyData.bool true) = (ns.map fun _ => true).map .bool by rw [List.map_map]; rfl, allD_map]
  have ht : (ns.map fun _ => true).all id = true := by simp
  rw [ht]
  simp only [bdR_at, frR_at, forI_at, nxS_at, R.bind_ok, truD_b, Bool.not_true, R.out_ok, Bool.false_eq_true, if_false, Out.then_nx, retS_at, opR_at, rdD_z, lenSetD_ok hn hl, callR_at, consR_at, lenD_l, List.length_map, eqD_int, decide_true, defR_rt]
theorem ev_need_group {ns : List Int} {m : Int} (hb : ∀ i ∈ ns, 0 ≤ i ∧ i ≤ m - 1) (hn : ns.Nodup) (hl : ns.length ≤ 4000) : g_need_group [.list (ns.map .int), .int m] = .ok .none := by
  rw [e_need_group]
  simp only [bdR_at, frR_at, forI_at, nxS_at, F_need_group, ifS_at, notT_at, toT_at, callR_at, consR_at, rdD_z, rdD_s, R.bind_ok, ev_is_group hb hn hl, truD_b, Bool.not_true, R.out_ok, Bool.false_eq_true, if_false, defR_nx]
theorem ev_need_row {ns : List Int} {m : Int} (hb : ∀ i ∈ ns, 0 ≤ i ∧ i ≤ m - 1) (hn : ns.Nodup) (hl : ns.length ≤ 4000) (hm : (ns.length : Int) = m) : g_need_row [.list (ns.map .int), .int m] = .ok .none := by
  rw [e_need_row]
  simp only [bdR_at, frR_at, forI_at, nxS_at, F_need_row, ifS_at, orT_at, notT_at, toT_at, toB_at, opR_at, callR_at, consR_at, rdD_z, rdD_s, R.bind_ok, ev_is_group hb hn hl, truD_b, Bool.not_true, Bool.false_eq_true, if_false, lenD_l, List.length_map, neD_int, hm, decide_true, boolR_b, R.out_ok, defR_nx]
/-- the places of guests in the group, from place n on -/
def placesF (G : List Int) : Nat → List Int → List Int
  | _, [] => []
  | n, g :: r => if g ∈ G then (n : Int) :: placesF G (n + 1) r else placesF G (n + 1) r
theorem placesF_b (G : List Int) : ∀ (r : List Int) (n : Nat), ∀ i ∈ placesF G n r, (n : Int) ≤ i ∧ i < n + r.length
  | [], _, i, h => by cases h
  | g :: r, n, i, h => by
    have ih := placesF_b G r (n + 1) i
    rw [List.length_cons]
    unfold placesF at h
    split at h
    · rcases List.mem_cons.1 h with rfl | h
      · omega
      · have := ih h; omega
    · have := ih h; omega
theorem placesF_compR {fe : DL.Env → R D} (G : List Int) (ρ : DL.Env) (ft : DL.Env → R Bool) (tf : D → DL.Env → R DL.Env)
    (h : ∀ (n : Nat) (g : Int), ∃ ρ1, tf (.tuple [.int (n : Nat), .int g]) ρ = .ok ρ1 ∧ ft ρ1 = .ok (decide (g ∈ G)) ∧ fe ρ1 = .ok (.int (n : Nat))) : ∀ (r : List Int) (n : Nat), compR tf ft fe ρ (enF n (r.map .int)) = .ok ((placesF G n r).map .int)
  | [], _ => rfl
  | g :: r, n => by
    obtain ⟨ρ1, e1, e2, e3⟩ := h n g
    have ih := placesF_compR G ρ ft tf h r (n + 1)
    show compR tf ft fe ρ (.tuple [.int (n : Nat), .int g] :: enF (n + 1) (r.map .int)) = _
    unfold compR placesF
    by_cases hg : g ∈ G
    · simp only [bdR_at, frR_at, forI_at, nxS_at, e1, e2, e3, R.bind_ok, hg, decide_true, if_true, ih, List.map_cons]
    · simp only [bdR_at, frR_at, forI_at, nxS_at, e1, e2, e3, R.bind_ok, hg, decide_false, if_false, ih, Bool.false_eq_true]

theorem ixD_first {ns : List Int} {x : Int} (h : ns.head? = some x) : ixD (.list (ns.map .int)) (.int 0) = .ok (.int x) := by
  cases ns with
  | nil => cases h
  | cons y r =>
    cases h
    refine ixD_l ?_
    rw [atI_ok (by omega) (by simp)]; rfl
theorem ixD_last {ns : List Int} {x : Int} (h : ns.getLast? = some x) : ixD (.list (ns.map .int)) (.int (-1)) = .ok (.int x) := by
  refine ixD_l ?_
  have hl : ns.length ≠ 0 := by intro e; rw [List.eq_nil_of_length_eq_zero e] at h; cases h
  unfold atI ixN
  rw [List.length_map, if_neg (by omega), if_pos (by omega)]
  rw [Option.bind_some, List.getElem?_map, show (-1 + (ns.length : Int)).toNat = ns.length - 1 by omega, ← List.getLast?_eq_getElem?, h]; rfl
/-- where the row is parted, by first and last place -/
def partI (lo hi : Int) (G : List Int) : Nat → List Int → Option Int
  | _, [] => none
  | n, g :: r => if lo < n ∧ (n : Int) < hi ∧ ¬ g ∈ G then some n else partI lo hi G (n + 1) r
def dueI (G : List Int) : Int → Bool → Nat → List Int → Option Int
  | _, _, _, [] => none
  | l, w, n, g :: r => if g ∈ G then dueI G (l - 1) true (n + 1) r else if w = true ∧ l > 0 then some n else dueI G l w (n + 1) r
def optD : Option Int → D
  | none => .none
  | some i => .int i
def firstD (ps : List Int) : Int := ps.head?.getD 0
def lastD (ps : List Int) : Int := ps.getLast?.getD 0
theorem part_loop (rw G ps : List Int) (a b : Int) (ha : ps.head? = some a) (hb : ps.getLast? = some b) : ∀ (r : List Int) (n : Nat) (s3 s4 : Sl), ∃ s3' s4', forS (tgT 2 (tgs1 (tgN 3) (tgs1 (tgN 4) tgs0))) (ifS (andT (toB (opR neD (rdD 2) (asL (lstR (fun _ => R.ok []))))) (andT (toB (chainR ltD ltD (opR ixD (rdD 2) (fun _ => R.ok (.int 0))) (rdD 3) (opR ixD (rdD 2) (fun _ => R.ok (.int (-1)))))) (toB (opR (inD true) (rdD 4) (rdD 1))))) (retS (rdD 3)) nxS) (enF n (r.map .int))
      [.dat (.list (rw.map .int)), .dat (.list (G.map .int)), .dat (.list (ps.map .int)), s3, s4] = match partI a b G n r with
        | some i => .rt (.int i)
        | none => .nx [.dat (.list (rw.map .int)), .dat (.list (G.map .int)), .dat (.list (ps.map .int)), s3', s4']
  | [], n, s3, s4 => ⟨s3, s4, rfl⟩
  | g :: r, n, s3, s4 => by
    obtain ⟨s3', s4', e⟩ := part_loop rw G ps a b ha hb r (n + 1) (.dat (.int n)) (.dat (.int g))
    refine ⟨s3', s4', ?_⟩
    have hne : ps ≠ [] := by intro e; rw [e] at ha; cases ha
    show forS _ _ (.tuple [.int (n : Nat), .int g] :: enF (n + 1) (r.map .int)) _ = _
    rw [forS_cons]
    simp only [bdR_at, frR_at, forI_at, nxS_at, tgT2, tgs1_at, tgN_at, tgs0_at, List.set_cons_succ, List.set_cons_zero, R.bind_ok, R.out_ok, ifS_at, andT_at, toB_at, opR_at, rdD_s, rdD_z, asL_at, lstR_at, List.length_nil, fits_of (Nat.zero_le _), if_true]
    rw [show PyData.list [] = PyData.list (([] : List Int).map .int) from rfl, neD_ints, decide_eq_false hne]
    simp only [bdR_at, frR_at, forI_at, nxS_at, Bool.not_false, R.bind_ok, boolR_b, if_true, chainR_at, opR_at, rdD_s, rdD_z, ixD_first ha, ixD_last hb]
    unfold partI
    by_cases h1 : a < n
    · by_cases h2 : (n : Int) < b
      · by_cases h3 : g ∈ G
        · simp only [bdR_at, frR_at, forI_at, nxS_at, ltD, cmpD_i, R.bind_ok, h1, h2, h3, decide_true, boolR_b, if_true, inD_ints, decide_false, Bool.not_true, Bool.not_false, R.out_ok, retS_at, rdD_s, rdD_z, turnS, if_false, Bool.false_eq_true, not_true, and_false, e]
        · simp only [bdR_at, frR_at, forI_at, nxS_at, ltD, cmpD_i, R.bind_ok, h1, h2, h3, decide_true, boolR_b, if_true, inD_ints, decide_false, Bool.not_true, Bool.not_false, R.out_ok, retS_at, rdD_s, rdD_z, turnS, not_false_eq_true, and_true]
      · simp only [bdR_at, frR_at, forI_at, nxS_at, ltD, cmpD_i, R.bind_ok, h1, h2, decide_true, decide_false, boolR_b, if_true, Bool.not_true, Bool.not_false, R.out_ok, turnS, if_false, Bool.false_eq_true, false_and, and_false, e]
    · simp only [bdR_at, frR_at, forI_at, nxS_at, ltD, cmpD_i, R.bind_ok, h1, decide_true, decide_false, boolR_b, if_true, Bool.not_true, Bool.not_false, R.out_ok, turnS, if_false, Bool.false_eq_true, false_and, and_false, e]
theorem part_loop0 (rw G : List Int) : ∀ (r : List Int) (n : Nat) (s3 s4 : Sl), ∃ s3' s4', forS (tgT 2 (tgs1 (tgN 3) (tgs1 (tgN 4) tgs0))) (ifS (andT (toB (opR neD (rdD 2) (asL (lstR (fun _ => R.ok []))))) (andT (toB (chainR ltD ltD (opR ixD (rdD 2) (fun _ => R.ok (.int 0))) (rdD 3) (opR ixD (rdD 2) (fun _ => R.ok (.int (-1)))))) (toB (opR (inD true) (rdD 4) (rdD 1))))) (retS (rdD 3)) nxS) (enF n (r.map .int))
      [.dat (.list (rw.map .int)), .dat (.list (G.map .int)), .dat (.list []), s3, s4] = .nx [.dat (.list (rw.map .int)), .dat (.list (G.map .int)), .dat (.list []), s3', s4']
  | [], n, s3, s4 => ⟨s3, s4, rfl⟩
  | g :: r, n, s3, s4 => by
    obtain ⟨s3', s4', e⟩ := part_loop0 rw G r (n + 1) (.dat (.int n)) (.dat (.int g))
    refine ⟨s3', s4', ?_⟩
    show forS _ _ (.tuple [.int (n : Nat), .int g] :: enF (n + 1) (r.map .int)) _ = _
    rw [forS_cons]
    simp only [bdR_at, frR_at, forI_at, nxS_at, tgT2, tgs1_at, tgN_at, tgs0_at, List.set_cons_succ, List.set_cons_zero, R.bind_ok, R.out_ok, ifS_at, andT_at, toB_at, opR_at, rdD_s, rdD_z, asL_at, lstR_at, List.length_nil, fits_of (Nat.zero_le _), if_true, neD_self (show SeqAt.shaped (.list []) = true from shaped_ints []), boolR_b, Bool.false_eq_true, if_false, turnS, e]
def partAns (G row : List Int) : Option Int := match placesF G 0 row with
  | [] => none
  | p :: ps => partI p ((p :: ps).getLast (by simp)) G 0 row
theorem ev_parted (G row : List Int) (hr : row.Nodup) (hb : ∀ i ∈ row, 0 ≤ i ∧ i ≤ (row.length : Int) - 1) (h1 : 1 ≤ row.length) (h2 : row.length ≤ 12) (hg : G.Nodup) (hgb : ∀ i ∈ G, 0 ≤ i ∧ i ≤ (row.length : Int) - 1) (hgl : G.length ≤ 4000) :
    g_parted_at [.list (row.map .int), .list (G.map .int)] = .ok (optD (partAns G row)) := by
  rw [e_parted_at]
  have k1 : (1 : Int) ≤ row.length := by omega
  have k2 : (row.length : Int) ≤ 12 := by omega
  simp only [bdR_at, frR_at, forI_at, nxS_at, F_parted_at, seqS_at, ifS_at, orT_at, notT_at, toT_at, toB_at, chainR_at, dropS_at, callR_at, consR_at, rdD_z, rdD_s, R.bind_ok, isi_list, truD_b, Bool.not_true, Bool.false_eq_true, if_false, lenD_l, List.length_map, leD, cmpD_i, k1, k2, decide_true, boolR_b, R.out_ok, Out.then_nx, ev_need_row hb hr (by omega : row.length ≤ 4000) rfl, ev_need_group hgb hg hgl, setS_at, asL_at, List.set_cons_succ, List.set_cons_zero]
  rw [lcR_ok (its := enF 0 (row.map .int)) (r := (placesF G 0 row).map .int) ?h1 ?h2 ?h3]
  case h1 => show R.bind (R.ok _) _ = _; rw [R.bind_ok, enumL_l, enumI_F]
  case h3 => rw [← enumI_F, enumI_length, List.length_map]; omega
  case h2 =>
    refine placesF_compR G _ _ _ (fun n g => ⟨_, rfl, ?_, rfl⟩) row 0
    simp only [bdR_at, frR_at, forI_at, nxS_at, toB_at, opR_at, wipeE, List.foldr_cons, List.foldr_nil, List.set_cons_succ, List.set_cons_zero, rdD_z, rdD_s, R.bind_ok, inD_ints, boolR_b]; rfl
  simp only [bdR_at, frR_at, forI_at, nxS_at, seqS_at, R.bind_ok, R.out_ok, Out.then_nx, List.set_cons_succ, List.set_cons_zero, rdD_z, enumL_l, enumI_F]
  unfold partAns
  cases e : placesF G 0 row with
  | nil =>
    obtain ⟨s3, s4, e'⟩ := part_loop0 row G row 0 .no .no
    rw [List.map_nil, e']
    rfl
  | cons p ps =>
    obtain ⟨s3, s4, e'⟩ := part_loop row G (p :: ps) p ((p :: ps).getLast (by simp)) rfl (List.getLast?_eq_some_getLast _) row 0 .no .no
    rw [e']
    show _ = R.ok (optD (partI p ((p :: ps).getLast (by simp)) G 0 row))
    cases partI p ((p :: ps).getLast (by simp)) G 0 row <;> rfl

theorem due_loop (rw G : List Int) : ∀ (r : List Int) (n : Nat) (l : Int) (w : Bool) (s4 s5 : Sl), ∃ l' w' s4' s5', forS (tgT 2 (tgs1 (tgN 4) (tgs1 (tgN 5) tgs0))) (ifS (toB (opR (inD false) (rdD 5) (rdD 1))) (seqS (setS 2 (opR subD (rdD 2) (fun _ => R.ok (.int 1)))) (setS 3 (fun _ => R.ok (.bool true)))) (ifS (andT (toT (rdD 3)) (toB (opR gtD (rdD 2) (fun _ => R.ok (.int 0))))) (retS (rdD 4)) nxS)) (enF n (r.map .int))
      [.dat (.list (rw.map .int)), .dat (.list (G.map .int)), .dat (.int l), .dat (.bool w), s4, s5] = match dueI G l w n r with
        | some i => .rt (.int i)
        | none => .nx [.dat (.list (rw.map .int)), .dat (.list (G.map .int)), .dat (.int l'), .dat (.bool w'), s4', s5']
  | [], n, l, w, s4, s5 => ⟨l, w, s4, s5, rfl⟩
  | g :: r, n, l, w, s4, s5 => by
    unfold dueI
    by_cases hg : g ∈ G
    · obtain ⟨l', w', s4', s5', e⟩ := due_loop rw G r (n + 1) (l - 1) true (.dat (.int n)) (.dat (.int g))
      refine ⟨l', w', s4', s5', ?_⟩
      show forS _ _ (.tuple [.int (n : Nat), .int g] :: enF (n + 1) (r.map .int)) _ = _
      rw [forS_cons]
      simp only [bdR_at, frR_at, forI_at, nxS_at, tgT2, tgs1_at, tgN_at, tgs0_at, List.set_cons_succ, List.set_cons_zero, R.bind_ok, R.out_ok, ifS_at, toB_at, opR_at, rdD_s, rdD_z, inD_ints, hg, decide_true, boolR_b, if_true, seqS_at, setS_at, subD_i, Out.then_nx, turnS, e, if_false, Bool.false_eq_true]
    · obtain ⟨l', w', s4', s5', e⟩ := due_loop rw G r (n + 1) l w (.dat (.int n)) (.dat (.int g))
      refine ⟨l', w', s4', s5', ?_⟩
      show forS _ _ (.tuple [.int (n : Nat), .int g] :: enF (n + 1) (r.map .int)) _ = _
      rw [forS_cons]
      simp only [bdR_at, frR_at, forI_at, nxS_at, tgT2, tgs1_at, tgN_at, tgs0_at, List.set_cons_succ, List.set_cons_zero, R.bind_ok, R.out_ok, ifS_at, toB_at, opR_at, rdD_s, rdD_z, inD_ints, hg, decide_false, boolR_b, if_false, Bool.false_eq_true, andT_at, toT_at, truD_b]
      cases w with
      | false =>
        simp only [bdR_at, frR_at, forI_at, nxS_at, Bool.false_eq_true, if_false, R.out_ok, turnS, false_and, e]
      | true =>
        by_cases hl : l > 0
        · simp only [bdR_at, frR_at, forI_at, nxS_at, if_true, gtD, cmpD_i, R.bind_ok, boolR_b, R.out_ok, true_and, hl, decide_true, retS_at, rdD_s, rdD_z, turnS]
        · simp only [bdR_at, frR_at, forI_at, nxS_at, if_true, gtD, cmpD_i, R.bind_ok, boolR_b, R.out_ok, true_and, hl, decide_false, if_false, Bool.false_eq_true, turnS, e]
theorem compR_in (G : List Int) (ρ : DL.Env) (ft : DL.Env → R Bool) (fe : DL.Env → R D) (tf : D → DL.Env → R DL.Env)
    (h : ∀ (g : Int), ∃ ρ1, tf (.int g) ρ = .ok ρ1 ∧ ft ρ1 = .ok (decide (g ∈ G)) ∧ fe ρ1 = .ok (.int g)) : ∀ (r : List Int), compR tf ft fe ρ (r.map .int) = .ok ((r.filter (· ∈ G)).map .int)
  | [] => rfl
  | g :: r => by
    obtain ⟨ρ1, e1, e2, e3⟩ := h g
    have ih := compR_in G ρ ft fe tf h r
    rw [List.map_cons]
    unfold compR
    by_cases hg : g ∈ G
    · simp only [bdR_at, frR_at, forI_at, nxS_at, e1, e2, e3, R.bind_ok, hg, decide_true, if_true, ih, List.map_cons, List.filter_cons]
    · simp only [bdR_at, frR_at, forI_at, nxS_at, e1, e2, e3, R.bind_ok, hg, decide_false, if_false, ih, Bool.false_eq_true, List.filter_cons]
def dueAns (G row : List Int) : Option Int := dueI G ((row.filter (· ∈ G)).length : Nat) false 0 row
theorem ev_due (G row : List Int) (h2 : row.length ≤ 12) : g__law_due [.list (row.map .int), .list (G.map .int)] = .ok (optD (dueAns G row)) := by
  rw [e__law_due]
  simp only [bdR_at, frR_at, forI_at, nxS_at, F__law_due, seqS_at, setS_at, callR_at, consR_at, asL_at]
  rw [lcR_ok (its := row.map .int) (r := (row.filter (· ∈ G)).map .int) ?h1 ?h2 ?h3]
  case h1 => rfl
  case h3 => rw [List.length_map]; omega
  case h2 =>
    refine compR_in G _ _ _ _ (fun g => ⟨_, rfl, ?_, rfl⟩) row
    simp only [bdR_at, frR_at, forI_at, nxS_at, toB_at, opR_at, wipeE, List.foldr_cons, List.foldr_nil, List.set_cons_succ, List.set_cons_zero, rdD_z, rdD_s, R.bind_ok, inD_ints, boolR_b]; rfl
  simp only [bdR_at, frR_at, forI_at, nxS_at, setS_at, R.bind_ok, lenD_l, List.length_map, R.out_ok, Out.then_nx, List.set_cons_succ, List.set_cons_zero, seqS_at, rdD_z, rdD_s, enumL_l, enumI_F]
  obtain ⟨l', w', s4, s5, e⟩ := due_loop row G row 0 ((row.filter (· ∈ G)).length : Nat) false .no .no
  rw [e]
  unfold dueAns
  cases dueI G ((row.filter (· ∈ G)).length : Nat) false 0 row <;> rfl
theorem places_len (G : List Int) : ∀ (r : List Int) (n : Nat), (placesF G n r).length = (r.filter (· ∈ G)).length
  | [], _ => rfl
  | g :: r, n => by
    have ih := places_len G r (n + 1)
    unfold placesF
    rw [List.filter_cons]
    by_cases hg : g ∈ G
    · simp only [bdR_at, frR_at, forI_at, nxS_at, hg, decide_true, if_true, List.length_cons, ih]
    · simp only [bdR_at, frR_at, forI_at, nxS_at, hg, decide_false, if_false, Bool.false_eq_true, ih]
theorem part_due (G : List Int) (a b : Int) : ∀ (r pre : List Int) (n : Nat), (∀ p ∈ pre, p < n) → (pre ++ placesF G n r).head? = some a → (pre ++ placesF G n r).getLast? = some b →
    partI a b G n r = dueI G ((r.filter (· ∈ G)).length : Nat) (!pre.isEmpty) n r
  | [], _, _, _, _, _ => rfl
  | g :: r, pre, n, hp, ha, hb => by
    unfold partI dueI
    by_cases hg : g ∈ G
    · have e : pre ++ placesF G n (g :: r) = (pre ++ [(n : Int)]) ++ placesF G (n + 1) r := by
        rw [List.append_assoc]; show pre ++ (if g ∈ G then _ else _) = _; rw [if_pos hg]; rfl
      rw [e] at ha hb
      have ih := part_due G a b r (pre ++ [(n : Int)]) (n + 1) (fun p h => by
        rcases List.mem_append.1 h with h | h
        · have := hp p h; omega
        · rw [List.mem_singleton] at h; omega) ha hb
      rw [if_neg (fun h => h.2.2 hg), if_pos hg, ih, List.filter_cons]
      have e2 : ((pre ++ [(n : Int)]).isEmpty) = false := by cases pre <;> rfl
      simp only [bdR_at, frR_at, forI_at, nxS_at, hg, decide_true, if_true, e2, Bool.not_false, List.length_cons]
      congr 1
      omega
    · have e : placesF G n (g :: r) = placesF G (n + 1) r := by
        show (if g ∈ G then _ else _) = _; rw [if_neg hg]
      rw [e] at ha hb
      have ih := part_due G a b r pre (n + 1) (fun p h => by have := hp p h; omega) ha hb
      have hlen := places_len G r (n + 1)
      have hpb := placesF_b G r (n + 1)
      rw [ih, if_neg hg, List.filter_cons]
      simp only [bdR_at, frR_at, forI_at, nxS_at, hg, decide_false, Bool.false_eq_true, if_false, not_false_eq_true, and_true]
      have key : (a < n ∧ (n : Int) < b) ↔ ((!pre.isEmpty) = true ∧ (((r.filter (· ∈ G)).length : Nat) : Int) > 0) := by
        cases pre with
        | nil =>
          rw [List.nil_append] at ha
          have : a ∈ placesF G (n + 1) r := List.mem_of_head? ha
          have := hpb a this
          simp; omega
        | cons p pre =>
          have ea : p = a := by simpa using ha
          have h1 := hp p List.mem_cons_self
          rw [← hlen]
          cases e3 : placesF G (n + 1) r with
          | nil =>
            rw [e3, List.append_nil] at hb
            have := hp b (List.mem_of_getLast? hb)
            simp; omega
          | cons q qs =>
            rw [e3, List.getLast?_append, List.getLast?_eq_some_getLast (show (q :: qs) ≠ [] by simp), Option.some_or, Option.some.injEq] at hb
            have := hpb b (by rw [e3, ← hb]; exact List.getLast_mem _)
            simp; omega
      by_cases hk : a < n ∧ (n : Int) < b
      · rw [if_pos hk, if_pos (key.1 hk)]
      · rw [if_neg hk, if_neg (fun h => hk (key.2 h))]
theorem due_none (G : List Int) : ∀ (r : List Int) (n : Nat) (l : Int), (∀ g ∈ r, ¬ g ∈ G) → dueI G l false n r = none
  | [], _, _, _ => rfl
  | g :: r, n, l, h => by
    unfold dueI
    rw [if_neg (h g List.mem_cons_self), if_neg (by simp)]
    exact due_none G r (n + 1) l fun g' hg => h g' (List.mem_cons_of_mem _ hg)
theorem ans_eq (G row : List Int) : partAns G row = dueAns G row := by
  unfold partAns dueAns
  cases e : placesF G 0 row with
  | nil =>
    refine (due_none G row 0 _ fun g hg hG => ?_).symm
    have := places_len G row 0
    rw [e, List.length_nil] at this
    have hm : g ∈ row.filter (· ∈ G) := List.mem_filter.2 ⟨hg, decide_eq_true hG⟩
    have := List.length_pos_of_mem hm
    omega
  | cons p ps =>
    have := part_due G p ((p :: ps).getLast (by simp)) row [] 0 (by simp) (by rw [List.nil_append, e]; rfl) (by rw [List.nil_append, e]; exact List.getLast?_eq_some_getLast _)
    exact this
theorem part_all (a b : Int) (G : List Int) : ∀ (r : List Int) (n : Nat), (∀ g ∈ r, g ∈ G) → partI a b G n r = none
  | [], _, _ => rfl
  | g :: r, n, h => by
    unfold partI
    rw [if_neg (fun k => k.2.2 (h g List.mem_cons_self))]
    exact part_all a b G r (n + 1) fun g' hg => h g' (List.mem_cons_of_mem _ hg)
theorem ans_all (G row : List Int) (h : ∀ g ∈ row, g ∈ G) : partAns G row = none := by
  unfold partAns
  split
  · rfl
  · exact part_all _ _ G row 0 h
theorem part_same (a : Int) (G : List Int) : ∀ (r : List Int) (n : Nat), partI a a G n r = none
  | [], _ => rfl
  | g :: r, n => by
    unfold partI
    rw [if_neg (fun k => by omega)]
    exact part_same a G r (n + 1)
theorem ans_nil (row : List Int) : partAns [] row = none := by
  rw [ans_eq]; exact due_none [] row 0 _ (fun _ _ h => by cases h)
theorem places_out (x : Int) : ∀ (r : List Int) (n : Nat), x ∉ r → placesF [x] n r = []
  | [], _, _ => rfl
  | g :: r, n, h => by
    unfold placesF
    rw [if_neg (by intro e; rw [List.mem_singleton] at e; exact h (e ▸ List.mem_cons_self))]
    exact places_out x r (n + 1) fun h' => h (List.mem_cons_of_mem _ h')
theorem places_one (x : Int) : ∀ (r : List Int) (n : Nat), r.Nodup → (placesF [x] n r).length ≤ 1
  | [], _, _ => Nat.zero_le _
  | g :: r, n, h => by
    rw [List.nodup_cons] at h
    unfold placesF
    by_cases e : g ∈ [x]
    · rw [if_pos e]
      rw [List.mem_singleton] at e
      rw [places_out x r (n + 1) (e ▸ h.1)]; exact Nat.le_refl _
    · rw [if_neg e]; exact places_one x r (n + 1) h.2
theorem ans_one (x : Int) (row : List Int) (h : row.Nodup) : partAns [x] row = none := by
  have hl := places_one x row 0 h
  unfold partAns
  split
  · rfl
  · rename_i p ps e
    rw [e] at hl
    have : ps = [] := by cases ps with
      | nil => rfl
      | cons q qs => simp at hl
    subst this
    exact part_same _ _ _ _

theorem range_nodup (n : Nat) : (rangeZ n).Nodup := by
  unfold rangeZ
  rw [List.Nodup, List.pairwise_map]
  exact (List.nodup_range (n := n)).imp fun h e => h (Int.ofNat.inj e)
theorem range_mem {n : Nat} {i : Int} : i ∈ rangeZ n ↔ 0 ≤ i ∧ i < n := by
  unfold rangeZ
  rw [List.mem_map]
  constructor
  · rintro ⟨j, hj, rfl⟩
    rw [List.mem_range] at hj; omega
  · intro h
    exact ⟨i.toNat, List.mem_range.2 (by omega), by omega⟩
theorem range_pick (xs : List Int) : (rangeZ xs.length).map (fun i => xs.getD i.toNat 0) = xs := by
  unfold rangeZ
  rw [List.map_map]
  refine List.ext_getElem (by simp) fun i h1 h2 => ?_
  simp [List.getD_eq_getElem?_getD, List.getElem?_eq_getElem h2]
/-- a list of guests of m -/
def Gs (m : Nat) (G : List Int) : Prop := G.Nodup ∧ (∀ i ∈ G, 0 ≤ i ∧ i ≤ (m : Int) - 1) ∧ G.length ≤ 12
theorem Gs.sub {m : Nat} {G G' : List Int} (h : Gs m G) (s : G'.Sublist G) : Gs m G' := ⟨h.1.sublist s, fun i hi => h.2.1 i (s.subset hi), Nat.le_trans s.length_le h.2.2⟩
theorem Gs.perm {m : Nat} {G G' : List Int} (h : Gs m G) (s : G'.Perm G) : Gs m G' := ⟨s.nodup_iff.2 h.1, fun i hi => h.2.1 i (s.subset hi), by rw [s.length_eq]; exact h.2.2⟩
theorem order_gs (a : Int) (m : Nat) (h : m ≤ 12) : Gs m (orderI a m) := by
  have hp := orderI_perm a m (by omega) (by omega)
  rw [Int.toNat_natCast] at hp
  refine ⟨hp.nodup_iff.2 (range_nodup m), fun i hi => ?_, ?_⟩
  · have := range_mem.1 (hp.subset hi); omega
  · rw [hp.length_eq, rangeZ, List.length_map, List.length_range]; exact h
theorem order_len (a : Int) (m : Nat) (h : m ≤ 12) : (orderI a m).length = m := by
  have hp := orderI_perm a m (by omega) (by omega)
  rw [hp.length_eq, rangeZ, List.length_map, List.length_range]; omega
theorem pick_comp (S : List Int) (hl : S.length ≤ 12) (a : Int) (s0 s2 s3 s5 : Sl) : lcR (bdR (callR g__law_order (consR (opR divD (rdD 1) (fun _ => R.ok (.int 7))) (consR (callR lenD (consR (rdD 4) (fun _ => R.ok []))) (fun _ => R.ok [])))) itemsL) (tgN 5) (fun _ => R.ok true) (opR ixD (rdD 4) (rdD 5)) [5] [s0, .dat (.int a), s2, s3, .dat (.list (S.map .int)), s5] = .ok (((orderI (a / 7) S.length).map fun i => S.getD i.toNat 0).map .int) := by
  refine lcR_ok (its := (orderI (a / 7) S.length).map .int) ?h1 ?h2 ?h3
  case h1 =>
    simp only [bdR_at, frR_at, forI_at, nxS_at, callR_at, consR_at, opR_at, rdD_s, rdD_z, R.bind_ok, divD_i (show (0 : Int) < 7 by decide) (by decide), lenD_l, List.length_map, ev_order (a / 7) S.length (by omega) (by omega), itemsL_l]
  case h3 => rw [List.length_map, order_len _ _ hl]; omega
  case h2 =>
    rw [show (((orderI (a / 7) S.length).map fun i => S.getD i.toNat 0).map PyData.int) = ((orderI (a / 7) S.length).map PyData.int).map (fun d => match d with | .int i => .int (S.getD i.toNat 0) | _ => .none) by rw [List.map_map, List.map_map]; rfl]
    refine compR_map _ _ fun d hd => ?_
    obtain ⟨i, hi, rfl⟩ := List.mem_map.1 hd
    refine ⟨_, rfl, ?_⟩
    have hb := (order_gs (a / 7) S.length hl).2.1 i hi
    simp only [bdR_at, frR_at, forI_at, nxS_at, wipeE, List.foldr_cons, List.foldr_nil, List.set_cons_succ, List.set_cons_zero, opR_at, rdD_s, rdD_z, R.bind_ok]
    refine ixD_l ?_
    have : i.toNat < S.length := by omega
    rw [atI_ok hb.1 (by rw [List.length_map]; omega), List.getElem?_map, List.getElem?_eq_getElem this, List.getD_eq_getElem?_getD, List.getElem?_eq_getElem this]; rfl
theorem pick_perm (S : List Int) (hl : S.length ≤ 12) (a : Int) : ((orderI a S.length).map fun i => S.getD i.toNat 0).Perm S := by
  have hp := orderI_perm a S.length (by omega) (by omega)
  have := hp.map fun i => S.getD i.toNat 0
  rw [Int.toNat_natCast, range_pick] at this
  exact this
theorem cut_nat_eq {α : Type} (xs : List α) (i j : Int) (hi : 0 ≤ i) (hj : 0 ≤ j) : cutD xs (some i) (some j) = (xs.drop i.toNat).take (j.toNat - i.toNat) := by
  have := cutD_nat xs i.toNat j.toNat
  rwa [show ((i.toNat : Nat) : Int) = i by omega, show ((j.toNat : Nat) : Int) = j by omega] at this
theorem addD_l {xs ys : List D} (h : xs.length + ys.length ≤ 1000) : addD (.list xs) (.list ys) = .ok (.list (xs ++ ys)) := by
  exact if_pos (fits_of (by omega))
theorem ev_group (row : List Int) (a : Int) (m : Nat) (hm : row.length = m) (h1 : 1 ≤ m) (h2 : m ≤ 12) (hg : Gs m row) (ha : 0 ≤ a) : ∃ G, g__law_group [.list (row.map .int), .int a] = .ok (.list (G.map .int)) ∧ Gs m G := by
  obtain ⟨b, hb⟩ : ∃ b, b = a / 4 % (m : Int) := ⟨_, rfl⟩
  have hb0 : 0 ≤ b := by rw [hb]; exact Int.emod_nonneg _ (by omega)
  have hb1 : b < m := by rw [hb]; exact Int.emod_lt_of_pos _ (by omega)
  obtain ⟨S, hS⟩ : ∃ S, S = cutD row (some b) (some (b + 2 + a / 60 % 5)) := ⟨_, rfl⟩
  have hSg : Gs m S := by rw [hS]; exact hg.sub (cutD_sub _ _ _)
  have hS1 : 1 ≤ S.length := by
    rw [hS, cut_nat_eq _ _ _ hb0 (by omega), List.length_take, List.length_drop]; omega
  rw [e__law_group]
  simp only [bdR_at, frR_at, forI_at, nxS_at, F__law_group, seqS_at, setS_at, callR_at, consR_at, rdD_z, rdD_s, R.bind_ok, lenD_l, List.length_map, hm, R.out_ok, List.set_cons_succ, List.set_cons_zero, Out.then_nx, opR_at, divD_i (show (0 : Int) < 4 by decide) (by decide), modD_i (show (0 : Int) < (m : Int) by omega), ← hb, slR_at, partR_i, addD_i, divD_i (show (0 : Int) < 60 by decide) (by decide), modD_i (show (0 : Int) < 5 by decide), slD_l, cutD_map, ← hS, ifS_at, toB_at, modD_i (show (0 : Int) < 4 by decide), eqD_int, boolR_b]
  by_cases c0 : a % 4 = 0
  · simp only [bdR_at, frR_at, forI_at, nxS_at, c0, decide_true, if_true, decide_false, Bool.false_eq_true, if_false, setS_at, slR_at, callR_at, consR_at, opR_at, rdD_s, rdD_z, R.bind_ok, divD_i (show (0 : Int) < 4 by decide) (by decide), ev_order (a / 4) m (by omega) (by omega), addD_i, divD_i (show (0 : Int) < 60 by decide) (by decide), modD_i (show (0 : Int) < (m : Int) + 1 by omega), partR_i, slD_l, cutD_map, R.out_ok, List.set_cons_succ, List.set_cons_zero, Out.then_nx, seqS_at, ifS_at, toB_at, modD_i (show (0 : Int) < 4 by decide), eqD_int, boolR_b, show (decide ((0 : Int) = 1)) = false from rfl, retS_at, asL_at]
    have hO := (order_gs (a / 4) m h2).sub (cutD_sub _ none (some (a / 60 % (m + 1))))
    rw [pick_comp _ hO.2.2]
    exact ⟨_, rfl, hO.perm (pick_perm _ hO.2.2 _)⟩
  · by_cases c1 : a % 4 = 1
    · obtain ⟨t, ht⟩ : ∃ t, t = a / 400 % (S.length : Int) := ⟨_, rfl⟩
      have ht0 : 0 ≤ t := by rw [ht]; exact Int.emod_nonneg _ (by omega)
      have hx1 : cutD S none (some t) = S.take t.toNat := by
        have := cutD_to S t.toNat
        rwa [show ((t.toNat : Nat) : Int) = t by omega] at this
      have hx2 : cutD S (some (t + 1)) none = S.drop (t.toNat + 1) := by
        have := cutD_from S (t.toNat + 1)
        rwa [show ((t.toNat + 1 : Nat) : Int) = t + 1 by omega] at this
      have hsub : (S.take t.toNat ++ S.drop (t.toNat + 1)).Sublist S := by
        have h := (List.Sublist.refl (S.take t.toNat)).append (show (S.drop (t.toNat + 1)).Sublist (S.drop t.toNat) by rw [← List.drop_drop]; exact List.drop_sublist _ _)
        rwa [List.take_append_drop] at h
      have hO := hSg.sub hsub
      simp only [bdR_at, frR_at, forI_at, nxS_at, c1, decide_true, if_true, decide_false, Bool.false_eq_true, if_false, show (decide ((1 : Int) = 0)) = false from rfl, R.out_ok, Out.then_nx, seqS_at, ifS_at, toB_at, opR_at, rdD_s, rdD_z, R.bind_ok, modD_i (show (0 : Int) < 4 by decide), eqD_int, boolR_b, setS_at, divD_i (show (0 : Int) < 400 by decide) (by decide), callR_at, consR_at, lenD_l, List.length_map, modD_i (show (0 : Int) < (S.length : Int) by omega), ← ht, List.set_cons_succ, List.set_cons_zero, slR_at, partR_i, slD_l, cutD_map, addD_i, hx1, hx2]
      rw [addD_l (by rw [List.length_map, List.length_map, List.length_take, List.length_drop]; have := hSg.2.2; omega), ← List.map_append]
      simp only [bdR_at, frR_at, forI_at, nxS_at, R.out_ok, Out.then_nx, List.set_cons_succ, List.set_cons_zero, retS_at, asL_at]
      rw [pick_comp _ hO.2.2]
      exact ⟨_, rfl, hO.perm (pick_perm _ hO.2.2 _)⟩
    · simp only [bdR_at, frR_at, forI_at, nxS_at, c0, c1, decide_false, Bool.false_eq_true, if_false, R.out_ok, Out.then_nx, seqS_at, ifS_at, toB_at, opR_at, rdD_s, rdD_z, R.bind_ok, modD_i (show (0 : Int) < 4 by decide), eqD_int, boolR_b, retS_at, asL_at]
      rw [pick_comp _ hSg.2.2]
      exact ⟨_, rfl, hSg.perm (pick_perm _ hSg.2.2 _)⟩

theorem shaped_two (a b : List Int) : SeqAt.shaped (.list [.list (a.map .int), .list (b.map .int)]) = true := by
  simp only [SeqAt.shaped, PyData.canLay0, PyData.canLayAll0, canLay_ints, PyData.depth, PyData.depthAll, depth_ints]; decide
theorem ev_whole_i (i : Int) : g__law_whole [.int i] = .ok (.bool true) := by
  rw [e__law_whole]
  simp only [F__law_whole, opR_at, andR_at, orR_at, notR_at, chainR_at, toB_at, toT_at, andT_at, orT_at, notT_at, ifR_at, consR_at, callR_at, asL_at, seqS_at, retS_at, dropS_at, setS_at, setL_at, ifS_at, rdD_z, rdD_s, rdO_z, rdO_s, frzE_o, frzE_d, frzE_n, frzE_s, lstR_at, tupR_at, slR_at, slLR_at, revR_at, slD_l, slD_t, appS_at, extS_at, appPopS_at, scalD_i, scalD_b, augS_at, asgS_at, listD_l, listD_t, tupD_l, tupD_t, intD_b, boolR_b, cmpD_i, addD_i, subD_i, pIs_n, isN_n, isN_i, isN_b, isN_s, isN_l, isN_t, lenD_l, lenD_t, itemsL_l, itemsT_t, enumL_l, partR_i, tgN_at, tgs0_at, tgs1_at, tgT2, defR_rt, defR_nx, defR_exc, truD_b, bdR_at, bd2R_at, frR_at, forI_at, nxS_at, R.bind_ok, R.out_ok, Out.then_nx, List.set_cons_succ, List.set_cons_zero, leD, ltD, gtD, geD, eqD_int, neD_int, Bool.not_true, Bool.not_false, if_true, if_false, Bool.false_eq_true, Bool.true_eq_false, decide_true, decide_false, turnS_nx, turnS_rt, turnS_ct, isi_int, isi_bool]
theorem cut_last (row : List Int) : (cutD row (some (-1)) none).length ≤ 1 := by
  unfold cutD
  rw [List.length_take, List.length_drop, HT.sIx_none]
  by_cases h : row.length = 0
  · omega
  · have : HT.sIx row.length 0 (some (-1)) = row.length - 1 := by
      unfold HT.sIx; simp only []; rw [if_pos (by decide)]; omega
    omega
theorem turn_ok (row G : List Int) (m : Nat) (hm : row.length = m) (h1 : 1 ≤ m) (h2 : m ≤ 12) (hr : Gs m row) (hg : Gs m G) : g_parted_at [.list (row.map .int), .list (G.map .int)] = .ok (optD (dueAns G row)) := by
  subst hm
  rw [← ans_eq]
  exact ev_parted G row hr.1 hr.2.1 h1 h2 hg.1 hg.2.1 (by have := hg.2.2; omega)
def LawI (ns : List Int) (ρ : DL.Env) : Prop := ∃ s1 s2 s3 s4 s5 s6 s7 s8 s9, ρ = [.scr ns, s1, s2, s3, s4, s5, s6, s7, s8, s9]
theorem enF_mem {d : D} : ∀ (r : List Int) (n : Nat), d ∈ enF n (r.map .int) → ∃ (i : Nat) (c : Int), d = .tuple [.int (i : Nat), .int c] ∧ i < n + r.length
  | [], _, h => by cases h
  | c :: r, n, h => by
    rcases List.mem_cons.1 h with rfl | h
    · exact ⟨n, c, rfl, by rw [List.length_cons]; omega⟩
    · obtain ⟨i, c', e, hi⟩ := enF_mem r (n + 1) h
      exact ⟨i, c', e, by rw [List.length_cons]; omega⟩
theorem rg1_two : rg1 (.int 2) = .ok [.int 0, .int 1] := by rw [rg1_ok (by decide) (by decide)]; rfl
theorem law_ok (ns : List Int) (h : ns.length ≤ 63) : F_law g__law_mixed g__law_order g__law_group g__law_next g_parted_at g__law_due g__law_whole (.scr ns :: List.replicate (N_law.length - 1) .no) = .rt (.bool true) := by
  have hcut : cutD ns none (some 63) = ns := by
    have := cutD_to ns 63
    rw [List.take_of_length_le h] at this
    exact this
  unfold F_law
  show seqS _ _ [.scr ns, .no, .no, .no, .no, .no, .no, .no, .no, .no] = _
  simp only [opR_at, andR_at, orR_at, notR_at, chainR_at, toB_at, toT_at, andT_at, orT_at, notT_at, ifR_at, consR_at, callR_at, asL_at, seqS_at, retS_at, dropS_at, setS_at, setL_at, ifS_at, rdD_z, rdD_s, rdO_z, rdO_s, frzE_o, frzE_d, frzE_n, frzE_s, lstR_at, tupR_at, slR_at, slLR_at, revR_at, slD_l, slD_t, appS_at, extS_at, appPopS_at, scalD_i, scalD_b, augS_at, asgS_at, listD_l, listD_t, tupD_l, tupD_t, intD_b, boolR_b, cmpD_i, addD_i, subD_i, pIs_n, isN_n, isN_i, isN_b, isN_s, isN_l, isN_t, lenD_l, lenD_t, itemsL_l, itemsT_t, enumL_l, partR_i, tgN_at, tgs0_at, tgs1_at, tgT2, defR_rt, defR_nx, defR_exc, truD_b, bdR_at, bd2R_at, frR_at, forI_at, nxS_at, R.bind_ok, R.out_ok, Out.then_nx, List.set_cons_succ, List.set_cons_zero, leD, ltD, gtD, geD, eqD_int, neD_int, Bool.not_true, Bool.not_false, if_true, if_false, Bool.false_eq_true, Bool.true_eq_false, decide_true, decide_false, turnS_nx, turnS_rt, turnS_ct, scrSl_z, hcut]
  rw [enumI_F]
  refine for_then (LawI ns) ⟨_, _, _, _, _, _, _, _, _, rfl⟩ ?_ (fun _ _ => rfl)
  · intro d hd ρ hI
    obtain ⟨i, c, rfl, hi⟩ := enF_mem ns 0 hd
    obtain ⟨s1, s2, s3, s4, s5, s6, s7, s8, s9, rfl⟩ := hI
    obtain ⟨a, ha⟩ : ∃ a, a = mixedI c i := ⟨_, rfl⟩
    have hab := mixedI_b c i
    rw [← ha] at hab
    obtain ⟨m, hm⟩ : ∃ m : Nat, (m : Int) = 1 + a % 12 := ⟨(1 + a % 12).toNat, by omega⟩
    have hr := order_gs (a / 12) m (by omega)
    have hl := order_len (a / 12) m (by omega)
    obtain ⟨row, hrow⟩ : ∃ row, row = orderI (a / 12) m := ⟨_, rfl⟩
    rw [← hrow] at hr hl
    obtain ⟨G, eG, hG⟩ := ev_group row (nextI a 5) m hl (by omega) (by omega) hr (nextI_b a 5).1
    have et := turn_ok row G m hl (by omega) (by omega) hr hG
    have ed := ev_due G row (by omega)
    have e1 : g_parted_at [.list (row.map .int), .list []] = .ok .none := by
      subst hl
      have := ev_parted [] row hr.1 hr.2.1 (by omega) (by omega) List.nodup_nil (by simp) (by simp)
      rw [ans_nil] at this; exact this
    have e2 : g_parted_at [.list (row.map .int), .list (row.map .int).reverse] = .ok .none := by
      subst hl
      have := ev_parted row.reverse row hr.1 hr.2.1 (by omega) (by omega) ((List.reverse_perm row).nodup_iff.2 hr.1) (fun i hi => hr.2.1 i (List.mem_reverse.1 hi)) (by rw [List.length_reverse]; omega)
      rw [ans_all _ _ (fun g hg => List.mem_reverse.2 hg), List.map_reverse] at this; exact this
    have e3 : g_parted_at [.list (row.map .int), .list ((cutD row (some (-1)) none).map .int)] = .ok .none := by
      subst hl
      have hs := hr.sub (cutD_sub row (some (-1)) none)
      have := ev_parted (cutD row (some (-1)) none) row hr.1 hr.2.1 (by omega) (by omega) hs.1 hs.2.1 (by have := hs.2.2; omega)
      have hc := cut_last row
      rw [this]
      match e : cutD row (some (-1)) none, hc with
      | [], _ => rw [ans_nil]; rfl
      | [x], _ => rw [ans_one x row hr.1]; rfl
    refine ⟨[.scr ns, .dat (.int i), .dat (.int c), s3, s4, s5, s6, s7, s8, s9], by simp only [opR_at, andR_at, orR_at, notR_at, chainR_at, toB_at, toT_at, andT_at, orT_at, notT_at, ifR_at, consR_at, callR_at, asL_at, seqS_at, retS_at, dropS_at, setS_at, setL_at, ifS_at, rdD_z, rdD_s, rdO_z, rdO_s, frzE_o, frzE_d, frzE_n, frzE_s, lstR_at, tupR_at, slR_at, slLR_at, revR_at, slD_l, slD_t, appS_at, extS_at, appPopS_at, scalD_i, scalD_b, augS_at, asgS_at, listD_l, listD_t, tupD_l, tupD_t, intD_b, boolR_b, cmpD_i, addD_i, subD_i, pIs_n, isN_n, isN_i, isN_b, isN_s, isN_l, isN_t, lenD_l, lenD_t, itemsL_l, itemsT_t, enumL_l, partR_i, tgN_at, tgs0_at, tgs1_at, tgT2, defR_rt, defR_nx, defR_exc, truD_b, bdR_at, bd2R_at, frR_at, forI_at, nxS_at, R.bind_ok, R.out_ok, Out.then_nx, List.set_cons_succ, List.set_cons_zero, leD, ltD, gtD, geD, eqD_int, neD_int, Bool.not_true, Bool.not_false, if_true, if_false, Bool.false_eq_true, Bool.true_eq_false, decide_true, decide_false, turnS_nx, turnS_rt, turnS_ct], ?_⟩
    have f1 : ∀ {n : Nat}, n ≤ 16777216 → fits n = true := fun h => fits_of h
    have hn : neD (.list [.list (row.map .int), .list (G.map .int)]) (.list [.list (row.map .int), .list (G.map .int)]) = .ok (.bool false) := neD_self (shaped_two row G)
    have ev1 := ev_mixed c i (by omega) (by omega)
    have ev2 := ev_order (a / 12) m (by omega) (by omega)
    have ev3 := ev_next a 5 (by omega) (by omega)
    cases hX : dueAns G row with
    | none =>
      rw [hX] at et ed
      simp only [opR_at, andR_at, orR_at, notR_at, chainR_at, toB_at, toT_at, andT_at, orT_at, notT_at, ifR_at, consR_at, callR_at, asL_at, seqS_at, retS_at, dropS_at, setS_at, setL_at, ifS_at, rdD_z, rdD_s, rdO_z, rdO_s, frzE_o, frzE_d, frzE_n, frzE_s, lstR_at, tupR_at, slR_at, slLR_at, revR_at, slD_l, slD_t, appS_at, extS_at, appPopS_at, scalD_i, scalD_b, augS_at, asgS_at, listD_l, listD_t, tupD_l, tupD_t, intD_b, boolR_b, cmpD_i, addD_i, subD_i, pIs_n, isN_n, isN_i, isN_b, isN_s, isN_l, isN_t, lenD_l, lenD_t, itemsL_l, itemsT_t, enumL_l, partR_i, tgN_at, tgs0_at, tgs1_at, tgT2, defR_rt, defR_nx, defR_exc, truD_b, bdR_at, bd2R_at, frR_at, forI_at, nxS_at, R.bind_ok, R.out_ok, Out.then_nx, List.set_cons_succ, List.set_cons_zero, leD, ltD, gtD, geD, eqD_int, neD_int, Bool.not_true, Bool.not_false, if_true, if_false, Bool.false_eq_true, Bool.true_eq_false, decide_true, decide_false, turnS_nx, turnS_rt, turnS_ct, ev1, ← ha, divD_i (show (0 : Int) < 12 by decide) (by decide), modD_i (show (0 : Int) < 12 by decide), ← hm, ev2, ← hrow, ev3, eG, f1 (show 2 ≤ 16777216 by decide), List.length_cons, List.length_nil, Nat.zero_add, Nat.reduceAdd, f1 (Nat.zero_le _), rg1_two, forS_cons, forS_nil, ixD_l0, ixD_l1, et, ed, optD, hn, e1, e2, slD_l, cutD_map, e3]
      exact ⟨_, _, _, _, _, _, _, _, _, rfl⟩
    | some x =>
      rw [hX] at et ed
      simp only [opR_at, andR_at, orR_at, notR_at, chainR_at, toB_at, toT_at, andT_at, orT_at, notT_at, ifR_at, consR_at, callR_at, asL_at, seqS_at, retS_at, dropS_at, setS_at, setL_at, ifS_at, rdD_z, rdD_s, rdO_z, rdO_s, frzE_o, frzE_d, frzE_n, frzE_s, lstR_at, tupR_at, slR_at, slLR_at, revR_at, slD_l, slD_t, appS_at, extS_at, appPopS_at, scalD_i, scalD_b, augS_at, asgS_at, listD_l, listD_t, tupD_l, tupD_t, intD_b, boolR_b, cmpD_i, addD_i, subD_i, pIs_n, isN_n, isN_i, isN_b, isN_s, isN_l, isN_t, lenD_l, lenD_t, itemsL_l, itemsT_t, enumL_l, partR_i, tgN_at, tgs0_at, tgs1_at, tgT2, defR_rt, defR_nx, defR_exc, truD_b, bdR_at, bd2R_at, frR_at, forI_at, nxS_at, R.bind_ok, R.out_ok, Out.then_nx, List.set_cons_succ, List.set_cons_zero, leD, ltD, gtD, geD, eqD_int, neD_int, Bool.not_true, Bool.not_false, if_true, if_false, Bool.false_eq_true, Bool.true_eq_false, decide_true, decide_false, turnS_nx, turnS_rt, turnS_ct, ev1, ← ha, divD_i (show (0 : Int) < 12 by decide) (by decide), modD_i (show (0 : Int) < 12 by decide), ← hm, ev2, ← hrow, ev3, eG, f1 (show 2 ≤ 16777216 by decide), List.length_cons, List.length_nil, Nat.zero_add, Nat.reduceAdd, f1 (Nat.zero_le _), rg1_two, forS_cons, forS_nil, ixD_l0, ixD_l1, et, ed, optD, hn, e1, e2, slD_l, cutD_map, e3, ev_whole_i]
      exact ⟨_, _, _, _, _, _, _, _, _, rfl⟩

/-! ## the end -/
theorem all_mk {P : Program} {w : World} {K : PySem.W.Frag} {h : Heap} {mg : Str → Option Value} {fa : Addr} (X : K.In h) (G : h.Ns mainGlobals mg) (hfa : mg "law" = some (.ref fa))
    {ois_among cis_among vis_among mis_among tis_among kis_among : Value} {dis_among ais_among : Option Addr} {lis_among : Array (Option Value)} {fis_among : Addr}
    (a_is_among : PySem.W.nsIn K mainGlobals "is_among" = some (some (.ref fis_among))) (l_is_among : K.lookup fis_among = some ⟨ois_among, dis_among, .func (PySem.W.fnOf "is_among" "is_among" (defArgs s_is_among) (defBody s_is_among) (defScope s_is_among) .none kis_among vis_among mis_among ais_among cis_among tis_among), lis_among⟩) (c_is_among : PySem.W.codeIn K cis_among "is_among" = true) (k_is_among : PySem.W.keepIn K (.ref fis_among) = true)
    {ois_group cis_group vis_group mis_group tis_group kis_group : Value} {dis_group ais_group : Option Addr} {lis_group : Array (Option Value)} {fis_group : Addr}
    (a_is_group : PySem.W.nsIn K mainGlobals "is_group" = some (some (.ref fis_group))) (l_is_group : K.lookup fis_group = some ⟨ois_group, dis_group, .func (PySem.W.fnOf "is_group" "is_group" (defArgs s_is_group) (defBody s_is_group) (defScope s_is_group) .none kis_group vis_group mis_group ais_group cis_group tis_group), lis_group⟩) (c_is_group : PySem.W.codeIn K cis_group "is_group" = true) (k_is_group : PySem.W.keepIn K (.ref fis_group) = true)
    {oneed_group cneed_group vneed_group mneed_group tneed_group kneed_group : Value} {dneed_group aneed_group : Option Addr} {lneed_group : Array (Option Value)} {fneed_group : Addr}
    (a_need_group : PySem.W.nsIn K mainGlobals "need_group" = some (some (.ref fneed_group))) (l_need_group : K.lookup fneed_group = some ⟨oneed_group, dneed_group, .func (PySem.W.fnOf "need_group" "need_group" (defArgs s_need_group) (defBody s_need_group) (defScope s_need_group) .none kneed_group vneed_group mneed_group aneed_group cneed_group tneed_group), lneed_group⟩) (c_need_group : PySem.W.codeIn K cneed_group "need_group" = true) (k_need_group : PySem.W.keepIn K (.ref fneed_group) = true)
    {oneed_row cneed_row vneed_row mneed_row tneed_row kneed_row : Value} {dneed_row aneed_row : Option Addr} {lneed_row : Array (Option Value)} {fneed_row : Addr}
    (a_need_row : PySem.W.nsIn K mainGlobals "need_row" = some (some (.ref fneed_row))) (l_need_row : K.lookup fneed_row = some ⟨oneed_row, dneed_row, .func (PySem.W.fnOf "need_row" "need_row" (defArgs s_need_row) (defBody s_need_row) (defScope s_need_row) .none kneed_row vneed_row mneed_row aneed_row cneed_row tneed_row), lneed_row⟩) (c_need_row : PySem.W.codeIn K cneed_row "need_row" = true) (k_need_row : PySem.W.keepIn K (.ref fneed_row) = true)
    {oparted_at cparted_at vparted_at mparted_at tparted_at kparted_at : Value} {dparted_at aparted_at : Option Addr} {lparted_at : Array (Option Value)} {fparted_at : Addr}
    (a_parted_at : PySem.W.nsIn K mainGlobals "parted_at" = some (some (.ref fparted_at))) (l_parted_at : K.lookup fparted_at = some ⟨oparted_at, dparted_at, .func (PySem.W.fnOf "parted_at" "parted_at" (defArgs s_parted_at) (defBody s_parted_at) (defScope s_parted_at) .none kparted_at vparted_at mparted_at aparted_at cparted_at tparted_at), lparted_at⟩) (c_parted_at : PySem.W.codeIn K cparted_at "parted_at" = true) (k_parted_at : PySem.W.keepIn K (.ref fparted_at) = true)
    {o_law_mixed c_law_mixed v_law_mixed m_law_mixed t_law_mixed k_law_mixed : Value} {d_law_mixed a_law_mixed : Option Addr} {l_law_mixed : Array (Option Value)} {f_law_mixed : Addr}
    (a__law_mixed : PySem.W.nsIn K mainGlobals "_law_mixed" = some (some (.ref f_law_mixed))) (l__law_mixed : K.lookup f_law_mixed = some ⟨o_law_mixed, d_law_mixed, .func (PySem.W.fnOf "_law_mixed" "_law_mixed" (defArgs s__law_mixed) (defBody s__law_mixed) (defScope s__law_mixed) .none k_law_mixed v_law_mixed m_law_mixed a_law_mixed c_law_mixed t_law_mixed), l_law_mixed⟩) (c__law_mixed : PySem.W.codeIn K c_law_mixed "_law_mixed" = true) (k__law_mixed : PySem.W.keepIn K (.ref f_law_mixed) = true)
    {o_law_next c_law_next v_law_next m_law_next t_law_next k_law_next : Value} {d_law_next a_law_next : Option Addr} {l_law_next : Array (Option Value)} {f_law_next : Addr}
    (a__law_next : PySem.W.nsIn K mainGlobals "_law_next" = some (some (.ref f_law_next))) (l__law_next : K.lookup f_law_next = some ⟨o_law_next, d_law_next, .func (PySem.W.fnOf "_law_next" "_law_next" (defArgs s__law_next) (defBody s__law_next) (defScope s__law_next) .none k_law_next v_law_next m_law_next a_law_next c_law_next t_law_next), l_law_next⟩) (c__law_next : PySem.W.codeIn K c_law_next "_law_next" = true) (k__law_next : PySem.W.keepIn K (.ref f_law_next) = true)
    {o_law_whole c_law_whole v_law_whole m_law_whole t_law_whole k_law_whole : Value} {d_law_whole a_law_whole : Option Addr} {l_law_whole : Array (Option Value)} {f_law_whole : Addr}
    (a__law_whole : PySem.W.nsIn K mainGlobals "_law_whole" = some (some (.ref f_law_whole))) (l__law_whole : K.lookup f_law_whole = some ⟨o_law_whole, d_law_whole, .func (PySem.W.fnOf "_law_whole" "_law_whole" (defArgs s__law_whole) (defBody s__law_whole) (defScope s__law_whole) .none k_law_whole v_law_whole m_law_whole a_law_whole c_law_whole t_law_whole), l_law_whole⟩) (c__law_whole : PySem.W.codeIn K c_law_whole "_law_whole" = true) (k__law_whole : PySem.W.keepIn K (.ref f_law_whole) = true)
    {o_law_order c_law_order v_law_order m_law_order t_law_order k_law_order : Value} {d_law_order a_law_order : Option Addr} {l_law_order : Array (Option Value)} {f_law_order : Addr}
    (a__law_order : PySem.W.nsIn K mainGlobals "_law_order" = some (some (.ref f_law_order))) (l__law_order : K.lookup f_law_order = some ⟨o_law_order, d_law_order, .func (PySem.W.fnOf "_law_order" "_law_order" (defArgs s__law_order) (defBody s__law_order) (defScope s__law_order) .none k_law_order v_law_order m_law_order a_law_order c_law_order t_law_order), l_law_order⟩) (c__law_order : PySem.W.codeIn K c_law_order "_law_order" = true) (k__law_order : PySem.W.keepIn K (.ref f_law_order) = true)
    {o_law_due c_law_due v_law_due m_law_due t_law_due k_law_due : Value} {d_law_due a_law_due : Option Addr} {l_law_due : Array (Option Value)} {f_law_due : Addr}
    (a__law_due : PySem.W.nsIn K mainGlobals "_law_due" = some (some (.ref f_law_due))) (l__law_due : K.lookup f_law_due = some ⟨o_law_due, d_law_due, .func (PySem.W.fnOf "_law_due" "_law_due" (defArgs s__law_due) (defBody s__law_due) (defScope s__law_due) .none k_law_due v_law_due m_law_due a_law_due c_law_due t_law_due), l_law_due⟩) (c__law_due : PySem.W.codeIn K c_law_due "_law_due" = true) (k__law_due : PySem.W.keepIn K (.ref f_law_due) = true)
    {o_law_group c_law_group v_law_group m_law_group t_law_group k_law_group : Value} {d_law_group a_law_group : Option Addr} {l_law_group : Array (Option Value)} {f_law_group : Addr}
    (a__law_group : PySem.W.nsIn K mainGlobals "_law_group" = some (some (.ref f_law_group))) (l__law_group : K.lookup f_law_group = some ⟨o_law_group, d_law_group, .func (PySem.W.fnOf "_law_group" "_law_group" (defArgs s__law_group) (defBody s__law_group) (defScope s__law_group) .none k_law_group v_law_group m_law_group a_law_group c_law_group t_law_group), l_law_group⟩) (c__law_group : PySem.W.codeIn K c_law_group "_law_group" = true) (k__law_group : PySem.W.keepIn K (.ref f_law_group) = true)
    {olaw claw vlaw mlaw tlaw klaw : Value} {dlaw alaw : Option Addr} {llaw : Array (Option Value)} {flaw : Addr}
    (a_law : PySem.W.nsIn K mainGlobals "law" = some (some (.ref flaw))) (l_law : K.lookup flaw = some ⟨olaw, dlaw, .func (PySem.W.fnOf "law" "law" (defArgs s_law) (defBody s_law) (defScope s_law) .none klaw vlaw mlaw alaw claw tlaw), llaw⟩) (c_law : PySem.W.codeIn K claw "law" = true) (k_law : PySem.W.keepIn K (.ref flaw) = true)
    (z_isinstance : PySem.W.nsIn K mainGlobals "isinstance" = some none)
    (z_bool : PySem.W.nsIn K mainGlobals "bool" = some none)
    (z_int : PySem.W.nsIn K mainGlobals "int" = some none)
    (z_list : PySem.W.nsIn K mainGlobals "list" = some none)
    (z_all : PySem.W.nsIn K mainGlobals "all" = some none)
    (z_len : PySem.W.nsIn K mainGlobals "len" = some none)
    (z_set : PySem.W.nsIn K mainGlobals "set" = some none)
    (z_enumerate : PySem.W.nsIn K mainGlobals "enumerate" = some none)
    (z_range : PySem.W.nsIn K mainGlobals "range" = some none)
    {tMOST_GUESTS : Tok} (w_MOST_GUESTS : PySem.W.nsIn K mainGlobals "MOST_GUESTS" = some (some (.int 12 tMOST_GUESTS)))
    {CBadGroup : Addr} (ea_BadGroup : PySem.W.nsIn K mainGlobals "BadGroup" = some (some (.ref CBadGroup))) (ex_BadGroup : PySem.W.excIn K CBadGroup [.type "ValueError", .type "Exception", .type "BaseException", .type "object"] "ValueError.__new__" = true) (ek_BadGroup : PySem.W.keepIn K (.ref CBadGroup) = true) (eb_BadGroup : PySem.W.subIn K (.ref CBadGroup) (.type "BaseException") = some true) (et_BadGroup : PySem.W.typeIn K (.ref CBadGroup) = some (.type "type"))
    {CBadRow : Addr} (ea_BadRow : PySem.W.nsIn K mainGlobals "BadRow" = some (some (.ref CBadRow))) (ex_BadRow : PySem.W.excIn K CBadRow [.type "ValueError", .type "Exception", .type "BaseException", .type "object"] "ValueError.__new__" = true) (ek_BadRow : PySem.W.keepIn K (.ref CBadRow) = true) (eb_BadRow : PySem.W.subIn K (.ref CBadRow) (.type "BaseException") = some true) (et_BadRow : PySem.W.typeIn K (.ref CBadRow) = some (.type "type"))
    : ∃ fd : FuncData, (∀ (s : Shared) (v : Value), BindsTo s fd ⟨[v], []⟩ [("_law_script", v)]) ∧ ∀ base : Heap, K.In base → base.Ns mainGlobals mg → FnOk P w K mg base (L2.CX P w) 5 fa fd ["_law_script"] (spLaw K) := by
  have e := hfa.symm.trans (PySem.W.mg_of X G a_law)
  cases e
  have U_is_among := fun_mk (st := s_is_among) l_is_among c_is_among k_is_among
  have B_is_among := U_is_among.binds (ps := ["thing", "least", "most"]) fun _ _ _ _ _ _ us hl => match us, hl with | [_, _, _], _ => rfl
  have U_is_group := fun_mk (st := s_is_group) l_is_group c_is_group k_is_group
  have B_is_group := U_is_group.binds (ps := ["thing", "many"]) fun _ _ _ _ _ _ us hl => match us, hl with | [_, _], _ => rfl
  have U_need_group := fun_mk (st := s_need_group) l_need_group c_need_group k_need_group
  have B_need_group := U_need_group.binds (ps := ["group", "many"]) fun _ _ _ _ _ _ us hl => match us, hl with | [_, _], _ => rfl
  have U_need_row := fun_mk (st := s_need_row) l_need_row c_need_row k_need_row
  have B_need_row := U_need_row.binds (ps := ["row", "many"]) fun _ _ _ _ _ _ us hl => match us, hl with | [_, _], _ => rfl
  have U_parted_at := fun_mk (st := s_parted_at) l_parted_at c_parted_at k_parted_at
  have B_parted_at := U_parted_at.binds (ps := ["row", "group"]) fun _ _ _ _ _ _ us hl => match us, hl with | [_, _], _ => rfl
  have U__law_mixed := fun_mk (st := s__law_mixed) l__law_mixed c__law_mixed k__law_mixed
  have B__law_mixed := U__law_mixed.binds (ps := ["_law_cell", "_law_k"]) fun _ _ _ _ _ _ us hl => match us, hl with | [_, _], _ => rfl
  have U__law_next := fun_mk (st := s__law_next) l__law_next c__law_next k__law_next
  have B__law_next := U__law_next.binds (ps := ["_law_number", "_law_k"]) fun _ _ _ _ _ _ us hl => match us, hl with | [_, _], _ => rfl
  have U__law_whole := fun_mk (st := s__law_whole) l__law_whole c__law_whole k__law_whole
  have B__law_whole := U__law_whole.binds (ps := ["_law_found"]) fun _ _ _ _ _ _ us hl => match us, hl with | [_], _ => rfl
  have U__law_order := fun_mk (st := s__law_order) l__law_order c__law_order k__law_order
  have B__law_order := U__law_order.binds (ps := ["_law_number", "_law_many"]) fun _ _ _ _ _ _ us hl => match us, hl with | [_, _], _ => rfl
  have U__law_due := fun_mk (st := s__law_due) l__law_due c__law_due k__law_due
  have B__law_due := U__law_due.binds (ps := ["_law_row", "_law_group_here"]) fun _ _ _ _ _ _ us hl => match us, hl with | [_, _], _ => rfl
  have U__law_group := fun_mk (st := s__law_group) l__law_group c__law_group k__law_group
  have B__law_group := U__law_group.binds (ps := ["_law_row", "_law_number"]) fun _ _ _ _ _ _ us hl => match us, hl with | [_, _], _ => rfl
  have U_law := fun_mk (st := s_law) l_law c_law k_law
  have m_isinstance := PySem.W.mg_none_of X G z_isinstance
  have m_bool := PySem.W.mg_none_of X G z_bool
  have m_int := PySem.W.mg_none_of X G z_int
  have m_list := PySem.W.mg_none_of X G z_list
  have m_all := PySem.W.mg_none_of X G z_all
  have m_len := PySem.W.mg_none_of X G z_len
  have m_set := PySem.W.mg_none_of X G z_set
  have m_enumerate := PySem.W.mg_none_of X G z_enumerate
  have m_range := PySem.W.mg_none_of X G z_range
  have v_MOST_GUESTS : ∃ t : Tok, mg "MOST_GUESTS" = some (.int 12 t) := ⟨_, PySem.W.mg_of X G w_MOST_GUESTS⟩
  have x_BadGroup : Ex K mg "BadGroup" CBadGroup := ⟨PySem.W.mg_of X G ea_BadGroup, ex_BadGroup, ek_BadGroup, eb_BadGroup, et_BadGroup⟩
  have x_BadRow : Ex K mg "BadRow" CBadRow := ⟨PySem.W.mg_of X G ea_BadRow, ex_BadRow, ek_BadRow, eb_BadRow, et_BadRow⟩
  refine ⟨PySem.W.fnOf "law" "law" (defArgs s_law) (defBody s_law) (defScope s_law) .none klaw vlaw mlaw alaw claw tlaw, fun s v => .of_eq rfl, fun base _ _ => ?_⟩
  have H_is_among : Fn P w K mg base 1 "is_among" 3 g_is_among := fn_is_among (k := 0) m_isinstance m_bool m_int U_is_among (PySem.W.mg_of X G a_is_among) B_is_among
  have H_is_group : Fn P w K mg base 2 "is_group" 2 g_is_group := fn_is_group (k := 1) (H_is_among.mono (by decide)) m_isinstance m_list m_all m_len m_set U_is_group (PySem.W.mg_of X G a_is_group) B_is_group
  have H_need_group : Fn P w K mg base 3 "need_group" 2 g_need_group := fn_need_group (k := 2) (H_is_group.mono (by decide)) x_BadGroup U_need_group (PySem.W.mg_of X G a_need_group) B_need_group
  have H_need_row : Fn P w K mg base 3 "need_row" 2 g_need_row := fn_need_row (k := 2) (H_is_group.mono (by decide)) m_len x_BadRow U_need_row (PySem.W.mg_of X G a_need_row) B_need_row
  have H_parted_at : Fn P w K mg base 4 "parted_at" 2 g_parted_at := fn_parted_at (k := 3) (H_need_row.mono (by decide)) (H_need_group.mono (by decide)) m_isinstance m_list m_len m_enumerate v_MOST_GUESTS x_BadRow U_parted_at (PySem.W.mg_of X G a_parted_at) B_parted_at
  have H__law_mixed : Fn P w K mg base 1 "_law_mixed" 2 g__law_mixed := fn__law_mixed (k := 0)  U__law_mixed (PySem.W.mg_of X G a__law_mixed) B__law_mixed
  have H__law_next : Fn P w K mg base 1 "_law_next" 2 g__law_next := fn__law_next (k := 0)  U__law_next (PySem.W.mg_of X G a__law_next) B__law_next
  have H__law_whole : Fn P w K mg base 1 "_law_whole" 1 g__law_whole := fn__law_whole (k := 0) m_isinstance m_bool m_int U__law_whole (PySem.W.mg_of X G a__law_whole) B__law_whole
  have H__law_order : Fn P w K mg base 2 "_law_order" 2 g__law_order := fn__law_order (k := 1) (H__law_next.mono (by decide)) m_list m_range m_len U__law_order (PySem.W.mg_of X G a__law_order) B__law_order
  have H__law_due : Fn P w K mg base 1 "_law_due" 2 g__law_due := fn__law_due (k := 0) m_len m_enumerate U__law_due (PySem.W.mg_of X G a__law_due) B__law_due
  have H__law_group : Fn P w K mg base 3 "_law_group" 2 g__law_group := fn__law_group (k := 2) (H__law_order.mono (by decide)) m_len U__law_group (PySem.W.mg_of X G a__law_group) B__law_group
  exact fn_law (k := 4) (H__law_mixed.mono (by decide)) (H__law_order.mono (by decide)) (H__law_group.mono (by decide)) (H__law_next.mono (by decide)) (H_parted_at.mono (by decide)) (H__law_due.mono (by decide)) (H__law_whole.mono (by decide)) m_enumerate m_list m_range U_law law_ok
end K11
open PySem PySem.W PyProof.Rows
set_option maxRecDepth 100000 in
set_option maxHeartbeats 0 in
theorem PySem.Challenge.cw_sidebyside_k11_parted_at_holds : PySem.Challenge.rw_sidebyside_k11_parted_at.Holds := by
  w_on; o_law; k_head; (case hw => w_witness2)
  k_fill
  refine DL.walk (l := PySem.Challenge.rw_sidebyside_k11_parted_at) (k := 5) (x := "_law_script") rfl rfl ⟨rfl, by decide, by decide⟩ (fun w h Y => PySem.W.kIn_of Y) ?F
  case F =>
    intro w mg fa h KX G hmg
    refine' K11.all_mk KX G hmg ?a_is_among ?l_is_among ?c_is_among ?k_is_among ?a_is_group ?l_is_group ?c_is_group ?k_is_group ?a_need_group ?l_need_group ?c_need_group ?k_need_group ?a_need_row ?l_need_row ?c_need_row ?k_need_row ?a_parted_at ?l_parted_at ?c_parted_at ?k_parted_at ?a__law_mixed ?l__law_mixed ?c__law_mixed ?k__law_mixed ?a__law_next ?l__law_next ?c__law_next ?k__law_next ?a__law_whole ?l__law_whole ?c__law_whole ?k__law_whole ?a__law_order ?l__law_order ?c__law_order ?k__law_order ?a__law_due ?l__law_due ?c__law_due ?k__law_due ?a__law_group ?l__law_group ?c__law_group ?k__law_group ?a_law ?l_law ?c_law ?k_law ?z_isinstance ?z_bool ?z_int ?z_list ?z_all ?z_len ?z_set ?z_enumerate ?z_range ?w_MOST_GUESTS ?ea_BadGroup ?ex_BadGroup ?ek_BadGroup ?eb_BadGroup ?et_BadGroup ?ea_BadRow ?ex_BadRow ?ek_BadRow ?eb_BadRow ?et_BadRow
    (case a_is_among => k_is)
    (case l_is_among => k_is)
    (case c_is_among => k_is)
    (case k_is_among => k_is)
    (case a_is_group => k_is)
    (case l_is_group => k_is)
    (case c_is_group => k_is)
    (case k_is_group => k_is)
    (case a_need_group => k_is)
    (case l_need_group => k_is)
    (case c_need_group => k_is)
    (case k_need_group => k_is)
    (case a_need_row => k_is)
    (case l_need_row => k_is)
    (case c_need_row => k_is)
    (case k_need_row => k_is)
    (case a_parted_at => k_is)
    (case l_parted_at => k_is)
    (case c_parted_at => k_is)
    (case k_parted_at => k_is)
    (case a__law_mixed => k_is)
    (case l__law_mixed => k_is)
    (case c__law_mixed => k_is)
    (case k__law_mixed => k_is)
    (case a__law_next => k_is)
    (case l__law_next => k_is)
    (case c__law_next => k_is)
    (case k__law_next => k_is)
    (case a__law_whole => k_is)
    (case l__law_whole => k_is)
    (case c__law_whole => k_is)
    (case k__law_whole => k_is)
    (case a__law_order => k_is)
    (case l__law_order => k_is)
    (case c__law_order => k_is)
    (case k__law_order => k_is)
    (case a__law_due => k_is)
    (case l__law_due => k_is)
    (case c__law_due => k_is)
    (case k__law_due => k_is)
    (case a__law_group => k_is)
    (case l__law_group => k_is)
    (case c__law_group => k_is)
    (case k__law_group => k_is)
    (case a_law => k_is)
    (case l_law => k_is)
    (case c_law => k_is)
    (case k_law => k_is)
    (case z_isinstance => k_is)
    (case z_bool => k_is)
    (case z_int => k_is)
    (case z_list => k_is)
    (case z_all => k_is)
    (case z_len => k_is)
    (case z_set => k_is)
    (case z_enumerate => k_is)
    (case z_range => k_is)
    (case w_MOST_GUESTS => k_is)
    (case ea_BadGroup => k_is)
    (case ex_BadGroup => k_exc)
    (case ek_BadGroup => k_is)
    (case eb_BadGroup => k_is)
    (case et_BadGroup => k_is)
    (case ea_BadRow => k_is)
    (case ex_BadRow => k_exc)
    (case ek_BadRow => k_is)
    (case eb_BadRow => k_is)
    (case et_BadRow => k_is)
