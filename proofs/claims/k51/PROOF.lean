import PyProof.Rows.All
import Wide.All
import OpenK.AllK
import Wide.FinOn
import PySem.Challenge.RW_callwalk_k51_names_and_rows_read
import HandS.ForMost
import HandS.ForExc
import HandS.Wide
import HandS.Deep
import HandS.TupAny
import HandS.IsInst
import HandS.Text
import HandS.CallSlots
import HandS.TryMany
import HandS.SetKeys
import PyProof.DictMoreH
import HandS.WideBits
import HandS.Style
import HandS.ExcIs
import HandS.TupSets
import HandS.Conv
import HandS.Zip
import KE.KDictWalk
import HandS.DictTup
import HandS.Defaults
import KE.DataMinMax
import PyProof.Rows.CallKwBuiltin
import HandS.SetFor
import PyProof.Rows.SetFrom
import HandS.Strs
import HandS.Rev
import HandS.Iter
import PyProof.ListStr
import KE.KEqDict
import HandS.TupLen
import KE.DataFind
import HandS.RaiseMore
import KE.GoesEnum
import HandS.Codes
set_option Elab.async false
set_option linter.all false
set_option maxRecDepth 100000
set_option maxHeartbeats 4000000
/-! DL: pure values over the hand layer. D: deep data; Rep: what of the abstract heap stands for it; judgements that speak of functions on D alone. -/
namespace DL
open PySem PySem.Spec PyProof.Rows L2

inductive D where
  | non | bl (b : Bool) | int (i : Int) | str (x : Str)
  | tup (xs : List D) | lst (xs : List D)
  | dK (kvs : List (Key × D)) | dT (kvs : List (List Key × D))

/-- an answer: a value, an own exception by its class's name, nothing known -/
inductive Res (α : Type) where
  | ok (a : α) | ex (c : Str) | no
namespace Res
variable {α β : Type}
def bind : Res α → (α → Res β) → Res β
  | .ok a, f => f a
  | .ex c, _ => .ex c
  | .no, _ => .no
instance : Monad Res where
  pure := .ok
  bind := bind
@[simp] theorem bind_ok (a : α) (f : α → Res β) : (Res.ok a >>= f) = f a := rfl
@[simp] theorem bind_ex (c : Str) (f : α → Res β) : (Res.ex c >>= f) = .ex c := rfl
@[simp] theorem bind_no (f : α → Res β) : (Res.no >>= f) = .no := rfl
@[simp] theorem pure_eq (a : α) : (pure a : Res α) = .ok a := rfl
end Res

mutual
def imm : D → Bool
  | .non => true
  | .bl _ => true
  | .int _ => true
  | .str _ => true
  | .tup xs => imms xs
  | .lst _ => false
  | .dK _ => false
  | .dT _ => false
def imms : List D → Bool
  | [] => true
  | x :: r => imm x && imms r
end
mutual
def Rep (G : Hp) : D → V → Prop
  | .non, v => v = .non
  | .bl b, v => v = .bl b
  | .int i, v => v = .int i
  | .str x, v => v = .str x
  | .tup ds, v => ∃ a vs, v = .ref a ∧ G a = some (.tup vs) ∧ Reps G ds vs
  | .lst ds, v => ∃ a vs, v = .ref a ∧ Rd G a (.lst vs) ∧ Reps G ds vs
  | .dK kvs, v => ∃ a ws, v = .ref a ∧ Rd G a (.dK ws) ∧ RepK G kvs ws
  | .dT kvs, v => ∃ a ws, v = .ref a ∧ Rd G a (.dT ws) ∧ RepT G kvs ws
def Reps (G : Hp) : List D → List V → Prop
  | [], vs => vs = []
  | d :: r, vs => ∃ v s, vs = v :: s ∧ Rep G d v ∧ Reps G r s
def RepK (G : Hp) : List (Key × D) → List (Key × V) → Prop
  | [], vs => vs = []
  | (k, d) :: r, vs => ∃ v s, vs = (k, v) :: s ∧ Rep G d v ∧ RepK G r s
def RepT (G : Hp) : List (List Key × D) → List (List Key × V) → Prop
  | [], vs => vs = []
  | (k, d) :: r, vs => ∃ v s, vs = (k, v) :: s ∧ Rep G d v ∧ RepT G r s
end
/-- what is read at an address -/
def rdo : Option HO → Option HO
  | some (.frz _ u) => some u
  | x => x
theorem Rd.iff {G : Hp} {a : Addr} {u : HO} (hu : ∀ o w, u ≠ .frz o w) : Rd G a u ↔ rdo (G a) = some u := by
  unfold Rd rdo
  constructor
  · rintro (h | ⟨o, h⟩)
    · rw [h]; cases u <;> first | rfl | exact absurd rfl (hu _ _)
    · rw [h]
  · intro h
    split at h
    · rename_i o w e; cases h; exact .inr ⟨_, e⟩
    · exact .inl h
/-- all that is read in G is read in G' -/
def Le (G G' : Hp) : Prop := (∀ a u, Rd G a u → Rd G' a u) ∧ ∀ a vs, G a = some (.tup vs) → G' a = some (.tup vs)
theorem Le.of {G G' : Hp} (h : ∀ a o, G a = some o → G' a = some o) : Le G G' :=
  ⟨fun a u r => r.elim (fun q => .inl (h _ _ q)) fun ⟨o, q⟩ => .inr ⟨o, h _ _ q⟩, fun a vs q => h _ _ q⟩
mutual
theorem Rep.le {G G' : Hp} (l : Le G G') : ∀ {d : D} {v : V}, Rep G d v → Rep G' d v
  | .non, _, h => h
  | .bl _, _, h => h
  | .int _, _, h => h
  | .str _, _, h => h
  | .tup ds, _, ⟨a, vs, e, h, r⟩ => ⟨a, vs, e, l.2 _ _ h, Reps.le l r⟩
  | .lst ds, _, ⟨a, vs, e, h, r⟩ => ⟨a, vs, e, l.1 _ _ h, Reps.le l r⟩
  | .dK kvs, _, ⟨a, vs, e, h, r⟩ => ⟨a, vs, e, l.1 _ _ h, RepK.le l r⟩
  | .dT kvs, _, ⟨a, vs, e, h, r⟩ => ⟨a, vs, e, l.1 _ _ h, RepT.le l r⟩
theorem Reps.le {G G' : Hp} (l : Le G G') : ∀ {ds : List D} {vs : List V}, Reps G ds vs → Reps G' ds vs
  | [], _, h => h
  | d :: r, _, ⟨v, s, e, h, q⟩ => ⟨v, s, e, Rep.le l h, Reps.le l q⟩
theorem RepK.le {G G' : Hp} (l : Le G G') : ∀ {ds : List (Key × D)} {vs : List (Key × V)}, RepK G ds vs → RepK G' ds vs
  | [], _, h => h
  | (k, d) :: r, _, ⟨v, s, e, h, q⟩ => ⟨v, s, e, Rep.le l h, RepK.le l q⟩
theorem RepT.le {G G' : Hp} (l : Le G G') : ∀ {ds : List (List Key × D)} {vs : List (List Key × V)}, RepT G ds vs → RepT G' ds vs
  | [], _, h => h
  | (k, d) :: r, _, ⟨v, s, e, h, q⟩ => ⟨v, s, e, Rep.le l h, RepT.le l q⟩
end
mutual
/-- immutable data lean on tuples alone -/
theorem Rep.imm {G G' : Hp} (l : ∀ a vs, G a = some (.tup vs) → G' a = some (.tup vs)) : ∀ {d : D} {v : V}, imm d = true → Rep G d v → Rep G' d v
  | .non, _, _, h => h
  | .bl _, _, _, h => h
  | .int _, _, _, h => h
  | .str _, _, _, h => h
  | .tup ds, _, i, ⟨a, vs, e, h, r⟩ => ⟨a, vs, e, l _ _ h, Reps.imm l (by simpa [DL.imm] using i) r⟩
  | .lst ds, _, i, _ => by simp [DL.imm] at i
  | .dK kvs, _, i, _ => by simp [DL.imm] at i
  | .dT kvs, _, i, _ => by simp [DL.imm] at i
theorem Reps.imm {G G' : Hp} (l : ∀ a vs, G a = some (.tup vs) → G' a = some (.tup vs)) : ∀ {ds : List D} {vs : List V}, imms ds = true → Reps G ds vs → Reps G' ds vs
  | [], _, _, h => h
  | d :: r, _, i, ⟨v, s, e, h, q⟩ => by
    have j := i
    simp only [imms, Bool.and_eq_true] at j
    exact ⟨v, s, e, Rep.imm l j.1 h, Reps.imm l j.2 q⟩
end
/-! ### lists of representations -/
section
variable {G : Hp}
theorem Reps.length : ∀ {ds : List D} {vs : List V}, Reps G ds vs → vs.length = ds.length
  | [], _, h => by rw [show _ = [] from h]; rfl
  | d :: r, _, ⟨v, s, e, h, q⟩ => by rw [e]; simp [Reps.length q]
theorem Reps.get : ∀ {ds : List D} {vs : List V} {i : Nat} {d : D}, Reps G ds vs → ds[i]? = some d → ∃ v, vs[i]? = some v ∧ Rep G d v
  | [], _, _, _, _, e => by simp at e
  | x :: r, _, 0, d, ⟨v, s, e, h, q⟩, e2 => by simp at e2; subst e2; exact ⟨v, by rw [e]; rfl, h⟩
  | x :: r, _, i + 1, d, ⟨v, s, e, h, q⟩, e2 => by
    obtain ⟨w, e3, e4⟩ := Reps.get (i := i) (d := d) q (by simpa using e2)
    exact ⟨w, by rw [e]; simpa using e3, e4⟩
theorem Reps.append : ∀ {ds es : List D} {vs ws : List V}, Reps G ds vs → Reps G es ws → Reps G (ds ++ es) (vs ++ ws)
  | [], _, _, _, h, q => by rw [show _ = [] from h]; exact q
  | d :: r, _, _, _, ⟨v, s, e, h, q⟩, q2 => ⟨v, s ++ _, by rw [e]; rfl, h, Reps.append q q2⟩
theorem Reps.one {d : D} {v : V} (h : Rep G d v) : Reps G [d] [v] := ⟨v, [], rfl, h, rfl⟩
theorem Reps.drop : ∀ {ds : List D} {vs : List V} (n : Nat), Reps G ds vs → Reps G (ds.drop n) (vs.drop n)
  | _, _, 0, h => h
  | [], _, n + 1, h => by rw [show _ = [] from h]; exact rfl
  | d :: r, _, n + 1, ⟨v, s, e, h, q⟩ => by rw [e]; exact Reps.drop n q
theorem Reps.take : ∀ {ds : List D} {vs : List V} (n : Nat), Reps G ds vs → Reps G (ds.take n) (vs.take n)
  | _, _, 0, h => by simp [Reps]
  | [], _, n + 1, h => by rw [show _ = [] from h]; exact rfl
  | d :: r, _, n + 1, ⟨v, s, e, h, q⟩ => by rw [e]; exact ⟨v, s.take n, rfl, h, Reps.take n q⟩
theorem Reps.reverse : ∀ {ds : List D} {vs : List V}, Reps G ds vs → Reps G ds.reverse vs.reverse
  | [], _, h => by rw [show _ = [] from h]; exact rfl
  | d :: r, _, ⟨v, s, e, h, q⟩ => by
    rw [e, List.reverse_cons, List.reverse_cons]
    exact (Reps.reverse q).append (.one h)
theorem Reps.set : ∀ {ds : List D} {vs : List V} {d : D} {v : V} (n : Nat), Reps G ds vs → Rep G d v → Reps G (ds.set n d) (vs.set n v)
  | [], _, _, _, n, h, _ => by rw [show _ = [] from h]; cases n <;> exact rfl
  | x :: r, _, d, w, 0, ⟨v, s, e, h, q⟩, h2 => by rw [e]; exact ⟨w, s, rfl, h2, q⟩
  | x :: r, _, d, w, n + 1, ⟨v, s, e, h, q⟩, h2 => by rw [e]; exact ⟨v, s.set n w, rfl, h, Reps.set n q h2⟩
theorem Reps.dropLast : ∀ {ds : List D} {vs : List V}, Reps G ds vs → Reps G ds.dropLast vs.dropLast := fun {ds vs} h => by
  rw [List.dropLast_eq_take, List.dropLast_eq_take, h.length]; exact h.take _
end

/-! ### heaps that grow: (G, H) a region within a heap -/
def Sub (G H : Hp) : Prop := ∀ a o, G a = some o → H a = some o
structure Ext (G H G' H' : Hp) : Prop where
  h : ∀ a o, H a = some o → H' a = some o
  g : ∀ a o, G a = some o → G' a = some o
  s : Sub G' H'
  n : ∀ a o, G' a = some o → G a = some o ∨ H a = none ∨ ∃ vs, o = .tup vs
theorem Ext.refl {G H : Hp} (s : Sub G H) : Ext G H G H := ⟨fun _ _ h => h, fun _ _ h => h, s, fun _ _ h => .inl h⟩
theorem Ext.trans {G H G1 H1 G2 H2 : Hp} (a : Ext G H G1 H1) (b : Ext G1 H1 G2 H2) : Ext G H G2 H2 where
  h := fun x o e => b.h x o (a.h x o e)
  g := fun x o e => b.g x o (a.g x o e)
  s := b.s
  n := fun x o e => by
    rcases b.n x o e with q | q | q
    · exact a.n x o q
    · refine .inr (.inl ?_)
      cases r : H x with
      | none => rfl
      | some u => rw [a.h x u r] at q; cases q
    · exact .inr (.inr q)
theorem Ext.free {G H G' H' : Hp} (e : Ext G H G' H') {a : Addr} (q : H' a = none) : H a = none := by
  cases r : H a with
  | none => rfl
  | some u => rw [e.h a u r] at q; cases q
theorem Ext.le {G H G' H' : Hp} (e : Ext G H G' H') : Le G G' := Le.of e.g
theorem Ext.hle {G H G' H' : Hp} (e : Ext G H G' H') : Le H H' := Le.of e.h
/-- a new object, seen by the region -/
theorem Ext.new {G H : Hp} (s : Sub G H) {p : Addr} {o : HO} (np : H p = none) : Ext G H (upd G p o) (upd H p o) where
  h := fun a u e => by rw [upd_ne (ne_of_none e np)]; exact e
  g := fun a u e => by rw [upd_ne (ne_of_none (s a u e) np)]; exact e
  s := fun a u e => by
    by_cases h : a = p
    · subst h; rw [upd_same] at e ⊢; exact e
    · rw [upd_ne h] at e ⊢; exact s a u e
  n := fun a u e => by
    by_cases h : a = p
    · subst h; exact .inr (.inl np)
    · rw [upd_ne h] at e; exact .inl e
/-- a new object, not seen by the region -/
theorem Ext.hid {G H : Hp} (s : Sub G H) {p : Addr} {o : HO} (np : H p = none) : Ext G H G (upd H p o) where
  h := fun a u e => by rw [upd_ne (ne_of_none e np)]; exact e
  g := fun a u e => e
  s := fun a u e => by rw [upd_ne (ne_of_none (s a u e) np)]; exact s a u e
  n := fun a u e => .inl e
/-- the heap alone has grown -/
theorem Ext.up {G H H' : Hp} (s : Sub G H) (h : ∀ a o, H a = some o → H' a = some o) : Ext G H G H' := ⟨h, fun _ _ e => e, fun a o e => h a o (s a o e), fun _ _ e => .inl e⟩
/-- the region with all tuples of the heap -/
def tupG (G H : Hp) : Hp := fun a => match H a with
  | some (.tup vs) => some (.tup vs)
  | _ => G a
theorem tupG_tup {G H : Hp} {a : Addr} {vs : List V} (h : H a = some (.tup vs)) : tupG G H a = some (.tup vs) := by unfold tupG; rw [h]
theorem Ext.tups {G H H' : Hp} (s : Sub G H) (h : ∀ a o, H a = some o → H' a = some o) : Ext G H (tupG G H') H' where
  h := h
  g := fun a o e => by
    have e2 := h a o (s a o e)
    unfold tupG
    rw [e2]
    cases o <;> first | exact e | rfl
  s := fun a o e => by
    unfold tupG at e
    split at e
    · rename_i vs q; rw [q]; exact e
    · exact h a o (s a o e)
  n := fun a o e => by
    unfold tupG at e
    split at e
    · exact .inr (.inr ⟨_, (Option.some.inj e).symm⟩)
    · exact .inl e

/-! ### slots -/
abbrev Env := List (Option D)
structure EnvR (G : Hp) (σ : L2.St) (ρ : Env) : Prop where
  len : ρ.length = σ.length
  val : ∀ (i : Nat) (d : D), ρ[i]? = some (some d) → ∃ v, σ[i]? = some (some v) ∧ Rep G d v
theorem EnvR.le {G G' : Hp} {σ : L2.St} {ρ : Env} (l : Le G G') (h : EnvR G σ ρ) : EnvR G' σ ρ := ⟨h.len, fun i d e => by
  obtain ⟨v, h1, h2⟩ := h.val i d e
  exact ⟨v, h1, h2.le l⟩⟩
theorem EnvR.set {G : Hp} {σ : L2.St} {ρ : Env} {j : Nat} {d : D} {v : V} (h : EnvR G σ ρ) (r : Rep G d v) : EnvR G (σ.set j (some v)) (ρ.set j (some d)) := ⟨by simp [h.len], fun i d' e => by
  by_cases hi : j = i
  · subst hi
    by_cases hv : j < ρ.length
    · rw [List.getElem?_set_self hv] at e; cases e
      exact ⟨v, List.getElem?_set_self (by rw [← h.len]; exact hv), r⟩
    · rw [List.getElem?_eq_none (by simpa using hv)] at e; cases e
  · rw [List.getElem?_set_ne hi] at e
    obtain ⟨w, h1, h2⟩ := h.val i d' e
    exact ⟨w, by rw [List.getElem?_set_ne hi]; exact h1, h2⟩⟩
theorem EnvR.unset {G : Hp} {σ : L2.St} {ρ : Env} {j : Nat} {x : Option V} (h : EnvR G σ ρ) : EnvR G (σ.set j x) (ρ.set j none) := ⟨by simp [h.len], fun i d' e => by
  by_cases hi : j = i
  · subst hi
    by_cases hv : j < ρ.length
    · rw [List.getElem?_set_self hv] at e; cases e
    · rw [List.getElem?_eq_none (by simpa using hv)] at e; cases e
  · rw [List.getElem?_set_ne hi] at e
    obtain ⟨w, h1, h2⟩ := h.val i d' e
    exact ⟨w, by rw [List.getElem?_set_ne hi]; exact h1, h2⟩⟩

/-! ### goals -/
/-- what is asked of the end by an answer: P of a value, the region, the heap; W of an exception -/
def Gl (mg : Str → Option Value) (W : WX) (G H : Hp) (σ : L2.St) {α : Type} (P : α → Hp → Hp → Prop) : Res α → Prop
  | .ok a => ∀ G' H', Ext G H G' H' → P a G' H'
  | .ex c => ∀ C G' H', mg c = some (.ref C) → Ext G H G' H' → W (.ref C) none σ H'
  | .no => False
section
variable {mg : Str → Option Value} {W : WX} {G H G1 H1 : Hp} {σ : L2.St} {α β : Type}
theorem Gl.mono {P : α → Hp → Hp → Prop} {r : Res α} (e : Ext G H G1 H1) (h : Gl mg W G H σ P r) : Gl mg W G1 H1 σ P r := by
  cases r with
  | ok a => exact fun G' H' e' => h G' H' (e.trans e')
  | ex c => exact fun C G' H' m e' => h C G' H' m (e.trans e')
  | no => exact h
theorem Gl.imp {P P' : α → Hp → Hp → Prop} {r : Res α} (i : ∀ a G' H', r = .ok a → Ext G H G' H' → P a G' H' → P' a G' H') (h : Gl mg W G H σ P r) : Gl mg W G H σ P' r := by
  cases r with
  | ok a => exact fun G' H' e' => i a G' H' rfl e' (h G' H' e')
  | ex c => exact h
  | no => exact h
theorem Gl.bind {P : β → Hp → Hp → Prop} {r : Res α} {k : α → Res β} (h : Gl mg W G H σ P (r >>= k)) : Gl mg W G H σ (fun a G' H' => Gl mg W G' H' σ P (k a)) r := by
  cases r with
  | ok a => exact fun G' H' e' => Gl.mono e' (show Gl mg W G H σ P (k a) from h)
  | ex c => exact h
  | no => exact h
end
abbrev GlE (mg : Str → Option Value) (W : WX) (G H : Hp) (σ : L2.St) (Q : VK) : Res D → Prop := Gl mg W G H σ fun d G' H' => ∀ v, Rep G' d v → Q v H'
abbrev GlT (mg : Str → Option Value) (W : WX) (G H : Hp) (σ : L2.St) (Q : Bool → Hp → Prop) : Res Bool → Prop := Gl mg W G H σ fun b _ H' => Q b H'
abbrev GlA (mg : Str → Option Value) (W : WX) (G H : Hp) (σ : L2.St) (Q : List V → Hp → Prop) : Res (List D) → Prop := Gl mg W G H σ fun ds G' H' => ∀ vs, Reps G' ds vs → Q vs H'

/-! ### judgements -/
/-- an expression is worth what f says of the slots -/
def DE (X : Cx) (W : WX) (e : Expr) (f : Env → Res D) : Prop :=
  ∃ t : TE, PE X e t ∧ ∀ (G H : Hp) (σ : L2.St) (ρ : Env) (Q : VK), Sub G H → EnvR G σ ρ → GlE X.mg W G H σ Q (f ρ) → t σ H Q
def DT (X : Cx) (W : WX) (e : Expr) (f : Env → Res Bool) : Prop :=
  ∃ t : TT, PT X e t ∧ ∀ (G H : Hp) (σ : L2.St) (ρ : Env) (Q : Bool → Hp → Prop), Sub G H → EnvR G σ ρ → GlT X.mg W G H σ Q (f ρ) → t σ H Q
def DA (X : Cx) (W : WX) (es : List Expr) (f : Env → Res (List D)) : Prop :=
  ∃ t : TA, PA X es t ∧ ∀ (G H : Hp) (σ : L2.St) (ρ : Env) (Q : List V → Hp → Prop), Sub G H → EnvR G σ ρ → GlA X.mg W G H σ Q (f ρ) → t σ H Q

/-! ### names, constants -/
def vVar (i : Nat) : Env → Res D := fun ρ => match ρ[i]? with
  | some (some d) => .ok d
  | _ => .no
def vC (d : D) : Env → Res D := fun _ => .ok d
section
variable {X : Cx} {W : WX}
theorem de_var {i : Nat} {x : Str} {pos : Pos} (p : PE X (.Name x pos) (tVar i)) : DE X W (.Name x pos) (vVar i) := by
  refine ⟨_, p, fun G H σ ρ Q s e h => ?_⟩
  unfold vVar at h
  split at h
  · rename_i d q
    obtain ⟨v, h1, h2⟩ := e.val i d q
    exact ⟨v, h1, h G H (Ext.refl s) v h2⟩
  · exact h.elim
theorem de_int {i : Int} {j pos} : DE X W (.Constant (.int i) j pos) (vC (.int i)) := ⟨_, pe_int, fun G H σ ρ Q s e h => h G H (Ext.refl s) _ rfl⟩
theorem de_str {x : Str} {j pos} : DE X W (.Constant (.str x) j pos) (vC (.str x)) := ⟨_, pe_str, fun G H σ ρ Q s e h => h G H (Ext.refl s) _ rfl⟩
theorem de_bl {b : Bool} {j pos} : DE X W (.Constant (.bool b) j pos) (vC (.bl b)) := ⟨_, pe_bl, fun G H σ ρ Q s e h => h G H (Ext.refl s) _ rfl⟩
theorem de_non {j pos} : DE X W (.Constant .none j pos) (vC .non) := ⟨_, pe_non, fun G H σ ρ Q s e h => h G H (Ext.refl s) _ rfl⟩
end

/-! ### two-place operations -/
def v2 (g : D → D → Res D) (f1 f2 : Env → Res D) : Env → Res D := fun ρ => f1 ρ >>= fun x => f2 ρ >>= fun y => g x y
def v1 (g : D → Res D) (f1 : Env → Res D) : Env → Res D := fun ρ => f1 ρ >>= g
/-- a rule by values (r) says what g says -/
def Say2 (X : Cx) (W : WX) (r : R2) (g : D → D → Res D) : Prop :=
  ∀ (G H : Hp) (σ : L2.St) (Q : VK) (x y : D) (a b : V), Sub G H → Rep G x a → Rep G y b → GlE X.mg W G H σ Q (g x y) → r a b H Q
section
variable {X : Cx} {W : WX} {e1 e2 : Expr} {f1 f2 : Env → Res D} {pos : Pos}
theorem say_op {r : R2} {g : D → D → Res D} {t1 t2 : TE} (sy : Say2 X W r g)
    (h1 : ∀ (G H : Hp) (σ : L2.St) (ρ : Env) (Q : VK), Sub G H → EnvR G σ ρ → GlE X.mg W G H σ Q (f1 ρ) → t1 σ H Q) (h2 : ∀ (G H : Hp) (σ : L2.St) (ρ : Env) (Q : VK), Sub G H → EnvR G σ ρ → GlE X.mg W G H σ Q (f2 ρ) → t2 σ H Q)
    (G H : Hp) (σ : L2.St) (ρ : Env) (Q : VK) (s : Sub G H) (e : EnvR G σ ρ) (h : GlE X.mg W G H σ Q (v2 g f1 f2 ρ)) : tOp r t1 t2 σ H Q := by
  refine h1 G H σ ρ _ s e (Gl.imp (fun x G1 H1 _ e1 k v rv => ?_) (Gl.bind h))
  refine h2 G1 H1 σ ρ _ e1.s (e.le e1.le) (Gl.imp (fun y G2 H2 _ e2 k w rw => ?_) (Gl.bind k))
  exact sy G2 H2 σ Q x y v w e2.s (rv.le e2.le) rw k
theorem de_op {op : Operator} {r : R2} {g : D → D → Res D} (ho : OpR X (binaryOp op) r) (sy : Say2 X W r g) (d1 : DE X W e1 f1) (d2 : DE X W e2 f2) : DE X W (.BinOp e1 op e2 pos) (v2 g f1 f2) := by
  obtain ⟨t1, p1, h1⟩ := d1
  obtain ⟨t2, p2, h2⟩ := d2
  exact ⟨_, pe_op ho p1 p2, say_op sy h1 h2⟩
theorem de_cmp {op : CmpOp} {r : R2} {g : D → D → Res D} (ho : OpR X (compareOp op) r) (sy : Say2 X W r g) (d1 : DE X W e1 f1) (d2 : DE X W e2 f2) (hm : behindInMarks op e2 = false) : DE X W (.Compare e1 [op] [e2] pos) (v2 g f1 f2) := by
  obtain ⟨t1, p1, h1⟩ := d1
  obtain ⟨t2, p2, h2⟩ := d2
  exact ⟨_, pe_cmpR ho p1 p2 hm, say_op sy h1 h2⟩
theorem de_ix {r : R2} {g : D → D → Res D} (ho : IxR X r) (sy : Say2 X W r g) (d1 : DE X W e1 f1) (d2 : DE X W e2 f2) (hs : PlainIx e2) : DE X W (.Subscript e1 e2 pos) (v2 g f1 f2) := by
  obtain ⟨t1, p1, h1⟩ := d1
  obtain ⟨t2, p2, h2⟩ := d2
  exact ⟨_, pe_ix ho p1 p2 hs, say_op sy h1 h2⟩
/-- a value that is a truth, as a test -/
def bOf : D → Res Bool
  | .bl b => .ok b
  | _ => .no
def vB (f : Env → Res D) : Env → Res Bool := fun ρ => f ρ >>= bOf
theorem dt_val (d1 : DE X W e1 f1) (he : ∀ whole, isTrue e1 X.env whole = (do let v ← whole; standAt e1.pos; holding [v] (truthy v)) := by intro _; rfl) : DT X W e1 (vB f1) := by
  obtain ⟨t1, p1, h1⟩ := d1
  refine ⟨_, pt_val p1 he, fun G H σ ρ Q s e h => ?_⟩
  refine h1 G H σ ρ _ s e (Gl.imp (fun x G1 H1 _ e1 k v rv => ?_) (Gl.bind h))
  cases x with
  | bl b => exact ⟨b, rv, k G1 H1 (Ext.refl e1.s)⟩
  | _ => exact k.elim
/-- a comparison as a test -/
theorem dt_cmp {op : CmpOp} {r : R2} {g : D → D → Res D} (ho : OpR X (compareOp op) r) (sy : Say2 X W r g) (d1 : DE X W e1 f1) (d2 : DE X W e2 f2) (hm : behindInMarks op e2 = false) : DT X W (.Compare e1 [op] [e2] pos) (vB (v2 g f1 f2)) := by
  obtain ⟨t1, p1, h1⟩ := d1
  obtain ⟨t2, p2, h2⟩ := d2
  refine ⟨_, pt_cmpR ho p1 p2 hm, fun G H σ ρ Q s e h => ?_⟩
  refine say_op sy h1 h2 G H σ ρ _ s e (Gl.imp (fun x G1 H1 _ e1 k v rv => ?_) (Gl.bind h))
  cases x with
  | bl b => exact ⟨b, rv, k G1 H1 (Ext.refl e1.s)⟩
  | _ => exact k.elim
end
end DL

/-! DL2: operations by values, and what they say of D. -/
namespace DL
open PySem PySem.Spec PyProof.Rows L2

/-! ### arithmetic, + of lists, texts, tuples -/
def g_add : D → D → Res D
  | .int i, .int j => .ok (.int (i + j))
  | .str x, .str y => if x.length + y.length ≤ sizeLine then .ok (.str (x ++ y)) else .no
  | .lst xs, .lst ys => if xs.length + ys.length ≤ sizeLine then .ok (.lst (xs ++ ys)) else .no
  | .tup xs, .tup ys => if xs.length + ys.length ≤ sizeLine then .ok (.tup (xs ++ ys)) else .no
  | _, _ => .no
def g_sub : D → D → Res D
  | .int i, .int j => .ok (.int (i - j))
  | _, _ => .no
instance (i j : Int) : Decidable (CMul i j) := inferInstanceAs (Decidable (_ ∨ _))
def g_mul : D → D → Res D
  | .int i, .int j => if CMul i j then .ok (.int (i * j)) else .no
  | _, _ => .no
instance (i j : Int) : Decidable (CDivW i j) := inferInstanceAs (Decidable (_ ∧ _))
def g_fdiv : D → D → Res D
  | .int i, .int j => if CDivW i j then .ok (.int (i / j)) else .no
  | _, _ => .no
def g_mod : D → D → Res D
  | .int i, .int j => if 0 < j then .ok (.int (i % j)) else .no
  | _, _ => .no
def rCatR : R2 := fun x y H Q => ∃ l b xs zs, x = .ref l ∧ y = .ref b ∧ Rd H l (.lst xs) ∧ Rd H b (.lst zs) ∧ xs.length + zs.length ≤ sizeLine ∧ ∀ p, H p = none → Q (.ref p) (upd H p (.lst (xs ++ zs)))
section
variable {X : Cx} {W : WX}
theorem op_catR : OpR X (binaryOp .Add) rCatR := by
  intro pins s σ H x y v u Q I rx ry h
  obtain ⟨l, b, xs, zs, rfl, rfl, hH, hB, hz, q⟩ := h
  cases rx
  cases ry
  obtain ⟨z, its, n, r, e⟩ := hH.ok I.hok
  obtain ⟨z2, its2, n2, r2, e2⟩ := hB.ok I.hok
  refine PySem.P.add_list e e2 ?_ (by rw [List.size_toArray, List.size_toArray, ← r.length, ← r2.length]; exact hz)
  have ea : its.toArray ++ its2.toArray = (its ++ its2).toArray := by simp
  rw [ea]
  exact ⟨.ref _, _, I.lnew (t' := s.toks) (r.append r2) (by rw [List.length_append]; omega), rfl, q _ I.fresh⟩
def rAddAny (K : PySem.W.Frag) : R2 := fun x y H Q => rI0 (fun i j => .int (i + j)) x y H Q ∨ (∃ i j, x = .str i ∧ y = .str j ∧ i.length + j.length ≤ sizeLine ∧ Q (.str (i ++ j)) H) ∨ rCatR x y H Q ∨ rCatA K x y H Q
theorem op_addAny : OpR X (binaryOp .Add) (rAddAny X.K) := op_add.or (op_add_str.or (op_catR.or op_catA))
/-- the answer is a new list, a new tuple -/
theorem Gl.newL {G H : Hp} {σ : L2.St} {Q : VK} {ds : List D} {vs : List V} {p : Addr} (s : Sub G H) (np : H p = none) (r : Reps G ds vs) (h : GlE X.mg W G H σ Q (.ok (.lst ds))) : Q (.ref p) (upd H p (.lst vs)) := by
  have e : Ext G H (upd G p (.lst vs)) (upd H p (.lst vs)) := Ext.new s np
  exact h _ _ e _ ⟨p, vs, rfl, .inl upd_same, r.le e.le⟩
theorem Gl.newT {G H : Hp} {σ : L2.St} {Q : VK} {ds : List D} {vs : List V} {p : Addr} (s : Sub G H) (np : H p = none) (r : Reps G ds vs) (h : GlE X.mg W G H σ Q (.ok (.tup ds))) : Q (.ref p) (upd H p (.tup vs)) := by
  have e : Ext G H (upd G p (.tup vs)) (upd H p (.tup vs)) := Ext.new s np
  exact h _ _ e _ ⟨p, vs, rfl, upd_same, r.le e.le⟩
theorem Gl.int {G H : Hp} {σ : L2.St} {Q : VK} {i : Int} (s : Sub G H) (h : GlE X.mg W G H σ Q (.ok (.int i))) : Q (.int i) H := h G H (Ext.refl s) _ rfl
theorem Gl.str {G H : Hp} {σ : L2.St} {Q : VK} {i : Str} (s : Sub G H) (h : GlE X.mg W G H σ Q (.ok (.str i))) : Q (.str i) H := h G H (Ext.refl s) _ rfl
theorem Gl.bl {G H : Hp} {σ : L2.St} {Q : VK} {i : Bool} (s : Sub G H) (h : GlE X.mg W G H σ Q (.ok (.bl i))) : Q (.bl i) H := h G H (Ext.refl s) _ rfl
theorem Gl.val {G H : Hp} {σ : L2.St} {Q : VK} {d : D} {v : V} (s : Sub G H) (r : Rep G d v) (h : GlE X.mg W G H σ Q (.ok d)) : Q v H := h G H (Ext.refl s) v r
theorem Sub.rd {G H : Hp} (s : Sub G H) {a : Addr} {u : HO} (r : Rd G a u) : Rd H a u := (Le.of s).1 _ _ r
theorem Sub.sqT {K : PySem.W.Frag} {G H : Hp} (s : Sub G H) {a : Addr} {vs : List V} (r : G a = some (.tup vs)) : SqT K H a vs := SqT.of (s _ _ r)
theorem Sub.sqL {K : PySem.W.Frag} {G H : Hp} (s : Sub G H) {a : Addr} {vs : List V} (r : Rd G a (.lst vs)) : SqL K H a vs := .inl (s.rd r)
theorem say_add : Say2 X W (rAddAny X.K) g_add := by
  intro G H σ Q x y a b s r1 r2 h
  cases x with
  | int i =>
    cases y with
    | int j => exact .inl ⟨i, j, r1, r2, h.int s⟩
    | _ => exact h.elim
  | str i =>
    cases y with
    | str j =>
      simp only [g_add] at h
      split at h
      · rename_i z; exact .inr (.inl ⟨i, j, r1, r2, z, h.str s⟩)
      · exact h.elim
    | _ => exact h.elim
  | lst xs =>
    cases y with
    | lst ys =>
      simp only [g_add] at h
      split at h
      · rename_i z
        obtain ⟨p, vs, rfl, h1, q1⟩ := r1
        obtain ⟨p2, ws, rfl, h2, q2⟩ := r2
        exact .inr (.inr (.inl ⟨p, p2, vs, ws, rfl, rfl, s.rd h1, s.rd h2, by rw [q1.length, q2.length]; exact z, fun l nl => h.newL s nl (q1.append q2)⟩))
      · exact h.elim
    | _ => exact h.elim
  | tup xs =>
    cases y with
    | tup ys =>
      simp only [g_add] at h
      split at h
      · rename_i z
        obtain ⟨p, vs, rfl, h1, q1⟩ := r1
        obtain ⟨p2, ws, rfl, h2, q2⟩ := r2
        refine .inr (.inr (.inr ⟨p, p2, vs, ws, rfl, rfl, s.sqT h1, s.sqT h2, by rw [q1.length, q2.length]; exact z, fun e => ?_, fun _ e => ?_, fun _ _ l nl => h.newT s nl (q1.append q2)⟩))
        · subst e
          have e2 : xs = [] := by have := q1.length; simpa using this.symm
          subst e2
          exact h.val (d := .tup ys) s ⟨p2, ws, rfl, h2, q2⟩
        · subst e
          have e2 : ys = [] := by have := q2.length; simpa using this.symm
          subst e2
          exact h.val (d := .tup (xs ++ [])) s ⟨p, vs, rfl, h1, by rw [List.append_nil]; exact q1⟩
      · exact h.elim
    | _ => exact h.elim
  | _ => exact h.elim
theorem say_sub : Say2 X W (rI0 fun i j => .int (i - j)) g_sub := by
  intro G H σ Q x y a b s r1 r2 h
  cases x with
  | int i =>
    cases y with
    | int j => exact ⟨i, j, r1, r2, h.int s⟩
    | _ => exact h.elim
  | _ => exact h.elim
theorem say_mul : Say2 X W (rI CMul fun i j => .int (i * j)) g_mul := by
  intro G H σ Q x y a b s r1 r2 h
  cases x with
  | int i =>
    cases y with
    | int j =>
      simp only [g_mul] at h
      split at h
      · rename_i z; exact ⟨i, j, r1, r2, z, h.int s⟩
      · exact h.elim
    | _ => exact h.elim
  | _ => exact h.elim
theorem say_fdiv : Say2 X W (rI CDivW fun i j => .int (i / j)) g_fdiv := by
  intro G H σ Q x y a b s r1 r2 h
  cases x with
  | int i =>
    cases y with
    | int j =>
      simp only [g_fdiv] at h
      split at h
      · rename_i z; exact ⟨i, j, r1, r2, z, h.int s⟩
      · exact h.elim
    | _ => exact h.elim
  | _ => exact h.elim
theorem say_mod : Say2 X W (rI (fun _ j => 0 < j) fun i j => .int (i % j)) g_mod := by
  intro G H σ Q x y a b s r1 r2 h
  cases x with
  | int i =>
    cases y with
    | int j =>
      simp only [g_mod] at h
      split at h
      · rename_i z; exact ⟨i, j, r1, r2, z, h.int s⟩
      · exact h.elim
    | _ => exact h.elim
  | _ => exact h.elim
end

/-! ### order of ints -/
def gI (p : Int → Int → Bool) : D → D → Res D
  | .int i, .int j => .ok (.bl (p i j))
  | _, _ => .no
theorem say_I {X : Cx} {W : WX} {p : Int → Int → Bool} : Say2 X W (rI0 fun i j => .bl (p i j)) (gI p) := by
  intro G H σ Q x y a b s r1 r2 h
  cases x with
  | int i =>
    cases y with
    | int j => exact ⟨i, j, r1, r2, h.bl s⟩
    | _ => exact h.elim
  | _ => exact h.elim
/-! ### is None -/
def nonD : D → Bool
  | .non => true
  | _ => false
def g_isN : D → D → Res D
  | x, .non => .ok (.bl (nonD x))
  | _, _ => .no
def g_notN : D → D → Res D
  | x, .non => .ok (.bl (!nonD x))
  | _, _ => .no
theorem rep_non {G : Hp} {x : D} {v : V} (r : Rep G x v) : decide (v = .non) = nonD x := by
  cases x <;> first
    | (obtain ⟨a, vs, e, _⟩ := r; subst e; rfl)
    | (have e := show v = _ from r; subst e; rfl)
theorem say_isN {X : Cx} {W : WX} : Say2 X W (fun x y H Q => y = .non ∧ Q (.bl (decide (x = .non))) H) g_isN := by
  intro G H σ Q x y a b s r1 r2 h
  cases y with
  | non => exact ⟨r2, by rw [rep_non r1]; exact h.bl s⟩
  | _ => exact h.elim
theorem say_notN {X : Cx} {W : WX} : Say2 X W (fun x y H Q => y = .non ∧ Q (.bl (!decide (x = .non))) H) g_notN := by
  intro G H σ Q x y a b s r1 r2 h
  cases y with
  | non =>
    exact ⟨r2, by rw [rep_non r1]; exact h.bl s⟩
  | _ => exact h.elim

/-! ### == and != -/
mutual
def py : D → PyData
  | .non => .none
  | .bl b => .bool b
  | .int i => .int i
  | .str x => .str x
  | .tup xs => .tuple (pys xs)
  | .lst xs => .list (pys xs)
  | .dK _ => .dict []
  | .dT _ => .dict []
def pys : List D → List PyData
  | [] => []
  | x :: r => py x :: pys r
end
mutual
theorem dp_of {K : PySem.W.Frag} {G H : Hp} (s : Sub G H) : ∀ {d : D} {v : V}, (py d).canLay0 = true → Rep G d v → Dp K H v (py d)
  | .non, _, _, h => by rw [show _ = _ from h]; exact .non
  | .bl _, _, _, h => by rw [show _ = _ from h]; exact .bl _
  | .int _, _, _, h => by rw [show _ = _ from h]; exact .int _
  | .str _, _, _, h => by rw [show _ = _ from h]; exact .str _
  | .tup ds, _, c, ⟨a, vs, e, h, r⟩ => by rw [e]; exact .tup (s.sqT h) (dps_of s (by simpa [py, PyData.canLay0] using c) r)
  | .lst ds, _, c, ⟨a, vs, e, h, r⟩ => by rw [e]; exact .lst (s.sqL h) (dps_of s (by simpa [py, PyData.canLay0] using c) r)
  | .dK _, _, c, _ => by simp [py, PyData.canLay0] at c
  | .dT _, _, c, _ => by simp [py, PyData.canLay0] at c
theorem dps_of {K : PySem.W.Frag} {G H : Hp} (s : Sub G H) : ∀ {ds : List D} {vs : List V}, PyData.canLayAll0 (pys ds) = true → Reps G ds vs → DpAll K H vs (pys ds)
  | [], _, _, h => by rw [show _ = [] from h]; exact .nil
  | d :: r, _, c, ⟨v, vs, e, h, q⟩ => by
    rw [e]
    have c2 := c
    simp only [pys, PyData.canLayAll0, Bool.and_eq_true] at c2
    exact .cons (dp_of s c2.1 h) (dps_of s c2.2 q)
end
def deq (x y : D) : Res Bool := if SeqAt.shaped (py x) = true ∧ SeqAt.shaped (py y) = true then .ok (PyData.eqv (py x) (py y)) else .no
def g_eq (x y : D) : Res D := deq x y >>= fun b => .ok (.bl b)
def g_ne (x y : D) : Res D := deq x y >>= fun b => .ok (.bl (!b))
section
variable {X : Cx} {W : WX}
theorem say_eq : Say2 X W (rEqD X.K) g_eq := by
  intro G H σ Q x y a b s r1 r2 h
  unfold g_eq deq at h
  split at h
  · rename_i z
    exact ⟨_, _, dp_of s (SeqAt.canLay_of_shaped z.1) r1, dp_of s (SeqAt.canLay_of_shaped z.2) r2, z.1, z.2, h.bl s⟩
  · exact h.elim
theorem say_ne : Say2 X W (rNeD X.K) g_ne := by
  intro G H σ Q x y a b s r1 r2 h
  unfold g_ne deq at h
  split at h
  · rename_i z
    exact ⟨_, _, dp_of s (SeqAt.canLay_of_shaped z.1) r1, dp_of s (SeqAt.canLay_of_shaped z.2) r2, z.1, z.2, h.bl s⟩
  · exact h.elim
end
/-! ### keys and dicts -/
def keyD : D → Option Key
  | .int i => some (.inl i)
  | .str x => some (.inr x)
  | _ => none
def keysD : List D → Option (List Key)
  | [] => some []
  | x :: r => match keyD x, keysD r with
    | some k, some ks => some (k :: ks)
    | _, _ => none
theorem keyD_rep {G : Hp} {d : D} {v : V} {k : Key} (h : keyD d = some k) (r : Rep G d v) : v = kV k := by
  cases d <;> first
    | (simp [keyD] at h; done)
    | (simp only [keyD, Option.some.injEq] at h; subst h; exact r)
theorem keysD_rep {G : Hp} : ∀ {ds : List D} {vs : List V} {ks : List Key}, keysD ds = some ks → Reps G ds vs → vs = ks.map kV
  | [], _, _, h, r => by simp only [keysD, Option.some.injEq] at h; subst h; exact r
  | d :: ds, _, _, h, ⟨v, vs, e, r1, r2⟩ => by
    simp only [keysD] at h
    split at h
    · rename_i k ks h1 h2
      simp only [Option.some.injEq] at h; subst h
      rw [e, keyD_rep h1 r1, keysD_rep h2 r2]; rfl
    · cases h
section
variable {κ α : Type} [DecidableEq κ]
def getA (kvs : List (κ × α)) (k : κ) : Option α := (kvs.find? fun kv => decide (kv.1 = k)).map (·.2)
def putA (kvs : List (κ × α)) (k : κ) (v : α) : List (κ × α) := if (kvs.any fun kv => decide (kv.1 = k)) = true then kvs.map (fun kv => if kv.1 = k then (kv.1, v) else kv) else kvs ++ [(k, v)]
def dropA (kvs : List (κ × α)) (k : κ) : List (κ × α) := kvs.filter fun kv => decide (kv.1 ≠ k)
end
/-- the same keys, each value represented -/
def RepP {κ : Type} (G : Hp) : List (κ × D) → List (κ × V) → Prop
  | [], vs => vs = []
  | (k, d) :: r, vs => ∃ v s, vs = (k, v) :: s ∧ Rep G d v ∧ RepP G r s
theorem repK_iff {G : Hp} : ∀ {kvs : List (Key × D)} {ws : List (Key × V)}, RepK G kvs ws ↔ RepP G kvs ws
  | [], _ => Iff.rfl
  | (k, d) :: r, ws => by
    unfold RepK RepP
    constructor
    · rintro ⟨v, s, e, h, q⟩; exact ⟨v, s, e, h, repK_iff.mp q⟩
    · rintro ⟨v, s, e, h, q⟩; exact ⟨v, s, e, h, repK_iff.mpr q⟩
theorem repT_iff {G : Hp} : ∀ {kvs : List (List Key × D)} {ws : List (List Key × V)}, RepT G kvs ws ↔ RepP G kvs ws
  | [], _ => Iff.rfl
  | (k, d) :: r, ws => by
    unfold RepT RepP
    constructor
    · rintro ⟨v, s, e, h, q⟩; exact ⟨v, s, e, h, repT_iff.mp q⟩
    · rintro ⟨v, s, e, h, q⟩; exact ⟨v, s, e, h, repT_iff.mpr q⟩
section
variable {κ : Type} [DecidableEq κ] {G : Hp}
theorem RepP.length : ∀ {kvs : List (κ × D)} {ws : List (κ × V)}, RepP G kvs ws → ws.length = kvs.length
  | [], _, h => by rw [show _ = [] from h]; rfl
  | (k, d) :: r, _, ⟨v, s, e, h, q⟩ => by rw [e]; simp [RepP.length q]
theorem RepP.get {k : κ} : ∀ {kvs : List (κ × D)} {ws : List (κ × V)}, RepP G kvs ws → (getA kvs k = none ∧ valV ws k = none) ∨ ∃ d v, getA kvs k = some d ∧ valV ws k = some v ∧ Rep G d v
  | [], _, h => by rw [show _ = [] from h]; exact .inl ⟨rfl, rfl⟩
  | (k', d) :: r, _, ⟨v, s, e, h, q⟩ => by
    subst e
    by_cases hk : k' = k
    · exact .inr ⟨d, v, by simp [getA, hk], valV_pos hk, h⟩
    · rw [valV_neg (p := (k', v)) hk]
      have : getA ((k', d) :: r) k = getA r k := by simp [getA, List.find?_cons, hk]
      rw [this]
      exact RepP.get q
theorem RepP.append : ∀ {kvs kvs' : List (κ × D)} {ws ws' : List (κ × V)}, RepP G kvs ws → RepP G kvs' ws' → RepP G (kvs ++ kvs') (ws ++ ws')
  | [], _, _, _, h, q => by rw [show _ = [] from h]; exact q
  | (k, d) :: r, _, _, _, ⟨v, s, e, h, q⟩, q2 => ⟨v, s ++ _, by rw [e]; rfl, h, RepP.append q q2⟩
theorem RepP.map {k : κ} {d : D} {v : V} (hv : Rep G d v) : ∀ {kvs : List (κ × D)} {ws : List (κ × V)}, RepP G kvs ws →
    RepP G (kvs.map fun kv => if kv.1 = k then (kv.1, d) else kv) (ws.map fun kv => if kv.1 = k then (kv.1, v) else kv)
  | [], _, h => by rw [show _ = [] from h]; exact rfl
  | (k', d') :: r, _, ⟨v', s, e, h, q⟩ => by
    subst e
    rw [List.map_cons, List.map_cons]
    by_cases hk : k' = k
    · rw [if_pos hk, if_pos hk]; exact ⟨v, _, rfl, hv, RepP.map hv q⟩
    · rw [if_neg hk, if_neg hk]; exact ⟨v', _, rfl, h, RepP.map hv q⟩
theorem RepP.any {k : κ} : ∀ {kvs : List (κ × D)} {ws : List (κ × V)}, RepP G kvs ws → (ws.any fun kv => decide (kv.1 = k)) = (kvs.any fun kv => decide (kv.1 = k))
  | [], _, h => by rw [show _ = [] from h]; rfl
  | (k', d') :: r, _, ⟨v', s, e, h, q⟩ => by rw [e, List.any_cons, List.any_cons, RepP.any q]
theorem RepP.put {k : κ} {d : D} {v : V} (hv : Rep G d v) {kvs : List (κ × D)} {ws : List (κ × V)} (h : RepP G kvs ws) : RepP G (putA kvs k d) (putK ws k v) := by
  unfold putA putK
  rw [h.any]
  split
  · exact h.map hv
  · exact h.append ⟨v, [], rfl, hv, rfl⟩
end

/-! ### o[i] -/
def g_ix : D → D → Res D
  | .lst xs, .int i => match atI xs i with | some d => .ok d | none => .no
  | .tup xs, .int i => match atI xs i with | some d => .ok d | none => .no
  | .str z, .int i => if z.length ≤ sizeLine then (match atI z.cps.toList i with | some c => .ok (.str ⟨#[c]⟩) | none => .no) else .no
  | .dK kvs, k => match keyD k with
    | some k => (match getA kvs k with | some d => .ok d | none => .no)
    | none => .no
  | .dT kvs, .tup ks => match keysD ks with
    | some ks => (match getA kvs ks with | some d => .ok d | none => .no)
    | none => .no
  | _, _ => .no
def rIxDict : R2 := fun x y H Q => ∃ a v, x = .ref a ∧ DGet H a y (some v) ∧ Q v H
theorem Reps.atI {G : Hp} {ds : List D} {vs : List V} {i : Int} {d : D} (r : Reps G ds vs) (h : L2.atI ds i = some d) : ∃ v, L2.atI vs i = some v ∧ Rep G d v := by
  unfold L2.atI at h ⊢
  rw [r.length]
  cases e : ixN ds.length i with
  | none => rw [e] at h; cases h
  | some j =>
    rw [e] at h
    exact r.get (i := j) h
section
variable {X : Cx} {W : WX}
theorem ix_dict (hu : X.A.units + 1 < cLine) : IxR X rIxDict := by
  intro value slice pins s σ H x y v u Q I rx ry h hs
  obtain ⟨a, w, rfl, g, q⟩ := h
  cases rx
  exact tail_any (dict_typeIs I g) PySem.F.slot_dict_getitem.lookup (d_getItem hu I g ry fun w' s3 I3 rw' => ⟨w, H, I3, rw', q⟩) hs
def rIxAny (K : PySem.W.Frag) : R2 := fun x y H Q => rIxL K x y H Q ∨ rIxT K x y H Q ∨ rIxS x y H Q ∨ rIxDict x y H Q
theorem ix_any (hu : X.A.units + 1 < cLine) : IxR X (rIxAny X.K) := ix_list.or (ix_tup.or (ix_str.or (ix_dict hu)))
theorem dget_K {G H : Hp} {p : Addr} {ws : List (Key × V)} {b : V} {k : Key} (s : Sub G H) (h : Rd G p (.dK ws)) (e : b = kV k) : DGet H p b (valV ws k) := .inl ⟨ws, k, s.rd h, e, rfl⟩
theorem dget_T {G H : Hp} {p q : Addr} {ws : List (List Key × V)} {b : V} {k : List Key} (s : Sub G H) (h : Rd G p (.dT ws)) (e : b = .ref q) (hq : G q = some (.tup (k.map kV))) : DGet H p b (valV ws k) := .inr ⟨ws, k, q, s.rd h, e, s _ _ hq, rfl⟩
theorem say_ix : Say2 X W (rIxAny X.K) g_ix := by
  intro G H σ Q x y a b s r1 r2 h
  cases x with
  | lst xs =>
    cases y with
    | int i =>
      simp only [g_ix] at h
      split at h
      · rename_i d e
        obtain ⟨p, vs, rfl, h1, q1⟩ := r1
        obtain ⟨v, e2, rv⟩ := q1.atI e
        exact .inl ⟨p, vs, i, v, rfl, r2, s.sqL h1, e2, h.val s rv⟩
      · exact h.elim
    | _ => exact h.elim
  | tup xs =>
    cases y with
    | int i =>
      simp only [g_ix] at h
      split at h
      · rename_i d e
        obtain ⟨p, vs, rfl, h1, q1⟩ := r1
        obtain ⟨v, e2, rv⟩ := q1.atI e
        exact .inr (.inl ⟨p, vs, i, v, rfl, r2, s.sqT h1, e2, h.val s rv⟩)
      · exact h.elim
    | _ => exact h.elim
  | str z =>
    cases y with
    | int i =>
      simp only [g_ix] at h
      split at h
      · rename_i hz
        split at h
        · rename_i c e
          exact .inr (.inr (.inl ⟨z, i, c, r1, r2, hz, e, h.str s⟩))
        · exact h.elim
      · exact h.elim
    | _ => exact h.elim
  | dK kvs =>
    have h : GlE X.mg W G H σ Q (match keyD y with
      | some k => (match getA kvs k with | some d => .ok d | none => .no)
      | none => .no) := by cases y <;> exact h
    obtain ⟨p, ws, rfl, h1, q1⟩ := r1
    split at h
    · rename_i k e
      rcases (repK_iff.mp q1).get (k := k) with ⟨e1, _⟩ | ⟨d, v, e1, e2, rv⟩
      · rw [e1] at h; exact h.elim
      · rw [e1] at h
        exact .inr (.inr (.inr ⟨p, v, rfl, by rw [← e2]; exact dget_K s h1 (keyD_rep e r2), h.val s rv⟩))
    · exact h.elim
  | dT kvs =>
    cases y with
    | tup ks =>
      simp only [g_ix] at h
      obtain ⟨p, ws, rfl, h1, q1⟩ := r1
      obtain ⟨p2, ws2, e5, h2, q2⟩ := r2
      split at h
      · rename_i k e
        rcases (repT_iff.mp q1).get (k := k) with ⟨e1, _⟩ | ⟨d, v, e1, e2, rv⟩
        · rw [e1] at h; exact h.elim
        · rw [e1] at h
          exact .inr (.inr (.inr ⟨p, v, rfl, by rw [← e2]; exact dget_T s h1 e5 (by rw [← keysD_rep e q2]; exact h2), h.val s rv⟩))
      · exact h.elim
    | _ => exact h.elim
  | _ => exact h.elim
end
/-! ### x in y -/
def inD (x : D) : D → Res Bool
  | .lst ys => if SeqAt.shaped (py x) = true ∧ SeqAt.shaped (py (.lst ys)) = true then .ok ((pys ys).any fun z => PyData.eqv z (py x)) else .no
  | .dK kvs => match keyD x with
    | some k => .ok (getA kvs k).isSome
    | none => .no
  | .dT kvs => match x with
    | .tup ks => (match keysD ks with | some ks => .ok (getA kvs ks).isSome | none => .no)
    | _ => .no
  | .str z => match x with
    | .str c => .ok (!(Builtin.Str.occurrences z c 0 z.length 1).isEmpty)
    | _ => .no
  | _ => .no
def g_in (x y : D) : Res D := inD x y >>= fun b => .ok (.bl b)
def g_notin (x y : D) : Res D := inD x y >>= fun b => .ok (.bl (!b))
def rDIn (neg : Bool) : R2 := fun y x H Q => ∃ a o, x = .ref a ∧ DGet H a y o ∧ Q (.bl (if neg then !o.isSome else o.isSome)) H
section
variable {X : Cx} {W : WX}
theorem op_din (hu : X.A.units + 1 < cLine) : OpR X (compareOp .In) (rDIn false) := by
  intro pins s σ H x y v u Q I rx ry h
  obtain ⟨a, o, rfl, g, q⟩ := h
  cases ry
  exact d_in hu I g rx fun s3 I3 => ⟨.bl o.isSome, H, I3, rfl, q⟩
theorem op_dnotin (hu : X.A.units + 1 < cLine) : OpR X (compareOp .NotIn) (rDIn true) := by
  intro pins s σ H x y v u Q I rx ry h
  obtain ⟨a, o, rfl, g, q⟩ := h
  cases ry
  exact d_notIn hu I g rx fun s3 I3 => ⟨.bl (!o.isSome), H, I3, rfl, q⟩
def rInAny (K : PySem.W.Frag) : R2 := fun x y H Q => rInD K x y H Q ∨ rDIn false x y H Q ∨ ∃ i j, x = .str i ∧ y = .str j ∧ Q (.bl (!(Builtin.Str.occurrences j i 0 j.length 1).isEmpty)) H
def rNotInAny (K : PySem.W.Frag) : R2 := fun x y H Q => rNotInD K x y H Q ∨ rDIn true x y H Q ∨ ∃ i j, x = .str i ∧ y = .str j ∧ Q (.bl (!(!(Builtin.Str.occurrences j i 0 j.length 1).isEmpty))) H
theorem op_inAny (hu : X.A.units + 65 < cLine) : OpR X (compareOp .In) (rInAny X.K) := (op_inD hu).or ((op_din (by omega)).or op_in_str)
theorem op_notInAny (hu : X.A.units + 65 < cLine) : OpR X (compareOp .NotIn) (rNotInAny X.K) := (op_notInD hu).or ((op_dnotin (by omega)).or op_notin_str)
theorem say_in' {neg : Bool} {G H : Hp} {σ : L2.St} {Q : VK} {x y : D} {a b : V} (s : Sub G H) (r1 : Rep G x a) (r2 : Rep G y b) (h : GlE X.mg W G H σ Q (inD x y >>= fun b => .ok (.bl (if neg then !b else b)))) :
    (∃ d ds, Dp X.K H a d ∧ Dp X.K H b (.list ds) ∧ SeqAt.shaped d = true ∧ SeqAt.shaped (.list ds) = true ∧ Q (.bl (if neg then !(ds.any fun z => PyData.eqv z d) else ds.any fun z => PyData.eqv z d)) H) ∨ rDIn neg a b H Q ∨
      ∃ i j, a = .str i ∧ b = .str j ∧ Q (.bl (if neg then !(!(Builtin.Str.occurrences j i 0 j.length 1).isEmpty) else !(Builtin.Str.occurrences j i 0 j.length 1).isEmpty)) H := by
  cases y with
  | lst ys =>
    simp only [inD] at h
    split at h
    · rename_i z
      have c2 := SeqAt.canLay_of_shaped z.2
      have d2 : Dp X.K H b (py (.lst ys)) := dp_of s c2 r2
      exact .inl ⟨_, pys ys, dp_of s (SeqAt.canLay_of_shaped z.1) r1, d2, z.1, z.2, h.bl s⟩
    · exact h.elim
  | dK kvs =>
    obtain ⟨p, ws, rfl, h1, q1⟩ := r2
    simp only [inD] at h
    split at h
    · rename_i k e
      refine .inr (.inl ⟨p, _, rfl, dget_K s h1 (keyD_rep e r1), ?_⟩)
      rcases (repK_iff.mp q1).get (k := k) with ⟨e1, e2⟩ | ⟨d, v, e1, e2, rv⟩
      · rw [e1] at h; rw [e2]; exact h.bl s
      · rw [e1] at h; rw [e2]; exact h.bl s
    · exact h.elim
  | dT kvs =>
    cases x with
    | tup ks =>
      obtain ⟨p, ws, rfl, h1, q1⟩ := r2
      obtain ⟨p2, ws2, e5, h2, q2⟩ := r1
      simp only [inD] at h
      split at h
      · rename_i k e
        refine .inr (.inl ⟨p, _, rfl, dget_T s h1 e5 (by rw [← keysD_rep e q2]; exact h2), ?_⟩)
        rcases (repT_iff.mp q1).get (k := k) with ⟨e1, e2⟩ | ⟨d, v, e1, e2, rv⟩
        · rw [e1] at h; rw [e2]; exact h.bl s
        · rw [e1] at h; rw [e2]; exact h.bl s
      · exact h.elim
    | _ => exact h.elim
  | str z =>
    cases x with
    | str c => exact .inr (.inr ⟨c, z, r1, r2, h.bl s⟩)
    | _ => exact h.elim
  | _ => exact h.elim
theorem say_in : Say2 X W (rInAny X.K) g_in := fun G H σ Q x y a b s r1 r2 h => say_in' (neg := false) s r1 r2 h
theorem say_notin : Say2 X W (rNotInAny X.K) g_notin := fun G H σ Q x y a b s r1 r2 h => say_in' (neg := true) s r1 r2 h
end

/-! ### arguments, displays -/
def aNil : Env → Res (List D) := fun _ => .ok []
def aCons (f : Env → Res D) (g : Env → Res (List D)) : Env → Res (List D) := fun ρ => f ρ >>= fun x => g ρ >>= fun xs => .ok (x :: xs)
def vTup (g : Env → Res (List D)) : Env → Res D := fun ρ => g ρ >>= fun xs => if xs.length ≤ sizeLine then .ok (.tup xs) else .no
def vLst (g : Env → Res (List D)) : Env → Res D := fun ρ => g ρ >>= fun xs => if xs.length ≤ sizeLine then .ok (.lst xs) else .no
section
variable {X : Cx} {W : WX} {e : Expr} {es : List Expr} {f : Env → Res D} {g : Env → Res (List D)} {pos : Pos}
theorem da_nil : DA X W [] aNil := ⟨_, pa_nil, fun G H σ ρ Q s e h => h G H (Ext.refl s) [] rfl⟩
theorem da_cons (d1 : DE X W e f) (d2 : DA X W es g) (hs : starEach (e :: es) X.env = (false, eval e X.env) :: starEach es X.env := by rfl) : DA X W (e :: es) (aCons f g) := by
  obtain ⟨t1, p1, h1⟩ := d1
  obtain ⟨t2, p2, h2⟩ := d2
  refine ⟨_, pa_cons p1 p2 hs, fun G H σ ρ Q s e h => ?_⟩
  refine h1 G H σ ρ _ s e (Gl.imp (fun x G1 H1 _ e1 k v rv => ?_) (Gl.bind h))
  refine h2 G1 H1 σ ρ _ e1.s (e.le e1.le) (Gl.imp (fun xs G2 H2 _ e2 k vs rvs => ?_) (Gl.bind k))
  exact k G2 H2 (Ext.refl e2.s) (v :: vs) ⟨v, vs, rfl, rv.le e2.le, rvs⟩
theorem de_tup {x1} (d : DA X W es g) : DE X W (.Tuple es x1 pos) (vTup g) := by
  obtain ⟨t1, p1, h1⟩ := d
  refine ⟨_, pe_tup p1, fun G H σ ρ Q s e h => ?_⟩
  refine h1 G H σ ρ _ s e (Gl.imp (fun xs G1 H1 _ e1 k vs rvs => ?_) (Gl.bind h))
  split at k
  · rename_i z
    exact ⟨by rw [rvs.length]; exact z, fun p np => Gl.newT e1.s np rvs k⟩
  · exact k.elim
theorem de_lst (d : DA X W es g) : DE X W (.List es pos) (vLst g) := by
  obtain ⟨t1, p1, h1⟩ := d
  refine ⟨_, pe_lst p1, fun G H σ ρ Q s e h => ?_⟩
  refine h1 G H σ ρ _ s e (Gl.imp (fun xs G1 H1 _ e1 k vs rvs => ?_) (Gl.bind h))
  split at k
  · rename_i z
    exact ⟨by rw [rvs.length]; exact z, fun p np => Gl.newL e1.s np rvs k⟩
  · exact k.elim
end

/-! ### truth -/
def tNotD (f : Env → Res Bool) : Env → Res Bool := fun ρ => f ρ >>= fun b => .ok (!b)
def tAndD (f g : Env → Res Bool) : Env → Res Bool := fun ρ => f ρ >>= fun b => if b = true then g ρ else .ok false
def tOrD (f g : Env → Res Bool) : Env → Res Bool := fun ρ => f ρ >>= fun b => if b = true then .ok true else g ρ
def vAnd (f g : Env → Res D) : Env → Res D := fun ρ => f ρ >>= bOf >>= fun b => if b = true then g ρ else .ok (.bl false)
def vOr (f g : Env → Res D) : Env → Res D := fun ρ => f ρ >>= bOf >>= fun b => if b = true then .ok (.bl true) else g ρ
def vNot (f : Env → Res D) : Env → Res D := fun ρ => f ρ >>= bOf >>= fun b => .ok (.bl (!b))
def vIf (c : Env → Res Bool) (f g : Env → Res D) : Env → Res D := fun ρ => c ρ >>= fun b => if b = true then f ρ else g ρ
def DW (X : Cx) (W : WX) (e : Expr) (f : Env → Res Bool) : Prop :=
  ∃ t : TT, PW X e t ∧ ∀ (G H : Hp) (σ : L2.St) (ρ : Env) (Q : Bool → Hp → Prop), Sub G H → EnvR G σ ρ → GlT X.mg W G H σ Q (f ρ) → t σ H Q
section
variable {X : Cx} {W : WX} {a b c : Expr} {rest : List Expr} {f g : Env → Res Bool} {fe ge : Env → Res D} {pos : Pos}
theorem DW.dt (d : DW X W a f) : DT X W a f := let ⟨t, p, h⟩ := d; ⟨t, p.pt, h⟩
theorem dt_not (d : DT X W a f) : DT X W (.UnaryOp .Not a pos) (tNotD f) := by
  obtain ⟨t1, p1, h1⟩ := d
  refine ⟨_, pt_not p1, fun G H σ ρ Q s e h => ?_⟩
  exact h1 G H σ ρ _ s e (Gl.imp (fun x G1 H1 _ e1 k => k G1 H1 (Ext.refl e1.s)) (Gl.bind h))
theorem dw_and1 (d : DT X W a f) : DW X W (.BoolOp .And [a] pos) f := let ⟨t, p, h⟩ := d; ⟨t, pw_and1 p, h⟩
theorem dw_or1 (d : DT X W a f) : DW X W (.BoolOp .Or [a] pos) f := let ⟨t, p, h⟩ := d; ⟨t, pw_or1 p, h⟩
theorem dw_and (d1 : DT X W a f) (d2 : DW X W (.BoolOp .And (b :: rest) pos) g) : DW X W (.BoolOp .And (a :: b :: rest) pos) (tAndD f g) := by
  obtain ⟨t1, p1, h1⟩ := d1
  obtain ⟨t2, p2, h2⟩ := d2
  refine ⟨_, pw_and p1 p2, fun G H σ ρ Q s e h => ?_⟩
  refine h1 G H σ ρ _ s e (Gl.imp (fun x G1 H1 _ e1 k => ?_) (Gl.bind h))
  cases x with
  | true => exact h2 G1 H1 σ ρ Q e1.s (e.le e1.le) k
  | false => exact k G1 H1 (Ext.refl e1.s)
theorem dw_or (d1 : DT X W a f) (d2 : DW X W (.BoolOp .Or (b :: rest) pos) g) : DW X W (.BoolOp .Or (a :: b :: rest) pos) (tOrD f g) := by
  obtain ⟨t1, p1, h1⟩ := d1
  obtain ⟨t2, p2, h2⟩ := d2
  refine ⟨_, pw_or p1 p2, fun G H σ ρ Q s e h => ?_⟩
  refine h1 G H σ ρ _ s e (Gl.imp (fun x G1 H1 _ e1 k => ?_) (Gl.bind h))
  cases x with
  | false => exact h2 G1 H1 σ ρ Q e1.s (e.le e1.le) k
  | true => exact k G1 H1 (Ext.refl e1.s)
theorem de_one {op} (d : DE X W a fe) : DE X W (.BoolOp op [a] pos) fe := let ⟨t, p, h⟩ := d; ⟨t, pe_one p, h⟩
theorem Gl.bl2 {mg : Str → Option Value} {G H : Hp} {σ : L2.St} {x : D} {v : V} {k : Bool → Res D} {P : D → Hp → Hp → Prop} (rv : Rep G x v) (h : Gl mg W G H σ P (bOf x >>= k)) : ∃ c, v = .bl c ∧ Gl mg W G H σ P (k c) := by
  cases x with
  | bl c => exact ⟨c, rv, h⟩
  | _ => exact h.elim
theorem de_and (d1 : DE X W a fe) (d2 : DE X W (.BoolOp .And (b :: rest) pos) ge) : DE X W (.BoolOp .And (a :: b :: rest) pos) (vAnd fe ge) := by
  obtain ⟨t1, p1, h1⟩ := d1
  obtain ⟨t2, p2, h2⟩ := d2
  refine ⟨_, pe_and p1 p2, fun G H σ ρ Q s e h => ?_⟩
  have h' : GlE X.mg W G H σ Q (fe ρ >>= fun x => bOf x >>= fun b => if b = true then ge ρ else .ok (.bl false)) := by
    unfold vAnd at h
    cases q : fe ρ <;> rw [q] at h <;> exact h
  refine h1 G H σ ρ _ s e (Gl.imp (fun x G1 H1 _ e1 k v rv => ?_) (Gl.bind h'))
  obtain ⟨c, ec, k⟩ := Gl.bl2 rv k
  refine ⟨c, ec, ?_⟩
  cases c with
  | true => exact h2 G1 H1 σ ρ Q e1.s (e.le e1.le) k
  | false => exact Gl.bl e1.s k
theorem de_or (d1 : DE X W a fe) (d2 : DE X W (.BoolOp .Or (b :: rest) pos) ge) : DE X W (.BoolOp .Or (a :: b :: rest) pos) (vOr fe ge) := by
  obtain ⟨t1, p1, h1⟩ := d1
  obtain ⟨t2, p2, h2⟩ := d2
  refine ⟨_, pe_or p1 p2, fun G H σ ρ Q s e h => ?_⟩
  have h' : GlE X.mg W G H σ Q (fe ρ >>= fun x => bOf x >>= fun b => if b = true then .ok (.bl true) else ge ρ) := by
    unfold vOr at h
    cases q : fe ρ <;> rw [q] at h <;> exact h
  refine h1 G H σ ρ _ s e (Gl.imp (fun x G1 H1 _ e1 k v rv => ?_) (Gl.bind h'))
  obtain ⟨c, ec, k⟩ := Gl.bl2 rv k
  refine ⟨c, ec, ?_⟩
  cases c with
  | false => exact h2 G1 H1 σ ρ Q e1.s (e.le e1.le) k
  | true => exact Gl.bl e1.s k
theorem de_not (d1 : DE X W a fe) : DE X W (.UnaryOp .Not a pos) (vNot fe) := by
  obtain ⟨t1, p1, h1⟩ := d1
  refine ⟨_, pe_not p1, fun G H σ ρ Q s e h => ?_⟩
  have h' : GlE X.mg W G H σ Q (fe ρ >>= fun x => bOf x >>= fun b => .ok (.bl (!b))) := by
    unfold vNot at h
    cases q : fe ρ <;> rw [q] at h <;> exact h
  refine h1 G H σ ρ _ s e (Gl.imp (fun x G1 H1 _ e1 k v rv => ?_) (Gl.bind h'))
  obtain ⟨c, ec, k⟩ := Gl.bl2 rv k
  exact ⟨c, ec, Gl.bl e1.s k⟩
theorem de_if (d0 : DT X W c f) (d1 : DE X W a fe) (d2 : DE X W b ge) : DE X W (.IfExp c a b pos) (vIf f fe ge) := by
  obtain ⟨t0, p0, h0⟩ := d0
  obtain ⟨t1, p1, h1⟩ := d1
  obtain ⟨t2, p2, h2⟩ := d2
  refine ⟨_, pe_ifExp p0 p1 p2, fun G H σ ρ Q s e h => ?_⟩
  refine h0 G H σ ρ _ s e (Gl.imp (fun x G1 H1 _ e1 k => ?_) (Gl.bind h))
  cases x with
  | true => exact h1 G1 H1 σ ρ Q e1.s (e.le e1.le) k
  | false => exact h2 G1 H1 σ ρ Q e1.s (e.le e1.le) k
end
end DL

/-! DL3: calls of built-ins, slices, d.get. -/
namespace DL
open PySem PySem.Spec PyProof.Rows L2

/-! ### calls of built-ins -/
def SayC (X : Cx) (W : WX) (r : List V → Hp → VK → Prop) (g : List D → Res D) : Prop :=
  ∀ (G H : Hp) (σ : L2.St) (Q : VK) (ds : List D) (vs : List V), Sub G H → Reps G ds vs → GlE X.mg W G H σ Q (g ds) → r vs H Q
def vCall (g : List D → Res D) (f : Env → Res (List D)) : Env → Res D := fun ρ => f ρ >>= g
section
variable {X : Cx} {W : WX} {e : Expr} {es : List Expr} {f : Env → Res (List D)} {g : List D → Res D} {r : List V → Hp → VK → Prop} {x : Str} {p pos : Pos}
theorem say_call {t : TA} (sy : SayC X W r g) (h1 : ∀ (G H : Hp) (σ : L2.St) (ρ : Env) (Q : List V → Hp → Prop), Sub G H → EnvR G σ ρ → GlA X.mg W G H σ Q (f ρ) → t σ H Q)
    (G H : Hp) (σ : L2.St) (ρ : Env) (Q : VK) (s : Sub G H) (e : EnvR G σ ρ) (h : GlE X.mg W G H σ Q (vCall g f ρ)) : tCB r t σ H Q := by
  refine h1 G H σ ρ _ s e (Gl.imp (fun ds G1 H1 _ e1 k vs rv => ?_) (Gl.bind h))
  exact sy G1 H1 σ Q ds vs e1.s rv k
theorem de_callB {id : String} (hc : CallR X (.builtin id) r) (sy : SayC X W r g) (hg : L2.Gl X x) (hm : X.mg x = none) (hv : bootBuiltins x = some (.builtin id)) (d : DA X W (e :: es) f) (hn : x ≠ "__name__" := by decide) (hdb : (x == ("__debug__" : Str)) = false := by decide)
    (he : starEach (e :: es) X.env = (false, eval e X.env) :: starEach es X.env := by rfl) (hpl : (backTo pos (starEach es X.env)).any (·.1) = false := by rfl) : DE X W (.Call (.Name x p) (e :: es) [] pos) (vCall g f) := by
  obtain ⟨t, pa, h1⟩ := d
  exact ⟨_, pe_callB hc hg hm hv pa hn hdb he hpl, say_call sy h1⟩
theorem de_callTy {T : String} (hc : CallR X (.type T) r) (sy : SayC X W r g) (hg : L2.Gl X x) (hm : X.mg x = none) (hv : bootBuiltins x = some (.type T)) (d : DA X W (e :: es) f) (hn : x ≠ "__name__" := by decide) (hdb : (x == ("__debug__" : Str)) = false := by decide)
    (he : starEach (e :: es) X.env = (false, eval e X.env) :: starEach es X.env := by rfl) (hpl : (backTo pos (starEach es X.env)).any (·.1) = false := by rfl) : DE X W (.Call (.Name x p) (e :: es) [] pos) (vCall g f) := by
  obtain ⟨t, pa, h1⟩ := d
  exact ⟨_, pe_callTy hc hg hm hv pa hn hdb he hpl, say_call sy h1⟩
end
def c_len : List D → Res D
  | [.str x] => if x.length ≤ sizeLine then .ok (.int x.length) else .no
  | [.lst xs] => .ok (.int xs.length)
  | [.tup xs] => .ok (.int xs.length)
  | _ => .no
def c_list : List D → Res D
  | [.lst xs] => .ok (.lst xs)
  | [.tup xs] => .ok (.lst xs)
  | _ => .no
def c_tuple : List D → Res D
  | [.lst xs] => .ok (.tup xs)
  | [.tup xs] => .ok (.tup xs)
  | _ => .no
def boolsOf : List D → Option (List Bool)
  | [] => some []
  | .bl b :: r => match boolsOf r with | some bs => some (b :: bs) | none => none
  | _ :: _ => none
def intsOf : List D → Option (List Int)
  | [] => some []
  | .int b :: r => match intsOf r with | some bs => some (b :: bs) | none => none
  | _ :: _ => none
def c_all : List D → Res D
  | [.lst xs] => match boolsOf xs with | some bs => .ok (.bl (bs.all id)) | none => .no
  | _ => .no
def c_any : List D → Res D
  | [.lst xs] => match boolsOf xs with | some bs => .ok (.bl (bs.any id)) | none => .no
  | _ => .no
def c_sum : List D → Res D
  | [.lst xs] => match intsOf xs with | some bs => .ok (.int bs.sum) | none => .no
  | _ => .no
def c_max2 : List D → Res D
  | [.int i, .int j] => .ok (.int (if j > i then j else i))
  | _ => .no
def c_min2 : List D → Res D
  | [.int i, .int j] => .ok (.int (if j < i then j else i))
  | _ => .no
def c_int : List D → Res D
  | [.int i] => .ok (.int i)
  | [.bl k] => .ok (.int (if k then 1 else 0))
  | _ => .no
instance (i j : Int) : Decidable (CDiv i j) := inferInstanceAs (Decidable (_ ∧ _))
def c_divmod : List D → Res D
  | [.int i, .int j] => if CDiv i j then .ok (.tup [.int (i / j), .int (i % j)]) else .no
  | _ => .no
theorem bools_rep {G : Hp} : ∀ {ds : List D} {vs : List V} {bs : List Bool}, boolsOf ds = some bs → Reps G ds vs → vs = bs.map V.bl
  | [], _, _, h, r => by simp only [boolsOf, Option.some.injEq] at h; subst h; exact r
  | d :: ds, _, _, h, ⟨v, vs, e, r1, r2⟩ => by
    cases d with
    | bl b =>
      simp only [boolsOf] at h
      split at h
      · rename_i bs q
        simp only [Option.some.injEq] at h; subst h
        have e2 : v = .bl b := r1
        rw [e, e2, bools_rep q r2]; rfl
      · cases h
    | _ => simp [boolsOf] at h
theorem ints_rep {G : Hp} : ∀ {ds : List D} {vs : List V} {bs : List Int}, intsOf ds = some bs → Reps G ds vs → vs = bs.map V.int
  | [], _, _, h, r => by simp only [intsOf, Option.some.injEq] at h; subst h; exact r
  | d :: ds, _, _, h, ⟨v, vs, e, r1, r2⟩ => by
    cases d with
    | int b =>
      simp only [intsOf] at h
      split at h
      · rename_i bs q
        simp only [Option.some.injEq] at h; subst h
        have e2 : v = .int b := r1
        rw [e, e2, ints_rep q r2]; rfl
      · cases h
    | _ => simp [intsOf] at h
section
variable {X : Cx} {W : WX}
theorem say_len : SayC X W (fun xs H Q => ∃ x n, xs = [x] ∧ LenV X.K x H n ∧ Q (.int n) H) c_len := by
  intro G H σ Q ds vs s r h
  unfold c_len at h
  split at h
  · rename_i x
    obtain ⟨v, _, e, r1, e2⟩ := r
    have e3 : v = .str x := r1
    have e4 : _ = [] := e2
    subst e3 e4
    split at h
    · rename_i z
      exact ⟨_, x.length, e, ⟨z, rfl⟩, h.int s⟩
    · exact h.elim
  · rename_i xs
    obtain ⟨v, _, e, ⟨p, ws, ep, h1, q1⟩, e2⟩ := r
    have e4 : _ = [] := e2
    subst ep e4
    exact ⟨_, xs.length, e, .inl ⟨ws, s.sqL h1, q1.length.symm⟩, h.int s⟩
  · rename_i xs
    obtain ⟨v, _, e, ⟨p, ws, ep, h1, q1⟩, e2⟩ := r
    have e4 : _ = [] := e2
    subst ep e4
    exact ⟨_, xs.length, e, .inr ⟨ws, s.sqT h1, q1.length.symm⟩, h.int s⟩
  · exact h.elim
theorem say_list : SayC X W (fun xs H Q => ∃ p ys, xs = [.ref p] ∧ (SqL X.K H p ys ∨ SqT X.K H p ys) ∧ ∀ l, H l = none → Q (.ref l) (upd H l (.lst ys))) c_list := by
  intro G H σ Q ds vs s r h
  unfold c_list at h
  split at h
  · obtain ⟨v, _, e, ⟨p, ws, ep, h1, q1⟩, e2⟩ := r
    have e4 : _ = [] := e2
    subst ep e4
    exact ⟨p, ws, e, .inl (s.sqL h1), fun l nl => h.newL s nl q1⟩
  · obtain ⟨v, _, e, ⟨p, ws, ep, h1, q1⟩, e2⟩ := r
    have e4 : _ = [] := e2
    subst ep e4
    exact ⟨p, ws, e, .inr (s.sqT h1), fun l nl => h.newL s nl q1⟩
  · exact h.elim
theorem say_tuple : SayC X W (fun xs H Q => ∃ p ys, xs = [.ref p] ∧ ((SqL X.K H p ys ∧ ∀ l, H l = none → Q (.ref l) (upd H l (.tup ys))) ∨ (SqT X.K H p ys ∧ Q (.ref p) H))) c_tuple := by
  intro G H σ Q ds vs s r h
  unfold c_tuple at h
  split at h
  · obtain ⟨v, _, e, ⟨p, ws, ep, h1, q1⟩, e2⟩ := r
    have e4 : _ = [] := e2
    subst ep e4
    exact ⟨p, ws, e, .inl ⟨s.sqL h1, fun l nl => h.newT s nl q1⟩⟩
  · rename_i xs
    obtain ⟨v, _, e, ⟨p, ws, ep, h1, q1⟩, e2⟩ := r
    have e4 : _ = [] := e2
    subst ep e4
    exact ⟨p, ws, e, .inr ⟨s.sqT h1, h.val (d := .tup xs) s ⟨p, ws, rfl, h1, q1⟩⟩⟩
  · exact h.elim
theorem say_all : SayC X W (rAll X.K) c_all := by
  intro G H σ Q ds vs s r h
  unfold c_all at h
  split at h
  · obtain ⟨v, _, e, ⟨p, ws, ep, h1, q1⟩, e2⟩ := r
    have e4 : _ = [] := e2
    subst ep e4
    split at h
    · rename_i bs q
      exact ⟨p, bs, e, by rw [← bools_rep q q1]; exact s.sqL h1, h.bl s⟩
    · exact h.elim
  · exact h.elim
theorem say_any : SayC X W (rAny X.K) c_any := by
  intro G H σ Q ds vs s r h
  unfold c_any at h
  split at h
  · obtain ⟨v, _, e, ⟨p, ws, ep, h1, q1⟩, e2⟩ := r
    have e4 : _ = [] := e2
    subst ep e4
    split at h
    · rename_i bs q
      exact ⟨p, bs, e, by rw [← bools_rep q q1]; exact s.sqL h1, h.bl s⟩
    · exact h.elim
  · exact h.elim
theorem say_sum : SayC X W (rSum X.K) c_sum := by
  intro G H σ Q ds vs s r h
  unfold c_sum at h
  split at h
  · obtain ⟨v, _, e, ⟨p, ws, ep, h1, q1⟩, e2⟩ := r
    have e4 : _ = [] := e2
    subst ep e4
    split at h
    · rename_i bs q
      exact ⟨p, bs, e, by rw [← ints_rep q q1]; exact s.sqL h1, h.int s⟩
    · exact h.elim
  · exact h.elim
theorem two_of {G : Hp} {vs : List V} {i j : Int} (r : Reps G [.int i, .int j] vs) : vs = [.int i, .int j] := by
  obtain ⟨v, _, e, r1, v2, _, e2, r2, e3⟩ := r
  have h1 : v = .int i := r1
  have h2 : v2 = .int j := r2
  have h3 : _ = [] := e3
  subst h1 h2 h3 e2
  exact e
theorem say_max2 : SayC X W (fun xs H Q => ∃ i j, xs = [.int i, .int j] ∧ Q (.int (if j > i then j else i)) H) c_max2 := by
  intro G H σ Q ds vs s r h
  unfold c_max2 at h
  split at h
  · exact ⟨_, _, two_of r, h.int s⟩
  · exact h.elim
theorem say_min2 : SayC X W (fun xs H Q => ∃ i j, xs = [.int i, .int j] ∧ Q (.int (if j < i then j else i)) H) c_min2 := by
  intro G H σ Q ds vs s r h
  unfold c_min2 at h
  split at h
  · exact ⟨_, _, two_of r, h.int s⟩
  · exact h.elim
theorem say_int : SayC X W (fun xs H Q => (∃ i, xs = [.int i] ∧ Q (.int i) H) ∨ ∃ k, xs = [.bl k] ∧ Q (.int (if k then 1 else 0)) H) c_int := by
  intro G H σ Q ds vs s r h
  unfold c_int at h
  split at h
  · rename_i i
    obtain ⟨v, _, e, r1, e2⟩ := r
    have h1 : v = .int i := r1
    have e4 : _ = [] := e2
    subst h1 e4
    exact .inl ⟨i, e, h.int s⟩
  · rename_i i
    obtain ⟨v, _, e, r1, e2⟩ := r
    have h1 : v = .bl i := r1
    have e4 : _ = [] := e2
    subst h1 e4
    exact .inr ⟨i, e, h.int s⟩
  · exact h.elim
theorem say_divmod : SayC X W (fun xs H Q => ∃ i j, xs = [.int i, .int j] ∧ CDiv i j ∧ ∀ p, H p = none → Q (.ref p) (upd H p (.tup [.int (i / j), .int (i % j)]))) c_divmod := by
  intro G H σ Q ds vs s r h
  unfold c_divmod at h
  split at h
  · split at h
    · rename_i z
      exact ⟨_, _, two_of r, z, fun p np => by refine h.newT s np ?_; exact ⟨_, _, rfl, rfl, _, _, rfl, rfl, rfl⟩⟩
    · exact h.elim
  · exact h.elim
end

/-! ### isinstance(x, a built-in type) -/
def tyD : D → String
  | .non => "NoneType"
  | .bl _ => "bool"
  | .int _ => "int"
  | .str _ => "str"
  | .tup _ => "tuple"
  | .lst _ => "list"
  | .dK _ => "dict"
  | .dT _ => "dict"
def g_isi (n : String) (d : D) : Res D := match kitB (tyD d) n with
  | some b => .ok (.bl b)
  | none => .no
theorem kitD {X : Cx} {pins : List (Addr × Obj)} {σ : L2.St} {H G : Hp} {s : Shared} {d : D} {x : V} {u : Value} (I : Inv X pins σ H s) (sb : Sub G H) (rx : RelV x u) (r : Rep G d x) :
    ∃ P : Heap → Prop, PySem.W.KitX X.K u (.type (tyD d)) P ∧ P s.heap ∧ u ≠ .builtin "__main__.__loader__#opaque" := by
  cases d with
  | non => subst r; cases (show u = Value.none from rx); exact ⟨_, PySem.W.kitx_none, True.intro, fun z => nomatch z⟩
  | bl y => subst r; cases (show u = Value.bool y from rx); exact ⟨_, PySem.W.kitx_bool, True.intro, fun z => nomatch z⟩
  | int i => subst r; obtain ⟨t, q⟩ := (show ∃ t, u = Value.int i t from rx); cases q; exact ⟨_, PySem.W.kitx_int, True.intro, fun z => nomatch z⟩
  | str y => subst r; obtain ⟨t, q⟩ := (show ∃ t, u = Value.str y t from rx); cases q; exact ⟨_, PySem.W.kitx_str, True.intro, fun z => nomatch z⟩
  | tup ds =>
    obtain ⟨a, vs, rfl, h1, _⟩ := r
    cases (show u = Value.ref a from rx)
    obtain ⟨_, _, _, o, h1, h2, _⟩ := (show ObjOk X.prog X.w H s.heap a (.tup vs) from I.hok a _ (sb _ _ h1))
    exact ⟨_, PySem.W.kitx_tuple, ⟨o, h1, h2⟩, fun z => nomatch z⟩
  | lst ds =>
    obtain ⟨a, vs, rfl, h1, _⟩ := r
    cases (show u = Value.ref a from rx)
    obtain ⟨_, _, n, _, h1⟩ := (show ObjOk X.prog X.w H s.heap a (.lst vs) from (sb.rd h1).ok I.hok)
    exact ⟨_, PySem.W.kitx_list, ⟨_, h1, rfl⟩, fun z => nomatch z⟩
  | dK ds =>
    obtain ⟨a, vs, rfl, h1, _⟩ := r
    cases (show u = Value.ref a from rx)
    obtain ⟨_, _, _, _, o, es, ep, h1, h2, _⟩ := (show ObjOk X.prog X.w H s.heap a (.dK vs) from (sb.rd h1).ok I.hok)
    exact ⟨_, PySem.W.kitx_dict, ⟨o, h1, h2.1⟩, fun z => nomatch z⟩
  | dT ds =>
    obtain ⟨a, vs, rfl, h1, _⟩ := r
    cases (show u = Value.ref a from rx)
    obtain ⟨_, _, _, _, o, es, ep, h1, h2, _⟩ := (show ObjOk X.prog X.w H s.heap a (.dT vs) from (sb.rd h1).ok I.hok)
    exact ⟨_, PySem.W.kitx_dict, ⟨o, h1, h2.1⟩, fun z => nomatch z⟩
def rIsiD (n : String) : List V → Hp → VK → Prop := fun xs H Q => ∃ G d x b, Sub G H ∧ xs = [x, .ty n] ∧ Rep G d x ∧ kitB (tyD d) n = some b ∧ Q (.bl b) H
section
variable {X : Cx} {W : WX} {e1 e2 : Expr} {f1 : Env → Res D} {x y : Str} {p py' pos : Pos}
theorem call_isiD {n : String} : CallR X (.builtin "isinstance") (rIsiD n) := by
  intro pins s σ H xs us Q I r h
  obtain ⟨G, d, x, b, sb, rfl, rp, e, q⟩ := h
  obtain ⟨u1, u2, rfl, r1, r2⟩ := vals2 r
  cases (show u2 = Value.type n from r2)
  obtain ⟨P, Z, p, hx⟩ := kitD I sb r1 rp
  exact PySem.W.kia_one Z I.kIn p (kit_ty e) hx fun tk => ⟨.bl b, H, I.tok tk, rfl, q⟩
theorem de_isi {n : String} (d1 : DE X W e1 f1) (hg : L2.Gl X "isinstance") (hm : X.mg "isinstance" = none) (hg2 : L2.Gl X y) (hm2 : X.mg y = none) (hv2 : bootBuiltins y = some (.type n))
    (hn2 : y ≠ "__name__" := by decide) (hd2 : (y == ("__debug__" : Str)) = false := by decide)
    (he : starEach (e1 :: [.Name y py']) X.env = (false, eval e1 X.env) :: starEach [.Name y py'] X.env := by rfl) (he2 : starEach [.Name y py'] X.env = (false, eval (.Name y py') X.env) :: starEach [] X.env := by rfl) (hpl : (backTo pos (starEach [.Name y py'] X.env)).any (·.1) = false := by rfl) :
    DE X W (.Call (.Name "isinstance" p) [e1, .Name y py'] [] pos) (v1 (g_isi n) f1) := by
  obtain ⟨t1, p1, h1⟩ := d1
  refine ⟨_, pe_callB (call_isiD (n := n)) hg hm (by decide +kernel) (pa_cons p1 (pa_cons (pe_bltn (v := .ty n) hg2 hm2 hv2 rfl hn2 hd2) pa_nil he2) he) (by decide) (by decide) he hpl, fun G H σ ρ Q s e h => ?_⟩
  refine h1 G H σ ρ _ s e (Gl.imp (fun d G1 H1 _ e1 k v rv => ?_) (Gl.bind h))
  unfold g_isi at k
  split at k
  · rename_i b q
    exact ⟨G1, d, v, b, e1.s, rfl, rv, q, k.bl e1.s⟩
  · exact k.elim
end

/-! ### slices -/
abbrev GlO (mg : Str → Option Value) (W : WX) (G H : Hp) (σ : L2.St) (Q : Option Int → Hp → Prop) : Res (Option Int) → Prop := Gl mg W G H σ fun o _ H' => Q o H'
def DO (X : Cx) (W : WX) (o : Option Expr) (f : Env → Res (Option Int)) : Prop :=
  ∃ t : TO, PO X o t ∧ ∀ (G H : Hp) (σ : L2.St) (ρ : Env) (Q : Option Int → Hp → Prop), Sub G H → EnvR G σ ρ → GlO X.mg W G H σ Q (f ρ) → t σ H Q
def oNone : Env → Res (Option Int) := fun _ => .ok none
def iOf : D → Res (Option Int)
  | .int i => .ok (some i)
  | _ => .no
def oSome (f : Env → Res D) : Env → Res (Option Int) := fun ρ => f ρ >>= iOf
def cutA {α : Type} (xs : List α) (lo hi : Option Int) : List α := (xs.drop (HT.sIx xs.length 0 lo)).take (HT.sIx xs.length xs.length hi - HT.sIx xs.length 0 lo)
def g_sl : D → Option Int → Option Int → Res D
  | .lst xs, lo, hi => .ok (.lst (cutA xs lo hi))
  | .tup xs, lo, hi => .ok (.tup (cutA xs lo hi))
  | .str z, lo, hi => if z.length ≤ sizeLine then .ok (.str (cutS z lo hi)) else .no
  | _, _, _ => .no
def vSl (f : Env → Res D) (lo hi : Env → Res (Option Int)) : Env → Res D := fun ρ => f ρ >>= fun x => lo ρ >>= fun l => hi ρ >>= fun u => g_sl x l u
def rSlAny (K : PySem.W.Frag) : V → Option Int → Option Int → Hp → VK → Prop := fun x lo hi H Q => rSlL K x lo hi H Q ∨ rSlA K x lo hi H Q ∨ rSlS x lo hi H Q
theorem Reps.cut {G : Hp} {ds : List D} {vs : List V} (r : Reps G ds vs) (lo hi : Option Int) : Reps G (cutA ds lo hi) (cutV vs lo hi) := by
  unfold cutA cutV
  rw [r.length]
  exact (r.drop _).take _
section
variable {X : Cx} {W : WX} {e e1 : Expr} {f : Env → Res D} {lo hi : Option Expr} {fl fh : Env → Res (Option Int)} {p2 pos : Pos}
theorem do_none : DO X W none oNone := ⟨_, po_none, fun G H σ ρ Q s e h => h G H (Ext.refl s)⟩
theorem do_some (d : DE X W e f) : DO X W (some e) (oSome f) := by
  obtain ⟨t1, p1, h1⟩ := d
  refine ⟨_, po_some p1, fun G H σ ρ Q s e h => ?_⟩
  refine h1 G H σ ρ _ s e (Gl.imp (fun x G1 H1 _ e1 k v rv => ?_) (Gl.bind h))
  cases x with
  | int i => exact ⟨i, rv, k G1 H1 (Ext.refl e1.s)⟩
  | _ => exact k.elim
theorem de_sl (d : DE X W e f) (dl : DO X W lo fl) (dh : DO X W hi fh) : DE X W (.Subscript e (.Slice lo hi none p2) pos) (vSl f fl fh) := by
  obtain ⟨t1, p1, h1⟩ := d
  obtain ⟨t2, p2, h2⟩ := dl
  obtain ⟨t3, p3, h3⟩ := dh
  refine ⟨_, pe_slice (sl_list.or (sl_tupA.or sl_str)) p1 p2 p3, fun G H σ ρ Q s e h => ?_⟩
  refine h1 G H σ ρ _ s e (Gl.imp (fun x G1 H1 _ e1 k v rv => ?_) (Gl.bind h))
  refine h2 G1 H1 σ ρ _ e1.s (e.le e1.le) (Gl.imp (fun l G2 H2 _ e2 k => ?_) (Gl.bind k))
  refine h3 G2 H2 σ ρ _ e2.s ((e.le e1.le).le e2.le) (Gl.imp (fun u G3 H3 _ e3 k => ?_) (Gl.bind k))
  have rv := (rv.le e2.le).le e3.le
  cases x with
  | lst xs =>
    obtain ⟨a, vs, rfl, h, q⟩ := rv
    exact .inl ⟨a, vs, rfl, e3.s.sqL h, fun p np => Gl.newL e3.s np (q.cut l u) k⟩
  | tup xs =>
    obtain ⟨a, vs, rfl, h, q⟩ := rv
    refine .inr (.inl ⟨a, vs, rfl, e3.s.sqT h, fun z => ?_, fun _ p np => Gl.newT e3.s np (q.cut l u) k⟩)
    have e4 : cutV vs l u = vs := by unfold cutV; rw [z.1, z.2]; simp
    exact Gl.val (d := .tup (cutA xs l u)) e3.s ⟨a, vs, rfl, h, by have := q.cut l u; rw [e4] at this; exact this⟩ k
  | str z =>
    simp only [g_sl] at k
    split at k
    · rename_i hz
      exact .inr (.inr ⟨z, rv, hz, Gl.str e3.s k⟩)
    · exact k.elim
  | _ => exact k.elim
end

/-! ### d.get(k, x), d.get(k) -/
def getD? : D → D → Res (Option D)
  | .dK kvs, k => match keyD k with
    | some k => .ok (getA kvs k)
    | none => .no
  | .dT kvs, .tup ks => match keysD ks with
    | some ks => .ok (getA kvs ks)
    | none => .no
  | _, _ => .no
def vGet2 (f g h : Env → Res D) : Env → Res D := fun ρ => f ρ >>= fun d => g ρ >>= fun k => h ρ >>= fun x => getD? d k >>= fun o => .ok (o.getD x)
def vGet1 (f g : Env → Res D) : Env → Res D := fun ρ => f ρ >>= fun d => g ρ >>= fun k => getD? d k >>= fun o => .ok (o.getD .non)
theorem getD_rep {mg : Str → Option Value} {W : WX} {G H : Hp} {σ : L2.St} {x y : D} {a b : V} {α : Type} {P : α → Hp → Hp → Prop} {k : Option D → Res α} (s : Sub G H) (r1 : Rep G x a) (r2 : Rep G y b) (h : Gl mg W G H σ P (getD? x y >>= k)) :
    ∃ p o o', a = .ref p ∧ IsD H p ∧ DGet H p b o' ∧ ((o = none ∧ o' = none) ∨ ∃ d v, o = some d ∧ o' = some v ∧ Rep G d v) ∧ Gl mg W G H σ P (k o) := by
  cases x with
  | dK kvs =>
    have e0 : getD? (.dK kvs) y = (match keyD y with | some k => .ok (getA kvs k) | none => .no) := by cases y <;> rfl
    rw [e0] at h
    obtain ⟨p, ws, rfl, h1, q1⟩ := r1
    split at h
    · rename_i k' e
      refine ⟨p, getA kvs k', valV ws k', rfl, .inl ⟨ws, s.rd h1⟩, dget_K s h1 (keyD_rep e r2), ?_, h⟩
      rcases (repK_iff.mp q1).get (k := k') with q | ⟨d, v, e1, e2, rv⟩
      · exact .inl q
      · exact .inr ⟨d, v, e1, e2, rv⟩
    · exact h.elim
  | dT kvs =>
    cases y with
    | tup ks =>
      simp only [getD?] at h
      obtain ⟨p, ws, rfl, h1, q1⟩ := r1
      obtain ⟨p2, ws2, e5, h2, q2⟩ := r2
      split at h
      · rename_i k' e
        refine ⟨p, getA kvs k', valV ws k', rfl, .inr ⟨ws, s.rd h1⟩, dget_T s h1 e5 (by rw [← keysD_rep e q2]; exact h2), ?_, h⟩
        rcases (repT_iff.mp q1).get (k := k') with q | ⟨d, v, e1, e2, rv⟩
        · exact .inl q
        · exact .inr ⟨d, v, e1, e2, rv⟩
      · exact h.elim
    | _ => exact h.elim
  | _ => exact h.elim
theorem isD_of {G H : Hp} {x y : D} {a : V} (s : Sub G H) (r1 : Rep G x a) (h : getD? x y ≠ .no) : ∃ p, a = .ref p ∧ IsD H p := by
  cases x with
  | dK kvs => obtain ⟨p, ws, rfl, h1, q1⟩ := r1; exact ⟨p, rfl, .inl ⟨ws, s.rd h1⟩⟩
  | dT kvs => obtain ⟨p, ws, rfl, h1, q1⟩ := r1; exact ⟨p, rfl, .inr ⟨ws, s.rd h1⟩⟩
  | _ => exact absurd rfl h
def isDic : D → Bool
  | .dK _ => true
  | .dT _ => true
  | _ => false
def dicOf (x : D) : Res D := if isDic x = true then .ok x else .no
def vDic (f : Env → Res D) : Env → Res D := fun ρ => f ρ >>= dicOf
theorem isD_dic {G H : Hp} {x : D} {a : V} (s : Sub G H) (r1 : Rep G x a) (h : isDic x = true) : ∃ p, a = .ref p ∧ IsD H p := by
  cases x with
  | dK kvs => obtain ⟨p, ws, rfl, h1, q1⟩ := r1; exact ⟨p, rfl, .inl ⟨ws, s.rd h1⟩⟩
  | dT kvs => obtain ⟨p, ws, rfl, h1, q1⟩ := r1; exact ⟨p, rfl, .inr ⟨ws, s.rd h1⟩⟩
  | _ => cases h
section
variable {X : Cx} {W : WX} {o e e2 : Expr} {f g h : Env → Res D} {apos cpos : Pos}
theorem de_get2 (hu : X.A.units + 1 < cLine) (d1 : DE X W o f) (d2 : DE X W e g) (d3 : DE X W e2 h) (m : M2 X o "get" apos e e2 cpos) : DE X W (.Call (.Attribute o "get" apos) [e, e2] [] cpos) (vGet2 (vDic f) g h) := by
  obtain ⟨t1, p1, h1⟩ := d1
  obtain ⟨t2, p2, h2⟩ := d2
  obtain ⟨t3, p3, h3⟩ := d3
  refine ⟨_, pe_dget2 hu p1 p2 p3 m, fun G H σ ρ Q s e hh => ?_⟩
  have hh' : GlE X.mg W G H σ Q (f ρ >>= fun d => dicOf d >>= fun d => g ρ >>= fun k => h ρ >>= fun x => getD? d k >>= fun o => .ok (o.getD x)) := by
    unfold vGet2 vDic at hh
    cases q : f ρ <;> rw [q] at hh <;> exact hh
  refine h1 G H σ ρ _ s e (Gl.imp (fun x G1 H1 _ e1 k v rv => ?_) (Gl.bind hh'))
  unfold dicOf at k
  split at k
  · rename_i hd
    obtain ⟨p, rfl, hp⟩ := isD_dic e1.s rv hd
    refine ⟨p, rfl, hp, ?_⟩
    refine h2 G1 H1 σ ρ _ e1.s (e.le e1.le) (Gl.imp (fun y G2 H2 _ e2 k w rw' => ?_) (Gl.bind k))
    refine h3 G2 H2 σ ρ _ e2.s ((e.le e1.le).le e2.le) (Gl.imp (fun z G3 H3 _ e3 k u ru => ?_) (Gl.bind k))
    obtain ⟨p', o, o', ep, _, hg, cs, k⟩ := getD_rep e3.s ((rv.le e2.le).le e3.le) (rw'.le e3.le) k
    cases ep
    refine ⟨o', hg, ?_⟩
    rcases cs with ⟨rfl, rfl⟩ | ⟨d, v, rfl, rfl, rd⟩
    · exact Gl.val e3.s ru k
    · exact Gl.val e3.s rd k
  · exact k.elim
theorem de_get1 (hu : X.A.units + 1 < cLine) (d1 : DE X W o f) (d2 : DE X W e g) (m : M1 X o "get" apos e cpos) : DE X W (.Call (.Attribute o "get" apos) [e] [] cpos) (vGet1 (vDic f) g) := by
  obtain ⟨t1, p1, h1⟩ := d1
  obtain ⟨t2, p2, h2⟩ := d2
  refine ⟨_, pe_dget1 hu p1 p2 m, fun G H σ ρ Q s e hh => ?_⟩
  have hh' : GlE X.mg W G H σ Q (f ρ >>= fun d => dicOf d >>= fun d => g ρ >>= fun k => getD? d k >>= fun o => .ok (o.getD .non)) := by
    unfold vGet1 vDic at hh
    cases q : f ρ <;> rw [q] at hh <;> exact hh
  refine h1 G H σ ρ _ s e (Gl.imp (fun x G1 H1 _ e1 k v rv => ?_) (Gl.bind hh'))
  unfold dicOf at k
  split at k
  · rename_i hd
    obtain ⟨p, rfl, hp⟩ := isD_dic e1.s rv hd
    refine ⟨p, rfl, hp, ?_⟩
    refine h2 G1 H1 σ ρ _ e1.s (e.le e1.le) (Gl.imp (fun y G2 H2 _ e2 k w rw' => ?_) (Gl.bind k))
    obtain ⟨p', o, o', ep, _, hg, cs, k⟩ := getD_rep e2.s (rv.le e2.le) rw' k
    cases ep
    refine ⟨o', hg, ?_⟩
    rcases cs with ⟨rfl, rfl⟩ | ⟨d, v, rfl, rfl, rd⟩
    · exact Gl.val (d := .non) e2.s rfl k
    · exact Gl.val e2.s rd k
  · exact k.elim
end
end DL

/-! DL4: what is walked, targets, comprehensions. -/
namespace DL
open PySem PySem.Spec PyProof.Rows L2

/-! ### canonical readings -/
def rdE (mg : Str → Option Value) (W : WX) (f : Env → Res D) : TE := fun σ H Q => ∃ G ρ, Sub G H ∧ EnvR G σ ρ ∧ GlE mg W G H σ Q (f ρ)
def rdT (mg : Str → Option Value) (W : WX) (f : Env → Res Bool) : TT := fun σ H Q => ∃ G ρ, Sub G H ∧ EnvR G σ ρ ∧ GlT mg W G H σ Q (f ρ)
section
variable {X : Cx} {W : WX} {e : Expr}
theorem DE.pe {f : Env → Res D} (d : DE X W e f) : PE X e (rdE X.mg W f) := by
  obtain ⟨t, p, h⟩ := d
  exact ⟨fun pins s σ H Q I ⟨G, ρ, sb, er, g⟩ => p.run pins s σ H Q I (h G H σ ρ Q sb er g)⟩
theorem DT.pt {f : Env → Res Bool} (d : DT X W e f) : PT X e (rdT X.mg W f) := by
  obtain ⟨t, p, h⟩ := d
  exact ⟨fun pins s σ H Q I ⟨G, ρ, sb, er, g⟩ => p.run pins s σ H Q I (h G H σ ρ Q sb er g)⟩
end

/-! ### what is walked -/
/-- at any later time the walk J yields the data ds, one by one -/
def ItD (J : It) (G : Hp) (ds : List D) : Prop :=
  ∀ (G2 H2 : Hp) (i : Nat), (∀ a o, G a = some o → G2 a = some o) → Sub G2 H2 →
    (∀ d, ds[i]? = some d → J.go i H2 ∧ ∀ x H', J.yld i H2 x H' → ∃ G', Ext G2 H2 G' H' ∧ Rep G' d x) ∧ (ds.length ≤ i → J.stop i H2)
abbrev GlI (mg : Str → Option Value) (W : WX) (G H : Hp) (σ : L2.St) (R : It → Hp → Prop) : Res (List D) → Prop := Gl mg W G H σ fun ds G' H' => ∀ J, ItD J G' ds → R J H'
def DI (X : Cx) (W : WX) (tg it : Expr) (f : Env → Res (List D)) : Prop :=
  ∃ wi : TI, PI X tg it wi ∧ ∀ (G H : Hp) (σ : L2.St) (ρ : Env) (R : It → Hp → Prop), Sub G H → EnvR G σ ρ → GlI X.mg W G H σ R (f ρ) → wi σ H R
def seqOf : D → Res (List D)
  | .lst xs => .ok xs
  | .tup xs => .ok xs
  | _ => .no
def lstOf : D → Res (List D)
  | .lst xs => .ok xs
  | _ => .no
def iSeq (f : Env → Res D) : Env → Res (List D) := fun ρ => f ρ >>= seqOf
section
variable {K : PySem.W.Frag} {G G2 H2 : Hp} {a : Addr} {vs : List V} {ds : List D}
theorem rd_up (g : ∀ a o, G a = some o → G2 a = some o) {u : HO} (h : Rd G a u) : Rd G2 a u := (Le.of g).1 _ _ h
theorem sqL_one {H : Hp} {xs : List V} (h : Rd H a (.lst vs)) (q : Rd H a (.lst xs)) : xs = vs := by
  have h1 := (Rd.iff (by intro o w z; cases z)).mp h
  have h2 := (Rd.iff (by intro o w z; cases z)).mp q
  rw [h1] at h2; cases h2; rfl
theorem itd_list (h : Rd G a (.lst vs)) (r : Reps G ds vs) : ItD (Itl K a) G ds := by
  intro G2 H2 i g sb
  have h2 := sb.sqL (K := K) (rd_up g h)
  have r2 := r.le (Le.of g)
  refine ⟨fun d e => ?_, fun e => ⟨vs, h2, by rw [r.length]; exact e⟩⟩
  obtain ⟨v, e2, rv⟩ := r2.get e
  refine ⟨⟨vs, v, h2, e2⟩, fun x H' y => ?_⟩
  obtain ⟨rfl, y⟩ := y
  have y := y vs h2
  rw [e2] at y; cases y
  exact ⟨G2, Ext.refl sb, rv⟩
theorem itd_tup (h : G a = some (.tup vs)) (r : Reps G ds vs) : ItD (Itt K a) G ds := by
  intro G2 H2 i g sb
  have h2 := sb.sqT (K := K) (g _ _ h)
  have r2 := r.le (Le.of g)
  refine ⟨fun d e => ?_, fun e => ⟨vs, h2, by rw [r.length]; exact e⟩⟩
  obtain ⟨v, e2, rv⟩ := r2.get e
  refine ⟨⟨vs, v, h2, e2⟩, fun x H' y => ?_⟩
  obtain ⟨rfl, y⟩ := y
  have y := y vs h2
  rw [e2] at y; cases y
  exact ⟨G2, Ext.refl sb, rv⟩
theorem itd_rev (h : Rd G a (.lst vs)) (r : Reps G ds vs) : ItD (Itv K a vs.length) G ds.reverse := by
  intro G2 H2 i g sb
  have h2 := sb.sqL (K := K) (rd_up g h)
  have r2 := (r.le (Le.of g)).reverse
  refine ⟨fun d e => ?_, fun e => ?_⟩
  · obtain ⟨v, e2, rv⟩ := r2.get e
    have hi : i < vs.length := by
      have := (List.getElem?_eq_some_iff.mp e2).1
      simpa using this
    rw [List.getElem?_reverse hi] at e2
    refine ⟨⟨hi, vs, v, h2, e2⟩, fun x H' y => ?_⟩
    obtain ⟨rfl, y⟩ := y
    have y := y vs h2
    rw [e2] at y; cases y
    exact ⟨G2, Ext.refl sb, rv⟩
  · show vs.length ≤ i
    rw [List.length_reverse] at e
    rw [r.length]; exact e
def rangeD (lo : Int) (n : Nat) : List D := (List.range n).map fun (k : Nat) => D.int (lo + (k : Int))
theorem rangeD_get {lo : Int} {n i : Nat} (h : i < n) : (rangeD lo n)[i]? = some (.int (lo + (i : Int))) := by simp [rangeD, h]
theorem itd_rng {lo : Int} {n : Nat} : ItD (Itr lo n) G (rangeD lo n) := by
  intro G2 H2 i g sb
  refine ⟨fun d e => ?_, fun e => by show n ≤ i; simpa [rangeD] using e⟩
  have hi : i < n := by have := (List.getElem?_eq_some_iff.mp e).1; simpa [rangeD] using this
  rw [rangeD_get hi] at e; cases e
  refine ⟨hi, fun x H' y => ?_⟩
  obtain ⟨rfl, rfl⟩ := y
  exact ⟨G2, Ext.refl sb, rfl⟩
def enumD (ds : List D) : List D := ds.zipIdx.map fun p => D.tup [.int (p.2 : Int), p.1]
theorem enumD_get {i : Nat} {d : D} (h : (enumD ds)[i]? = some d) : ∃ x, ds[i]? = some x ∧ d = .tup [.int (i : Int), x] := by
  unfold enumD at h
  rw [List.getElem?_map, Option.map_eq_some_iff] at h
  obtain ⟨p, h1, h2⟩ := h
  rw [List.getElem?_zipIdx, Option.map_eq_some_iff] at h1
  obtain ⟨x, h3, rfl⟩ := h1
  exact ⟨x, h3, by rw [← h2]; simp⟩
theorem itd_enum (h : Rd G a (.lst vs)) (r : Reps G ds vs) : ItD (Ite K a) G (enumD ds) := by
  intro G2 H2 i g sb
  have h2 := sb.sqL (K := K) (rd_up g h)
  have r2 := r.le (Le.of g)
  refine ⟨fun d e => ?_, fun e => ⟨vs, h2, by rw [r.length]; simpa [enumD] using e⟩⟩
  obtain ⟨x, e1, rfl⟩ := enumD_get e
  obtain ⟨v, e2, rv⟩ := r2.get e1
  refine ⟨⟨vs, v, h2, e2⟩, fun w H' y => ?_⟩
  obtain ⟨T, z, rfl, nT, rfl, y⟩ := y
  have y := y vs h2
  rw [e2] at y; cases y
  have ex : Ext G2 H2 (upd G2 T (.tup [.int (i : Int), v])) (upd H2 T (.tup [.int (i : Int), v])) := Ext.new sb nT
  exact ⟨_, ex, T, _, rfl, upd_same, .int (i : Int), [v], rfl, rfl, v, [], rfl, rv.le ex.le, rfl⟩
def zipD : List D → List D → List D
  | x :: r, y :: s => .tup [x, y] :: zipD r s
  | _, _ => []
theorem zipD_get : ∀ {ds es : List D} {i : Nat} {d : D}, (zipD ds es)[i]? = some d → ∃ x y, ds[i]? = some x ∧ es[i]? = some y ∧ d = .tup [x, y]
  | [], _, _, _, h => by simp [zipD] at h
  | _ :: _, [], _, _, h => by simp [zipD] at h
  | x :: r, y :: s, 0, d, h => ⟨x, y, rfl, rfl, by simpa [zipD] using h.symm⟩
  | x :: r, y :: s, i + 1, d, h => by
    obtain ⟨u, w, h1, h2, h3⟩ := zipD_get (ds := r) (es := s) (i := i) (d := d) (by simpa [zipD] using h)
    exact ⟨u, w, by simpa using h1, by simpa using h2, h3⟩
theorem zipD_len : ∀ {ds es : List D}, (zipD ds es).length = min ds.length es.length
  | [], _ => by simp [zipD]
  | _ :: _, [] => by simp [zipD]
  | _ :: r, _ :: s => by simp only [zipD, List.length_cons, zipD_len (ds := r) (es := s)]; omega
theorem itd_zip {b : Addr} {ws : List V} {es : List D} (h : Rd G a (.lst vs)) (r : Reps G ds vs) (hb : Rd G b (.lst ws)) (rb : Reps G es ws) : ItD (Itz K a b) G (zipD ds es) := by
  intro G2 H2 i g sb
  have h2 := sb.sqL (K := K) (rd_up g h)
  have hb2 := sb.sqL (K := K) (rd_up g hb)
  have r2 := r.le (Le.of g)
  have rb2 := rb.le (Le.of g)
  refine ⟨fun d e => ?_, fun e => ⟨vs, ws, h2, hb2, by rw [r.length, rb.length]; rw [zipD_len] at e; omega⟩⟩
  obtain ⟨x, x', e1, e1', rfl⟩ := zipD_get e
  obtain ⟨v, e2, rv⟩ := r2.get e1
  obtain ⟨v', e2', rv'⟩ := rb2.get e1'
  refine ⟨⟨vs, ws, v, v', h2, hb2, e2, e2'⟩, fun w H' y => ?_⟩
  obtain ⟨T, z, z', rfl, nT, rfl, y, y'⟩ := y
  have y := y vs h2
  rw [e2] at y; cases y
  have y' := y' ws hb2
  rw [e2'] at y'; cases y'
  have ex : Ext G2 H2 (upd G2 T (.tup [v, v'])) (upd H2 T (.tup [v, v'])) := Ext.new sb nT
  exact ⟨_, ex, T, _, rfl, upd_same, v, [v'], rfl, rv.le ex.le, v', [], rfl, rv'.le ex.le, rfl⟩
theorem itd_str {x : Str} : ItD (Its x) G (x.cps.toList.map fun c => D.str ⟨#[c]⟩) := by
  intro G2 H2 i g sb
  refine ⟨fun d e => ?_, fun e => by show x.cps.size ≤ i; simpa using e⟩
  rw [List.getElem?_map, Option.map_eq_some_iff] at e
  obtain ⟨c, e1, rfl⟩ := e
  have e2 : x.cps[i]? = some c := by simpa using e1
  have hi : i < x.cps.size := (Array.getElem?_eq_some_iff.mp e2).1
  refine ⟨hi, fun w H' y => ?_⟩
  obtain ⟨rfl, c', e3, rfl⟩ := y
  rw [e2] at e3; cases e3
  exact ⟨G2, Ext.refl sb, rfl⟩
end
def iAny (K : PySem.W.Frag) (tl : TE) : TI := fun σ H R => tl σ H fun x H1 => ∃ a, x = .ref a ∧ (((∃ xs, SqL K H1 a xs) ∧ R (Itl K a) H1) ∨ ((∃ xs, SqT K H1 a xs) ∧ R (Itt K a) H1))
def iRange1 (f : Env → Res D) : Env → Res (List D) := fun ρ => f ρ >>= fun x => match x with
  | .int j => if -(2 ^ 62) ≤ j ∧ j < 2 ^ 62 then .ok (rangeD 0 j.toNat) else .no
  | _ => .no
def iRange2 (f g : Env → Res D) : Env → Res (List D) := fun ρ => f ρ >>= fun x => g ρ >>= fun y => match x, y with
  | .int i, .int j => if -(2 ^ 62) ≤ i ∧ i < 2 ^ 62 ∧ -(2 ^ 62) ≤ j ∧ j < 2 ^ 62 then .ok (rangeD i (j - i).toNat) else .no
  | _, _ => .no
def iEnumD (f : Env → Res D) : Env → Res (List D) := fun ρ => f ρ >>= lstOf >>= fun ds => .ok (enumD ds)
def iRevD (f : Env → Res D) : Env → Res (List D) := fun ρ => f ρ >>= lstOf >>= fun ds => .ok ds.reverse
def iZipD (f g : Env → Res D) : Env → Res (List D) := fun ρ => f ρ >>= fun x => g ρ >>= fun y => lstOf x >>= fun ds => lstOf y >>= fun es => .ok (zipD ds es)
def strOf : D → Res Str
  | .str x => .ok x
  | _ => .no
def iStrD (f : Env → Res D) : Env → Res (List D) := fun ρ => f ρ >>= strOf >>= fun x => .ok (x.cps.toList.map fun c => D.str ⟨#[c]⟩)
theorem Res.assoc {α β γ : Type} (r : Res α) (f : α → Res β) (g : β → Res γ) : (r >>= f >>= g) = (r >>= fun x => f x >>= g) := by cases r <;> rfl
section
variable {X : Cx} {W : WX} {tg e e2 : Expr} {f g : Env → Res D} {p pos : Pos}
theorem pi_any {t : TE} (hl : PE X e t) : PI X tg e (iAny X.K t) := by
  refine ⟨fun pins s σ H R I h => ?_⟩
  refine thn (hl.run pins s σ H _ I h) fun v s1 ⟨x, H1, I1, r1, q1⟩ => ?_
  obtain ⟨a, rfl, q⟩ := q1
  cases r1
  rcases q with ⟨⟨xs, hq⟩, q⟩ | ⟨⟨xs, hq⟩, q⟩
  · obtain ⟨its, rv, p, hz⟩ := I1.list hq
    refine wpAny_pyIter_list p.isList ?_
    refine ⟨s1.heap.objs.size, [s1.heap.objs.size], _, _, H1, rfl, I1.kept (t' := s1.toks) fun b o e => Heap.get?_push_of_some _ e, turn_list a _, ⟨_, Heap.get?_push_size _ rfl, rfl, rfl⟩, fun b hb => ?_, q⟩
    have e : b = s1.heap.objs.size := by simpa using hb
    subst e
    exact I1.fpOk (Nat.le_refl _) (I1.hok.fresh (Nat.le_refl _))
  · obtain ⟨its, rv, p, hz⟩ := I1.tuple hq
    refine wpAny_pyIter_tuple (show s1.heap.IsTuple a its.toArray from p) ?_
    refine ⟨s1.heap.objs.size, [s1.heap.objs.size], _, _, H1, rfl, I1.kept (t' := s1.toks) fun b o e => Heap.get?_push_of_some _ e, turn_tuple a _, ⟨_, Heap.get?_push_size _ rfl, rfl, rfl⟩, fun b hb => ?_, q⟩
    have e : b = s1.heap.objs.size := by simpa using hb
    subst e
    exact I1.fpOk (Nat.le_refl _) (I1.hok.fresh (Nat.le_refl _))
theorem di_seq (d : DE X W e f) : DI X W tg e (iSeq f) := by
  obtain ⟨t, p, h1⟩ := d
  refine ⟨_, pi_any p, fun G H σ ρ R s e h => ?_⟩
  refine h1 G H σ ρ _ s e (Gl.imp (fun x G1 H1 _ e1 k v rv => ?_) (Gl.bind h))
  cases x with
  | lst xs =>
    obtain ⟨a, vs, rfl, h1, q⟩ := rv
    exact ⟨a, rfl, .inl ⟨⟨vs, e1.s.sqL h1⟩, k G1 H1 (Ext.refl e1.s) _ (itd_list h1 q)⟩⟩
  | tup xs =>
    obtain ⟨a, vs, rfl, h1, q⟩ := rv
    exact ⟨a, rfl, .inr ⟨⟨vs, e1.s.sqT h1⟩, k G1 H1 (Ext.refl e1.s) _ (itd_tup h1 q)⟩⟩
  | _ => exact k.elim
theorem di_str (d : DE X W e f) : DI X W tg e (iStrD f) := by
  obtain ⟨t, p, h1⟩ := d
  refine ⟨_, pi_str p, fun G H σ ρ R s e h => ?_⟩
  unfold iStrD at h
  rw [Res.assoc] at h
  refine h1 G H σ ρ _ s e (Gl.imp (fun x G1 H1 _ e1 k v rv => ?_) (Gl.bind h))
  cases x with
  | str x => exact ⟨x, rv, k G1 H1 (Ext.refl e1.s) _ itd_str⟩
  | _ => exact k.elim
theorem di_range1 (hg : L2.Gl X "range") (hm : X.mg "range" = none) (d : DE X W e f) (hs : starEach [e] X.env = [(false, eval e X.env)] := by rfl) : DI X W tg (.Call (.Name "range" p) [e] [] pos) (iRange1 f) := by
  obtain ⟨t, pe, h1⟩ := d
  refine ⟨_, pi_range1 hg hm (pa_cons pe pa_nil hs) hs, fun G H σ ρ R s e h => ?_⟩
  refine h1 G H σ ρ _ s e (Gl.imp (fun x G1 H1 _ e1 k v rv => ?_) (Gl.bind h))
  cases x with
  | int j =>
    have e2 : v = .int j := rv
    subst e2
    simp only at k
    split at k
    · rename_i z
      exact ⟨j, rfl, z.1, z.2, k G1 H1 (Ext.refl e1.s) _ itd_rng⟩
    · exact k.elim
  | _ => exact k.elim
theorem di_range2 (hg : L2.Gl X "range") (hm : X.mg "range" = none) (d : DE X W e f) (d2 : DE X W e2 g) (hs : starEach [e, e2] X.env = [(false, eval e X.env), (false, eval e2 X.env)] := by rfl) (hs2 : starEach [e2] X.env = [(false, eval e2 X.env)] := by rfl) :
    DI X W tg (.Call (.Name "range" p) [e, e2] [] pos) (iRange2 f g) := by
  obtain ⟨t, pe, h1⟩ := d
  obtain ⟨t2, pe2, h2⟩ := d2
  refine ⟨_, pi_range2 hg hm (pa_cons pe (pa_cons pe2 pa_nil hs2) (by rw [hs, hs2])) hs hs2, fun G H σ ρ R s e h => ?_⟩
  refine h1 G H σ ρ _ s e (Gl.imp (fun x G1 H1 _ e1 k v rv => ?_) (Gl.bind h))
  refine h2 G1 H1 σ ρ _ e1.s (e.le e1.le) (Gl.imp (fun y G2 H2 _ e2 k w rw' => ?_) (Gl.bind k))
  cases x with
  | int i =>
    cases y with
    | int j =>
      have e3 : v = .int i := rv
      have e4 : w = .int j := rw'
      subst e3 e4
      simp only at k
      split at k
      · rename_i z
        exact ⟨i, j, rfl, z, k G2 H2 (Ext.refl e2.s) _ itd_rng⟩
      · exact k.elim
    | _ => exact k.elim
  | _ => exact k.elim
theorem di_enum {elts : List Expr} {kk : Nat} {tpos : Pos} (hg : L2.Gl X "enumerate") (hm : X.mg "enumerate" = none) (d : DE X W e f) (hs : starEach [e] X.env = [(false, eval e X.env)] := by rfl) :
    DI X W (.Tuple elts kk tpos) (.Call (.Name "enumerate" p) [e] [] pos) (iEnumD f) := by
  obtain ⟨t, pe, h1⟩ := d
  refine ⟨_, pi_enum hg hm (pa_cons pe pa_nil hs) hs, fun G H σ ρ R s e h => ?_⟩
  unfold iEnumD at h
  rw [Res.assoc] at h
  refine h1 G H σ ρ _ s e (Gl.imp (fun x G1 H1 _ e1 k v rv => ?_) (Gl.bind h))
  cases x with
  | lst xs =>
    obtain ⟨a, vs, rfl, h1, q⟩ := rv
    exact ⟨a, vs, rfl, e1.s.sqL h1, k G1 H1 (Ext.refl e1.s) _ (itd_enum h1 q)⟩
  | _ => exact k.elim
theorem di_rev (hg : L2.Gl X "reversed") (hm : X.mg "reversed" = none) (d : DE X W e f) (hs : starEach [e] X.env = [(false, eval e X.env)] := by rfl) : DI X W tg (.Call (.Name "reversed" p) [e] [] pos) (iRevD f) := by
  obtain ⟨t, pe, h1⟩ := d
  refine ⟨_, pi_reversed hg hm (pa_cons pe pa_nil hs) hs, fun G H σ ρ R s e h => ?_⟩
  unfold iRevD at h
  rw [Res.assoc] at h
  refine h1 G H σ ρ _ s e (Gl.imp (fun x G1 H1 _ e1 k v rv => ?_) (Gl.bind h))
  cases x with
  | lst xs =>
    obtain ⟨a, vs, rfl, h1, q⟩ := rv
    exact ⟨a, vs, rfl, e1.s.sqL h1, k G1 H1 (Ext.refl e1.s) _ (itd_rev h1 q)⟩
  | _ => exact k.elim
theorem di_zip {elts : List Expr} {kk : Nat} {tpos : Pos} (hg : L2.Gl X "zip") (hm : X.mg "zip" = none) (d : DE X W e f) (d2 : DE X W e2 g) (hs : starEach [e, e2] X.env = (false, eval e X.env) :: starEach [e2] X.env := by rfl) (hs2 : starEach [e2] X.env = [(false, eval e2 X.env)] := by rfl)
    (hpl : (backTo pos (starEach [e2] X.env)).any (·.1) = false := by rfl) : DI X W (.Tuple elts kk tpos) (.Call (.Name "zip" p) [e, e2] [] pos) (iZipD f g) := by
  obtain ⟨t, pe, h1⟩ := d
  obtain ⟨t2, pe2, h2⟩ := d2
  refine ⟨_, pi_zip hg hm (pa_cons pe (pa_cons pe2 pa_nil hs2) hs) hs hpl, fun G H σ ρ R s e h => ?_⟩
  refine h1 G H σ ρ _ s e (Gl.imp (fun x G1 H1 _ e1 k v rv => ?_) (Gl.bind h))
  refine h2 G1 H1 σ ρ _ e1.s (e.le e1.le) (Gl.imp (fun y G2 H2 _ e2 k w rw' => ?_) (Gl.bind k))
  have rv := rv.le e2.le
  cases x with
  | lst xs =>
    cases y with
    | lst ys =>
      obtain ⟨a, vs, rfl, h1, q⟩ := rv
      obtain ⟨b, ws, rfl, h2, q2⟩ := rw'
      exact ⟨a, b, vs, ws, rfl, e2.s.sqL h1, e2.s.sqL h2, k G2 H2 (Ext.refl e2.s) _ (itd_zip h1 q h2 q2)⟩
    | _ => exact k.elim
  | _ => exact k.elim
end

/-! ### targets -/
def setE : Env → List Nat → List D → Env
  | ρ, i :: is, d :: ds => setE (ρ.set i (some d)) is ds
  | ρ, _, _ => ρ
def setS : L2.St → List Nat → List V → L2.St
  | σ, i :: is, d :: ds => setS (σ.set i (some d)) is ds
  | σ, _, _ => σ
theorem EnvR.sets {G : Hp} : ∀ {is : List Nat} {ds : List D} {vs : List V} {σ : L2.St} {ρ : Env}, EnvR G σ ρ → Reps G ds vs → EnvR G (setS σ is vs) (setE ρ is ds)
  | [], _, _, _, _, h, _ => by unfold setS setE; exact h
  | i :: is, [], _, _, _, h, r => by rw [show _ = [] from r]; exact h
  | i :: is, d :: ds, _, _, _, h, ⟨v, s, e, r1, r2⟩ => by
    subst e
    show EnvR G (setS (List.set _ i (some v)) is s) (setE (List.set _ i (some d)) is ds)
    exact EnvR.sets (h.set r1) r2
/-- a target: the slots is, what of the value goes there -/
def DG (X : Cx) (tg : Expr) (is : List Nat) (ks : D → Res (List D)) : Prop :=
  ∃ t : TG, PG X tg t ∧ ∀ (G H : Hp) (σ : L2.St) (v : V) (d : D) (Q : L2.St → Hp → Prop) (l : List D), Sub G H → Rep G d v → ks d = .ok l →
    (∀ ws, Reps G l ws → ws.length = is.length → Q (setS σ is ws) H) → t v σ H Q
def DGs (X : Cx) (tg : List Expr) (is : List Nat) (ks : List D → Res (List D)) : Prop :=
  ∃ t : TGs, PGs X tg t ∧ ∀ (G H : Hp) (σ : L2.St) (vs : List V) (ds : List D) (Q : L2.St → Hp → Prop) (l : List D), Sub G H → Reps G ds vs → ks ds = .ok l →
    (∀ ws, Reps G l ws → ws.length = is.length → Q (setS σ is ws) H) → t vs σ H Q
def kName : D → Res (List D) := fun d => .ok [d]
def ksNil : List D → Res (List D) := fun ds => match ds with | [] => .ok [] | _ => .no
def ksCons (k : D → Res (List D)) (ks : List D → Res (List D)) : List D → Res (List D) := fun ds => match ds with
  | d :: r => k d >>= fun l => ks r >>= fun m => .ok (l ++ m)
  | [] => .no
def kTup (n : Nat) (ks : List D → Res (List D)) : D → Res (List D) := fun d => match d with
  | .tup ds => if ds.length = n then ks ds else .no
  | _ => .no
def rdG (is : List Nat) (ks : D → Res (List D)) : TG := fun v σ H Q => ∃ G d l, Sub G H ∧ Rep G d v ∧ ks d = .ok l ∧ ∀ ws, Reps G l ws → ws.length = is.length → Q (setS σ is ws) H
theorem setS_app : ∀ {is js : List Nat} {vs ws : List V} {σ : L2.St}, vs.length = is.length → setS σ (is ++ js) (vs ++ ws) = setS (setS σ is vs) js ws
  | [], _, [], _, _, _ => rfl
  | [], _, _ :: _, _, _, h => by simp at h
  | _ :: _, _, [], _, _, h => by simp at h
  | i :: is, js, v :: vs, ws, σ, h => by
    show setS (σ.set i (some v)) (is ++ js) (vs ++ ws) = _
    rw [setS_app (by simpa using h)]
    rfl
section
variable {X : Cx} {pos : Pos}
theorem DG.pg {tg : Expr} {is : List Nat} {ks : D → Res (List D)} (d : DG X tg is ks) : PG X tg (rdG is ks) := by
  obtain ⟨t, p, h⟩ := d
  exact ⟨fun pins s σ H v u Q I r ⟨G, d, l, sb, rd, e, k⟩ => p.run pins s σ H v u Q I r (h G H σ v d Q l sb rd e k)⟩
theorem dg_name {i : Nat} {x : Str} (p : PG X (.Name x pos) (gName i)) : DG X (.Name x pos) [i] kName := by
  refine ⟨_, p, fun G H σ v d Q l s r h k => ?_⟩
  have e : [d] = l := by simpa [kName] using h
  subst e
  exact k [v] ⟨v, [], rfl, r, rfl⟩ rfl
theorem dgs_nil : DGs X [] [] ksNil := by
  refine ⟨_, pgs_nil, fun G H σ vs ds Q l s r h k => ?_⟩
  unfold ksNil at h
  split at h
  · have e : [] = l := by simpa using h
    subst e
    exact ⟨r, k [] rfl rfl⟩
  · cases h
theorem dgs_cons {e : Expr} {es : List Expr} {is js : List Nat} {k1 : D → Res (List D)} {k2 : List D → Res (List D)} (d1 : DG X e is k1) (d2 : DGs X es js k2)
    (hs : (assignEach (e :: es) X.env).map (·.2) = assign e X.env :: (assignEach es X.env).map (·.2) := by rfl) : DGs X (e :: es) (is ++ js) (ksCons k1 k2) := by
  obtain ⟨t1, p1, h1⟩ := d1
  obtain ⟨t2, p2, h2⟩ := d2
  refine ⟨_, pgs_cons p1 p2 hs, fun G H σ vs ds Q l s r h k => ?_⟩
  unfold ksCons at h
  split at h
  · rename_i d ds
    obtain ⟨v, vs', ev, rv, rvs⟩ := r
    cases q1 : k1 d with
    | ok l1 =>
      rw [q1] at h
      cases q2 : k2 ds with
      | ok l2 =>
        rw [Res.bind_ok, q2] at h
        have e : l1 ++ l2 = l := by simpa using h
        subst e
        refine ⟨v, vs', ev, h1 G H σ v d _ l1 s rv q1 fun ws rw1 n1 => ?_⟩
        refine h2 G H _ vs' ds Q l2 s rvs q2 fun ws2 rw2 n2 => ?_
        have := k (ws ++ ws2) (rw1.append rw2) (by simp [n1, n2])
        rw [setS_app n1] at this
        exact this
      | ex c => rw [Res.bind_ok, q2] at h; cases h
      | no => rw [Res.bind_ok, q2] at h; cases h
    | ex c => rw [q1] at h; cases h
    | no => rw [q1] at h; cases h
  · cases h
theorem dg_tup {es : List Expr} {kk n : Nat} {is : List Nat} {ks : List D → Res (List D)} (hc : X.calm = true) (d : DGs X es is ks) (hn : (assignEach es X.env).length = n := by rfl) (hst : (assignEach es X.env).findIdx? (·.1) = none := by rfl) : DG X (.Tuple es kk pos) is (kTup n ks) := by
  obtain ⟨t, p, h1⟩ := d
  refine ⟨_, pg_tup hc p hn hst, fun G H σ v d Q l s r h k => ?_⟩
  unfold kTup at h
  split at h
  · rename_i ds
    split at h
    · rename_i z
      obtain ⟨a, vs, rfl, h2, q⟩ := r
      exact ⟨a, vs, rfl, s.sqT h2, by rw [q.length]; exact z, h1 G H σ vs ds Q l s q h k⟩
    · cases h
  · cases h
end

/-! ### list comprehensions -/
def wipeE (ρ : Env) : List Nat → Env
  | [] => ρ
  | v :: vs => (wipeE ρ vs).set v none
theorem EnvR.wipe {G : Hp} {σ : L2.St} {ρ : Env} (h : EnvR G σ ρ) : ∀ vs, EnvR G (L2.wipe σ vs) (wipeE ρ vs)
  | [] => h
  | v :: vs => (EnvR.wipe h vs).unset
theorem wipe_set_in {σ : L2.St} {i : Nat} {x : Option V} : ∀ {vs : List Nat}, i ∈ vs → L2.wipe (σ.set i x) vs = L2.wipe σ vs
  | [], h => by cases h
  | v :: vs, h => by
    unfold L2.wipe
    by_cases hm : i ∈ vs
    · rw [wipe_set_in hm]
    · have e : i = v := by
        rcases List.mem_cons.mp h with e | e
        · exact e
        · exact absurd e hm
      subst e
      have q : ∀ {ws : List Nat} {τ : L2.St}, i ∉ ws → L2.wipe (τ.set i x) ws = (L2.wipe τ ws).set i x := by
        intro ws
        induction ws with
        | nil => intro τ _; rfl
        | cons w ws ih =>
          intro τ hn
          simp only [List.mem_cons, not_or] at hn
          unfold L2.wipe
          rw [ih hn.2, List.set_comm _ _ hn.1]
      rw [q hm, List.set_set]
theorem wipe_sets {vs : List Nat} : ∀ {is : List Nat} {ws : List V} {σ : L2.St}, (∀ i ∈ is, i ∈ vs) → L2.wipe (setS σ is ws) vs = L2.wipe σ vs
  | [], _, _, _ => by unfold setS; rfl
  | i :: is, [], _, _ => rfl
  | i :: is, w :: ws, σ, h => by
    show L2.wipe (setS (σ.set i (some w)) is ws) vs = _
    rw [wipe_sets fun j hj => h j (List.mem_cons_of_mem _ hj), wipe_set_in (h i List.mem_cons_self)]
theorem wipe_set_none {σ : L2.St} {v : Nat} : ∀ {vs : List Nat}, (L2.wipe σ vs).set v none = L2.wipe (σ.set v none) vs
  | [] => rfl
  | w :: vs => by
    unfold L2.wipe
    by_cases e : v = w
    · subst e; rw [List.set_set, ← wipe_set_none, List.set_set]
    · rw [List.set_comm _ _ (Ne.symm e), wipe_set_none]
theorem wipe_wipe {σ : L2.St} : ∀ {vs : List Nat}, L2.wipe (L2.wipe σ vs) vs = L2.wipe σ vs
  | [] => rfl
  | v :: vs => by
    show (L2.wipe ((L2.wipe σ vs).set v none) vs).set v none = (L2.wipe σ vs).set v none
    rw [← wipe_set_none (σ := L2.wipe σ vs), List.set_set, wipe_wipe]
/-- no exception is let out -/
def noEx {α : Type} : Res α → Res α
  | .ok a => .ok a
  | _ => .no
def compL (is : List Nat) (ks : D → Res (List D)) (ft : Env → Res Bool) (fe : Env → Res D) (ρ : Env) : List D → Res (List D)
  | [] => .ok []
  | d :: r => ks d >>= fun l => noEx (ft (setE ρ is l)) >>= fun b => if b = true then noEx (fe (setE ρ is l)) >>= fun y => compL is ks ft fe ρ r >>= fun ys => .ok (y :: ys) else compL is ks ft fe ρ r
def nComp (fi : Env → Res (List D)) (is : List Nat) (ks : D → Res (List D)) (ft : Env → Res Bool) (fe : Env → Res D) (vs : List Nat) : Env → Res (List D) := fun ρ =>
  fi ρ >>= fun ds => noEx (compL is ks ft fe (wipeE ρ vs) ds) >>= fun ys => if ys.length ≤ sizeLine then .ok ys else .no
def DTs (X : Cx) (W : WX) (es : List Expr) (f : Env → Res Bool) : Prop :=
  ∃ t : TT, PTs X es t ∧ ∀ (G H : Hp) (σ : L2.St) (ρ : Env) (Q : Bool → Hp → Prop), Sub G H → EnvR G σ ρ → GlT X.mg W G H σ Q (f ρ) → t σ H Q
def tTrue : Env → Res Bool := fun _ => .ok true
theorem dts_nil {X : Cx} {W : WX} : DTs X W [] tTrue := ⟨_, pts_nil, fun G H σ ρ Q s e h => h G H (Ext.refl s)⟩
theorem dts_one {X : Cx} {W : WX} {c : Expr} {f : Env → Res Bool} (d : DT X W c f) : DTs X W [c] f := let ⟨t, p, h⟩ := d; ⟨t, pts_one p, h⟩
theorem DTs.pts {X : Cx} {W : WX} {es : List Expr} {f : Env → Res Bool} (d : DTs X W es f) : PTs X es (rdT X.mg W f) := by
  obtain ⟨t, p, h⟩ := d
  exact ⟨fun pins s σ H Q I ⟨G, ρ, sb, er, g⟩ => p.run pins s σ H Q I (h G H σ ρ Q sb er g)⟩
theorem noEx_ok {α : Type} {r : Res α} {a : α} (h : noEx r = .ok a) : r = .ok a := by cases r <;> simp_all [noEx]
theorem bind_ok' {α β : Type} {r : Res α} {f : α → Res β} {b : β} (h : (r >>= f) = .ok b) : ∃ a, r = .ok a ∧ f a = .ok b := by
  cases r with
  | ok a => exact ⟨a, rfl, h⟩
  | ex c => cases h
  | no => cases h
abbrev W0 : WX := fun _ _ _ _ => False
theorem lc_run {X : Cx} {W : WX} {is vs : List Nat} {ks : D → Res (List D)} {ft : Env → Res Bool} {fe : Env → Res D} {G1 H1 : Hp} {σ : L2.St} {ρ : Env} {Q : VK} {J : It} {ds ys : List D} {Da : Addr}
    (hv : ∀ i ∈ is, i ∈ vs) (er : EnvR G1 σ ρ) (sb : Sub G1 H1) (hJ : ItD J G1 ds) (nDa : H1 Da = none) (hl : compL is ks ft fe (wipeE ρ vs) ds = .ok ys) (hz : ys.length ≤ sizeLine)
    (hQ : ∀ G' H' acc, Ext G1 H1 G' H' → G' Da = none → H' Da = some (.lst acc) → Reps G' ys acc → Q (.ref Da) H') :
    ∃ W : Nat → Nat → Hp → Prop, (∃ m, W 0 m (upd H1 Da (.lst []))) ∧ ∀ i m H, W i m H →
      (J.stop i H ∧ Q (.ref Da) H) ∨ (J.go i H ∧ ∃ Nx : Hp → Prop, (∀ H', Nx H' → ∃ m', m' < m ∧ W (i + 1) m' H') ∧ ∀ x H', J.yld i H x H' → rdG is ks x (wipe σ vs) H' fun σ2 H2 => wipe σ2 vs = wipe σ vs ∧ rdT X.mg W0 ft σ2 H2 fun b H3 =>
        if b = true then rdE X.mg W0 fe σ2 H3 fun y H4 => ∃ acc, H4 Da = some (.lst acc) ∧ acc.length < sizeLine ∧ Nx (upd H4 Da (.lst (acc ++ [y]))) else Nx H3) := by
  let Iv : Nat → Hp → Prop := fun i H => ∃ G acc accD rest, Ext G1 H1 G H ∧ G Da = none ∧ H Da = some (.lst acc) ∧ Reps G accD acc ∧ compL is ks ft fe (wipeE ρ vs) (ds.drop i) = .ok rest ∧ accD ++ rest = ys ∧ i ≤ ds.length
  refine ⟨fun i m H => m = ds.length - i ∧ Iv i H, ⟨ds.length, by simp, G1, [], [], ys, Ext.hid sb nDa, ?_, upd_same, rfl, hl, rfl, Nat.zero_le _⟩, ?_⟩
  · cases q : G1 Da with
    | none => rfl
    | some o => rw [sb _ _ q] at nDa; cases nDa
  rintro i m H ⟨rfl, G, acc, accD, rest, ex, gD, hD, ra, hc, hy, hi⟩
  by_cases hlt : i < ds.length
  · refine .inr ?_
    have hd : ds.drop i = ds[i] :: ds.drop (i + 1) := List.drop_eq_getElem_cons hlt
    rw [hd] at hc
    obtain ⟨l, e1, hc⟩ := bind_ok' hc
    obtain ⟨b, e2, hc⟩ := bind_ok' hc
    have e2 := noEx_ok e2
    obtain ⟨go, yl⟩ := (hJ G H i ex.g ex.s).1 ds[i] (by simp [hlt])
    refine ⟨go, Iv (i + 1), fun H' iv => ⟨ds.length - (i + 1), by omega, rfl, iv⟩, fun x H2 y => ?_⟩
    obtain ⟨G2, ex2, rx⟩ := yl x H2 y
    have hD2 : H2 Da = some (.lst acc) := ex2.h _ _ hD
    refine ⟨G2, ds[i], l, ex2.s, rx, e1, fun ws rws nws => ⟨by rw [wipe_sets hv, wipe_wipe], ?_⟩⟩
    have er2 : EnvR G2 (setS (wipe σ vs) is ws) (setE (wipeE ρ vs) is l) := (((er.le ex.le).le ex2.le).wipe vs).sets rws
    refine ⟨G2, _, ex2.s, er2, ?_⟩
    rw [e2]
    intro G3 H3 ex3
    have hD3 : H3 Da = some (.lst acc) := ex3.h _ _ hD2
    have exA : Ext G H G3 H3 := ex2.trans ex3
    have nD : ∀ {G4 H4 : Hp}, Ext G H G4 H4 → G4 Da = none := fun {G4 H4} e4 => by
      cases q : G4 Da with
      | none => rfl
      | some o =>
        rcases e4.n _ _ q with z | z | ⟨_, z⟩
        · rw [gD] at z; cases z
        · rw [hD] at z; cases z
        · have z2 := e4.s _ _ q
          rw [e4.h _ _ hD] at z2; cases z2; cases z
    cases b with
    | false =>
      show ite _ _ _
      rw [if_neg Bool.false_ne_true]
      exact ⟨G3, acc, accD, rest, ex.trans exA, nD exA, hD3, ra.le exA.le, hc, hy, hlt⟩
    | true =>
      show ite _ _ _
      rw [if_pos rfl] at hc ⊢
      obtain ⟨y, e3, hc⟩ := bind_ok' hc
      have e3 := noEx_ok e3
      obtain ⟨ys', e4, hc⟩ := bind_ok' hc
      have e5 : y :: ys' = rest := by simpa using hc
      subst e5
      refine ⟨G3, _, ex3.s, er2.le ex3.le, ?_⟩
      rw [e3]
      intro G4 H4 ex4 v rv
      have exB : Ext G H G4 H4 := exA.trans ex4
      have hD4 : H4 Da = some (.lst acc) := ex4.h _ _ hD3
      refine ⟨acc, hD4, ?_, G4, acc ++ [v], accD ++ [y], ys', ?_, nD exB, upd_same, (ra.le exB.le).append (.one rv), e4, by simpa using hy, hlt⟩
      · have h1 := ra.length
        have h2 : ys.length = accD.length + (ys'.length + 1) := by rw [← hy]; simp
        omega
      · have exC := ex.trans exB
        refine ⟨fun a o q => ?_, exC.g, fun a o q => ?_, exC.n⟩
        · rw [upd_ne (ne_of_none q nDa)]; exact exC.h a o q
        · have : a ≠ Da := fun z => by subst z; rw [nD exB] at q; cases q
          rw [upd_ne this]; exact exC.s a o q
  · refine .inl ⟨(hJ G H i ex.g ex.s).2 (by omega), ?_⟩
    have e : i = ds.length := by omega
    subst e
    rw [List.drop_length] at hc
    have e2 : [] = rest := by simpa [compL] using hc
    subst e2
    rw [List.append_nil] at hy
    subst hy
    exact hQ G H acc ex gD hD ra
end DL

/-! DL5: statements. Slots hold data; some slots own their list or dict (nobody else reads it), and may change it. -/
namespace DL
open PySem PySem.Spec PyProof.Rows L2

/-! ### owned data -/
inductive Kd where
  /-- the list or dict itself is owned, its items stand in the region -/
  | sh
  /-- every list and dict within is owned -/
  | dp
  deriving DecidableEq
mutual
/-- d stands at v by lists and dicts at fp alone, each once, and tuples -/
def RepO (H : Hp) : D → V → List Addr → Prop
  | .non, v, fp => v = .non ∧ fp = []
  | .bl b, v, fp => v = .bl b ∧ fp = []
  | .int i, v, fp => v = .int i ∧ fp = []
  | .str x, v, fp => v = .str x ∧ fp = []
  | .tup ds, v, fp => ∃ a vs, v = .ref a ∧ H a = some (.tup vs) ∧ RepOs H ds vs fp
  | .lst ds, v, fp => ∃ a vs fq, v = .ref a ∧ H a = some (.lst vs) ∧ fp = a :: fq ∧ RepOs H ds vs fq
  | .dK kvs, v, fp => ∃ a ws fq, v = .ref a ∧ H a = some (.dK ws) ∧ fp = a :: fq ∧ RepOK H kvs ws fq
  | .dT kvs, v, fp => ∃ a ws fq, v = .ref a ∧ H a = some (.dT ws) ∧ fp = a :: fq ∧ RepOT H kvs ws fq
def RepOs (H : Hp) : List D → List V → List Addr → Prop
  | [], vs, fp => vs = [] ∧ fp = []
  | d :: r, vs, fp => ∃ v s f1 f2, vs = v :: s ∧ fp = f1 ++ f2 ∧ RepO H d v f1 ∧ RepOs H r s f2
def RepOK (H : Hp) : List (Key × D) → List (Key × V) → List Addr → Prop
  | [], vs, fp => vs = [] ∧ fp = []
  | (k, d) :: r, vs, fp => ∃ v s f1 f2, vs = (k, v) :: s ∧ fp = f1 ++ f2 ∧ RepO H d v f1 ∧ RepOK H r s f2
def RepOT (H : Hp) : List (List Key × D) → List (List Key × V) → List Addr → Prop
  | [], vs, fp => vs = [] ∧ fp = []
  | (k, d) :: r, vs, fp => ∃ v s f1 f2, vs = (k, v) :: s ∧ fp = f1 ++ f2 ∧ RepO H d v f1 ∧ RepOT H r s f2
end
/-- what stands at fp, and all tuples, stand in H' too -/
structure At (H H' : Hp) (fp : List Addr) : Prop where
  a : ∀ p ∈ fp, H' p = H p
  t : ∀ a vs, H a = some (.tup vs) → H' a = some (.tup vs)
theorem At.l {H H' : Hp} {f1 f2 : List Addr} (h : At H H' (f1 ++ f2)) : At H H' f1 := ⟨fun p hp => h.a p (List.mem_append_left _ hp), h.t⟩
theorem At.r {H H' : Hp} {f1 f2 : List Addr} (h : At H H' (f1 ++ f2)) : At H H' f2 := ⟨fun p hp => h.a p (List.mem_append_right _ hp), h.t⟩
theorem At.tl {H H' : Hp} {p : Addr} {f2 : List Addr} (h : At H H' (p :: f2)) : At H H' f2 := ⟨fun q hq => h.a q (List.mem_cons_of_mem _ hq), h.t⟩
mutual
theorem RepO.at {H H' : Hp} : ∀ {d : D} {v : V} {fp : List Addr}, At H H' fp → RepO H d v fp → RepO H' d v fp
  | .non, _, _, _, h => h
  | .bl _, _, _, _, h => h
  | .int _, _, _, _, h => h
  | .str _, _, _, _, h => h
  | .tup ds, _, _, l, ⟨a, vs, e, h, r⟩ => ⟨a, vs, e, l.t _ _ h, RepOs.at l r⟩
  | .lst ds, _, _, l, ⟨a, vs, fq, e, h, ef, r⟩ => by subst ef; exact ⟨a, vs, fq, e, (l.a a List.mem_cons_self).trans h, rfl, RepOs.at l.tl r⟩
  | .dK kvs, _, _, l, ⟨a, vs, fq, e, h, ef, r⟩ => by subst ef; exact ⟨a, vs, fq, e, (l.a a List.mem_cons_self).trans h, rfl, RepOK.at l.tl r⟩
  | .dT kvs, _, _, l, ⟨a, vs, fq, e, h, ef, r⟩ => by subst ef; exact ⟨a, vs, fq, e, (l.a a List.mem_cons_self).trans h, rfl, RepOT.at l.tl r⟩
theorem RepOs.at {H H' : Hp} : ∀ {ds : List D} {vs : List V} {fp : List Addr}, At H H' fp → RepOs H ds vs fp → RepOs H' ds vs fp
  | [], _, _, _, h => h
  | d :: r, _, _, l, ⟨v, s, f1, f2, e, ef, h, q⟩ => by subst ef; exact ⟨v, s, f1, f2, e, rfl, RepO.at l.l h, RepOs.at l.r q⟩
theorem RepOK.at {H H' : Hp} : ∀ {ds : List (Key × D)} {vs : List (Key × V)} {fp : List Addr}, At H H' fp → RepOK H ds vs fp → RepOK H' ds vs fp
  | [], _, _, _, h => h
  | (k, d) :: r, _, _, l, ⟨v, s, f1, f2, e, ef, h, q⟩ => by subst ef; exact ⟨v, s, f1, f2, e, rfl, RepO.at l.l h, RepOK.at l.r q⟩
theorem RepOT.at {H H' : Hp} : ∀ {ds : List (List Key × D)} {vs : List (List Key × V)} {fp : List Addr}, At H H' fp → RepOT H ds vs fp → RepOT H' ds vs fp
  | [], _, _, _, h => h
  | (k, d) :: r, _, _, l, ⟨v, s, f1, f2, e, ef, h, q⟩ => by subst ef; exact ⟨v, s, f1, f2, e, rfl, RepO.at l.l h, RepOT.at l.r q⟩
end
mutual
/-- owned data are data of the region that holds fp and the tuples -/
theorem RepO.rep {H G : Hp} : ∀ {d : D} {v : V} {fp : List Addr}, At H G fp → RepO H d v fp → Rep G d v
  | .non, _, _, _, h => h.1
  | .bl _, _, _, _, h => h.1
  | .int _, _, _, _, h => h.1
  | .str _, _, _, _, h => h.1
  | .tup ds, _, _, l, ⟨a, vs, e, h, r⟩ => ⟨a, vs, e, l.t _ _ h, RepOs.rep l r⟩
  | .lst ds, _, _, l, ⟨a, vs, fq, e, h, ef, r⟩ => by subst ef; exact ⟨a, vs, e, .inl ((l.a a List.mem_cons_self).trans h), RepOs.rep l.tl r⟩
  | .dK kvs, _, _, l, ⟨a, vs, fq, e, h, ef, r⟩ => by subst ef; exact ⟨a, vs, e, .inl ((l.a a List.mem_cons_self).trans h), RepOK.rep l.tl r⟩
  | .dT kvs, _, _, l, ⟨a, vs, fq, e, h, ef, r⟩ => by subst ef; exact ⟨a, vs, e, .inl ((l.a a List.mem_cons_self).trans h), RepOT.rep l.tl r⟩
theorem RepOs.rep {H G : Hp} : ∀ {ds : List D} {vs : List V} {fp : List Addr}, At H G fp → RepOs H ds vs fp → Reps G ds vs
  | [], _, _, _, h => h.1
  | d :: r, _, _, l, ⟨v, s, f1, f2, e, ef, h, q⟩ => by subst ef; exact ⟨v, s, e, RepO.rep l.l h, RepOs.rep l.r q⟩
theorem RepOK.rep {H G : Hp} : ∀ {ds : List (Key × D)} {vs : List (Key × V)} {fp : List Addr}, At H G fp → RepOK H ds vs fp → RepK G ds vs
  | [], _, _, _, h => h.1
  | (k, d) :: r, _, _, l, ⟨v, s, f1, f2, e, ef, h, q⟩ => by subst ef; exact ⟨v, s, e, RepO.rep l.l h, RepOK.rep l.r q⟩
theorem RepOT.rep {H G : Hp} : ∀ {ds : List (List Key × D)} {vs : List (List Key × V)} {fp : List Addr}, At H G fp → RepOT H ds vs fp → RepT G ds vs
  | [], _, _, _, h => h.1
  | (k, d) :: r, _, _, l, ⟨v, s, f1, f2, e, ef, h, q⟩ => by subst ef; exact ⟨v, s, e, RepO.rep l.l h, RepOT.rep l.r q⟩
end
mutual
/-- each of fp holds a list or a dict -/
theorem RepO.mut {H : Hp} : ∀ {d : D} {v : V} {fp : List Addr}, RepO H d v fp → ∀ p ∈ fp, Mut (H p)
  | .non, _, _, h, p, hp => by rw [h.2] at hp; cases hp
  | .bl _, _, _, h, p, hp => by rw [h.2] at hp; cases hp
  | .int _, _, _, h, p, hp => by rw [h.2] at hp; cases hp
  | .str _, _, _, h, p, hp => by rw [h.2] at hp; cases hp
  | .tup ds, _, _, ⟨a, vs, e, h, r⟩, p, hp => RepOs.mut r p hp
  | .lst ds, _, _, ⟨a, vs, fq, e, h, ef, r⟩, p, hp => by
    subst ef
    rcases List.mem_cons.mp hp with z | hp
    · subst z; rw [h]; trivial
    · exact RepOs.mut r p hp
  | .dK kvs, _, _, ⟨a, vs, fq, e, h, ef, r⟩, p, hp => by
    subst ef
    rcases List.mem_cons.mp hp with z | hp
    · subst z; rw [h]; trivial
    · exact RepOK.mut r p hp
  | .dT kvs, _, _, ⟨a, vs, fq, e, h, ef, r⟩, p, hp => by
    subst ef
    rcases List.mem_cons.mp hp with z | hp
    · subst z; rw [h]; trivial
    · exact RepOT.mut r p hp
theorem RepOs.mut {H : Hp} : ∀ {ds : List D} {vs : List V} {fp : List Addr}, RepOs H ds vs fp → ∀ p ∈ fp, Mut (H p)
  | [], _, _, h, p, hp => by rw [h.2] at hp; cases hp
  | d :: r, _, _, ⟨v, s, f1, f2, e, ef, h, q⟩, p, hp => by
    subst ef
    rcases List.mem_append.mp hp with hp | hp
    · exact RepO.mut h p hp
    · exact RepOs.mut q p hp
theorem RepOK.mut {H : Hp} : ∀ {ds : List (Key × D)} {vs : List (Key × V)} {fp : List Addr}, RepOK H ds vs fp → ∀ p ∈ fp, Mut (H p)
  | [], _, _, h, p, hp => by rw [h.2] at hp; cases hp
  | (k, d) :: r, _, _, ⟨v, s, f1, f2, e, ef, h, q⟩, p, hp => by
    subst ef
    rcases List.mem_append.mp hp with hp | hp
    · exact RepO.mut h p hp
    · exact RepOK.mut q p hp
theorem RepOT.mut {H : Hp} : ∀ {ds : List (List Key × D)} {vs : List (List Key × V)} {fp : List Addr}, RepOT H ds vs fp → ∀ p ∈ fp, Mut (H p)
  | [], _, _, h, p, hp => by rw [h.2] at hp; cases hp
  | (k, d) :: r, _, _, ⟨v, s, f1, f2, e, ef, h, q⟩, p, hp => by
    subst ef
    rcases List.mem_append.mp hp with hp | hp
    · exact RepO.mut h p hp
    · exact RepOT.mut q p hp
end
mutual
theorem RepO.of_imm {H : Hp} : ∀ {d : D} {v : V}, imm d = true → Rep H d v → RepO H d v []
  | .non, _, _, h => ⟨h, rfl⟩
  | .bl _, _, _, h => ⟨h, rfl⟩
  | .int _, _, _, h => ⟨h, rfl⟩
  | .str _, _, _, h => ⟨h, rfl⟩
  | .tup ds, _, i, ⟨a, vs, e, h, r⟩ => ⟨a, vs, e, h, RepOs.of_imm (by simpa [DL.imm] using i) r⟩
  | .lst ds, _, i, _ => by simp [DL.imm] at i
  | .dK kvs, _, i, _ => by simp [DL.imm] at i
  | .dT kvs, _, i, _ => by simp [DL.imm] at i
theorem RepOs.of_imm {H : Hp} : ∀ {ds : List D} {vs : List V}, imms ds = true → Reps H ds vs → RepOs H ds vs []
  | [], _, _, h => ⟨h, rfl⟩
  | d :: r, _, i, ⟨v, s, e, h, q⟩ => by
    have j := i
    simp only [imms, Bool.and_eq_true] at j
    exact ⟨v, s, [], [], e, rfl, RepO.of_imm j.1 h, RepOs.of_imm j.2 q⟩
end
/-- the list or dict at p itself, its items in the region -/
def OwnS (G H : Hp) (p : Addr) : D → Prop
  | .lst ds => ∃ vs, H p = some (.lst vs) ∧ Reps G ds vs
  | .dK kvs => ∃ ws, H p = some (.dK ws) ∧ RepK G kvs ws
  | .dT kvs => ∃ ws, H p = some (.dT ws) ∧ RepT G kvs ws
  | _ => False
def OwnK (k : Kd) (G H : Hp) (d : D) (v : V) (fp : List Addr) : Prop := match k with
  | .sh => ∃ p, v = .ref p ∧ fp = [p] ∧ OwnS G H p d
  | .dp => RepO H d v fp ∧ fp.Nodup
theorem OwnS.at {G G' H H' : Hp} {p : Addr} {d : D} (l : Le G G') (e : H' p = H p) (h : OwnS G H p d) : OwnS G' H' p d := by
  cases d with
  | lst ds => obtain ⟨vs, h1, h2⟩ := h; exact ⟨vs, e.trans h1, h2.le l⟩
  | dK ds => obtain ⟨vs, h1, h2⟩ := h; exact ⟨vs, e.trans h1, h2.le l⟩
  | dT ds => obtain ⟨vs, h1, h2⟩ := h; exact ⟨vs, e.trans h1, h2.le l⟩
  | _ => exact h.elim
theorem OwnK.at {k : Kd} {G G' H H' : Hp} {d : D} {v : V} {fp : List Addr} (l : Le G G') (a : At H H' fp) (h : OwnK k G H d v fp) : OwnK k G' H' d v fp := by
  cases k with
  | sh => obtain ⟨p, e, ef, h⟩ := h; subst ef; exact ⟨p, e, rfl, h.at l (a.a p List.mem_cons_self)⟩
  | dp => exact ⟨h.1.at a, h.2⟩
theorem OwnK.rep {k : Kd} {G G' H : Hp} {d : D} {v : V} {fp : List Addr} (l : Le G G') (a : At H G' fp) (h : OwnK k G H d v fp) : Rep G' d v := by
  cases k with
  | sh =>
    obtain ⟨p, e, ef, h⟩ := h
    subst ef
    have ep := a.a p List.mem_cons_self
    cases d with
    | lst ds => obtain ⟨vs, h1, h2⟩ := h; exact ⟨p, vs, e, .inl (ep.trans h1), h2.le l⟩
    | dK ds => obtain ⟨vs, h1, h2⟩ := h; exact ⟨p, vs, e, .inl (ep.trans h1), h2.le l⟩
    | dT ds => obtain ⟨vs, h1, h2⟩ := h; exact ⟨p, vs, e, .inl (ep.trans h1), h2.le l⟩
    | _ => exact h.elim
  | dp => exact h.1.rep a
theorem OwnK.mut {k : Kd} {G H : Hp} {d : D} {v : V} {fp : List Addr} (h : OwnK k G H d v fp) : ∀ p ∈ fp, Mut (H p) := by
  cases k with
  | sh =>
    obtain ⟨p, e, ef, h⟩ := h
    subst ef
    intro q hq
    have : q = p := by simpa using hq
    subst this
    cases d with
    | lst ds => obtain ⟨vs, h1, h2⟩ := h; rw [h1]; trivial
    | dK ds => obtain ⟨vs, h1, h2⟩ := h; rw [h1]; trivial
    | dT ds => obtain ⟨vs, h1, h2⟩ := h; rw [h1]; trivial
    | _ => exact h.elim
  | dp => exact h.1.mut

/-! ### the state within a def -/
abbrev Owns := List (Nat × Kd)
structure SIf (fp : Nat → List Addr) (G0 H0 : Hp) (own : Owns) (G H : Hp) (σ : L2.St) (ρ : Env) : Prop where
  ext : Ext G0 H0 G H
  len : ρ.length = σ.length
  val : ∀ (i : Nat) (d : D), ρ[i]? = some (some d) → own.lookup i = none → ∃ v, σ[i]? = some (some v) ∧ Rep G d v
  own : ∀ (i : Nat) (k : Kd) (d : D), own.lookup i = some k → ρ[i]? = some (some d) → ∃ v, σ[i]? = some (some v) ∧ OwnK k G H d v (fp i)
  fpm : ∀ i p, p ∈ fp i → G p = none ∧ H0 p = none ∧ Mut (H p)
  fpd : ∀ i j p, i ≠ j → p ∈ fp i → p ∉ fp j
def SI (G0 H0 : Hp) (own : Owns) (G H : Hp) (σ : L2.St) (ρ : Env) : Prop := ∃ fp, SIf fp G0 H0 own G H σ ρ
def maskE (own : Owns) (ρ : Env) : Env := own.foldl (fun ρ p => ρ.set p.1 none) ρ
/-- the region with all that is new, and the tuples -/
def viewG (H0 G H : Hp) : Hp := fun a => match H0 a, H a with
  | none, o => o
  | some _, some (.tup vs) => some (.tup vs)
  | some _, _ => G a
section
variable {G0 H0 G H G' H' : Hp} {own : Owns} {σ : L2.St} {ρ : Env}
theorem maskE_get : ∀ {own : Owns} {ρ : Env} {i : Nat} {d : D}, (maskE own ρ)[i]? = some (some d) → ρ[i]? = some (some d) ∧ own.lookup i = none
  | [], _, _, _, h => ⟨h, rfl⟩
  | (j, k) :: own, ρ, i, d, h => by
    have h : (maskE own (ρ.set j none))[i]? = some (some d) := h
    obtain ⟨h1, h2⟩ := maskE_get h
    by_cases e : j = i
    · subst e
      by_cases hv : j < ρ.length
      · rw [List.getElem?_set_self hv] at h1; cases h1
      · rw [List.getElem?_eq_none (by simpa using hv)] at h1; cases h1
    · rw [List.getElem?_set_ne e] at h1
      refine ⟨h1, ?_⟩
      rw [List.lookup_cons, show (i == j) = false by simpa using Ne.symm e]
      exact h2
theorem maskE_len : ∀ {own : Owns} {ρ : Env}, (maskE own ρ).length = ρ.length
  | [], _ => rfl
  | (j, k) :: own, ρ => by
    show (maskE own (ρ.set j none)).length = _
    rw [maskE_len, List.length_set]
theorem SIf.sub {fp} (I : SIf fp G0 H0 own G H σ ρ) : Sub G H := I.ext.s
theorem SI.ext (I : SI G0 H0 own G H σ ρ) : Ext G0 H0 G H := let ⟨_, I⟩ := I; I.ext
theorem SI.sub (I : SI G0 H0 own G H σ ρ) : Sub G H := I.ext.s
theorem SI.len (I : SI G0 H0 own G H σ ρ) : ρ.length = σ.length := let ⟨_, I⟩ := I; I.len
/-- reading what is not owned -/
theorem SIf.masked {fp} (I : SIf fp G0 H0 own G H σ ρ) : EnvR G σ (maskE own ρ) := ⟨by rw [maskE_len]; exact I.len, fun i d e => by
  obtain ⟨h1, h2⟩ := maskE_get e
  exact I.val i d h1 h2⟩
theorem view_le (s : Sub G H) : Le G (viewG H0 G H) := Le.of fun a o e => by
  unfold viewG
  split
  · exact s a o e
  · rename_i x q
    have := s a o e
    rw [q] at this; cases this; rfl
  · exact e
theorem view_ext (x : Ext G0 H0 G H) : Ext G0 H0 (viewG H0 G H) H where
  h := x.h
  g := fun a o e => by
    have e2 := x.g a o e
    have e3 := x.s a o e2
    unfold viewG
    split
    · exact e3
    · rename_i q; rw [q] at e3; cases e3; rfl
    · exact e2
  s := fun a o e => by
    unfold viewG at e
    split at e
    · exact e
    · rename_i q; rw [q]; exact e
    · exact x.s a o e
  n := fun a o e => by
    unfold viewG at e
    split at e
    · rename_i q; exact .inr (.inl q)
    · exact .inr (.inr ⟨_, (Option.some.inj e).symm⟩)
    · exact x.n a o e
theorem view_at {fp : List Addr} (h : ∀ p ∈ fp, H0 p = none) : At H (viewG H0 G H) fp := ⟨fun p hp => by unfold viewG; rw [h p hp], fun a vs e => by
  unfold viewG; rw [e]; cases H0 a <;> rfl⟩
/-- reading all slots -/
theorem SIf.view {fp} (I : SIf fp G0 H0 own G H σ ρ) : EnvR (viewG H0 G H) σ ρ := ⟨I.len, fun i d e => by
  cases q : own.lookup i with
  | none =>
    obtain ⟨v, h1, h2⟩ := I.val i d e q
    exact ⟨v, h1, h2.le (view_le I.sub)⟩
  | some k =>
    obtain ⟨v, h1, h2⟩ := I.own i k d q e
    exact ⟨v, h1, h2.rep (view_le I.sub) (view_at fun p hp => (I.fpm i p hp).2.1)⟩⟩
theorem Ext.mutn (x : Ext G H G' H') {p : Addr} (n : G p = none) (m : Mut (H p)) : G' p = none := by
  cases q : G' p with
  | none => rfl
  | some o =>
    rcases x.n p o q with z | z | ⟨vs, z⟩
    · rw [n] at z; cases z
    · rw [z] at m; exact m.elim
    · subst z
      have h1 := x.s _ _ q
      cases r : H p with
      | none => rw [r] at m; exact m.elim
      | some u =>
        have h2 := x.h _ _ r
        rw [h1] at h2; cases h2
        rw [r] at m; exact m.elim
theorem Ext.at (x : Ext G H G' H') {fp : List Addr} (m : ∀ p ∈ fp, Mut (H p)) : At H H' fp := ⟨fun p hp => by
  cases r : H p with
  | none => have := m p hp; rw [r] at this; exact this.elim
  | some u => exact x.h _ _ r, fun a vs e => x.h _ _ e⟩
theorem mut_keep (x : Ext G H G' H') {p : Addr} (m : Mut (H p)) : Mut (H' p) := by
  rw [(x.at (fp := [p]) fun q hq => by rw [show q = p by simpa using hq]; exact m).a p List.mem_cons_self]
  exact m
/-- the heap has grown -/
theorem SIf.grow {fp} (I : SIf fp G0 H0 own G H σ ρ) (x : Ext G H G' H') : SIf fp G0 H0 own G' H' σ ρ where
  ext := I.ext.trans x
  len := I.len
  val := fun i d e q => by
    obtain ⟨v, h1, h2⟩ := I.val i d e q
    exact ⟨v, h1, h2.le x.le⟩
  own := fun i k d q e => by
    obtain ⟨v, h1, h2⟩ := I.own i k d q e
    exact ⟨v, h1, h2.at x.le (x.at fun p hp => (I.fpm i p hp).2.2)⟩
  fpm := fun i p hp => by
    obtain ⟨h1, h2, h3⟩ := I.fpm i p hp
    exact ⟨x.mutn h1 h3, h2, mut_keep x h3⟩
  fpd := I.fpd
/-- a slot that is not owned is set -/
theorem SIf.set {fp} (I : SIf fp G0 H0 own G H σ ρ) {j : Nat} {d : D} {v : V} (hj : own.lookup j = none) (r : Rep G d v) : SIf fp G0 H0 own G H (σ.set j (some v)) (ρ.set j (some d)) where
  ext := I.ext
  len := by simp [I.len]
  val := fun i d' e q => by
    by_cases hi : j = i
    · subst hi
      by_cases hv : j < ρ.length
      · rw [List.getElem?_set_self hv] at e; cases e
        exact ⟨v, List.getElem?_set_self (by rw [← I.len]; exact hv), r⟩
      · rw [List.getElem?_eq_none (by simpa using hv)] at e; cases e
    · rw [List.getElem?_set_ne hi] at e
      obtain ⟨w, h1, h2⟩ := I.val i d' e q
      exact ⟨w, by rw [List.getElem?_set_ne hi]; exact h1, h2⟩
  own := fun i k d' q e => by
    have hi : j ≠ i := fun z => by subst z; rw [hj] at q; cases q
    rw [List.getElem?_set_ne hi] at e
    obtain ⟨w, h1, h2⟩ := I.own i k d' q e
    exact ⟨w, by rw [List.getElem?_set_ne hi]; exact h1, h2⟩
  fpm := I.fpm
  fpd := I.fpd
theorem SIf.sets {fp} : ∀ {is : List Nat} {ds : List D} {vs : List V} {σ : L2.St} {ρ : Env}, SIf fp G0 H0 own G H σ ρ → (∀ i ∈ is, own.lookup i = none) → Reps G ds vs → SIf fp G0 H0 own G H (setS σ is vs) (setE ρ is ds)
  | [], _, _, _, _, I, _, _ => by unfold setS setE; exact I
  | i :: is, [], _, _, _, I, _, r => by rw [show _ = [] from r]; exact I
  | i :: is, d :: ds, _, σ, ρ, I, hi, ⟨v, s, e, r1, r2⟩ => by
    subst e
    show SIf fp G0 H0 own G H (setS (σ.set i (some v)) is s) (setE (ρ.set i (some d)) is ds)
    exact SIf.sets (I.set (hi i List.mem_cons_self) r1) (fun j hj => hi j (List.mem_cons_of_mem _ hj)) r2
/-- what is known may be forgotten -/
theorem SIf.weak {fp} (I : SIf fp G0 H0 own G H σ ρ) {ρ' : Env} (hl : ρ'.length = ρ.length) (h : ∀ (i : Nat) (d : D), ρ'[i]? = some (some d) → ρ[i]? = some (some d)) : SIf fp G0 H0 own G H σ ρ' :=
  ⟨I.ext, hl.trans I.len, fun i d e q => I.val i d (h i d e) q, fun i k d q e => I.own i k d q (h i d e), I.fpm, I.fpd⟩
theorem SI.weak (I : SI G0 H0 own G H σ ρ) {ρ' : Env} (hl : ρ'.length = ρ.length) (h : ∀ (i : Nat) (d : D), ρ'[i]? = some (some d) → ρ[i]? = some (some d)) : SI G0 H0 own G H σ ρ' := let ⟨fp, I⟩ := I; ⟨fp, I.weak hl h⟩
end
/-- forget slots -/
def forget (ρ : Env) (is : List Nat) : Env := is.foldl (fun ρ i => ρ.set i none) ρ
theorem forget_len : ∀ {is : List Nat} {ρ : Env}, (forget ρ is).length = ρ.length
  | [], _ => rfl
  | i :: is, ρ => by
    show (forget (ρ.set i none) is).length = _
    rw [forget_len, List.length_set]
theorem forget_get : ∀ {is : List Nat} {ρ : Env} {i : Nat} {d : D}, (forget ρ is)[i]? = some (some d) → ρ[i]? = some (some d) ∧ i ∉ is
  | [], _, _, _, h => ⟨h, by simp⟩
  | j :: is, ρ, i, d, h => by
    have h : (forget (ρ.set j none) is)[i]? = some (some d) := h
    obtain ⟨h1, h2⟩ := forget_get h
    by_cases e : j = i
    · subst e
      by_cases hv : j < ρ.length
      · rw [List.getElem?_set_self hv] at h1; cases h1
      · rw [List.getElem?_eq_none (by simpa using hv)] at h1; cases h1
    · rw [List.getElem?_set_ne e] at h1
      exact ⟨h1, by simp only [List.mem_cons, not_or]; exact ⟨fun z => e z.symm, h2⟩⟩

/-! ### owned slots come and go -/
theorem lookup_filter {i j : Nat} : ∀ {own : Owns}, (own.filter fun p => p.1 != i).lookup j = if j = i then none else own.lookup j
  | [] => by simp
  | (a, k) :: r => by
    have ih := @lookup_filter i j r
    by_cases ha : a = i
    · subst ha
      rw [List.filter_cons_of_neg (by simp), ih, List.lookup_cons]
      by_cases hj : j = a
      · simp [hj]
      · rw [if_neg hj, if_neg hj, show (j == a) = false by simpa using hj]
    · rw [List.filter_cons_of_pos (by simpa using ha), List.lookup_cons, List.lookup_cons]
      by_cases hj : j = a
      · subst hj; simp [ha]
      · rw [show (j == a) = false by simpa using hj]; exact ih
def disown (own : Owns) (i : Nat) : Owns := own.filter fun p => p.1 != i
theorem disown_self {own : Owns} {i : Nat} : (disown own i).lookup i = none := by unfold disown; rw [lookup_filter, if_pos rfl]
theorem disown_ne {own : Owns} {i j : Nat} (h : j ≠ i) : (disown own i).lookup j = own.lookup j := by unfold disown; rw [lookup_filter, if_neg h]
section
variable {G0 H0 G H G' H' : Hp} {own : Owns} {σ : L2.St} {ρ : Env}
def fpSet (fp : Nat → List Addr) (j : Nat) (fj : List Addr) : Nat → List Addr := fun i => if i = j then fj else fp i
theorem fpSet_self {fp : Nat → List Addr} {j : Nat} {fj : List Addr} : fpSet fp j fj j = fj := if_pos rfl
theorem fpSet_ne {fp : Nat → List Addr} {i j : Nat} {fj : List Addr} (h : i ≠ j) : fpSet fp j fj i = fp i := if_neg h
theorem fpSet_d {fp : Nat → List Addr} {j : Nat} {fj : List Addr} (h : ∀ i j p, i ≠ j → p ∈ fp i → p ∉ fp j) (hd : ∀ i p, i ≠ j → p ∈ fp i → p ∉ fj) : ∀ i i' p, i ≠ i' → p ∈ fpSet fp j fj i → p ∉ fpSet fp j fj i' := by
  intro i i' p hne hp
  by_cases hi : i = j
  · subst hi
    rw [fpSet_self] at hp
    rw [fpSet_ne (Ne.symm hne)]
    exact fun z => hd i' p (Ne.symm hne) z hp
  · rw [fpSet_ne hi] at hp
    by_cases hi' : i' = j
    · subst hi'; rw [fpSet_self]; exact hd i p hi hp
    · rw [fpSet_ne hi']; exact h i i' p hne hp
/-- slot j takes a value that is owned from now on (what it held is forgotten) -/
theorem SIf.take {fp} (I : SIf fp G0 H0 own G H σ ρ) {j : Nat} {k : Kd} {d : D} {v : V} {fj : List Addr} (o : OwnK k G H d v fj) (hn : ∀ p ∈ fj, G p = none ∧ H0 p = none) (hd : ∀ i p, i ≠ j → p ∈ fp i → p ∉ fj) :
    SIf (fpSet fp j fj) G0 H0 ((j, k) :: disown own j) G H (σ.set j (some v)) (ρ.set j (some d)) where
  ext := I.ext
  len := by simp [I.len]
  val := fun i d' e q => by
    have hi : j ≠ i := fun z => by subst z; simp at q
    rw [List.lookup_cons, show (i == j) = false by simpa using Ne.symm hi, disown_ne (Ne.symm hi)] at q
    rw [List.getElem?_set_ne hi] at e
    obtain ⟨w, h1, h2⟩ := I.val i d' e q
    exact ⟨w, by rw [List.getElem?_set_ne hi]; exact h1, h2⟩
  own := fun i k' d' q e => by
    by_cases hi : j = i
    · subst hi
      have ek : k = k' := by simpa using q
      subst ek
      by_cases hv : j < ρ.length
      · rw [List.getElem?_set_self hv] at e; cases e
        exact ⟨v, List.getElem?_set_self (by rw [← I.len]; exact hv), by rw [fpSet_self]; exact o⟩
      · rw [List.getElem?_eq_none (by simpa using hv)] at e; cases e
    · rw [List.lookup_cons, show (i == j) = false by simpa using Ne.symm hi, disown_ne (Ne.symm hi)] at q
      rw [List.getElem?_set_ne hi] at e
      obtain ⟨w, h1, h2⟩ := I.own i k' d' q e
      exact ⟨w, by rw [List.getElem?_set_ne hi]; exact h1, by rw [fpSet_ne (Ne.symm hi)]; exact h2⟩
  fpm := fun i p hp => by
    by_cases hi : i = j
    · subst hi
      rw [fpSet_self] at hp
      exact ⟨(hn p hp).1, (hn p hp).2, o.mut p hp⟩
    · rw [fpSet_ne hi] at hp
      exact I.fpm i p hp
  fpd := fpSet_d I.fpd hd
/-- what slot j owns is changed -/
theorem SIf.change {fp} (I : SIf fp G0 H0 own G H σ ρ) {j : Nat} {k : Kd} {d : D} {v : V} {fj : List Addr} (hj : own.lookup j = some k) (hv : σ[j]? = some (some v)) (hH : ∀ a, a ∉ fp j → H' a = H a ∨ (H a = none ∧ H0 a = none))
    (o : OwnK k G H' d v fj) (hn : ∀ p ∈ fj, G p = none ∧ H0 p = none) (hd : ∀ i p, i ≠ j → p ∈ fp i → p ∉ fj) (ht : ∀ p ∈ fp j, ∀ vs, H p ≠ some (.tup vs)) :
    SIf (fpSet fp j fj) G0 H0 own G H' σ (ρ.set j (some d)) where
  ext := by
    refine ⟨fun a o e => ?_, I.ext.g, fun a o e => ?_, I.ext.n⟩
    · have e2 := I.ext.h a o e
      have hp : a ∉ fp j := fun z => by rw [(I.fpm j a z).2.1] at e; cases e
      rcases hH a hp with q | q
      · rw [q]; exact e2
      · rw [q.1] at e2; cases e2
    · have e2 := I.ext.s a o e
      have hp : a ∉ fp j := fun z => by rw [(I.fpm j a z).1] at e; cases e
      rcases hH a hp with q | q
      · rw [q]; exact e2
      · rw [q.1] at e2; cases e2
  len := by simp [I.len]
  val := fun i d' e q => by
    have hi : j ≠ i := fun z => by subst z; rw [hj] at q; cases q
    rw [List.getElem?_set_ne hi] at e
    exact I.val i d' e q
  own := fun i k' d' q e => by
    by_cases hi : j = i
    · subst hi
      rw [hj] at q; cases q
      by_cases hl : j < ρ.length
      · rw [List.getElem?_set_self hl] at e; cases e
        exact ⟨v, hv, by rw [fpSet_self]; exact o⟩
      · rw [List.getElem?_eq_none (by simpa using hl)] at e; cases e
    · rw [List.getElem?_set_ne hi] at e
      obtain ⟨w, h1, h2⟩ := I.own i k' d' q e
      refine ⟨w, h1, ?_⟩
      rw [fpSet_ne (Ne.symm hi)]
      refine h2.at (Le.of fun _ _ e => e) ⟨fun p hp => ?_, fun a vs e => ?_⟩
      · rcases hH p (I.fpd i j p (Ne.symm hi) hp) with q | q
        · exact q
        · have := (I.fpm i p hp).2.2
          rw [q.1] at this; exact this.elim
      · by_cases ha : a ∈ fp j
        · exact absurd e (ht a ha vs)
        · rcases hH a ha with q | q
          · rw [q]; exact e
          · rw [q.1] at e; cases e
  fpm := fun i p hp => by
    by_cases hi : i = j
    · subst hi
      rw [fpSet_self] at hp
      exact ⟨(hn p hp).1, (hn p hp).2, o.mut p hp⟩
    · rw [fpSet_ne hi] at hp
      obtain ⟨h1, h2, h3⟩ := I.fpm i p hp
      refine ⟨h1, h2, ?_⟩
      rcases hH p (I.fpd i j p hi hp) with q | q
      · rw [q]; exact h3
      · rw [q.1] at h3; exact h3.elim
  fpd := fpSet_d I.fpd hd
/-- an owned slot is owned no more: what it holds is part of the region -/
def joinG (G H : Hp) (fp : List Addr) : Hp := fun a => match H a with
  | some (.tup vs) => some (.tup vs)
  | o => if a ∈ fp then o else G a
theorem SIf.freeze {fp} (I : SIf fp G0 H0 own G H σ ρ) (j : Nat) : SIf (fpSet fp j []) G0 H0 (disown own j) (joinG G H (fp j)) H σ ρ := by
  have hg : ∀ a o, G a = some o → joinG G H (fp j) a = some o := fun a o e => by
    have e2 := I.sub a o e
    unfold joinG
    split
    · rename_i vs q; rw [q] at e2; cases e2; rfl
    · split
      · exact e2
      · exact e
  have hs : Sub (joinG G H (fp j)) H := fun a o e => by
    unfold joinG at e
    split at e
    · rename_i vs q; rw [q]; exact e
    · split at e
      · exact e
      · exact I.sub a o e
  have hn : ∀ a o, joinG G H (fp j) a = some o → G a = some o ∨ a ∈ fp j ∨ ∃ vs, o = .tup vs := fun a o e => by
    unfold joinG at e
    split at e
    · exact .inr (.inr ⟨_, (Option.some.inj e).symm⟩)
    · split at e
      · rename_i h; exact .inr (.inl h)
      · exact .inl e
  have hat : At H (joinG G H (fp j)) (fp j) := ⟨fun p hp => by
    unfold joinG
    split
    · rename_i vs q; rw [q]
    · rw [if_pos hp], fun a vs e => by unfold joinG; rw [e]⟩
  refine ⟨⟨I.ext.h, fun a o e => hg a o (I.ext.g a o e), hs, fun a o e => ?_⟩, I.len, fun i d e q => ?_, fun i k d q e => ?_, fun i p hp => ?_, ?_⟩
  · rcases hn a o e with q | q | q
    · exact I.ext.n a o q
    · exact .inr (.inl (I.fpm j a q).2.1)
    · exact .inr (.inr q)
  · by_cases hi : i = j
    · subst hi
      cases r : own.lookup i with
      | none =>
        obtain ⟨v, h1, h2⟩ := I.val i d e r
        exact ⟨v, h1, h2.le (Le.of hg)⟩
      | some k =>
        obtain ⟨v, h1, h2⟩ := I.own i k d r e
        exact ⟨v, h1, h2.rep (Le.of hg) hat⟩
    · rw [disown_ne hi] at q
      obtain ⟨v, h1, h2⟩ := I.val i d e q
      exact ⟨v, h1, h2.le (Le.of hg)⟩
  · have hi : i ≠ j := fun z => by subst z; rw [disown_self] at q; cases q
    rw [disown_ne hi] at q
    obtain ⟨v, h1, h2⟩ := I.own i k d q e
    exact ⟨v, h1, by rw [fpSet_ne hi]; exact h2.at (Le.of hg) ⟨fun _ _ => rfl, fun _ _ e => e⟩⟩
  · by_cases hi : i = j
    · subst hi; rw [fpSet_self] at hp; cases hp
    · rw [fpSet_ne hi] at hp
      obtain ⟨h1, h2, h3⟩ := I.fpm i p hp
      refine ⟨?_, h2, h3⟩
      cases q : joinG G H (fp j) p with
      | none => rfl
      | some o =>
        rcases hn p o q with z | z | ⟨vs, z⟩
        · rw [h1] at z; cases z
        · exact absurd z (I.fpd i j p hi hp)
        · subst z
          rw [hs _ _ q] at h3; exact h3.elim
  · refine fpSet_d I.fpd fun i p hi hp => by simp
/-- an owned slot that is forgotten is owned no more -/
theorem SIf.drop {fp} (I : SIf fp G0 H0 own G H σ ρ) (j : Nat) : SIf fp G0 H0 (disown own j) G H σ (ρ.set j none) where
  ext := I.ext
  len := by simp [I.len]
  val := fun i d e q => by
    by_cases hi : j = i
    · subst hi
      by_cases hl : j < ρ.length
      · rw [List.getElem?_set_self hl] at e; cases e
      · rw [List.getElem?_eq_none (by simpa using hl)] at e; cases e
    · rw [List.getElem?_set_ne hi] at e
      rw [disown_ne (Ne.symm hi)] at q
      exact I.val i d e q
  own := fun i k d q e => by
    have hi : i ≠ j := fun z => by subst z; rw [disown_self] at q; cases q
    rw [disown_ne hi] at q
    rw [List.getElem?_set_ne (Ne.symm hi)] at e
    exact I.own i k d q e
  fpm := I.fpm
  fpd := I.fpd
end
end DL

/-! DL6: what statements do to slots. -/
namespace DL
open PySem PySem.Spec PyProof.Rows L2

inductive Out where
  | nx (ρ : Env) | rt (d : D) | bk (ρ : Env) | ct (ρ : Env) | ex (c : Str) (ρ : Env) | no
abbrev DSem := Env → Out
/-- what is handed back: any data of the region; or owned ones, all new -/
def RetOk (rk : Option Kd) (G0 H0 : Hp) (Rt : VK) (d : D) : Prop := match rk with
  | none => ∀ G H v, Ext G0 H0 G H → Rep G d v → Rt v H
  | some k => ∀ G H v fj, Ext G0 H0 G H → OwnK k G H d v fj → (∀ p ∈ fj, G p = none ∧ H0 p = none) → Rt v H
def oxSub (ox own : Owns) : Bool := ox.all fun p => own.lookup p.1 == some p.2
structure Jd where
  W : WX
  L : Owns
  ox : Owns
  rk : Option Kd
def GS (mg : Str → Option Value) (J : Jd) (G0 H0 : Hp) (own' : Owns) (Dn : Ends) : Out → Prop
  | .nx ρ => ∀ G H σ, SI G0 H0 own' G H σ ρ → Dn.nx σ H
  | .rt d => RetOk J.rk G0 H0 Dn.rt d
  | .bk ρ => ∀ G H σ, SI G0 H0 J.L G H σ ρ → Dn.bk σ H
  | .ct ρ => ∀ G H σ, SI G0 H0 J.L G H σ ρ → Dn.ct σ H
  | .ex c ρ => ∀ C own G H σ, oxSub J.ox own = true → mg c = some (.ref C) → SI G0 H0 own G H σ ρ → J.W (.ref C) none σ H
  | .no => False
def DS (X : Cx) (J : Jd) (own own' : Owns) (st : Stmt) (F : DSem) : Prop :=
  ∃ t : TS, PS X st t ∧ ∀ (G0 H0 G H : Hp) (σ : L2.St) (ρ : Env) (Dn : Ends), SI G0 H0 own G H σ ρ → GS X.mg J G0 H0 own' Dn (F ρ) → t Dn σ H
def DSs (X : Cx) (J : Jd) (own own' : Owns) (st : List Stmt) (F : DSem) : Prop :=
  ∃ t : TS, PSs X st t ∧ ∀ (G0 H0 G H : Hp) (σ : L2.St) (ρ : Env) (Dn : Ends), SI G0 H0 own G H σ ρ → GS X.mg J G0 H0 own' Dn (F ρ) → t Dn σ H
section
variable {X : Cx} {J : Jd} {own own1 own2 : Owns} {st : Stmt} {rest : List Stmt} {F F1 F2 : DSem}
def sSeq (F1 F2 : DSem) : DSem := fun ρ => match F1 ρ with
  | .nx ρ' => F2 ρ'
  | o => o
def sNext : DSem := fun ρ => .nx ρ
theorem dss_nil : DSs X J own own [] sNext := ⟨_, pss_nil, fun G0 H0 G H σ ρ Dn I h => h G H σ I⟩
theorem dss_one (d : DS X J own own1 st F) : DSs X J own own1 [st] F := let ⟨t, p, h⟩ := d; ⟨t, pss_one p, h⟩
theorem dss_cons (d1 : DS X J own own1 st F1) (d2 : DSs X J own1 own2 rest F2) : DSs X J own own2 (st :: rest) (sSeq F1 F2) := by
  obtain ⟨t1, p1, h1⟩ := d1
  obtain ⟨t2, p2, h2⟩ := d2
  refine ⟨_, pss_cons p1 p2, fun G0 H0 G H σ ρ Dn I h => ?_⟩
  refine h1 G0 H0 G H σ ρ { Dn with nx := t2 Dn } I ?_
  unfold sSeq at h
  cases q : F1 ρ with
  | nx ρ' => rw [q] at h; exact fun G' H' σ' I' => h2 G0 H0 G' H' σ' ρ' Dn I' h
  | rt d => rw [q] at h; exact h
  | bk d => rw [q] at h; exact h
  | ct d => rw [q] at h; exact h
  | ex c d => rw [q] at h; exact h
  | no => rw [q] at h; exact h
theorem ds_pass {pos : Pos} : DS X J own own (.Pass pos) sNext := ⟨_, ps_pass, fun G0 H0 G H σ ρ Dn I h => h G H σ I⟩
theorem ds_doc {x j pos pos'} : DS X J own own (.Expr (.Constant (.str x) j pos) pos') sNext := ⟨_, ps_doc, fun G0 H0 G H σ ρ Dn I h => h G H σ I⟩
def sBreak : DSem := fun ρ => .bk ρ
def sCont : DSem := fun ρ => .ct ρ
theorem ds_break {pos : Pos} : DS X { J with L := own } own own1 (.Break pos) sBreak := ⟨_, ps_break, fun G0 H0 G H σ ρ Dn I h => h G H σ I⟩
theorem ds_cont {pos : Pos} : DS X { J with L := own } own own1 (.Continue pos) sCont := ⟨_, ps_continue, fun G0 H0 G H σ ρ Dn I h => h G H σ I⟩

/-! ### from an expression's goal to a statement's -/
theorem toP {G0 H0 G H : Hp} {σ : L2.St} {ρ : Env} {Dn : Ends} {α : Type} {r : Res α} {k : α → Out} {P : α → Hp → Hp → Prop} {fp} {G1 : Hp} (hx : oxSub J.ox own = true) (I : SIf fp G0 H0 own G H σ ρ) (h1 : Sub G1 H)
    (h : GS X.mg J G0 H0 own1 Dn (match r with | .ok a => k a | .ex c => .ex c ρ | .no => .no)) (hP : ∀ a, r = .ok a → GS X.mg J G0 H0 own1 Dn (k a) → ∀ G' H', Ext G1 H G' H' → P a G' H') : Gl X.mg J.W G1 H σ P r := by
  cases r with
  | ok a => exact hP a rfl h
  | ex c => exact fun C G' H' m e => h C own G H' σ hx m ⟨fp, I.grow (Ext.up I.sub e.h)⟩
  | no => exact h
end
/-- what an expression's answer does next -/
def andThen {α : Type} (r : Res α) (ρ : Env) (k : α → Out) : Out := match r with
  | .ok a => k a
  | .ex c => .ex c ρ
  | .no => .no
section
variable {X : Cx} {J : Jd} {own own1 own2 : Owns} {st : Stmt} {rest : List Stmt} {e : Expr} {f : Env → Res D} {pos : Pos}
/-- in the region alone: owned slots are not read -/
theorem onMasked {t : TE} {G0 H0 G H : Hp} {σ : L2.St} {ρ : Env} {Dn : Ends} {k : D → Out} {Q : VK} {fp} (hx : oxSub J.ox own = true)
    (h1 : ∀ (G H : Hp) (σ : L2.St) (ρ : Env) (Q : VK), Sub G H → EnvR G σ ρ → GlE X.mg J.W G H σ Q (f ρ) → t σ H Q) (I : SIf fp G0 H0 own G H σ ρ) (h : GS X.mg J G0 H0 own1 Dn (andThen (f (maskE own ρ)) ρ k))
    (hP : ∀ d, GS X.mg J G0 H0 own1 Dn (k d) → ∀ G' H' v, Ext G H G' H' → SIf fp G0 H0 own G' H' σ ρ → Rep G' d v → Q v H') : t σ H Q :=
  h1 G H σ (maskE own ρ) Q I.sub I.masked (toP hx I I.sub h fun d _ hk G' H' e v rv => hP d hk G' H' v e (I.grow e) rv)
/-- in the view: all slots are read; what comes is looked at, not kept -/
theorem onView {t : TE} {G0 H0 G H : Hp} {σ : L2.St} {ρ : Env} {Dn : Ends} {k : D → Out} {Q : VK} {fp} (hx : oxSub J.ox own = true)
    (h1 : ∀ (G H : Hp) (σ : L2.St) (ρ : Env) (Q : VK), Sub G H → EnvR G σ ρ → GlE X.mg J.W G H σ Q (f ρ) → t σ H Q) (I : SIf fp G0 H0 own G H σ ρ) (h : GS X.mg J G0 H0 own1 Dn (andThen (f ρ) ρ k))
    (hP : ∀ d, GS X.mg J G0 H0 own1 Dn (k d) → ∀ G' H' v, Ext (viewG H0 G H) H G' H' → SIf fp G0 H0 own (tupG G H') H' σ ρ → Rep G' d v → (imm d = true → Rep (tupG G H') d v) → Q v H') : t σ H Q := by
  have s := (view_ext I.ext).s
  exact h1 _ H σ ρ Q s I.view (toP hx I s h fun d _ hk G' H' e v rv => hP d hk G' H' v e (I.grow (Ext.tups I.sub e.h)) rv fun hi => Rep.imm (fun a vs q => tupG_tup (e.s _ _ q)) hi rv)

/-! ### name = e -/
/-- in the region -/
def sAsg (own : Owns) (j : Nat) (f : Env → Res D) : DSem := fun ρ => andThen (f (maskE own ρ)) ρ fun d => .nx (ρ.set j (some d))
/-- immutable data -/
def sAsgI (j : Nat) (f : Env → Res D) : DSem := fun ρ => andThen (f ρ) ρ fun d => if imm d = true then .nx (ρ.set j (some d)) else .no
theorem set_none_set {σ : Env} {j : Nat} {x : Option D} : (σ.set j none).set j x = σ.set j x := List.set_set ..
/-- the statement stores the value of f in slot j -/
def AE (X : Cx) (W : WX) (st : Stmt) (j : Nat) (f : Env → Res D) : Prop :=
  ∃ t : TE, PS X st (tAsg t (gName j)) ∧ ∀ (G H : Hp) (σ : L2.St) (ρ : Env) (Q : VK), Sub G H → EnvR G σ ρ → GlE X.mg W G H σ Q (f ρ) → t σ H Q
theorem ae_set {j : Nat} {x : Str} {pos' : Pos} (hN : X.N.Nodup) (hi : X.N[j]? = some x) (hl : Loc X.env.scope x) (d : DE X J.W e f) (hs : swapsWith e (some (.Name x pos')) pos.line X.env = pure false := by rfl) (hf : X.fn x = true ∨ X.env.scope.names.lookup x = some .local := by first | exact .inl rfl | exact .inr rfl | assumption) :
    AE X J.W (.Assign [.Name x pos'] e pos) j f := let ⟨t, p, h⟩ := d; ⟨t, ps_set hN hi hl p hs hf, h⟩
theorem ds_asg {j : Nat} (d : AE X J.W st j f) (hx : oxSub J.ox own = true := by rfl) : DS X J own (disown own j) st (sAsg own j f) := by
  obtain ⟨t, pe, h1⟩ := d
  refine ⟨_, pe, fun G0 H0 G H σ ρ Dn ⟨fp, I⟩ h => ?_⟩
  refine onMasked hx h1 I h fun d hk G' H' v e I' rv => ?_
  have I2 := (I'.drop j).set (j := j) (d := d) (v := v) disown_self rv
  rw [set_none_set] at I2
  exact hk G' H' _ ⟨fp, I2⟩
theorem ds_asgI {j : Nat} (d : AE X J.W st j f) (hx : oxSub J.ox own = true := by rfl) : DS X J own (disown own j) st (sAsgI j f) := by
  obtain ⟨t, pe, h1⟩ := d
  refine ⟨_, pe, fun G0 H0 G H σ ρ Dn ⟨fp, I⟩ h => ?_⟩
  refine onView hx h1 I h fun d hk G' H' v e I' _ rv => ?_
  split at hk
  · rename_i hi
    have I2 := (I'.drop j).set (j := j) (d := d) (v := v) disown_self (rv hi)
    rw [set_none_set] at I2
    exact hk _ H' _ ⟨fp, I2⟩
  · exact hk.elim

/-! ### return -/
def sRet (f : Env → Res D) : DSem := fun ρ => andThen (f ρ) ρ fun d => .rt d
def sRetI (f : Env → Res D) : DSem := fun ρ => andThen (f ρ) ρ fun d => if imm d = true then .rt d else .no
theorem ds_ret (hk : J.rk = none) (d : DE X J.W e f) (hx : oxSub J.ox own = true := by rfl) : DS X J own own1 (.Return (some e) pos) (sRet f) := by
  obtain ⟨t, pe, h1⟩ := d
  refine ⟨_, ps_ret pe, fun G0 H0 G H σ ρ Dn ⟨fp, I⟩ h => ?_⟩
  refine onView hx h1 I h fun d hr G' H' v e I' rv _ => ?_
  have hr : RetOk J.rk G0 H0 Dn.rt d := hr
  unfold RetOk at hr
  rw [hk] at hr
  exact hr G' H' v ((view_ext I.ext).trans e) rv
theorem ds_retI (hk : J.rk = some .dp) (d : DE X J.W e f) (hx : oxSub J.ox own = true := by rfl) : DS X J own own1 (.Return (some e) pos) (sRetI f) := by
  obtain ⟨t, pe, h1⟩ := d
  refine ⟨_, ps_ret pe, fun G0 H0 G H σ ρ Dn ⟨fp, I⟩ h => ?_⟩
  refine onView hx h1 I h fun d hr G' H' v e I' rv _ => ?_
  split at hr
  · rename_i hi
    have hr : RetOk J.rk G0 H0 Dn.rt d := hr
    unfold RetOk at hr
    rw [hk] at hr
    have rv' : Rep H' d v := rv.le (Le.of e.s)
    exact hr G' H' v [] ((view_ext I.ext).trans e) ⟨RepO.of_imm hi rv', List.nodup_nil⟩ fun p hp => by cases hp
  · exact hr.elim
def sRetN : DSem := fun _ => .rt .non
theorem ds_retN (hk : J.rk = none) : DS X J own own1 (.Return none pos) sRetN := by
  refine ⟨_, ps_retN, fun G0 H0 G H σ ρ Dn ⟨fp, I⟩ h => ?_⟩
  have h : RetOk J.rk G0 H0 Dn.rt .non := h
  unfold RetOk at h
  rw [hk] at h
  exact h G H .non I.ext rfl
/-- an owned slot is handed back -/
def sRetO (j : Nat) : DSem := fun ρ => match ρ[j]? with
  | some (some d) => .rt d
  | _ => .no
theorem ds_retO {j : Nat} {x : Str} {pos' : Pos} {k : Kd} (hk : J.rk = some k) (ho : own.lookup j = some k) (p : PE X (.Name x pos') (tVar j)) : DS X J own own1 (.Return (some (.Name x pos')) pos) (sRetO j) := by
  refine ⟨_, ps_ret p, fun G0 H0 G H σ ρ Dn ⟨fp, I⟩ h => ?_⟩
  unfold sRetO at h
  split at h
  · rename_i d q
    obtain ⟨v, h1, h2⟩ := I.own j k d ho q
    have h : RetOk J.rk G0 H0 Dn.rt d := h
    unfold RetOk at h
    rw [hk] at h
    exact ⟨v, h1, h G H v (fp j) I.ext h2 fun p hp => ⟨(I.fpm j p hp).1, (I.fpm j p hp).2.1⟩⟩
  · exact h.elim

/-! ### an expression whose value is dropped -/
def sDrop (f : Env → Res D) : DSem := fun ρ => andThen (f ρ) ρ fun _ => .nx ρ
theorem ds_expr (d : DE X J.W e f) (hx : oxSub J.ox own = true := by rfl) (hs : swapsWith e none pos.line X.env = pure false := by rfl) : DS X J own own (.Expr e pos) (sDrop f) := by
  obtain ⟨t, pe, h1⟩ := d
  refine ⟨_, ps_expr pe hs, fun G0 H0 G H σ ρ Dn ⟨fp, I⟩ h => ?_⟩
  exact onView hx h1 I h fun d hr G' H' v e I' rv _ => hr _ H' σ ⟨fp, I'⟩

/-! ### a, b = e -/
def sUnp (own : Owns) (is : List Nat) (ks : D → Res (List D)) (f : Env → Res D) : DSem := fun ρ => andThen (f (maskE own ρ)) ρ fun d => match ks d with
  | .ok l => .nx (setE ρ is l)
  | _ => .no
def sUnpI (is : List Nat) (ks : D → Res (List D)) (f : Env → Res D) : DSem := fun ρ => andThen (f ρ) ρ fun d => match ks d with
  | .ok l => if imm d = true then .nx (setE ρ is l) else .no
  | _ => .no
theorem ds_unp {tg : Expr} {is : List Nat} {ks : D → Res (List D)} (g : DG X tg is ks) (d : DE X J.W e f) (hi : ∀ i ∈ is, own.lookup i = none) (hx : oxSub J.ox own = true := by rfl) (hs : swapsWithSole [tg] e pos.line X.env = pure false := by rfl) (hw : swappedStores [tg] e X.env = pure none := by rfl)
    (h1 : (assignEach [tg] X.env).map (·.2) = [assign tg X.env] := by rfl) : DS X J own own (.Assign [tg] e pos) (sUnp own is ks f) := by
  obtain ⟨t, pe, h2⟩ := d
  obtain ⟨tg', pg, h3⟩ := g
  refine ⟨_, ps_asg pe pg hs hw h1, fun G0 H0 G H σ ρ Dn ⟨fp, I⟩ h => ?_⟩
  refine onMasked hx h2 I h fun d hk G' H' v e I' rv => ?_
  split at hk
  · rename_i l q
    exact h3 G' H' σ v d _ l I'.sub rv q fun ws rws nws => hk G' H' _ ⟨fp, I'.sets hi rws⟩
  · exact hk.elim
theorem ds_unpI {tg : Expr} {is : List Nat} {ks : D → Res (List D)} (g : DG X tg is ks) (d : DE X J.W e f) (hi : ∀ i ∈ is, own.lookup i = none) (hx : oxSub J.ox own = true := by rfl) (hs : swapsWithSole [tg] e pos.line X.env = pure false := by rfl) (hw : swappedStores [tg] e X.env = pure none := by rfl)
    (h1 : (assignEach [tg] X.env).map (·.2) = [assign tg X.env] := by rfl) : DS X J own own (.Assign [tg] e pos) (sUnpI is ks f) := by
  obtain ⟨t, pe, h2⟩ := d
  obtain ⟨tg', pg, h3⟩ := g
  refine ⟨_, ps_asg pe pg hs hw h1, fun G0 H0 G H σ ρ Dn ⟨fp, I⟩ h => ?_⟩
  refine onView hx h2 I h fun d hk G' H' v e I' _ rv => ?_
  split at hk
  · rename_i l q
    split at hk
    · rename_i him
      exact h3 _ H' σ v d _ l I'.sub (rv him) q fun ws rws nws => hk _ H' _ ⟨fp, I'.sets hi rws⟩
    · exact hk.elim
  · exact hk.elim

/-! ### if -/
def sIf (c : Env → Res Bool) (F1 F2 : DSem) : DSem := fun ρ => andThen (c ρ) ρ fun b => if b = true then F1 ρ else F2 ρ
theorem ds_if {c : Expr} {a b : List Stmt} {fc : Env → Res Bool} {F1 F2 : DSem} (d : DT X J.W c fc) (d1 : DSs X J own own1 a F1) (d2 : DSs X J own own1 b F2) (hx : oxSub J.ox own = true := by rfl) : DS X J own own1 (.If c a b pos) (sIf fc F1 F2) := by
  obtain ⟨t, pt, h1⟩ := d
  obtain ⟨ta, pa, ha⟩ := d1
  obtain ⟨tb, pb, hb⟩ := d2
  refine ⟨_, ps_if pt pa pb, fun G0 H0 G H σ ρ Dn ⟨fp, I⟩ h => ?_⟩
  have s := (view_ext I.ext).s
  refine h1 _ H σ ρ _ s I.view (toP hx I s h fun x _ hk G' H' e => ?_)
  have I' : SI G0 H0 own (tupG G H') H' σ ρ := ⟨fp, I.grow (Ext.tups I.sub e.h)⟩
  cases x with
  | true => exact ha G0 H0 _ H' σ ρ Dn I' hk
  | false => exact hb G0 H0 _ H' σ ρ Dn I' hk

/-! ### the ends of blocks: owned slots given up -/
theorem dss_freeze {sts : List Stmt} {F : DSem} (j : Nat) (d : DSs X J own own1 sts F) : DSs X J own (disown own1 j) sts F := by
  obtain ⟨t, p, h⟩ := d
  refine ⟨t, p, fun G0 H0 G H σ ρ Dn I hg => h G0 H0 G H σ ρ Dn I ?_⟩
  cases q : F ρ with
  | nx ρ' => rw [q] at hg; exact fun G' H' σ' ⟨fp, I'⟩ => hg _ H' σ' ⟨_, I'.freeze j⟩
  | rt d => rw [q] at hg; exact hg
  | bk d => rw [q] at hg; exact hg
  | ct d => rw [q] at hg; exact hg
  | ex c d => rw [q] at hg; exact hg
  | no => rw [q] at hg; exact hg
def sThen (F : DSem) (g : Env → Env) : DSem := fun ρ => match F ρ with
  | .nx ρ' => .nx (g ρ')
  | o => o
theorem dss_drop {sts : List Stmt} {F : DSem} (j : Nat) (d : DSs X J own own1 sts F) : DSs X J own (disown own1 j) sts (sThen F fun ρ => ρ.set j none) := by
  obtain ⟨t, p, h⟩ := d
  refine ⟨t, p, fun G0 H0 G H σ ρ Dn I hg => h G0 H0 G H σ ρ Dn I ?_⟩
  unfold sThen at hg
  cases q : F ρ with
  | nx ρ' => rw [q] at hg; exact fun G' H' σ' ⟨fp, I'⟩ => hg _ H' σ' ⟨_, I'.drop j⟩
  | rt d => rw [q] at hg; exact hg
  | bk d => rw [q] at hg; exact hg
  | ct d => rw [q] at hg; exact hg
  | ex c d => rw [q] at hg; exact hg
  | no => rw [q] at hg; exact hg
theorem ds_freeze {F : DSem} (j : Nat) (d : DS X J (disown own j) own1 st F) : DS X J own own1 st F := by
  obtain ⟨t, p, h⟩ := d
  exact ⟨t, p, fun G0 H0 G H σ ρ Dn ⟨fp, I⟩ hg => h G0 H0 _ H σ ρ Dn ⟨_, I.freeze j⟩ hg⟩
/-- a block's end where it never comes to its end: any owned slots -/
theorem oxSub_nil {own : Owns} : oxSub [] own = true := rfl
end

/-! ### while -/
def whileF (c : Env → Res Bool) (F : DSem) (fg : List Nat) : Nat → DSem
  | 0, _ => .no
  | n + 1, ρ => andThen (c ρ) ρ fun b => if b = true then (match F ρ with
      | .nx ρ' => whileF c F fg n (forget ρ' fg)
      | .ct ρ' => whileF c F fg n (forget ρ' fg)
      | .bk ρ' => .nx (forget ρ' fg)
      | o => o) else .nx ρ
def sWhile (fuel : Nat) (c : Env → Res Bool) (F : DSem) (fg : List Nat) : DSem := fun ρ => whileF c F fg fuel (forget ρ fg)
/-! ### for -/
def forF (is : List Nat) (ks : D → Res (List D)) (F : DSem) (fg : List Nat) : List D → DSem
  | [], ρ => .nx ρ
  | d :: r, ρ => match ks d with
    | .ok l => (match F (setE ρ is l) with
      | .nx ρ' => forF is ks F fg r (forget ρ' fg)
      | .ct ρ' => forF is ks F fg r (forget ρ' fg)
      | .bk ρ' => .nx (forget ρ' fg)
      | o => o)
    | _ => .no
def sFor (own : Owns) (fi : Env → Res (List D)) (is : List Nat) (ks : D → Res (List D)) (F : DSem) (fg : List Nat) : DSem := fun ρ => andThen (fi (maskE own ρ)) ρ fun ds => forF is ks F fg ds (forget ρ fg)
def sForV (fi : Env → Res (List D)) (is : List Nat) (ks : D → Res (List D)) (F : DSem) (fg : List Nat) : DSem := fun ρ => andThen (fi ρ) ρ fun ds => forF is ks F fg ds (forget ρ fg)
section
variable {X : Cx} {J : Jd} {own : Owns} {pos : Pos} {G0 H0 : Hp}
theorem SI.forget {G H : Hp} {σ : L2.St} {ρ : Env} (I : SI G0 H0 own G H σ ρ) (is : List Nat) : SI G0 H0 own G H σ (DL.forget ρ is) := I.weak forget_len fun i d e => (forget_get e).1
theorem ds_while {c : Expr} {body : List Stmt} {fc : Env → Res Bool} {F : DSem} {fuel : Nat} {fg : List Nat} (hp : PassesOwn (model X.prog X.w) X.A X.env X.xe) (d : DT X J.W c fc) (d1 : DSs X { J with L := own } own own body F) (hx : oxSub J.ox own = true := by rfl) :
    DS X J own own (.While c body [] pos) (sWhile fuel fc F fg) := by
  obtain ⟨t, pt, h1⟩ := d
  obtain ⟨tb, pb, hb⟩ := d1
  refine ⟨_, ps_while hp pt pb, fun G0 H0 G H σ ρ Dn I h => ?_⟩
  refine ⟨fun m σ H => ∃ G ρ, SI G0 H0 own G H σ ρ ∧ GS X.mg J G0 H0 own Dn (whileF fc F fg m ρ), ⟨fuel, G, _, I.forget fg, h⟩, ?_⟩
  rintro m σ H ⟨G, ρ, ⟨fp, I⟩, h⟩
  cases m with
  | zero => exact h.elim
  | succ n =>
    have s := (view_ext I.ext).s
    refine h1 _ H σ ρ _ s I.view (toP hx I s h fun b _ hk G' H' e => ?_)
    have I' : SI G0 H0 own (tupG G H') H' σ ρ := ⟨fp, I.grow (Ext.tups I.sub e.h)⟩
    cases b with
    | false => exact hk _ H' σ I'
    | true =>
      show ite _ _ _
      rw [if_pos rfl] at hk ⊢
      refine ⟨_, fun σ' H' w => ⟨n, Nat.lt_succ_self n, w⟩, hb G0 H0 _ H' σ ρ _ I' ?_⟩
      cases q : F ρ with
      | nx ρ' => rw [q] at hk; exact fun G2 H2 σ2 I2 => ⟨G2, _, I2.forget fg, hk⟩
      | ct ρ' => rw [q] at hk; exact fun G2 H2 σ2 I2 => ⟨G2, _, I2.forget fg, hk⟩
      | bk ρ' => rw [q] at hk; exact fun G2 H2 σ2 I2 => hk G2 H2 σ2 (I2.forget fg)
      | rt d => rw [q] at hk; exact hk
      | ex c d => rw [q] at hk; exact hk
      | no => rw [q] at hk; exact hk
/-- a new ground: the region and heap as they stand, less what is owned -/
noncomputable def holeH (H : Hp) (fp : Nat → List Addr) : Hp := fun a => open Classical in if ∃ i, a ∈ fp i then none else H a
theorem hole_none {H : Hp} {fp : Nat → List Addr} {a : Addr} (h : holeH H fp a = none) : H a = none ∨ ∃ i, a ∈ fp i := by
  unfold holeH at h
  split at h
  · rename_i q; exact .inr q
  · exact .inl h
theorem hole_some {H : Hp} {fp : Nat → List Addr} {a : Addr} {o : HO} (h : holeH H fp a = some o) : H a = some o := by
  unfold holeH at h
  split at h
  · cases h
  · exact h
theorem hole_in {H : Hp} {fp : Nat → List Addr} {a : Addr} {i : Nat} (h : a ∈ fp i) : holeH H fp a = none := by unfold holeH; rw [if_pos ⟨i, h⟩]
theorem hole_out {H : Hp} {fp : Nat → List Addr} {a : Addr} (h : ∀ i, a ∉ fp i) : holeH H fp a = H a := by unfold holeH; rw [if_neg fun ⟨i, q⟩ => h i q]
theorem SIf.ground {fp} {G H : Hp} {σ : L2.St} {ρ : Env} (I : SIf fp G0 H0 own G H σ ρ) : SIf fp G (holeH H fp) own G H σ ρ where
  ext := ⟨fun a o e => hole_some e, fun _ _ e => e, I.sub, fun a o e => .inl e⟩
  len := I.len
  val := I.val
  own := I.own
  fpm := fun i p hp => ⟨(I.fpm i p hp).1, hole_in hp, (I.fpm i p hp).2.2⟩
  fpd := I.fpd
theorem Ext.unground {fp} {G H G' H' : Hp} {σ : L2.St} {ρ : Env} (I : SIf fp G0 H0 own G H σ ρ) (x : Ext G (holeH H fp) G' H') : Ext G0 H0 G' H' where
  h := fun a o e => x.h a o (by
    rw [hole_out fun i hp => by rw [(I.fpm i a hp).2.1] at e; cases e]
    exact I.ext.h a o e)
  g := fun a o e => x.g a o (I.ext.g a o e)
  s := x.s
  n := fun a o e => by
    rcases x.n a o e with q | q | q
    · exact I.ext.n a o q
    · rcases hole_none q with z | ⟨i, z⟩
      · exact .inr (.inl (I.ext.free z))
      · exact .inr (.inl (I.fpm i a z).2.1)
    · exact .inr (.inr q)
theorem unground_none {fp} {G H : Hp} {σ : L2.St} {ρ : Env} (I : SIf fp G0 H0 own G H σ ρ) {p : Addr} (h : holeH H fp p = none) : H0 p = none := by
  rcases hole_none h with z | ⟨i, z⟩
  · exact I.ext.free z
  · exact (I.fpm i p z).2.1
theorem SI.unground {fp} {G H G' H' : Hp} {σ σ' : L2.St} {ρ ρ' : Env} {own' : Owns} (I : SIf fp G0 H0 own G H σ ρ) (I' : SI G (holeH H fp) own' G' H' σ' ρ') : SI G0 H0 own' G' H' σ' ρ' := by
  obtain ⟨fq, I'⟩ := I'
  exact ⟨fq, ⟨Ext.unground I I'.ext, I'.len, I'.val, I'.own, fun i p hp => ⟨(I'.fpm i p hp).1, unground_none I (I'.fpm i p hp).2.1, (I'.fpm i p hp).2.2⟩, I'.fpd⟩⟩
theorem RetOk.ground {fp} {G H : Hp} {σ : L2.St} {ρ : Env} {rk : Option Kd} {Rt : VK} {d : D} (I : SIf fp G0 H0 own G H σ ρ) (h : RetOk rk G0 H0 Rt d) : RetOk rk G (holeH H fp) Rt d := by
  unfold RetOk at h ⊢
  cases rk with
  | none => exact fun G' H' v x r => h G' H' v (Ext.unground I x) r
  | some k => exact fun G' H' v fj x o n => h G' H' v fj (Ext.unground I x) o fun p hp => ⟨(n p hp).1, unground_none I (n p hp).2⟩
theorem GS.ground {fp} {G H : Hp} {σ : L2.St} {ρ : Env} {own' : Owns} {Dn : Ends} {o : Out} (I : SIf fp G0 H0 own G H σ ρ) (h : GS X.mg J G0 H0 own' Dn o) : GS X.mg J G (holeH H fp) own' Dn o := by
  cases o with
  | nx ρ' => exact fun G' H' σ' I' => h G' H' σ' (SI.unground I I')
  | bk ρ' => exact fun G' H' σ' I' => h G' H' σ' (SI.unground I I')
  | ct ρ' => exact fun G' H' σ' I' => h G' H' σ' (SI.unground I I')
  | rt d => exact RetOk.ground I h
  | ex c ρ' => exact fun C own2 G' H' σ' hx m I' => h C own2 G' H' σ' hx m (SI.unground I I')
  | no => exact h
theorem for_run {tb : TS} {F : DSem} {fg is : List Nat} {ks : D → Res (List D)} {ds : List D} {It' : It} {tg : TG} {G H : Hp} {σ : L2.St} {ρ : Env} {Dn : Ends}
    (h3 : ∀ (G H : Hp) (σ : L2.St) (v : V) (d : D) (Q : L2.St → Hp → Prop) (l : List D), Sub G H → Rep G d v → ks d = .ok l → (∀ ws, Reps G l ws → ws.length = is.length → Q (setS σ is ws) H) → tg v σ H Q)
    (hb : ∀ (G0 H0 G H : Hp) (σ : L2.St) (ρ : Env) (Dn : Ends), SI G0 H0 own G H σ ρ → GS X.mg { J with L := own } G0 H0 own Dn (F ρ) → tb Dn σ H)
    (hi : ∀ i ∈ is, own.lookup i = none) (I : SI G H0 own G H σ ρ) (hJ : ∀ (G2 H2 : Hp) (i : Nat), (∀ a o, G a = some o → G2 a = some o) → Sub G2 H2 → (∀ d, ds[i]? = some d → It'.go i H2 ∧ ∀ x H', It'.yld i H2 x H' → ∃ G', Ext G2 H2 G' H' ∧ Rep G' d x) ∧ (ds.length ≤ i → It'.stop i H2))
    (h : GS X.mg J G H0 own Dn (forF is ks F fg ds ρ)) :
    ∃ W : Nat → Nat → L2.St → Hp → Prop, (∃ m, W 0 m σ H) ∧ ∀ i m σ H, W i m σ H →
      (It'.stop i H ∧ Dn.nx σ H) ∨ (It'.go i H ∧ ∃ N : L2.St → Hp → Prop, (∀ σ' H', N σ' H' → ∃ m', m' < m ∧ W (i + 1) m' σ' H') ∧ ∀ x H', It'.yld i H x H' → tg x σ H' fun σ2 H2 => tb { Dn with nx := N, ct := N, bk := Dn.nx } σ2 H2) := by
  refine ⟨fun i m σ H => m = ds.length - i ∧ i ≤ ds.length ∧ ∃ G' ρ, SI G H0 own G' H σ ρ ∧ GS X.mg J G H0 own Dn (forF is ks F fg (ds.drop i) ρ), ⟨ds.length, by simp, Nat.zero_le _, G, ρ, I, h⟩, ?_⟩
  rintro i m σ H ⟨rfl, hle, G1, ρ1, I1, h1⟩
  obtain ⟨hgo, hstop⟩ := hJ G1 H i I1.ext.g I1.sub
  by_cases hlt : i < ds.length
  · refine .inr ?_
    have hd : ds.drop i = ds[i] :: ds.drop (i + 1) := List.drop_eq_getElem_cons hlt
    rw [hd] at h1
    obtain ⟨go, yl⟩ := hgo ds[i] (by simp [hlt])
    refine ⟨go, _, fun σ' H' w => ⟨ds.length - (i + 1), by omega, rfl, hlt, w⟩, fun x H' y => ?_⟩
    obtain ⟨G2, ex, rx⟩ := yl x H' y
    unfold forF at h1
    split at h1
    · rename_i l q
      refine h3 G2 H' σ x ds[i] _ l ex.s rx q fun ws rws nws => ?_
      obtain ⟨fp, I1⟩ := I1
      have I2 : SI G H0 own G2 H' (setS σ is ws) (setE ρ1 is l) := ⟨fp, (I1.grow ex).sets hi rws⟩
      refine hb G H0 G2 H' _ _ _ I2 ?_
      cases q : F (setE ρ1 is l) with
      | nx ρ' => rw [q] at h1; exact fun G3 H3 σ3 I3 => ⟨G3, _, I3.forget fg, h1⟩
      | ct ρ' => rw [q] at h1; exact fun G3 H3 σ3 I3 => ⟨G3, _, I3.forget fg, h1⟩
      | bk ρ' => rw [q] at h1; exact fun G3 H3 σ3 I3 => h1 G3 H3 σ3 (I3.forget fg)
      | rt d => rw [q] at h1; exact h1
      | ex c d => rw [q] at h1; exact h1
      | no => rw [q] at h1; exact h1
    · exact h1.elim
  · exact .inl ⟨hstop (by omega), by
      have e : i = ds.length := by omega
      subst e
      rw [List.drop_length] at h1
      exact h1 G1 H σ I1⟩
theorem ds_for {tg it : Expr} {body : List Stmt} {fi : Env → Res (List D)} {is fg : List Nat} {ks : D → Res (List D)} {F : DSem} (hp : PassesOwn (model X.prog X.w) X.A X.env X.xe) (hc : X.calm = true) (di : DI X J.W tg it fi) (dg : DG X tg is ks) (db : DSs X { J with L := own } own own body F)
    (hi : ∀ i ∈ is, own.lookup i = none) (hx : oxSub J.ox own = true := by rfl) (hs : ∀ x, foldedSetIterable it X.env x = pure x := by intro _; rfl) : DS X J own own (.For tg it body [] pos) (sFor own fi is ks F fg) := by
  obtain ⟨wi, pi, h1⟩ := di
  obtain ⟨tg', pg, h3⟩ := dg
  obtain ⟨tb, pb, hb⟩ := db
  refine ⟨_, ps_for hp hc pi pg pb hs, fun G0 H0 G H σ ρ Dn ⟨fp, I⟩ h => ?_⟩
  refine h1 G H σ (maskE own ρ) _ I.sub I.masked (toP hx I I.sub h fun ds _ hk G' H' e It' hJ => ?_)
  have I1 := I.grow e
  have I2 := I1.ground
  exact for_run h3 hb hi (SI.forget ⟨fp, I2⟩ fg) hJ (hk.ground I1)
end

/-! ### walks that lean on no region -/
def DIv (X : Cx) (W : WX) (tg it : Expr) (f : Env → Res (List D)) : Prop :=
  ∃ wi : TI, PI X tg it wi ∧ ∀ (G H : Hp) (σ : L2.St) (ρ : Env) (R : It → Hp → Prop), Sub G H → EnvR G σ ρ → Gl X.mg W G H σ (fun ds G' H' => ∀ J, (∀ G2, ItD J G2 ds) → R J H') (f ρ) → wi σ H R
section
variable {X : Cx} {W : WX} {tg e e2 : Expr} {f g : Env → Res D} {p pos : Pos}
theorem div_range1 (hg : L2.Gl X "range") (hm : X.mg "range" = none) (d : DE X W e f) (hs : starEach [e] X.env = [(false, eval e X.env)] := by rfl) : DIv X W tg (.Call (.Name "range" p) [e] [] pos) (iRange1 f) := by
  obtain ⟨t, pe, h1⟩ := d
  refine ⟨_, pi_range1 hg hm (pa_cons pe pa_nil hs) hs, fun G H σ ρ R s e h => ?_⟩
  refine h1 G H σ ρ _ s e (Gl.imp (fun x G1 H1 _ e1 k v rv => ?_) (Gl.bind h))
  cases x with
  | int j =>
    have e2 : v = .int j := rv
    subst e2
    simp only at k
    split at k
    · rename_i z
      exact ⟨j, rfl, z.1, z.2, k G1 H1 (Ext.refl e1.s) _ fun _ => itd_rng⟩
    · exact k.elim
  | _ => exact k.elim
theorem div_range2 (hg : L2.Gl X "range") (hm : X.mg "range" = none) (d : DE X W e f) (d2 : DE X W e2 g) (hs : starEach [e, e2] X.env = [(false, eval e X.env), (false, eval e2 X.env)] := by rfl) (hs2 : starEach [e2] X.env = [(false, eval e2 X.env)] := by rfl) :
    DIv X W tg (.Call (.Name "range" p) [e, e2] [] pos) (iRange2 f g) := by
  obtain ⟨t, pe, h1⟩ := d
  obtain ⟨t2, pe2, h2⟩ := d2
  refine ⟨_, pi_range2 hg hm (pa_cons pe (pa_cons pe2 pa_nil hs2) (by rw [hs, hs2])) hs hs2, fun G H σ ρ R s e h => ?_⟩
  refine h1 G H σ ρ _ s e (Gl.imp (fun x G1 H1 _ e1 k v rv => ?_) (Gl.bind h))
  refine h2 G1 H1 σ ρ _ e1.s (e.le e1.le) (Gl.imp (fun y G2 H2 _ e2 k w rw' => ?_) (Gl.bind k))
  cases x with
  | int i =>
    cases y with
    | int j =>
      have e3 : v = .int i := rv
      have e4 : w = .int j := rw'
      subst e3 e4
      simp only at k
      split at k
      · rename_i z
        exact ⟨i, j, rfl, z, k G2 H2 (Ext.refl e2.s) _ fun _ => itd_rng⟩
      · exact k.elim
    | _ => exact k.elim
  | _ => exact k.elim
end
theorem ds_forV {X : Cx} {J : Jd} {own : Owns} {pos : Pos} {tg it : Expr} {body : List Stmt} {fi : Env → Res (List D)} {is fg : List Nat} {ks : D → Res (List D)} {F : DSem} (hp : PassesOwn (model X.prog X.w) X.A X.env X.xe) (hc : X.calm = true) (di : DIv X J.W tg it fi) (dg : DG X tg is ks) (db : DSs X { J with L := own } own own body F)
    (hi : ∀ i ∈ is, own.lookup i = none) (hx : oxSub J.ox own = true := by rfl) (hs : ∀ x, foldedSetIterable it X.env x = pure x := by intro _; rfl) : DS X J own own (.For tg it body [] pos) (sForV fi is ks F fg) := by
  obtain ⟨wi, pi, h1⟩ := di
  obtain ⟨tg', pg, h3⟩ := dg
  obtain ⟨tb, pb, hb⟩ := db
  refine ⟨_, ps_for hp hc pi pg pb hs, fun G0 H0 G H σ ρ Dn ⟨fp, I⟩ h => ?_⟩
  have s := (view_ext I.ext).s
  refine h1 _ H σ ρ _ s I.view (toP hx I s h fun ds _ hk G' H' e It' hJ => ?_)
  have I1 := I.grow (Ext.tups I.sub e.h)
  have I2 := I1.ground
  exact for_run h3 hb hi (SI.forget ⟨fp, I2⟩ fg) (hJ _) (hk.ground I1)

/-! ### defs -/
def startE (n : Nat) (ds : List D) : Env := ds.map some ++ List.replicate (n - ds.length) none
/-- what a def hands back -/
def runF (n : Nat) (F : DSem) (ds : List D) : Res D := match F (startE n ds) with
  | .rt d => .ok d
  | .nx _ => .ok .non
  | .ex c _ => .ex c
  | _ => .no
/-- the promise: its answer is f of the arguments -/
def spK (mg : Str → Option Value) (rk : Option Kd) (n : Nat) (f : List D → Res D) : Sp := fun vs H Q E => vs.length = n ∧ ∃ G ds, Sub G H ∧ Reps G ds vs ∧ match f ds with
  | .ok d => RetOk rk G H Q d
  | .ex c => ∀ C G' H', mg c = some (.ref C) → Ext G H G' H' → E (.ref C) none H'
  | .no => False
theorem startR {G : Hp} {N : List Str} : ∀ {ds : List D} {vs : List V}, Reps G ds vs → EnvR G (L2.start N vs) (startE N.length ds) := by
  intro ds vs r
  refine ⟨by simp [startE, L2.start, r.length], fun i d e => ?_⟩
  unfold startE at e
  by_cases hi : i < ds.length
  · rw [List.getElem?_append_left (by simpa using hi), List.getElem?_map] at e
    cases q : ds[i]? with
    | none => rw [q] at e; cases e
    | some x =>
      rw [q] at e
      have e : x = d := by simpa using e
      subst e
      obtain ⟨v, h1, h2⟩ := r.get q
      refine ⟨v, ?_, h2⟩
      unfold L2.start
      rw [List.getElem?_append_left (by rw [List.length_map, r.length]; exact hi), List.getElem?_map, h1]
      rfl
  · rw [List.getElem?_append_right (by simpa using hi), List.getElem?_replicate] at e
    split at e <;> cases e
section
variable {P : Program} {w : World} {K : PySem.W.Frag} {mg : Str → Option Value} {base : Heap}
theorem def_ok {x qual : Str} {st : Stmt} {f : Addr} {fd : FuncData} {N ps : List Str} {k : Nat} {rk : Option Kd} {F : DSem} (Fn : Fun K x qual st f fd) (S : FnScope N ps (defScope st)) {own' : Owns} (hend : rk = none ∨ rk = some .dp)
    (hb : ∀ (cdv : Value) (A : Around) (outer : List PySem.Env) (s : Shared) (H : Hp) (E : XK), Room k (A.deeper (envOfC qual (defScope st) s.heap.objs.size f cdv)) →
      Takes (cxOf (L2.CX P w) P w K mg base N qual (defScope st) f cdv A outer s H E) (fun cls d _ H => E cls d H) →
      PassesOwn (model P w) (cxOf (L2.CX P w) P w K mg base N qual (defScope st) f cdv A outer s H E).A (cxOf (L2.CX P w) P w K mg base N qual (defScope st) f cdv A outer s H E).env (cxOf (L2.CX P w) P w K mg base N qual (defScope st) f cdv A outer s H E).xe →
      DSs (cxOf (L2.CX P w) P w K mg base N qual (defScope st) f cdv A outer s H E) ⟨fun cls d _ H => E cls d H, [], [], rk⟩ [] own' (defBody st) F) :
    FnOk P w K mg base (L2.CX P w) (k + 1) f fd ps (spK mg rk ps.length (runF N.length F)) := by
  refine Fn.okX S (fun vs H Q E h => h.1) fun cdv A outer s H vs Q E hr h => ?_
  obtain ⟨t, pt, ht⟩ := hb cdv A outer s H E hr (takes_of rfl rfl rfl rfl) (passes_of rfl)
  obtain ⟨hl, G, ds, sb, rs, hq⟩ := h
  refine ⟨t, pt, ?_⟩
  have er := startR (N := N) rs
  refine ht G H G H (L2.start N vs) (startE N.length ds) _ ⟨fun _ => [], ⟨Ext.refl sb, er.len, fun i d e _ => er.val i d e, fun i k d q => by simp at q, fun i p hp => by simp at hp, fun i j p _ hp => by simp at hp⟩⟩ ?_
  unfold runF at hq
  cases q : F (startE N.length ds) with
  | nx ρ' =>
    rw [q] at hq
    intro G' H' σ' I'
    have hq : RetOk rk G H Q .non := hq
    unfold RetOk at hq
    rcases hend with e | e
    · rw [e] at hq; exact hq G' H' .non I'.ext rfl
    · rw [e] at hq; exact hq G' H' .non [] I'.ext ⟨⟨rfl, rfl⟩, List.nodup_nil⟩ fun p hp => by cases hp
  | rt d => rw [q] at hq; exact hq
  | ex c ρ' => rw [q] at hq; exact fun C own G' H' σ' _ m I' => hq C G' H' m I'.ext
  | bk ρ' => rw [q] at hq; exact hq.elim
  | ct ρ' => rw [q] at hq; exact hq.elim
  | no => rw [q] at hq; exact hq.elim
end
end DL

/-! DL7: calls of own defs, new things, changes of what is owned. -/
namespace DL
open PySem PySem.Spec PyProof.Rows L2

/-! ### what is new and owned -/
theorem RepOs.append {H : Hp} : ∀ {ds es : List D} {vs ws : List V} {f g : List Addr}, RepOs H ds vs f → RepOs H es ws g → RepOs H (ds ++ es) (vs ++ ws) (f ++ g)
  | [], _, _, _, _, _, h, q => by rw [h.1, h.2]; exact q
  | d :: r, _, _, _, _, _, ⟨v, s, f1, f2, e, ef, h, q⟩, q2 => by
    subst ef
    exact ⟨v, s ++ _, f1, f2 ++ _, by rw [e]; rfl, by simp, h, RepOs.append q q2⟩
theorem joinG_le {G H : Hp} (s : Sub G H) (fj : List Addr) : ∀ a o, G a = some o → joinG G H fj a = some o := fun a o e => by
  have e2 := s a o e
  unfold joinG
  split
  · rename_i vs q; rw [q] at e2; cases e2; rfl
  · split
    · exact e2
    · exact e
theorem joinG_sub {G H : Hp} (s : Sub G H) (fj : List Addr) : Sub (joinG G H fj) H := fun a o e => by
  unfold joinG at e
  split at e
  · rename_i vs q; rw [q]; exact e
  · split at e
    · exact e
    · exact s a o e
theorem joinG_at {G H : Hp} {fj : List Addr} : At H (joinG G H fj) fj := ⟨fun p hp => by
  unfold joinG
  split
  · rename_i vs q; rw [q]
  · rw [if_pos hp], fun a vs e => by unfold joinG; rw [e]⟩
theorem joinG_ext {G H G' H' : Hp} {fj : List Addr} (x : Ext G H G' H') (hn : ∀ p ∈ fj, H p = none) : Ext G H (joinG G' H' fj) H' where
  h := x.h
  g := fun a o e => joinG_le x.s fj a o (x.g a o e)
  s := joinG_sub x.s fj
  n := fun a o e => by
    unfold joinG at e
    split at e
    · exact .inr (.inr ⟨_, (Option.some.inj e).symm⟩)
    · split at e
      · rename_i h; exact .inr (.inl (hn a h))
      · exact x.n a o e
abbrev GlF (mg : Str → Option Value) (W : WX) (k : Kd) (G H : Hp) (σ : L2.St) (Q : VK) : Res D → Prop := Gl mg W G H σ fun d G' H' => ∀ v fj, OwnK k G' H' d v fj → (∀ p ∈ fj, G' p = none ∧ H p = none) → Q v H'
def DF (X : Cx) (W : WX) (k : Kd) (e : Expr) (f : Env → Res D) : Prop :=
  ∃ t : TE, PE X e t ∧ ∀ (G H : Hp) (σ : L2.St) (ρ : Env) (Q : VK), Sub G H → EnvR G σ ρ → GlF X.mg W k G H σ Q (f ρ) → t σ H Q
theorem DF.de {X : Cx} {W : WX} {k : Kd} {e : Expr} {f : Env → Res D} (d : DF X W k e f) : DE X W e f := by
  obtain ⟨t, p, h1⟩ := d
  refine ⟨t, p, fun G H σ ρ Q s e h => h1 G H σ ρ Q s e ?_⟩
  cases q : f ρ with
  | ok d =>
    rw [q] at h
    intro G1 H1 e1 v fj o hn
    exact h _ H1 (joinG_ext e1 fun p hp => (hn p hp).2) v (o.rep (Le.of (joinG_le e1.s fj)) joinG_at)
  | ex c => rw [q] at h; exact h
  | no => rw [q] at h; exact h

/-! ### calls of own defs -/
section
variable {X : Cx} {W : WX} {k : Nat} {f : Addr} {fd : FuncData} {ps : List Str} {rk : Option Kd} {n : Nat} {fn : List D → Res D} {x : Str} {p pos : Pos} {e : Expr} {es : List Expr} {g : Env → Res (List D)}
theorem Ext.freeM {G H G1 H1 : Hp} (e1 : Ext G H G1 H1) {q : Addr} (h : H1 q = none) : H q = none := e1.free h
theorem call_rep {G H : Hp} {σ : L2.St} {Q : VK} {ds : List D} {vs : List V} (s : Sub G H) (r : Reps G ds vs) (hl : vs.length = n) (h : GlE X.mg W G H σ Q (fn ds)) : spK X.mg rk n fn vs H Q (WE W σ) := by
  refine ⟨hl, G, ds, s, r, ?_⟩
  cases q : fn ds with
  | ok d =>
    rw [q] at h
    show RetOk rk G H Q d
    unfold RetOk
    cases rk with
    | none => exact fun G' H' v e rv => h G' H' e v rv
    | some k => exact fun G' H' v fj e o hn => h _ H' (joinG_ext e fun p hp => (hn p hp).2) v (o.rep (Le.of (joinG_le e.s fj)) joinG_at)
  | ex c => rw [q] at h; exact fun C G' H' m e => h C G' H' m e
  | no => rw [q] at h; exact h
theorem call_own {kd : Kd} {G H H0 : Hp} {σ : L2.St} {Q : VK} {ds : List D} {vs : List V} (s : Sub G H) (r : Reps G ds vs) (hl : vs.length = n) (h0 : ∀ a, H a = none → H0 a = none)
    (h : Gl X.mg W G H σ (fun d G' H' => ∀ v fj, OwnK kd G' H' d v fj → (∀ p ∈ fj, G' p = none ∧ H0 p = none) → Q v H') (fn ds)) : spK X.mg (some kd) n fn vs H Q (WE W σ) := by
  refine ⟨hl, G, ds, s, r, ?_⟩
  cases q : fn ds with
  | ok d =>
    rw [q] at h
    exact fun G' H' v fj e o hn => h G' H' e v fj o fun p hp => ⟨(hn p hp).1, h0 p (hn p hp).2⟩
  | ex c => rw [q] at h; exact fun C G' H' m e => h C G' H' m e
  | no => rw [q] at h; exact h
/-- the answer, where it is told of n arguments -/
def vCallN (n : Nat) (fn : List D → Res D) (g : Env → Res (List D)) : Env → Res D := fun ρ => g ρ >>= fun ds => if ds.length = n then fn ds else .no
theorem de_call (F : FnOk X.prog X.w X.K X.mg X.base (L2.CX X.prog X.w) k f fd ps (spK X.mg rk n fn)) (tk : Takes X W) (hr : Room k X.A) (hg : L2.Gl X x) (hm : X.mg x = some (.ref f)) (hk : PySem.W.keepIn X.K (.ref f) = true) (hb : Binds X.K fd ps [])
    (d : DA X W (e :: es) g) (hdb : (x == ("__debug__" : Str)) = false := by decide) (he : starEach (e :: es) X.env = (false, eval e X.env) :: starEach es X.env := by rfl) (hpl : (backTo pos (starEach es X.env)).any (·.1) = false := by rfl) :
    DE X W (.Call (.Name x p) (e :: es) [] pos) (vCallN n fn g) := by
  obtain ⟨t, pa, h1⟩ := d
  refine ⟨_, pe_callS F hr hg hm hk hb (fun σ => passAt tk σ) pa hdb he hpl, fun G H σ ρ Q s e h => ?_⟩
  refine h1 G H σ ρ _ s e (Gl.imp (fun ds G1 H1 _ e1 k vs rv => ?_) (Gl.bind h))
  split at k
  · rename_i hl
    exact call_rep e1.s rv (by rw [rv.length]; exact hl) k
  · exact k.elim
theorem df_call {kd : Kd} (F : FnOk X.prog X.w X.K X.mg X.base (L2.CX X.prog X.w) k f fd ps (spK X.mg (some kd) n fn)) (tk : Takes X W) (hr : Room k X.A) (hg : L2.Gl X x) (hm : X.mg x = some (.ref f)) (hk : PySem.W.keepIn X.K (.ref f) = true) (hb : Binds X.K fd ps [])
    (d : DA X W (e :: es) g) (hdb : (x == ("__debug__" : Str)) = false := by decide) (he : starEach (e :: es) X.env = (false, eval e X.env) :: starEach es X.env := by rfl) (hpl : (backTo pos (starEach es X.env)).any (·.1) = false := by rfl) :
    DF X W kd (.Call (.Name x p) (e :: es) [] pos) (vCallN n fn g) := by
  obtain ⟨t, pa, h1⟩ := d
  refine ⟨_, pe_callS F hr hg hm hk hb (fun σ => passAt tk σ) pa hdb he hpl, fun G H σ ρ Q s e h => ?_⟩
  refine h1 G H σ ρ _ s e (Gl.imp (fun ds G1 H1 _ e1 k vs rv => ?_) (Gl.bind h))
  split at k
  · rename_i hl
    exact call_own e1.s rv (by rw [rv.length]; exact hl) (fun a q => e1.free q) k
  · exact k.elim
/-- without arguments -/
def vCall0 (fn : List D → Res D) : Env → Res D := fun _ => fn []
theorem pe_callS0 {sp : Sp} {CX : CXT} {E : L2.St → XK} (F : FnOk X.prog X.w X.K X.mg X.base CX k f fd ps sp) (hr : Room k X.A) (hg : L2.Gl X x) (hm : X.mg x = some (.ref f)) (hk : PySem.W.keepIn X.K (.ref f) = true) (hb : Binds X.K fd ps []) (hx : ∀ σ, PassesAt CX X σ (E σ))
    (hdb : (x == ("__debug__" : Str)) = false := by decide) : PE X (.Call (.Name x p) [] [] pos) (fun σ H Q => sp [] H Q (E σ)) := by
  refine ⟨fun pins s σ H Q I h => ?_⟩
  refine wpAny_Call_Name_kw (ld_glob I hg hm ?_ hdb)
  exact PySem.W.callWith_K0 I.kIn hk (run_fnS (us := []) F hr hb (hx σ) I .nil h)
theorem de_call0 (F : FnOk X.prog X.w X.K X.mg X.base (L2.CX X.prog X.w) k f fd ps (spK X.mg rk 0 fn)) (tk : Takes X W) (hr : Room k X.A) (hg : L2.Gl X x) (hm : X.mg x = some (.ref f)) (hk : PySem.W.keepIn X.K (.ref f) = true) (hb : Binds X.K fd ps []) (hdb : (x == ("__debug__" : Str)) = false := by decide) :
    DE X W (.Call (.Name x p) [] [] pos) (vCall0 fn) :=
  ⟨_, pe_callS0 F hr hg hm hk hb (fun σ => passAt tk σ) hdb, fun G H σ ρ Q s e h => call_rep s (ds := []) rfl rfl h⟩
end

/-! ### new lists -/
abbrev GlN (mg : Str → Option Value) (W : WX) (G H : Hp) (σ : L2.St) (Q : VK) : Res (List D) → Prop := Gl mg W G H σ fun ds G' H' => ∀ p vs, G' p = none → H' p = some (.lst vs) → (∀ a o, H a = some o → a ≠ p) → Reps G' ds vs → Q (.ref p) H'
/-- e makes a new list -/
def DN (X : Cx) (W : WX) (e : Expr) (f : Env → Res (List D)) : Prop :=
  ∃ t : TE, PE X e t ∧ ∀ (G H : Hp) (σ : L2.St) (ρ : Env) (Q : VK), Sub G H → EnvR G σ ρ → GlN X.mg W G H σ Q (f ρ) → t σ H Q
def vLstOf (f : Env → Res (List D)) : Env → Res D := fun ρ => f ρ >>= fun ds => .ok (.lst ds)
def vLstI (f : Env → Res (List D)) : Env → Res D := fun ρ => f ρ >>= fun ds => if imms ds = true then .ok (.lst ds) else .no
theorem none_of_ne {H : Hp} {p : Addr} (h : ∀ a o, H a = some o → a ≠ p) : H p = none := by
  cases q : H p with
  | none => rfl
  | some o => exact absurd rfl (h p o q)
section
variable {X : Cx} {W : WX} {e e1 e2 : Expr} {es : List Expr} {f : Env → Res (List D)} {pos : Pos}
theorem DN.sh (d : DN X W e f) : DF X W .sh e (vLstOf f) := by
  obtain ⟨t, p, h1⟩ := d
  refine ⟨t, p, fun G H σ ρ Q s e h => h1 G H σ ρ Q s e ?_⟩
  unfold vLstOf at h
  cases q : f ρ with
  | ok ds =>
    rw [q] at h
    intro G1 H1 e1 p vs gp hp hn r
    exact h G1 H1 e1 (.ref p) [p] ⟨p, rfl, rfl, vs, hp, r⟩ fun a ha => by rw [show a = p by simpa using ha]; exact ⟨gp, none_of_ne hn⟩
  | ex c => rw [q] at h; exact h
  | no => rw [q] at h; exact h
theorem DN.dp (d : DN X W e f) : DF X W .dp e (vLstI f) := by
  obtain ⟨t, p, h1⟩ := d
  refine ⟨t, p, fun G H σ ρ Q s e h => h1 G H σ ρ Q s e ?_⟩
  unfold vLstI at h
  cases q : f ρ with
  | ok ds =>
    rw [q, Res.bind_ok] at h
    split at h
    · rename_i hi
      intro G1 H1 e1 p vs gp hp hn r
      exact h G1 H1 e1 (.ref p) [p] ⟨⟨p, vs, [], rfl, hp, rfl, RepOs.of_imm hi (r.le (Le.of e1.s))⟩, by simp⟩ fun a ha => by rw [show a = p by simpa using ha]; exact ⟨gp, none_of_ne hn⟩
    · exact h.elim
  | ex c => rw [q] at h; exact h
  | no => rw [q] at h; exact h
theorem DN.de (d : DN X W e f) : DE X W e (vLstOf f) := d.sh.de
/-- the end of a rule that makes a list at p -/
theorem GlN.end {G H G1 H1 : Hp} {Q : VK} {ds : List D} {vs : List V} {p : Addr} (e1 : Ext G H G1 H1) (np : H1 p = none) (r : Reps G1 ds vs) (h : ∀ G' H', Ext G H G' H' → ∀ p vs, G' p = none → H' p = some (.lst vs) → (∀ a o, H a = some o → a ≠ p) → Reps G' ds vs → Q (.ref p) H') : Q (.ref p) (upd H1 p (.lst vs)) := by
  refine h G1 _ (e1.trans (Ext.hid e1.s np)) p vs ?_ upd_same (fun a o q z => ?_) r
  · cases q : G1 p with
    | none => rfl
    | some o => rw [e1.s _ _ q] at np; cases np
  · subst z; rw [e1.h _ _ q] at np; cases np
def nLst (g : Env → Res (List D)) : Env → Res (List D) := fun ρ => g ρ >>= fun xs => if xs.length ≤ sizeLine then .ok xs else .no
theorem dn_lst {g : Env → Res (List D)} (d : DA X W es g) : DN X W (.List es pos) (nLst g) := by
  obtain ⟨t1, p1, h1⟩ := d
  refine ⟨_, pe_lst p1, fun G H σ ρ Q s e h => ?_⟩
  refine h1 G H σ ρ _ s e ?_
  unfold nLst at h
  cases q : g ρ with
  | ok xs =>
    rw [q, Res.bind_ok] at h
    intro G1 H1 e1 vs rvs
    split at h
    · rename_i z
      exact ⟨by rw [rvs.length]; exact z, fun p np => GlN.end e1 np rvs h⟩
    · exact h.elim
  | ex c => rw [q] at h; exact h
  | no => rw [q] at h; exact h
def nCat (f g : Env → Res D) : Env → Res (List D) := fun ρ => f ρ >>= fun x => g ρ >>= fun y => match x, y with
  | .lst xs, .lst ys => if xs.length + ys.length ≤ sizeLine then .ok (xs ++ ys) else .no
  | _, _ => .no
theorem dn_cat {f g : Env → Res D} (d1 : DE X W e1 f) (d2 : DE X W e2 g) : DN X W (.BinOp e1 .Add e2 pos) (nCat f g) := by
  obtain ⟨t1, p1, h1⟩ := d1
  obtain ⟨t2, p2, h2⟩ := d2
  refine ⟨_, pe_op op_catR p1 p2, fun G H σ ρ Q s e h => ?_⟩
  refine h1 G H σ ρ _ s e ?_
  unfold nCat at h
  cases q : f ρ with
  | ok x =>
    rw [q, Res.bind_ok] at h
    intro G1 H1 e1 v rv
    refine h2 G1 H1 σ ρ _ e1.s (e.le e1.le) ?_
    cases q2 : g ρ with
    | ok y =>
      rw [q2, Res.bind_ok] at h
      intro G2 H2 e2 w rw'
      have rv := rv.le e2.le
      cases x with
      | lst xs =>
        cases y with
        | lst ys =>
          simp only at h
          split at h
          · rename_i z
            obtain ⟨a, vs, rfl, ha, ra⟩ := rv
            obtain ⟨b, ws, rfl, hb, rb⟩ := rw'
            exact ⟨a, b, vs, ws, rfl, rfl, e2.s.rd ha, e2.s.rd hb, by rw [ra.length, rb.length]; exact z, fun p np => GlN.end (e1.trans e2) np (ra.append rb) h⟩
          · exact h.elim
        | _ => exact h.elim
      | _ => exact h.elim
    | ex c => rw [q2] at h; exact fun C G' H' m x => h C G' H' m (e1.trans x)
    | no => rw [q2] at h; exact h
  | ex c => rw [q] at h; exact h
  | no => rw [q] at h; exact h
def nSl (f : Env → Res D) (lo hi : Env → Res (Option Int)) : Env → Res (List D) := fun ρ => f ρ >>= fun x => lo ρ >>= fun l => hi ρ >>= fun u => match x with
  | .lst xs => .ok (cutA xs l u)
  | _ => .no
theorem dn_sl {f : Env → Res D} {lo hi : Option Expr} {fl fh : Env → Res (Option Int)} {p2 : Pos} (d : DE X W e f) (dl : DO X W lo fl) (dh : DO X W hi fh) : DN X W (.Subscript e (.Slice lo hi none p2) pos) (nSl f fl fh) := by
  obtain ⟨t1, p1, h1⟩ := d
  obtain ⟨t2, p2, h2⟩ := dl
  obtain ⟨t3, p3, h3⟩ := dh
  refine ⟨_, pe_slice sl_list p1 p2 p3, fun G H σ ρ Q s e h => ?_⟩
  unfold nSl at h
  refine h1 G H σ ρ _ s e ?_
  cases q : f ρ with
  | ok x =>
    rw [q, Res.bind_ok] at h
    intro G1 H1 e1 v rv
    refine h2 G1 H1 σ ρ _ e1.s (e.le e1.le) ?_
    cases q2 : fl ρ with
    | ok l =>
      rw [q2, Res.bind_ok] at h
      intro G2 H2 e2
      refine h3 G2 H2 σ ρ _ e2.s ((e.le e1.le).le e2.le) ?_
      cases q3 : fh ρ with
      | ok u =>
        rw [q3, Res.bind_ok] at h
        intro G3 H3 e3
        have rv := (rv.le e2.le).le e3.le
        cases x with
        | lst xs =>
          obtain ⟨a, vs, rfl, ha, ra⟩ := rv
          exact ⟨a, vs, rfl, e3.s.sqL ha, fun p np => GlN.end ((e1.trans e2).trans e3) np (ra.cut l u) h⟩
        | _ => exact h.elim
      | ex c => rw [q3] at h; exact fun C G' H' m x => h C G' H' m ((e1.trans e2).trans x)
      | no => rw [q3] at h; exact h
    | ex c => rw [q2] at h; exact fun C G' H' m x => h C G' H' m (e1.trans x)
    | no => rw [q2] at h; exact h
  | ex c => rw [q] at h; exact h
  | no => rw [q] at h; exact h
def nList (f : Env → Res D) : Env → Res (List D) := fun ρ => f ρ >>= seqOf
theorem dn_list {f : Env → Res D} {p : Pos} (hg : L2.Gl X "list") (hm : X.mg "list" = none) (d : DE X W e f) (he : starEach (e :: []) X.env = (false, eval e X.env) :: starEach [] X.env := by rfl) (hpl : (backTo pos (starEach [] X.env)).any (·.1) = false := by rfl) :
    DN X W (.Call (.Name "list" p) [e] [] pos) (nList f) := by
  obtain ⟨t1, p1, h1⟩ := d
  refine ⟨_, pe_callTy call_list_of hg hm (by decide +kernel) (pa_cons p1 pa_nil he) (by decide) (by decide) he hpl, fun G H σ ρ Q s e h => ?_⟩
  refine h1 G H σ ρ _ s e ?_
  unfold nList at h
  cases q : f ρ with
  | ok x =>
    rw [q, Res.bind_ok] at h
    intro G1 H1 e1 v rv
    cases x with
    | lst xs =>
      obtain ⟨a, vs, rfl, ha, ra⟩ := rv
      exact ⟨a, vs, rfl, .inl (e1.s.sqL ha), fun p np => GlN.end e1 np ra h⟩
    | tup xs =>
      obtain ⟨a, vs, rfl, ha, ra⟩ := rv
      exact ⟨a, vs, rfl, .inr (e1.s.sqT ha), fun p np => GlN.end e1 np ra h⟩
    | _ => exact h.elim
  | ex c => rw [q] at h; exact h
  | no => rw [q] at h; exact h
end

/-! ### comprehensions make new lists -/
section
variable {X : Cx} {W : WX} {elt tg iter : Expr} {ifs : List Expr} {scope : Scope} {own : List (Str × Nat)} {is : List Nat} {ks : D → Res (List D)} {fi : Env → Res (List D)} {ft : Env → Res Bool} {fe : Env → Res D} {pos : Pos}
theorem lc_N {wi : TI} {vs : List Nat} (h1 : ∀ (G H : Hp) (σ : L2.St) (ρ : Env) (R : It → Hp → Prop), Sub G H → EnvR G σ ρ → GlI X.mg W G H σ R (fi ρ) → wi σ H R) (hv : ∀ i ∈ is, i ∈ vs)
    (G H : Hp) (σ : L2.St) (ρ : Env) (Q : VK) (s : Sub G H) (e : EnvR G σ ρ) (h : GlN X.mg W G H σ Q (nComp fi is ks ft fe vs ρ)) : tLc wi (rdG is ks) (rdT X.mg W0 ft) (rdE X.mg W0 fe) vs σ H Q := by
  refine h1 G H σ ρ _ s e ?_
  unfold nComp at h
  cases q : fi ρ with
  | ok ds =>
    rw [q, Res.bind_ok] at h
    intro G1 H1 e1 J hJ Da nDa
    cases q2 : compL is ks ft fe (wipeE ρ vs) ds with
    | ok ys =>
      rw [q2] at h
      simp only [noEx, Res.bind_ok] at h
      split at h
      · rename_i hz
        exact lc_run (W := W) hv (e.le e1.le) e1.s hJ nDa q2 hz fun G2 H2 acc e2 gD hD r => h G2 H2 (e1.trans e2) Da acc gD hD (fun a o q z => by subst z; rw [e1.h _ _ q] at nDa; cases nDa) r
      · exact h.elim
    | ex c => rw [q2] at h; exact h.elim
    | no => rw [q2] at h; exact h.elim
  | ex c => rw [q] at h; exact h
  | no => rw [q] at h; exact h
theorem dn_comp (hc : X.calm = true) (hN : X.N.Nodup) (di : DI X W tg iter fi) (ok : BlkOk X.N X.env.scope scope own)
    (dg : ∀ (s : Shared) (H : Hp) (C : Addr) (cl : List (Str × Addr)) (fp : List Addr), DG (X.blk s H scope (compEnvC scope cl C X.env) fp) tg is ks)
    (dt : ∀ (s : Shared) (H : Hp) (C : Addr) (cl : List (Str × Addr)) (fp : List Addr), DTs (X.blk s H scope (compEnvC scope cl C X.env) fp) W0 ifs ft)
    (de : ∀ (s : Shared) (H : Hp) (C : Addr) (cl : List (Str × Addr)) (fp : List Addr), DE (X.blk s H scope (compEnvC scope cl C X.env) fp) W0 elt fe)
    (hv : ∀ i ∈ is, i ∈ own.map (·.2)) (hs : ∀ x, foldedSetIterable iter X.env x = pure x := by intro _; rfl) : DN X W (.ListComp elt [⟨tg, iter, ifs, 0⟩] scope pos) (nComp fi is ks ft fe (own.map (·.2))) := by
  obtain ⟨wi, pi, h1⟩ := di
  exact ⟨_, pe_lc (te := rdE X.mg W0 fe) (tt := rdT X.mg W0 ft) (g := rdG is ks) hc hN pi ok (fun s H C cl fp => (dg s H C cl fp).pg) (fun s H C cl fp => (dt s H C cl fp).pts) (fun s H C cl fp => (de s H C cl fp).pe) hs, lc_N h1 hv⟩
/-- the statement stores a new list in slot j -/
def AN (X : Cx) (W : WX) (st : Stmt) (j : Nat) (f : Env → Res (List D)) : Prop :=
  ∃ t : TE, PS X st (tAsg t (gName j)) ∧ ∀ (G H : Hp) (σ : L2.St) (ρ : Env) (Q : VK), Sub G H → EnvR G σ ρ → GlN X.mg W G H σ Q (f ρ) → t σ H Q
def AF (X : Cx) (W : WX) (k : Kd) (st : Stmt) (j : Nat) (f : Env → Res D) : Prop :=
  ∃ t : TE, PS X st (tAsg t (gName j)) ∧ ∀ (G H : Hp) (σ : L2.St) (ρ : Env) (Q : VK), Sub G H → EnvR G σ ρ → GlF X.mg W k G H σ Q (f ρ) → t σ H Q
theorem an_comp {i : Nat} {y : Str} {py spos : Pos} (hc : X.calm = true) (hN : X.N.Nodup) (hy : X.N[i]? = some y) (hyl : X.env.scope.names.lookup y = some .local)
    (hsw : swapsWith (.ListComp elt [⟨tg, iter, ifs, 0⟩] scope pos) (some (.Name y py)) spos.line X.env = pure true) (di : DI X W tg iter fi) (ok : BlkOk X.N X.env.scope scope own)
    (dg : ∀ (s : Shared) (H : Hp) (C : Addr) (cl : List (Str × Addr)) (fp : List Addr), DG (X.blk s H scope (compEnvC scope cl C X.env) fp) tg is ks)
    (dt : ∀ (s : Shared) (H : Hp) (C : Addr) (cl : List (Str × Addr)) (fp : List Addr), DTs (X.blk s H scope (compEnvC scope cl C X.env) fp) W0 ifs ft)
    (de : ∀ (s : Shared) (H : Hp) (C : Addr) (cl : List (Str × Addr)) (fp : List Addr), DE (X.blk s H scope (compEnvC scope cl C X.env) fp) W0 elt fe)
    (hv : ∀ i ∈ is, i ∈ own.map (·.2)) (hs : ∀ x, foldedSetIterable iter X.env x = pure x := by intro _; rfl) : AN X W (.Assign [.Name y py] (.ListComp elt [⟨tg, iter, ifs, 0⟩] scope pos) spos) i (nComp fi is ks ft fe (own.map (·.2))) := by
  obtain ⟨wi, pi, h1⟩ := di
  exact ⟨_, ps_setLc (te := rdE X.mg W0 fe) (tt := rdT X.mg W0 ft) (g := rdG is ks) hc hN hy hyl hsw pi ok (fun s H C cl fp => (dg s H C cl fp).pg) (fun s H C cl fp => (dt s H C cl fp).pts) (fun s H C cl fp => (de s H C cl fp).pe) hs, lc_N h1 hv⟩
end
section
variable {X : Cx} {W : WX} {st : Stmt} {j : Nat} {f : Env → Res (List D)}
theorem AN.sh (d : AN X W st j f) : AF X W .sh st j (vLstOf f) := by
  obtain ⟨t, p, h1⟩ := d
  refine ⟨t, p, fun G H σ ρ Q s e h => h1 G H σ ρ Q s e ?_⟩
  unfold vLstOf at h
  cases q : f ρ with
  | ok ds =>
    rw [q] at h
    intro G1 H1 e1 p vs gp hp hn r
    exact h G1 H1 e1 (.ref p) [p] ⟨p, rfl, rfl, vs, hp, r⟩ fun a ha => by rw [show a = p by simpa using ha]; exact ⟨gp, none_of_ne hn⟩
  | ex c => rw [q] at h; exact h
  | no => rw [q] at h; exact h
theorem AN.dp (d : AN X W st j f) : AF X W .dp st j (vLstI f) := by
  obtain ⟨t, p, h1⟩ := d
  refine ⟨t, p, fun G H σ ρ Q s e h => h1 G H σ ρ Q s e ?_⟩
  unfold vLstI at h
  cases q : f ρ with
  | ok ds =>
    rw [q, Res.bind_ok] at h
    split at h
    · rename_i hi
      intro G1 H1 e1 p vs gp hp hn r
      exact h G1 H1 e1 (.ref p) [p] ⟨⟨p, vs, [], rfl, hp, rfl, RepOs.of_imm hi (r.le (Le.of e1.s))⟩, by simp⟩ fun a ha => by rw [show a = p by simpa using ha]; exact ⟨gp, none_of_ne hn⟩
    · exact h.elim
  | ex c => rw [q] at h; exact h
  | no => rw [q] at h; exact h
theorem AF.ae {k : Kd} {f : Env → Res D} (d : AF X W k st j f) : AE X W st j f := by
  obtain ⟨t, p, h1⟩ := d
  refine ⟨t, p, fun G H σ ρ Q s e h => h1 G H σ ρ Q s e ?_⟩
  cases q : f ρ with
  | ok d =>
    rw [q] at h
    intro G1 H1 e1 v fj o hn
    exact h _ H1 (joinG_ext e1 fun p hp => (hn p hp).2) v (o.rep (Le.of (joinG_le e1.s fj)) joinG_at)
  | ex c => rw [q] at h; exact h
  | no => rw [q] at h; exact h
theorem AN.ae (d : AN X W st j f) : AE X W st j (vLstOf f) := d.sh.ae
end
section
variable {X : Cx} {W : WX} {e : Expr} {j : Nat} {x : Str} {pos pos' : Pos}
theorem af_set {k : Kd} {f : Env → Res D} (hN : X.N.Nodup) (hi : X.N[j]? = some x) (hl : Loc X.env.scope x) (d : DF X W k e f) (hs : swapsWith e (some (.Name x pos')) pos.line X.env = pure false := by rfl) (hf : X.fn x = true ∨ X.env.scope.names.lookup x = some .local := by first | exact .inl rfl | exact .inr rfl | assumption) :
    AF X W k (.Assign [.Name x pos'] e pos) j f := let ⟨t, p, h⟩ := d; ⟨t, ps_set hN hi hl p hs hf, h⟩
end

/-! ### new dicts -/
section
variable {X : Cx} {W : WX} {pos : Pos}
theorem upd_none {G H : Hp} (s : Sub G H) {p : Addr} (np : H p = none) : G p = none := by
  cases q : G p with
  | none => rfl
  | some o => rw [s _ _ q] at np; cases np
theorem df_newK {k : Kd} : DF X W k (.Dict [] [] pos) (vC (.dK [])) := by
  refine ⟨_, pe_dnewK, fun G H σ ρ Q s e h p np => ?_⟩
  refine h G _ (Ext.hid s np) (.ref p) [p] ?_ fun a ha => by rw [show a = p by simpa using ha]; exact ⟨upd_none s np, np⟩
  cases k with
  | sh => exact ⟨p, rfl, rfl, [], upd_same, rfl⟩
  | dp => exact ⟨⟨p, [], [], rfl, upd_same, rfl, rfl, rfl⟩, by simp⟩
theorem df_newT {k : Kd} : DF X W k (.Dict [] [] pos) (vC (.dT [])) := by
  refine ⟨_, pe_dnewT, fun G H σ ρ Q s e h p np => ?_⟩
  refine h G _ (Ext.hid s np) (.ref p) [p] ?_ fun a ha => by rw [show a = p by simpa using ha]; exact ⟨upd_none s np, np⟩
  cases k with
  | sh => exact ⟨p, rfl, rfl, [], upd_same, rfl⟩
  | dp => exact ⟨⟨p, [], [], rfl, upd_same, rfl, rfl, rfl⟩, by simp⟩
end

/-! ### displays of owned parts -/
/-- arguments each of which is immutable or owned and new -/
def DFs (X : Cx) (W : WX) (es : List Expr) (f : Env → Res (List D)) : Prop :=
  ∃ t : TA, PA X es t ∧ ∀ (G H : Hp) (σ : L2.St) (ρ : Env) (Q : List V → Hp → Prop), Sub G H → EnvR G σ ρ →
    Gl X.mg W G H σ (fun ds G' H' => ∀ vs fj, RepOs H' ds vs fj → fj.Nodup → (∀ p ∈ fj, G' p = none ∧ H p = none) → Q vs H') (f ρ) → t σ H Q
def aConsI (f : Env → Res D) (g : Env → Res (List D)) : Env → Res (List D) := fun ρ => f ρ >>= fun x => if imm x = true then g ρ >>= fun xs => .ok (x :: xs) else .no
section
variable {X : Cx} {W : WX} {e : Expr} {es : List Expr} {f : Env → Res D} {g : Env → Res (List D)} {pos : Pos}
theorem dfs_nil : DFs X W [] aNil := ⟨_, pa_nil, fun G H σ ρ Q s e h => h G H (Ext.refl s) [] [] ⟨rfl, rfl⟩ List.nodup_nil fun p hp => by cases hp⟩
theorem dfs_imm (d1 : DE X W e f) (d2 : DFs X W es g) (hs : starEach (e :: es) X.env = (false, eval e X.env) :: starEach es X.env := by rfl) : DFs X W (e :: es) (aConsI f g) := by
  obtain ⟨t1, p1, h1⟩ := d1
  obtain ⟨t2, p2, h2⟩ := d2
  refine ⟨_, pa_cons p1 p2 hs, fun G H σ ρ Q s e h => ?_⟩
  unfold aConsI at h
  refine h1 G H σ ρ _ s e ?_
  cases q : f ρ with
  | ok x =>
    rw [q, Res.bind_ok] at h
    split at h
    · rename_i hi
      intro G1 H1 e1 v rv
      refine h2 G1 H1 σ ρ _ e1.s (e.le e1.le) ?_
      cases q2 : g ρ with
      | ok xs =>
        rw [q2, Res.bind_ok] at h
        intro G2 H2 e2 vs fj rvs nd hn
        refine h G2 H2 (e1.trans e2) (v :: vs) fj ⟨v, vs, [], fj, rfl, rfl, RepO.of_imm hi ((rv.le e2.le).le (Le.of e2.s)), rvs⟩ nd fun p hp => ⟨(hn p hp).1, e1.free (hn p hp).2⟩
      | ex c => rw [q2] at h; exact fun C G' H' m x => h C G' H' m (e1.trans x)
      | no => rw [q2] at h; exact h
    · exact h.elim
  | ex c => rw [q] at h; exact h
  | no => rw [q] at h; exact h
theorem dfs_own (d1 : DF X W .dp e f) (d2 : DFs X W es g) (hs : starEach (e :: es) X.env = (false, eval e X.env) :: starEach es X.env := by rfl) : DFs X W (e :: es) (aCons f g) := by
  obtain ⟨t1, p1, h1⟩ := d1
  obtain ⟨t2, p2, h2⟩ := d2
  refine ⟨_, pa_cons p1 p2 hs, fun G H σ ρ Q s e h => ?_⟩
  unfold aCons at h
  refine h1 G H σ ρ _ s e ?_
  cases q : f ρ with
  | ok x =>
    rw [q, Res.bind_ok] at h
    intro G1 H1 e1 v f1 o1 n1
    refine h2 G1 H1 σ ρ _ e1.s (e.le e1.le) ?_
    cases q2 : g ρ with
    | ok xs =>
      rw [q2, Res.bind_ok] at h
      intro G2 H2 e2 vs fj rvs nd hn
      have m1 := o1.1.mut
      have o2 : RepO H2 x v f1 := o1.1.at (e2.at m1)
      refine h G2 H2 (e1.trans e2) (v :: vs) (f1 ++ fj) ⟨v, vs, f1, fj, rfl, rfl, o2, rvs⟩ ?_ fun p hp => ?_
      · refine List.nodup_append.mpr ⟨o1.2, nd, fun a ha b hb z => ?_⟩
        subst z
        have := m1 a ha
        rw [(hn a hb).2] at this
        exact this
      · rcases List.mem_append.mp hp with hp | hp
        · exact ⟨e2.mutn (n1 p hp).1 (m1 p hp), (n1 p hp).2⟩
        · exact ⟨(hn p hp).1, e1.free (hn p hp).2⟩
    | ex c => rw [q2] at h; exact fun C G' H' m x => h C G' H' m (e1.trans x)
    | no => rw [q2] at h; exact h
  | ex c => rw [q] at h; exact h
  | no => rw [q] at h; exact h
theorem upd_at {H : Hp} {p : Addr} {o : HO} {fj : List Addr} (np : H p = none) (hm : ∀ q ∈ fj, Mut (H q)) : At H (upd H p o) fj := ⟨fun q hq => upd_ne fun z => by
  subst z
  have := hm q hq
  rw [np] at this
  exact this, fun a vs e => by rw [upd_ne (ne_of_none e np)]; exact e⟩
theorem df_tup {x1} (d : DFs X W es g) : DF X W .dp (.Tuple es x1 pos) (vTup g) := by
  obtain ⟨t1, p1, h1⟩ := d
  refine ⟨_, pe_tup p1, fun G H σ ρ Q s e h => ?_⟩
  unfold vTup at h
  refine h1 G H σ ρ _ s e ?_
  cases q : g ρ with
  | ok xs =>
    rw [q, Res.bind_ok] at h
    intro G1 H1 e1 vs fj rvs nd hn
    split at h
    · rename_i z
      have hl : vs.length = xs.length := (rvs.rep (G := H1) ⟨fun _ _ => rfl, fun _ _ e => e⟩).length
      refine ⟨by rw [hl]; exact z, fun p np => ?_⟩
      have ex : Ext G1 H1 (upd G1 p (.tup vs)) (upd H1 p (.tup vs)) := Ext.new e1.s np
      refine h _ _ (e1.trans ex) (.ref p) fj ⟨⟨p, vs, rfl, upd_same, rvs.at (upd_at np rvs.mut)⟩, nd⟩ fun a ha => ⟨?_, (hn a ha).2⟩
      rw [upd_ne]
      · exact (hn a ha).1
      · intro z2
        subst z2
        have := rvs.mut a ha
        rw [np] at this
        exact this
    · exact h.elim
  | ex c => rw [q] at h; exact h
  | no => rw [q] at h; exact h
theorem df_lst (d : DFs X W es g) : DF X W .dp (.List es pos) (vLst g) := by
  obtain ⟨t1, p1, h1⟩ := d
  refine ⟨_, pe_lst p1, fun G H σ ρ Q s e h => ?_⟩
  unfold vLst at h
  refine h1 G H σ ρ _ s e ?_
  cases q : g ρ with
  | ok xs =>
    rw [q, Res.bind_ok] at h
    intro G1 H1 e1 vs fj rvs nd hn
    split at h
    · rename_i z
      have hl : vs.length = xs.length := (rvs.rep (G := H1) ⟨fun _ _ => rfl, fun _ _ e => e⟩).length
      refine ⟨by rw [hl]; exact z, fun p np => ?_⟩
      have ex : Ext G1 H1 G1 (upd H1 p (.lst vs)) := Ext.hid e1.s np
      have pn : p ∉ fj := fun hp => by
        have := rvs.mut p hp
        rw [np] at this
        exact this
      refine h _ _ (e1.trans ex) (.ref p) (p :: fj) ⟨⟨p, vs, fj, rfl, upd_same, rfl, rvs.at (upd_at np rvs.mut)⟩, List.nodup_cons.mpr ⟨pn, nd⟩⟩ fun a ha => ?_
      rcases List.mem_cons.mp ha with z2 | ha
      · subst z2; exact ⟨upd_none e1.s np, e1.free np⟩
      · exact hn a ha
    · exact h.elim
  | ex c => rw [q] at h; exact h
  | no => rw [q] at h; exact h
end
end DL

/-! DL8: new things stored; changes of what is owned. -/
namespace DL
open PySem PySem.Spec PyProof.Rows L2

section
variable {X : Cx} {J : Jd} {own own1 own2 : Owns} {st : Stmt} {e : Expr} {f : Env → Res D} {pos : Pos}
/-- from a goal of a new thing -/
theorem toF {G0 H0 G H : Hp} {σ : L2.St} {ρ : Env} {Dn : Ends} {k : D → Out} {kd : Kd} {Q : VK} {fp} {G1 : Hp} {r : Res D} (hx : oxSub J.ox own = true) (I : SIf fp G0 H0 own G H σ ρ) (h1 : Sub G1 H)
    (h : GS X.mg J G0 H0 own1 Dn (andThen r ρ k)) (hP : ∀ d, GS X.mg J G0 H0 own1 Dn (k d) → ∀ G' H', Ext G1 H G' H' → ∀ v fj, OwnK kd G' H' d v fj → (∀ p ∈ fj, G' p = none ∧ H p = none) → Q v H') : GlF X.mg J.W kd G1 H σ Q r := by
  cases r with
  | ok a => exact fun G' H' e => hP a h G' H' e
  | ex c => exact fun C G' H' m e => h C own G H' σ hx m ⟨fp, I.grow (Ext.up I.sub e.h)⟩
  | no => exact h
theorem own_new {G0 H0 G H : Hp} {σ : L2.St} {ρ : Env} {fp} (I : SIf fp G0 H0 own G H σ ρ) {fj : List Addr} (hn : ∀ p ∈ fj, H p = none) : ∀ i p, p ∈ fp i → p ∉ fj := fun i p hp hq => by
  have := (I.fpm i p hp).2.2
  rw [hn p hq] at this
  exact this
/-- name = a new list or dict whose items stand in the region -/
theorem ds_asgS {j : Nat} (d : AF X J.W .sh st j f) (hx : oxSub J.ox own = true := by rfl) : DS X J own ((j, .sh) :: disown own j) st (sAsg own j f) := by
  obtain ⟨t, pe, h1⟩ := d
  refine ⟨_, pe, fun G0 H0 G H σ ρ Dn ⟨fp, I⟩ h => ?_⟩
  refine h1 G H σ (maskE own ρ) _ I.sub I.masked (toF hx I I.sub h fun d hk G' H' e v fj o hn => ?_)
  exact hk G' H' _ ⟨_, (I.grow e).take o (fun p hp => ⟨(hn p hp).1, I.ext.free (hn p hp).2⟩) fun i p _ hp => own_new I (fun p hp => (hn p hp).2) i p hp⟩
/-- name = new data, owned throughout -/
def sAsgV (j : Nat) (f : Env → Res D) : DSem := fun ρ => andThen (f ρ) ρ fun d => .nx (ρ.set j (some d))
theorem ds_asgD {j : Nat} (d : AF X J.W .dp st j f) (hx : oxSub J.ox own = true := by rfl) : DS X J own ((j, .dp) :: disown own j) st (sAsgV j f) := by
  obtain ⟨t, pe, h1⟩ := d
  refine ⟨_, pe, fun G0 H0 G H σ ρ Dn ⟨fp, I⟩ h => ?_⟩
  have s := (view_ext I.ext).s
  refine h1 _ H σ ρ _ s I.view (toF hx I s h fun d hk G' H' e v fj o hn => ?_)
  have o' : OwnK .dp (tupG G H') H' d v fj := o
  refine hk _ H' _ ⟨_, (I.grow (Ext.tups I.sub e.h)).take o' (fun p hp => ⟨?_, I.ext.free (hn p hp).2⟩) fun i p _ hp => own_new I (fun p hp => (hn p hp).2) i p hp⟩
  have m := o.mut p hp
  have gp : G p = none := upd_none I.sub (hn p hp).2
  unfold tupG
  split
  · rename_i vs q; rw [q] at m; exact m.elim
  · exact gp
/-- return of new data -/
theorem ds_retF {k : Kd} (hk : J.rk = some k) (d : DF X J.W k e f) (hx : oxSub J.ox own = true := by rfl) : DS X J own own1 (.Return (some e) pos) (sRet f) := by
  obtain ⟨t, pe, h1⟩ := d
  refine ⟨_, ps_ret pe, fun G0 H0 G H σ ρ Dn ⟨fp, I⟩ h => ?_⟩
  have s := (view_ext I.ext).s
  refine h1 _ H σ ρ _ s I.view (toF hx I s h fun d hr G' H' e v fj o hn => ?_)
  have hr : RetOk J.rk G0 H0 Dn.rt d := hr
  unfold RetOk at hr
  rw [hk] at hr
  exact hr G' H' v fj ((view_ext I.ext).trans e) o fun p hp => ⟨(hn p hp).1, I.ext.free (hn p hp).2⟩

/-! ### x.append(e) -/
/-- the list of an owned slot gets one more item -/
theorem OwnK.app {kd : Kd} {G H : Hp} {ds : List D} {d : D} {v y : V} {fj : List Addr} (hs : Sub G H) (o : OwnK kd G H (.lst ds) v fj) (hd : kd = .sh ∨ imm d = true) (rd : Rep G d y) :
    ∃ p vs, v = .ref p ∧ p ∈ fj ∧ H p = some (.lst vs) ∧ vs.length = ds.length ∧ OwnK kd G (upd H p (.lst (vs ++ [y]))) (.lst (ds ++ [d])) v fj := by
  cases kd with
  | sh =>
    obtain ⟨p, e, ef, vs, hp, r⟩ := o
    subst ef
    exact ⟨p, vs, e, List.mem_cons_self, hp, r.length, ⟨p, e, rfl, vs ++ [y], upd_same, r.append (.one rd)⟩⟩
  | dp =>
    have him : imm d = true := by rcases hd with q | q; · cases q
                                  · exact q
    obtain ⟨⟨p, vs, fq, e, hp, ef, r⟩, nd⟩ := o
    subst ef
    have pn : p ∉ fq := (List.nodup_cons.mp nd).1
    have at' : At H (upd H p (.lst (vs ++ [y]))) fq := ⟨fun q hq => upd_ne fun z => pn (z ▸ hq), fun a ws q => by rw [upd_ne (ne_of q hp (by intro z; cases z))]; exact q⟩
    refine ⟨p, vs, e, List.mem_cons_self, hp, (r.rep (G := H) ⟨fun _ _ => rfl, fun _ _ e => e⟩).length, ⟨p, vs ++ [y], fq, e, upd_same, rfl, ?_⟩, nd⟩
    have r1 := r.at at'
    have r2 : RepO (upd H p (.lst (vs ++ [y]))) d y [] := RepO.of_imm him (Rep.imm (fun a ws q => at'.t _ _ (hs _ _ q)) him rd)
    have r3 : RepOs (upd H p (.lst (vs ++ [y]))) [d] [y] [] := ⟨y, [], [], [], rfl, rfl, r2, rfl, rfl⟩
    have := r1.append r3
    rwa [List.append_nil] at this
theorem OwnK.lst {kd : Kd} {G H : Hp} {ds : List D} {v : V} {fj : List Addr} (o : OwnK kd G H (.lst ds) v fj) : ∃ p vs, v = .ref p ∧ p ∈ fj ∧ H p = some (.lst vs) ∧ vs.length = ds.length := by
  cases kd with
  | sh => obtain ⟨p, e, ef, vs, hp, r⟩ := o; subst ef; exact ⟨p, vs, e, List.mem_cons_self, hp, r.length⟩
  | dp => obtain ⟨⟨p, vs, fq, e, hp, ef, r⟩, nd⟩ := o; subst ef; exact ⟨p, vs, e, List.mem_cons_self, hp, (r.rep (G := H) ⟨fun _ _ => rfl, fun _ _ e => e⟩).length⟩
/-- an owned object at p is written -/
theorem SIf.write {fp} {G0 H0 G H : Hp} {σ : L2.St} {ρ : Env} (I : SIf fp G0 H0 own G H σ ρ) {j : Nat} {k : Kd} {d : D} {v : V} {p : Addr} {o' : HO} (hj : own.lookup j = some k) (hv : σ[j]? = some (some v)) (hp : p ∈ fp j)
    (o : OwnK k G (upd H p o') d v (fp j)) : SI G0 H0 own G (upd H p o') σ (ρ.set j (some d)) :=
  ⟨_, I.change hj hv (fun a ha => .inl (upd_ne fun z => ha (z ▸ hp))) o (fun q hq => ⟨(I.fpm j q hq).1, (I.fpm j q hq).2.1⟩) (fun i q hne hq => I.fpd i j q hne hq) fun q hq vs z => by
    have := (I.fpm j q hq).2.2
    rw [z] at this
    exact this⟩
def appD (ρ : Env) (j : Nat) (d : D) : Out := match ρ[j]? with
  | some (some (.lst ds)) => if ds.length < sizeLine then .nx (ρ.set j (some (.lst (ds ++ [d])))) else .no
  | _ => .no
def isLst (ρ : Env) (j : Nat) : Bool := match ρ[j]? with
  | some (some (.lst _)) => true
  | _ => false
def sApp (own : Owns) (j : Nat) (f : Env → Res D) : DSem := fun ρ => if isLst ρ j = true then andThen (f (maskE own ρ)) ρ fun d => appD ρ j d else .no
def sAppI (j : Nat) (f : Env → Res D) : DSem := fun ρ => if isLst ρ j = true then andThen (f ρ) ρ fun d => if imm d = true then appD ρ j d else .no else .no
theorem isLst_get {ρ : Env} {j : Nat} (h : isLst ρ j = true) : ∃ ds, ρ[j]? = some (some (.lst ds)) := by
  unfold isLst at h
  split at h
  · rename_i ds q; exact ⟨ds, q⟩
  · cases h
theorem app_end {kd : Kd} {G0 H0 G H : Hp} {σ : L2.St} {ρ : Env} {Dn : Ends} {fp} {j : Nat} {d : D} {v0 y : V} (I : SIf fp G0 H0 own G H σ ρ) (hj : own.lookup j = some kd) (hv : σ[j]? = some (some v0)) (hd : kd = .sh ∨ imm d = true) (rd : Rep G d y)
    (h : GS X.mg J G0 H0 own Dn (appD ρ j d)) : rAppend v0 [y] H (fun _ H' => Dn.nx σ H') := by
  unfold appD at h
  split at h
  · rename_i ds q
    split at h
    · rename_i hz
      obtain ⟨v, hv', o⟩ := I.own j kd _ hj q
      rw [hv] at hv'; cases hv'
      obtain ⟨p, vs, e, hp, hH, hl, o'⟩ := o.app I.sub hd rd
      subst e
      exact ⟨p, vs, y, rfl, rfl, hH, by rw [hl]; exact hz, h G _ σ (I.write hj hv hp o')⟩
    · exact h.elim
  · exact h.elim
theorem lst_ty {kd : Kd} {G0 H0 G H : Hp} {σ : L2.St} {ρ : Env} {fp} {j : Nat} (I : SIf fp G0 H0 own G H σ ρ) (hj : own.lookup j = some kd) (hl : isLst ρ j = true) : ∃ v, σ[j]? = some (some v) ∧ tyV X.K "list" v H := by
  obtain ⟨ds, q⟩ := isLst_get hl
  obtain ⟨v, hv, o⟩ := I.own j kd _ hj q
  obtain ⟨p, vs, rfl, hp, hH, _⟩ := o.lst
  exact ⟨_, hv, .inl ⟨rfl, vs, SqL.of hH⟩⟩
theorem ds_app {j : Nat} {x : Str} {p1 apos cpos : Pos} (hj : own.lookup j = some .sh) (pn : PE X (.Name x p1) (tVar j)) (d : DE X J.W e f) (hx : oxSub J.ox own = true := by rfl)
    (pe : ∀ {t : TE}, PE X e t → PE X (.Call (.Attribute (.Name x p1) "append" apos) [e] [] cpos) (tBM X.K "list" rAppend (tVar j) (tCons t tNil))) (hs : swapsWith (.Call (.Attribute (.Name x p1) "append" apos) [e] [] cpos) none pos.line X.env = pure false := by rfl) :
    DS X J own own (.Expr (.Call (.Attribute (.Name x p1) "append" apos) [e] [] cpos) pos) (sApp own j f) := by
  obtain ⟨t, p, h1⟩ := d
  refine ⟨_, ps_expr (pe p) hs, fun G0 H0 G H σ ρ Dn ⟨fp, I⟩ h => ?_⟩
  unfold sApp at h
  split at h
  · rename_i hl
    obtain ⟨v, hv, ty⟩ := lst_ty (X := X) I hj hl
    refine ⟨v, hv, ty, ?_⟩
    exact onMasked hx h1 I h fun d hk G' H' y e I' ry => app_end I' hj hv (.inl rfl) ry hk
  · exact h.elim
theorem ds_appI {kd : Kd} {j : Nat} {x : Str} {p1 apos cpos : Pos} (hj : own.lookup j = some kd) (pn : PE X (.Name x p1) (tVar j)) (d : DE X J.W e f) (hx : oxSub J.ox own = true := by rfl)
    (pe : ∀ {t : TE}, PE X e t → PE X (.Call (.Attribute (.Name x p1) "append" apos) [e] [] cpos) (tBM X.K "list" rAppend (tVar j) (tCons t tNil))) (hs : swapsWith (.Call (.Attribute (.Name x p1) "append" apos) [e] [] cpos) none pos.line X.env = pure false := by rfl) :
    DS X J own own (.Expr (.Call (.Attribute (.Name x p1) "append" apos) [e] [] cpos) pos) (sAppI j f) := by
  obtain ⟨t, p, h1⟩ := d
  refine ⟨_, ps_expr (pe p) hs, fun G0 H0 G H σ ρ Dn ⟨fp, I⟩ h => ?_⟩
  unfold sAppI at h
  split at h
  · rename_i hl
    obtain ⟨v, hv, ty⟩ := lst_ty (X := X) I hj hl
    refine ⟨v, hv, ty, ?_⟩
    refine onView hx h1 I h fun d hk G' H' y e I' _ ry => ?_
    split at hk
    · rename_i hi
      exact app_end I' hj hv (.inr hi) (ry hi) hk
    · exact hk.elim
  · exact h.elim
/-- the item is new and owned, so is the list -/
theorem OwnK.appF {G H : Hp} {ds : List D} {d : D} {v y : V} {fj fd : List Addr} (o : OwnK .dp G H (.lst ds) v fj) (od : RepO H d y fd) (nd : fd.Nodup) (dj : ∀ p ∈ fj, p ∉ fd) :
    ∃ p vs, v = .ref p ∧ p ∈ fj ∧ H p = some (.lst vs) ∧ vs.length = ds.length ∧ OwnK .dp G (upd H p (.lst (vs ++ [y]))) (.lst (ds ++ [d])) v (fj ++ fd) := by
  obtain ⟨⟨p, vs, fq, e, hp, ef, r⟩, nj⟩ := o
  subst ef
  have pn : p ∉ fq := (List.nodup_cons.mp nj).1
  have pd : p ∉ fd := dj p List.mem_cons_self
  have at' : ∀ {fz : List Addr}, p ∉ fz → At H (upd H p (.lst (vs ++ [y]))) fz := fun hz => ⟨fun q hq => upd_ne fun z => hz (z ▸ hq), fun a ws q => by rw [upd_ne (ne_of q hp (by intro z; cases z))]; exact q⟩
  refine ⟨p, vs, e, List.mem_cons_self, hp, (r.rep (G := H) ⟨fun _ _ => rfl, fun _ _ e => e⟩).length, ⟨p, vs ++ [y], fq ++ fd, e, upd_same, by simp, ?_⟩, ?_⟩
  · refine (r.at (at' pn)).append ⟨y, [], fd, [], rfl, by simp, od.at (at' pd), rfl, rfl⟩
  · exact List.nodup_append.mpr ⟨nj, nd, fun a ha b hb z => dj a ha (z ▸ hb)⟩
def sAppF (j : Nat) (f : Env → Res D) : DSem := fun ρ => if isLst ρ j = true then andThen (f ρ) ρ fun d => appD ρ j d else .no
theorem ds_appF {j : Nat} {x : Str} {p1 apos cpos : Pos} (hj : own.lookup j = some .dp) (pn : PE X (.Name x p1) (tVar j)) (d : DF X J.W .dp e f) (hx : oxSub J.ox own = true := by rfl)
    (pe : ∀ {t : TE}, PE X e t → PE X (.Call (.Attribute (.Name x p1) "append" apos) [e] [] cpos) (tBM X.K "list" rAppend (tVar j) (tCons t tNil))) (hs : swapsWith (.Call (.Attribute (.Name x p1) "append" apos) [e] [] cpos) none pos.line X.env = pure false := by rfl) :
    DS X J own own (.Expr (.Call (.Attribute (.Name x p1) "append" apos) [e] [] cpos) pos) (sAppF j f) := by
  obtain ⟨t, p, h1⟩ := d
  refine ⟨_, ps_expr (pe p) hs, fun G0 H0 G H σ ρ Dn ⟨fp, I⟩ h => ?_⟩
  unfold sAppF at h
  split at h
  · rename_i hl
    obtain ⟨v, hv, ty⟩ := lst_ty (X := X) I hj hl
    refine ⟨v, hv, ty, ?_⟩
    have s := (view_ext I.ext).s
    refine h1 _ H σ ρ _ s I.view (toF hx I s h fun d hk G' H' e y fd od hn => ?_)
    have I1 := I.grow (Ext.tups I.sub e.h)
    unfold appD at hk
    split at hk
    · rename_i ds q
      split at hk
      · rename_i hz
        obtain ⟨v', hv', o⟩ := I1.own j .dp _ hj q
        rw [hv] at hv'; cases hv'
        have dj : ∀ i p, p ∈ fp i → p ∉ fd := own_new I fun p hp => (hn p hp).2
        obtain ⟨p, vs, e2, hp, hH, hll, o'⟩ := o.appF od.1 od.2 (dj j)
        subst e2
        refine ⟨p, vs, y, rfl, rfl, hH, by rw [hll]; exact hz, hk _ _ σ ⟨_, I1.change hj hv (fun a ha => .inl (upd_ne fun z => ha (z ▸ hp))) o' (fun q hq => ?_) (fun i q hne hq => ?_) fun q hq ws z => ?_⟩⟩
        · rcases List.mem_append.mp hq with hq | hq
          · exact ⟨(I1.fpm j q hq).1, (I1.fpm j q hq).2.1⟩
          · refine ⟨?_, I.ext.free (hn q hq).2⟩
            have m := od.mut q hq
            have gp : G q = none := upd_none I.sub (hn q hq).2
            unfold tupG
            split
            · rename_i ws qq; rw [qq] at m; exact m.elim
            · exact gp
        · intro hq2
          rcases List.mem_append.mp hq2 with hq2 | hq2
          · exact I1.fpd i j q hne hq hq2
          · exact dj i q hq hq2
        · have := (I1.fpm j q hq).2.2
          rw [z] at this
          exact this
      · exact hk.elim
    · exact hk.elim
  · exact h.elim

/-! ### x[k] = e, x an owned dict -/
def putD : D → D → D → Res D
  | .dK kvs, k, v => match keyD k with
    | some k => if kvs.length < sizeLine then .ok (.dK (putA kvs k v)) else .no
    | none => .no
  | .dT kvs, .tup ks, v => match keysD ks with
    | some ks => if kvs.length < sizeLine then .ok (.dT (putA kvs ks v)) else .no
    | none => .no
  | _, _, _ => .no
def putO (ρ : Env) (j : Nat) (k d : D) : Out := match ρ[j]? with
  | some (some c) => (match putD c k d with
    | .ok c' => .nx (ρ.set j (some c'))
    | _ => .no)
  | _ => .no
def hasE (ρ : Env) (j : Nat) : Bool := match ρ[j]? with
  | some (some _) => true
  | _ => false
theorem hasE_get {ρ : Env} {j : Nat} (h : hasE ρ j = true) : ∃ d, ρ[j]? = some (some d) := by
  unfold hasE at h
  split at h
  · rename_i d q; exact ⟨d, q⟩
  · cases h
def sPut (own : Owns) (j : Nat) (fk fv : Env → Res D) : DSem := fun ρ => if hasE ρ j = true then andThen (fv (maskE own ρ)) ρ fun d => andThen (fk ρ) ρ fun k => putO ρ j k d else .no
def sPutI (j : Nat) (fk fv : Env → Res D) : DSem := fun ρ => if hasE ρ j = true then andThen (fv ρ) ρ fun d => if imm d = true then andThen (fk ρ) ρ fun k => putO ρ j k d else .no else .no
theorem RepOK.of_imm {H : Hp} : ∀ {kvs : List (Key × D)} {ws : List (Key × V)} {fq : List Addr} {k : Key} {d : D} {y : V}, imm d = true → RepO H d y [] → RepOK H kvs ws fq → ∃ fq', RepOK H (kvs.map fun kv => if kv.1 = k then (kv.1, d) else kv) (ws.map fun kv => if kv.1 = k then (kv.1, y) else kv) fq' ∧ (∀ p ∈ fq', p ∈ fq) ∧ (fq.Nodup → fq'.Nodup)
  | [], _, _, _, _, _, _, _, h => by obtain ⟨e1, e2⟩ := h; subst e1 e2; exact ⟨[], ⟨rfl, rfl⟩, fun _ h => h, id⟩
  | (k', d') :: r, _, _, k, d, y, hi, ho, ⟨v, s, f1, f2, e, ef, h, q⟩ => by
    subst e ef
    obtain ⟨fq', h1, h2, h3⟩ := RepOK.of_imm (k := k) hi ho q
    rw [List.map_cons, List.map_cons]
    by_cases hk : k' = k
    · rw [if_pos hk, if_pos hk]
      exact ⟨fq', ⟨y, _, [], fq', rfl, rfl, ho, h1⟩, fun p hp => List.mem_append_right _ (h2 p hp), fun nd => h3 (List.nodup_append.mp nd).2.1⟩
    · rw [if_neg hk, if_neg hk]
      refine ⟨f1 ++ fq', ⟨v, _, f1, fq', rfl, rfl, h, h1⟩, fun p hp => ?_, fun nd => ?_⟩
      · rcases List.mem_append.mp hp with hp | hp
        · exact List.mem_append_left _ hp
        · exact List.mem_append_right _ (h2 p hp)
      · have n := List.nodup_append.mp nd
        exact List.nodup_append.mpr ⟨n.1, h3 n.2.1, fun a ha b hb => n.2.2 a ha b (h2 b hb)⟩
/-- an owned dict (items in the region) takes a value -/
theorem OwnS.put {G : Hp} {p : Addr} {c c' k d : D} {y kv : V} {H3 : Hp} {G3 : Hp} (s3 : Sub G3 H3) (o : OwnS G H3 p c) (rk : Rep G3 k kv) (rd : Rep G d y) (h : putD c k d = .ok c') :
    ∃ o', DPut H3 p kv y (upd H3 p o') ∧ OwnS G (upd H3 p o') p c' := by
  cases c with
  | dK kvs =>
    have h : (match keyD k with
      | some k => if kvs.length < sizeLine then Res.ok (D.dK (putA kvs k d)) else .no
      | none => .no) = .ok c' := by cases k <;> exact h
    obtain ⟨ws, hp, r⟩ := o
    split at h
    · rename_i kk ek
      split at h
      · rename_i hz
        cases h
        have r2 := repK_iff.mpr ((repK_iff.mp r).put (k := kk) rd)
        refine ⟨_, ?_, putK ws kk y, upd_same, r2⟩
        rw [keyD_rep ek rk]
        exact DPut.k hp (by rw [(repK_iff.mp r).length]; exact hz)
      · cases h
    · cases h
  | dT kvs =>
    cases k with
    | tup ks =>
      simp only [putD] at h
      obtain ⟨ws, hp, r⟩ := o
      split at h
      · rename_i kk ek
        split at h
        · rename_i hz
          cases h
          obtain ⟨a, vs, e, ha, rs⟩ := rk
          subst e
          have r2 := repT_iff.mpr ((repT_iff.mp r).put (k := kk) rd)
          refine ⟨_, DPut.t hp (by rw [← keysD_rep ek rs]; exact s3 _ _ ha) (by rw [(repT_iff.mp r).length]; exact hz), putK ws kk y, upd_same, r2⟩
        · cases h
      · cases h
    | _ => cases h
  | _ => cases k <;> cases h
theorem put_end {G0 H0 G H G3 : Hp} {σ : L2.St} {ρ : Env} {Dn : Ends} {fp} {j : Nat} {k d : D} {kv y : V} (I : SIf fp G0 H0 own G H σ ρ) (hj : own.lookup j = some .sh) (s3 : Sub G3 H) (rk : Rep G3 k kv) (rd : Rep G d y) {v : V} (hv : σ[j]? = some (some v))
    (h : GS X.mg J G0 H0 own Dn (putO ρ j k d)) : ∃ a H4, v = .ref a ∧ DPut H a kv y H4 ∧ Dn.nx σ H4 := by
  unfold putO at h
  split at h
  · rename_i c q
    split at h
    · rename_i c' e
      obtain ⟨v', hv', p, e2, ef, o⟩ := I.own j .sh _ hj q
      rw [hv] at hv'; cases hv'
      obtain ⟨o', h1, h2⟩ := o.put s3 rk rd e
      refine ⟨p, _, e2, h1, h G _ σ (I.write hj hv (by rw [ef]; exact List.mem_cons_self) ⟨p, e2, ef, h2⟩)⟩
    · exact h.elim
  · exact h.elim
theorem ds_put {i value : Expr} {j : Nat} {x : Str} {p1 pos' : Pos} {fk fv : Env → Res D} (hu : X.A.units + 1 < cLine) (hj : own.lookup j = some .sh) (pn : PE X (.Name x p1) (tVar j)) (dk : DE X J.W i fk) (dv : DE X J.W value fv) (hx : oxSub J.ox own = true := by rfl)
    (hs : swapsWith value (some (.Subscript (.Name x p1) i pos')) pos.line X.env = pure false := by rfl) : DS X J own own (.Assign [.Subscript (.Name x p1) i pos'] value pos) (sPut own j fk fv) := by
  obtain ⟨tk, pk, hk⟩ := dk
  obtain ⟨tv, pv, hv⟩ := dv
  refine ⟨_, ps_dput hu pn pk pv hs, fun G0 H0 G H σ ρ Dn ⟨fp, I⟩ h => ?_⟩
  unfold sPut at h
  split at h
  · rename_i hh
    obtain ⟨c, q⟩ := hasE_get hh
    refine onMasked hx hv I h fun d hd G1 H1 y e I1 ry => ?_
    obtain ⟨v, hv, _⟩ := I1.own j .sh c hj q
    refine ⟨v, hv, ?_⟩
    have s := (view_ext I1.ext).s
    refine hk _ H1 σ ρ _ s I1.view (toP hx I1 s hd fun k _ hk' G2 H2 e2 kv rk => ?_)
    have I2 := I1.grow (Ext.up I1.sub e2.h)
    exact put_end I2 hj e2.s rk ry hv hk'
  · exact h.elim
theorem ds_putI {i value : Expr} {j : Nat} {x : Str} {p1 pos' : Pos} {fk fv : Env → Res D} (hu : X.A.units + 1 < cLine) (hj : own.lookup j = some .sh) (pn : PE X (.Name x p1) (tVar j)) (dk : DE X J.W i fk) (dv : DE X J.W value fv) (hx : oxSub J.ox own = true := by rfl)
    (hs : swapsWith value (some (.Subscript (.Name x p1) i pos')) pos.line X.env = pure false := by rfl) : DS X J own own (.Assign [.Subscript (.Name x p1) i pos'] value pos) (sPutI j fk fv) := by
  obtain ⟨tk, pk, hk⟩ := dk
  obtain ⟨tv, pv, hv⟩ := dv
  refine ⟨_, ps_dput hu pn pk pv hs, fun G0 H0 G H σ ρ Dn ⟨fp, I⟩ h => ?_⟩
  unfold sPutI at h
  split at h
  · rename_i hh
    obtain ⟨c, q⟩ := hasE_get hh
    refine onView hx hv I h fun d hd G1 H1 y e I1 _ ry => ?_
    split at hd
    · rename_i hi
      obtain ⟨v, hv, _⟩ := I1.own j .sh c hj q
      refine ⟨v, hv, ?_⟩
      have s := (view_ext I1.ext).s
      refine hk _ H1 σ ρ _ s I1.view (toP hx I1 s hd fun k _ hk' G2 H2 e2 kv rk => ?_)
      have I2 := I1.grow (Ext.up I1.sub e2.h)
      exact put_end I2 hj e2.s rk (ry hi) hv hk'
    · exact hd.elim
  · exact h.elim

/-! ### xs[i] = e, xs an owned list -/
def setD (c k d : D) : Res D := match c, k with
  | .lst ds, .int i => (match ixN ds.length i with
    | some n => .ok (.lst (ds.set n d))
    | none => .no)
  | _, _ => .no
def setO (ρ : Env) (j : Nat) (k d : D) : Out := match ρ[j]? with
  | some (some c) => (match setD c k d with
    | .ok c' => .nx (ρ.set j (some c'))
    | _ => .no)
  | _ => .no
def sSetL (own : Owns) (j : Nat) (fk fv : Env → Res D) : DSem := fun ρ => if hasE ρ j = true then andThen (fv (maskE own ρ)) ρ fun d => andThen (fk ρ) ρ fun k => setO ρ j k d else .no
theorem ds_setL {i value : Expr} {j : Nat} {x : Str} {p1 pos' : Pos} {fk fv : Env → Res D} (hj : own.lookup j = some .sh) (pn : PE X (.Name x p1) (tVar j)) (dk : DE X J.W i fk) (dv : DE X J.W value fv) (hx : oxSub J.ox own = true := by rfl)
    (hs : swapsWithSole [.Subscript (.Name x p1) i pos'] value pos.line X.env = pure false := by rfl) (hw : swappedStores [.Subscript (.Name x p1) i pos'] value X.env = pure none := by rfl)
    (h1 : (assignEach [.Subscript (.Name x p1) i pos'] X.env).map (·.2) = [assign (.Subscript (.Name x p1) i pos') X.env] := by rfl)
    (ha : ∀ v, assign (.Subscript (.Name x p1) i pos') X.env v = (do
      let ov ← holding [v] (eval (.Name x p1) X.env)
      let iv ← holding [v, ov] (eval i X.env)
      standAt pos'
      holding [v, ov, iv] (setItem ov iv v)
      release [v, ov, iv] []) := by intro _; rfl) : DS X J own own (.Assign [.Subscript (.Name x p1) i pos'] value pos) (sSetL own j fk fv) := by
  obtain ⟨tk, pk, hk⟩ := dk
  obtain ⟨tv, pv, hv⟩ := dv
  refine ⟨_, ps_asg pv (pg_sub pn pk set_list ha) hs hw h1, fun G0 H0 G H σ ρ Dn ⟨fp, I⟩ h => ?_⟩
  unfold sSetL at h
  split at h
  · rename_i hh
    obtain ⟨c, q⟩ := hasE_get hh
    refine onMasked hx hv I h fun d hd G1 H1 y e I1 ry => ?_
    obtain ⟨v, hv, _⟩ := I1.own j .sh c hj q
    refine ⟨v, hv, ?_⟩
    have s := (view_ext I1.ext).s
    refine hk _ H1 σ ρ _ s I1.view (toP hx I1 s hd fun k _ hk' G2 H2 e2 kv rk => ?_)
    have I2 := I1.grow (Ext.up I1.sub e2.h)
    unfold setO at hk'
    rw [q] at hk'
    simp only at hk'
    split at hk'
    · rename_i c' ec
      obtain ⟨v', hv', p, ep, ef, o⟩ := I2.own j .sh _ hj q
      rw [hv] at hv'; cases hv'
      unfold setD at ec
      split at ec
      · rename_i ds n eqk o9
        split at ec
        · rename_i m em
          cases ec
          obtain ⟨vs, hp, r⟩ := o
          refine ⟨p, vs, n, m, ep, rk, hp, by rw [r.length]; exact em, ?_⟩
          exact hk' G1 _ σ (I2.write hj hv (by rw [ef]; exact List.mem_cons_self) ⟨p, ep, ef, _, upd_same, r.set m ry⟩)
        · cases ec
      · cases ec
    · exact hk'.elim
  · exact h.elim
end

section
variable {X : Cx} {J : Jd} {own : Owns} {pos : Pos}
def sSetLI (j : Nat) (fk fv : Env → Res D) : DSem := fun ρ => if hasE ρ j = true then andThen (fv ρ) ρ fun d => if imm d = true then andThen (fk ρ) ρ fun k => setO ρ j k d else .no else .no
theorem RepOs.set {H : Hp} : ∀ {ds : List D} {vs : List V} {fq : List Addr} {d : D} {y : V} (n : Nat), RepO H d y [] → RepOs H ds vs fq → ∃ fq', RepOs H (ds.set n d) (vs.set n y) fq' ∧ (∀ p ∈ fq', p ∈ fq) ∧ (fq.Nodup → fq'.Nodup)
  | [], _, _, _, _, n, _, h => by obtain ⟨e1, e2⟩ := h; subst e1 e2; exact ⟨[], ⟨by simp, rfl⟩, fun _ h => h, id⟩
  | d' :: r, _, _, d, y, 0, ho, ⟨v, s, f1, f2, e, ef, h, q⟩ => by
    subst e ef
    exact ⟨f2, ⟨y, s, [], f2, rfl, rfl, ho, q⟩, fun p hp => List.mem_append_right _ hp, fun nd => (List.nodup_append.mp nd).2.1⟩
  | d' :: r, _, _, d, y, n + 1, ho, ⟨v, s, f1, f2, e, ef, h, q⟩ => by
    subst e ef
    obtain ⟨fq', h1, h2, h3⟩ := RepOs.set n ho q
    refine ⟨f1 ++ fq', ⟨v, s.set n y, f1, fq', rfl, rfl, h, h1⟩, fun p hp => ?_, fun nd => ?_⟩
    · rcases List.mem_append.mp hp with hp | hp
      · exact List.mem_append_left _ hp
      · exact List.mem_append_right _ (h2 p hp)
    · have n := List.nodup_append.mp nd
      exact List.nodup_append.mpr ⟨n.1, h3 n.2.1, fun a ha b hb => n.2.2 a ha b (h2 b hb)⟩
/-- an owned object at p is written; what it owns grows no more -/
theorem SIf.writeLe {fp} {G0 H0 G H : Hp} {σ : L2.St} {ρ : Env} (I : SIf fp G0 H0 own G H σ ρ) {j : Nat} {k : Kd} {d : D} {v : V} {p : Addr} {o' : HO} {fj : List Addr} (hj : own.lookup j = some k) (hv : σ[j]? = some (some v)) (hp : p ∈ fp j)
    (o : OwnK k G (upd H p o') d v fj) (hle : ∀ q ∈ fj, q ∈ fp j) : SI G0 H0 own G (upd H p o') σ (ρ.set j (some d)) :=
  ⟨_, I.change hj hv (fun a ha => .inl (upd_ne fun z => ha (z ▸ hp))) o (fun q hq => ⟨(I.fpm j q (hle q hq)).1, (I.fpm j q (hle q hq)).2.1⟩) (fun i q hne hq hq2 => I.fpd i j q hne hq (hle q hq2)) fun q hq vs z => by
    have := (I.fpm j q hq).2.2
    rw [z] at this
    exact this⟩
theorem OwnK.setL {kd : Kd} {G H : Hp} {ds : List D} {d : D} {v y : V} {fj : List Addr} (n : Nat) (hs : Sub G H) (o : OwnK kd G H (.lst ds) v fj) (hi : imm d = true) (rd : Rep G d y) :
    ∃ p vs fj', v = .ref p ∧ p ∈ fj ∧ H p = some (.lst vs) ∧ vs.length = ds.length ∧ OwnK kd G (upd H p (.lst (vs.set n y))) (.lst (ds.set n d)) v fj' ∧ ∀ q ∈ fj', q ∈ fj := by
  cases kd with
  | sh =>
    obtain ⟨p, e, ef, vs, hp, r⟩ := o
    subst ef
    exact ⟨p, vs, [p], e, List.mem_cons_self, hp, r.length, ⟨p, e, rfl, _, upd_same, r.set n rd⟩, fun _ h => h⟩
  | dp =>
    obtain ⟨⟨p, vs, fq, e, hp, ef, r⟩, nd⟩ := o
    subst ef
    have pn : p ∉ fq := (List.nodup_cons.mp nd).1
    have at' : At H (upd H p (.lst (vs.set n y))) fq := ⟨fun q hq => upd_ne fun z => pn (z ▸ hq), fun a ws q => by rw [upd_ne (ne_of q hp (by intro z; cases z))]; exact q⟩
    have r2 : RepO (upd H p (.lst (vs.set n y))) d y [] := RepO.of_imm hi (Rep.imm (fun a ws q => at'.t _ _ (hs _ _ q)) hi rd)
    obtain ⟨fq', h1, h2, h3⟩ := RepOs.set n r2 (r.at at')
    refine ⟨p, vs, p :: fq', e, List.mem_cons_self, hp, (r.rep (G := H) ⟨fun _ _ => rfl, fun _ _ e => e⟩).length, ⟨⟨p, _, fq', e, upd_same, rfl, h1⟩, List.nodup_cons.mpr ⟨fun z => pn (h2 p z), h3 (List.nodup_cons.mp nd).2⟩⟩, fun q hq => ?_⟩
    rcases List.mem_cons.mp hq with z | hq
    · subst z; exact List.mem_cons_self
    · exact List.mem_cons_of_mem _ (h2 q hq)
theorem ds_setLI {kd : Kd} {i value : Expr} {j : Nat} {x : Str} {p1 pos' : Pos} {fk fv : Env → Res D} (hj : own.lookup j = some kd) (pn : PE X (.Name x p1) (tVar j)) (dk : DE X J.W i fk) (dv : DE X J.W value fv) (hx : oxSub J.ox own = true := by rfl)
    (hs : swapsWithSole [.Subscript (.Name x p1) i pos'] value pos.line X.env = pure false := by rfl) (hw : swappedStores [.Subscript (.Name x p1) i pos'] value X.env = pure none := by rfl)
    (h1 : (assignEach [.Subscript (.Name x p1) i pos'] X.env).map (·.2) = [assign (.Subscript (.Name x p1) i pos') X.env] := by rfl)
    (ha : ∀ v, assign (.Subscript (.Name x p1) i pos') X.env v = (do
      let ov ← holding [v] (eval (.Name x p1) X.env)
      let iv ← holding [v, ov] (eval i X.env)
      standAt pos'
      holding [v, ov, iv] (setItem ov iv v)
      release [v, ov, iv] []) := by intro _; rfl) : DS X J own own (.Assign [.Subscript (.Name x p1) i pos'] value pos) (sSetLI j fk fv) := by
  obtain ⟨tk, pk, hk⟩ := dk
  obtain ⟨tv, pv, hv⟩ := dv
  refine ⟨_, ps_asg pv (pg_sub pn pk set_list ha) hs hw h1, fun G0 H0 G H σ ρ Dn ⟨fp, I⟩ h => ?_⟩
  unfold sSetLI at h
  split at h
  · rename_i hh
    obtain ⟨c, q⟩ := hasE_get hh
    refine onView hx hv I h fun d hd G1 H1 y e I1 _ ry => ?_
    split at hd
    · rename_i hi
      obtain ⟨v, hv, _⟩ := I1.own j kd c hj q
      refine ⟨v, hv, ?_⟩
      have s := (view_ext I1.ext).s
      refine hk _ H1 σ ρ _ s I1.view (toP hx I1 s hd fun k _ hk' G2 H2 e2 kv rk => ?_)
      have I2 := I1.grow (Ext.up I1.sub e2.h)
      unfold setO at hk'
      rw [q] at hk'
      simp only at hk'
      split at hk'
      · rename_i c' ec
        obtain ⟨v', hv', o⟩ := I2.own j kd _ hj q
        rw [hv] at hv'; cases hv'
        unfold setD at ec
        split at ec
        · rename_i ds n eqk o9
          split at ec
          · rename_i m em
            cases ec
            obtain ⟨p, vs, fj', ep, hpm, hp, hl, o', hle⟩ := o.setL m I2.sub hi (ry hi)
            refine ⟨p, vs, n, m, ep, rk, hp, by rw [hl]; exact em, ?_⟩
            exact hk' _ _ σ (I2.writeLe hj hv hpm o' hle)
          · cases ec
        · cases ec
      · exact hk'.elim
    · exact hd.elim
  · exact h.elim

/-! ### x.clear() -/
def sClear (j : Nat) : DSem := fun ρ => if isLst ρ j = true then .nx (ρ.set j (some (.lst []))) else .no
theorem ds_clear {kd : Kd} {j : Nat} {x : Str} {p1 apos cpos : Pos} (hj : own.lookup j = some kd) (pn : PE X (.Name x p1) (tVar j))
    (hbase : attributeBase (.Name x p1) "clear" X.env (eval (.Name x p1) X.env) = eval (.Name x p1) X.env := by rfl) (hline : (apos.endLine == cpos.line) = true := by rfl)
    (hs : swapsWith (.Call (.Attribute (.Name x p1) "clear" apos) [] [] cpos) none pos.line X.env = pure false := by rfl) : DS X J own own (.Expr (.Call (.Attribute (.Name x p1) "clear" apos) [] [] cpos) pos) (sClear j) := by
  refine ⟨_, ps_expr (pe_bm0 PySem.F.plainAttrs_list PySem.F.slot_list_clear PySem.F.type_list_clear mt_clear pn hbase hline) hs, fun G0 H0 G H σ ρ Dn ⟨fp, I⟩ h => ?_⟩
  unfold sClear at h
  split at h
  · rename_i hl
    obtain ⟨v, hv, ty⟩ := lst_ty (X := X) I hj hl
    obtain ⟨ds, q⟩ := isLst_get hl
    obtain ⟨v', hv', o⟩ := I.own j kd _ hj q
    rw [hv] at hv'; cases hv'
    refine ⟨v, hv, ty, ?_⟩
    obtain ⟨p, vs, ep, hpm, hp, _⟩ := o.lst
    refine ⟨p, vs, ep, rfl, hp, h G _ σ (I.writeLe (fj := [p]) hj hv hpm ?_ fun q hq => by rw [show q = p by simpa using hq]; exact hpm)⟩
    cases kd with
    | sh => exact ⟨p, ep, rfl, [], upd_same, rfl⟩
    | dp => exact ⟨⟨p, [], [], ep, upd_same, rfl, rfl, rfl⟩, by simp⟩
  · exact h.elim
end

/-! ### room -/
theorem hu1 {A : Around} {k : Nat} (hr : Room k A) : A.units + 1 < cLine := by have := hr.un; omega
theorem hu64 {A : Around} {k : Nat} (hr : Room k A) : A.units + 64 < cLine := by have := hr.un; omega
theorem hu65 {A : Around} {k : Nat} (hr : Room k A) : A.units + 65 < cLine := by have := hr.un; omega
theorem pe_append {X : Cx} {x : Str} {p1 apos cpos : Pos} {e : Expr} {j : Nat} (pn : PE X (.Name x p1) (tVar j)) (hbase : attributeBase (.Name x p1) "append" X.env (eval (.Name x p1) X.env) = eval (.Name x p1) X.env := by rfl)
    (hfew : ((backTo cpos (starEach (e :: []) X.env)).all (fun x => !x.1) && (backToKw cpos (keywordEach [] X.env)).all (fun x => x.1.isSome)
      && decide ((e :: ([] : List Expr)).length + ([] : List Keyword).length + (if ([] : List Keyword).isEmpty then 0 else 1) < 30)) = true := by rfl)
    (hline : (apos.endLine == cpos.line) = true := by rfl) (hs : starEach (e :: []) X.env = (false, eval e X.env) :: starEach [] X.env := by rfl) (hplain : (backTo cpos (starEach [] X.env)).any (·.1) = false := by rfl) {t : TE} (p : PE X e t) :
    PE X (.Call (.Attribute (.Name x p1) "append" apos) [e] [] cpos) (tBM X.K "list" rAppend (tVar j) (tCons t tNil)) :=
  pe_bm PySem.F.plainAttrs_list PySem.F.slot_list_append PySem.F.type_list_append mt_append pn (pa_cons p pa_nil hs) hbase hfew hline hs hplain
end DL

/-! DL9: the law's own end. -/
namespace DL
open PySem PySem.Spec PyProof.Rows L2
def spLaw : Sp := fun vs H Q _ => ∃ (a : Addr) (ns : List Int), vs = [.ref a] ∧ Rd H a (.lst (ns.map V.int)) ∧ ns.length ≤ 63 ∧ ∀ H', Q (.bl true) H'
theorem reps_ints {G : Hp} : ∀ ns : List Int, Reps G (ns.map D.int) (ns.map V.int)
  | [] => rfl
  | n :: r => ⟨.int n, r.map V.int, rfl, rfl, reps_ints r⟩
section
variable {P : Program} {w : World} {K : PySem.W.Frag} {mg : Str → Option Value} {base : Heap}
theorem law_ok {k : Nat} {f : Addr} {fd : FuncData} {x : Str} {m : List D → Res D} (F : FnOk P w K mg base (L2.CX P w) k f fd [x] (spK mg none 1 m)) (h : ∀ ns : List Int, ns.length ≤ 63 → m [.lst (ns.map D.int)] = .ok (.bl true)) : FnOk P w K mg base (L2.CX P w) k f fd [x] spLaw :=
  F.imp fun vs H Q E ⟨a, ns, e, hr, hl, q⟩ => by
    subst e
    refine ⟨rfl, H, [.lst (ns.map D.int)], fun _ _ e => e, ⟨.ref a, [], rfl, ⟨a, _, rfl, hr, reps_ints ns⟩, rfl⟩, ?_⟩
    rw [h ns hl]
    intro G' H' v _ rv
    have e : v = .bl true := rv
    subst e
    exact q H'
theorem spLaw_start {H : Hp} {a : Addr} {ns : List Int} {E : XK} (hl : ns.length ≤ 63) (hS : SqL K H a (ns.map V.int)) (hK : ∀ o, K.lookup a = some o → o.cls ≠ .type "list") : spLaw [.ref a] H (fun v _ => v = .bl true) E := by
  rcases hS with h | ⟨o, _, _, h, c, _⟩
  · exact ⟨a, ns, rfl, h, hl, fun _ => rfl⟩
  · exact absurd c (hK o h)
theorem cx_never {P : Program} {w : World} {outer : List PySem.Env} {H : Hp} {s : Shared} {e : Value} {s' : Shared} (h : L2.CX P w outer H s (fun _ _ _ => False) e s') : False := by
  obtain ⟨_, _, _, _, _, _, _, _, _, _, _, _, z⟩ := h
  exact z
theorem mem_look {α β : Type} [BEq α] [LawfulBEq α] {a : α} {o : β} (K : List (α × β)) (h : K.lookup a = some o) : (a, o) ∈ K := by
  induction K with
  | nil => cases h
  | cons p r ih =>
    obtain ⟨b, u⟩ := p
    rw [List.lookup_cons] at h
    cases q : a == b with
    | true => rw [q] at h; have e : a = b := by simpa using q
              subst e; cases h; exact List.mem_cons_self
    | false => rw [q] at h; exact List.mem_cons_of_mem _ (ih h)
/-- none of these objects is a list -/
theorem noList {K : PySem.W.Frag} (h : K.all (fun p => p.2.cls != .type "list") = true) (a : Addr) (o : Obj) (e : K.lookup a = some o) : o.cls ≠ .type "list" := by
  have hm : (a, o) ∈ K := mem_look K e
  have := List.all_eq_true.mp h _ hm
  simpa using this
end
end DL

/-! DL10: raise; try with clauses that bind no name. -/
namespace DL
open PySem PySem.Spec PyProof.Rows L2
/-! ### statements read canonically -/
def rdS (mg : Str → Option Value) (J : Jd) (own own' : Owns) (F : DSem) : TS := fun Dn σ H => ∃ G0 H0 G ρ, SI G0 H0 own G H σ ρ ∧ GS mg J G0 H0 own' Dn (F ρ)
theorem DSs.pss {X : Cx} {J : Jd} {own own' : Owns} {st : List Stmt} {F : DSem} (d : DSs X J own own' st F) : PSs X st (rdS X.mg J own own' F) := by
  obtain ⟨t, p, h⟩ := d
  exact ⟨fun pins s σ H D I ⟨G0, H0, G, ρ, si, g⟩ => p.run pins s σ H D I (h G0 H0 G H σ ρ D si g)⟩

/-! ### raise -/
def sRaise (c : Str) : DSem := fun ρ => .ex c ρ
theorem ds_raise {X : Cx} {J : Jd} {own own1 : Owns} {pos : Pos} {e : Expr} {c : Str} {C : Addr} (hc : X.calm = true) (tk : Takes X J.W) (pm : PMk X e (fun _ H Q => Q (.ref C) none H)) (hm : X.mg c = some (.ref C)) (hx : oxSub J.ox own = true := by rfl) :
    DS X J own own1 (.Raise (some e) none pos) (sRaise c) :=
  ⟨_, ps_raise hc tk pm, fun G0 H0 G H σ ρ Dn I h => h C own G H σ hx hm I⟩

/-! ### what is owned, owned no more -/
theorem SIf.congr {fp} {G0 H0 G H : Hp} {own own' : Owns} {σ : L2.St} {ρ : Env} (I : SIf fp G0 H0 own G H σ ρ) (h : ∀ i, own'.lookup i = own.lookup i) : SIf fp G0 H0 own' G H σ ρ :=
  ⟨I.ext, I.len, fun i d e q => I.val i d e (by rw [← h]; exact q), fun i k d q e => I.own i k d (by rw [← h]; exact q) e, I.fpm, I.fpd⟩
theorem lookup_fst {own : Owns} {i : Nat} {k : Kd} (h : own.lookup i = some k) : i ∈ own.map (·.1) := by
  induction own with
  | nil => cases h
  | cons p r ih =>
    obtain ⟨j, k'⟩ := p
    rw [List.lookup_cons] at h
    by_cases e : i = j
    · subst e; simp
    · rw [show (i == j) = false by simpa using e] at h
      simp only [List.map_cons, List.mem_cons]
      exact .inr (ih h)
theorem SI.freezeAll {G0 H0 H : Hp} {σ : L2.St} {ρ : Env} : ∀ (js : List Nat) {own : Owns} {G : Hp}, SI G0 H0 own G H σ ρ → ∃ own' G', SI G0 H0 own' G' H σ ρ ∧ ∀ i, own'.lookup i = if i ∈ js then none else own.lookup i
  | [], own, G, I => ⟨own, G, I, fun i => by simp⟩
  | j :: js, own, G, ⟨fp, I⟩ => by
    obtain ⟨own', G', I', h⟩ := SI.freezeAll js (own := disown own j) ⟨_, I.freeze j⟩
    refine ⟨own', G', I', fun i => ?_⟩
    rw [h i]
    by_cases hj : i = j
    · subst hj; rw [disown_self]; simp
    · rw [disown_ne hj]; simp [hj]
theorem oxSub_look {ox own : Owns} (h : oxSub ox own = true) {i : Nat} {k : Kd} (e : ox.lookup i = some k) : own.lookup i = some k := by
  have hm : (i, k) ∈ ox := mem_look ox e
  have := List.all_eq_true.mp h _ hm
  simpa using this
theorem SI.toOwn {G0 H0 G H : Hp} {own own2 : Owns} {σ : L2.St} {ρ : Env} (hx : oxSub own own2 = true) (I : SI G0 H0 own2 G H σ ρ) : ∃ G', SI G0 H0 own G' H σ ρ := by
  obtain ⟨own', G', I', h⟩ := I.freezeAll ((own2.map (·.1)).filter fun i => (own.lookup i).isNone)
  obtain ⟨fp, I'⟩ := I'
  refine ⟨G', fp, I'.congr fun i => ?_⟩
  rw [h i]
  cases q : own.lookup i with
  | some k =>
    rw [if_neg (by simp [q]), oxSub_look hx q]
  | none =>
    cases q2 : own2.lookup i with
    | none => simp
    | some k => rw [if_pos (List.mem_filter.mpr ⟨lookup_fst q2, by simp [q]⟩)]
theorem oxSub_trans {a b c : Owns} (h1 : oxSub a b = true) (h2 : oxSub b c = true) : oxSub a c = true := by
  refine List.all_eq_true.mpr fun p hp => ?_
  have h3 := List.all_eq_true.mp h1 p hp
  have h4 : b.lookup p.1 = some p.2 := by simpa using h3
  have := oxSub_look h2 h4
  simpa using this

/-! ### try -/
/-- which of the classes a clause takes -/
def TblOk (mg : Str → Option Value) (K : PySem.W.Frag) (hv : Value) (l : List (Str × Bool)) : Prop := ∀ c b, l.lookup c = some b → ∀ C, mg c = some (.ref C) → PySem.W.exmOne K (.ref C) hv = some b
theorem tbl_nil {mg : Str → Option Value} {K : PySem.W.Frag} {hv : Value} : TblOk mg K hv [] := fun _ _ h => by cases h
theorem tbl_cons {mg : Str → Option Value} {K : PySem.W.Frag} {hv : Value} {c : Str} {b : Bool} {l : List (Str × Bool)} {C0 : Addr} (hm : mg c = some (.ref C0)) (he : PySem.W.exmOne K (.ref C0) hv = some b) (r : TblOk mg K hv l) : TblOk mg K hv ((c, b) :: l) := fun c' b' h C m => by
  rw [List.lookup_cons] at h
  by_cases e : c' = c
  · subst e
    rw [show (c' == c') = true by simp] at h
    cases h
    rw [hm] at m; cases m
    exact he
  · rw [show (c' == c) = false by simpa using e] at h
    exact r c' b' h C m
def noExO : Out → Out
  | .ex _ _ => .no
  | o => o
def hdsF (c : Str) (ρ : Env) : List (List (Str × Bool) × DSem) → Out
  | [] => .ex c ρ
  | (tbl, F) :: r => match tbl.lookup c with
    | some true => noExO (F ρ)
    | some false => hdsF c ρ r
    | none => .no
def sTry (F1 : DSem) (hs : List (List (Str × Bool) × DSem)) : DSem := fun ρ => match F1 ρ with
  | .ex c ρ' => hdsF c ρ' hs
  | o => o
/-- the clauses: each suite lets nothing out -/
inductive DHds (X : Cx) (J : Jd) (own own1 : Owns) : List ExceptHandler → List (List (Str × Bool) × DSem) → Prop
  | nil : DHds X J own own1 [] []
  | cons {x : Str} {hv : Value} {tbl : List (Str × Bool)} {F : DSem} {b0 : Stmt} {suite : List Stmt} {np pos' : Pos} {hds : List ExceptHandler} {l : List (List (Str × Bool) × DSem)} (hc : Names X x hv) (tb : TblOk X.mg X.K hv tbl)
      (d : ∀ (a : Addr) (oe : Obj) (cls : Value) (dd : Option Addr) (pn : List (Addr × Obj)), Zc cls dd oe → (∃ vs, oe.data = .fields vs) → DSs (X.suite a ((a, oe) :: pn)) ⟨W0, J.L, [], J.rk⟩ own own1 (b0 :: suite) F) (r : DHds X J own own1 hds l) :
      DHds X J own own1 (.ExceptHandler (some (.Name x np)) none (b0 :: suite) pos' :: hds) ((tbl, F) :: l)
theorem GS.noEx {mg : Str → Option Value} {J : Jd} {G0 H0 : Hp} {own1 : Owns} {Dn : Ends} {o : Out} (h : GS mg J G0 H0 own1 Dn (noExO o)) : GS mg ⟨W0, J.L, [], J.rk⟩ G0 H0 own1 Dn o := by
  cases o with
  | ex c ρ => exact h.elim
  | nx ρ => exact h
  | rt d => exact h
  | bk ρ => exact h
  | ct ρ => exact h
  | no => exact h
theorem hds_ok {X : Cx} {J : Jd} {own own1 : Owns} {hds : List ExceptHandler} {l : List (List (Str × Bool) × DSem)} (d : DHds X J own own1 hds l) : ∃ l2 : List (Value × (Addr → Value → Option Addr → TS)), HdsOk X hds l2 ∧
    ∀ (G0 H0 G H : Hp) (σ : L2.St) (ρ : Env) (Dn : Ends) (c : Str) (C : Addr) (own2 : Owns), oxSub J.ox own = true → X.mg c = some (.ref C) → oxSub own own2 = true → SI G0 H0 own2 G H σ ρ → GS X.mg J G0 H0 own1 Dn (hdsF c ρ l) → wMany X.K J.W Dn l2 (.ref C) none σ H := by
  induction d with
  | nil => exact ⟨[], .nil, fun G0 H0 G H σ ρ Dn c C own2 hx m hs I h => h C own2 G H σ (oxSub_trans hx hs) m I⟩
  | @cons x hv tbl F b0 suite np pos' hds l hc tb d r ih =>
    obtain ⟨l2, h1, h2⟩ := ih
    refine ⟨(hv, fun _ _ _ => rdS X.mg ⟨W0, J.L, [], J.rk⟩ own own1 F) :: l2, .cons hc (fun a oe cls dd pn z v => (d a oe cls dd pn z v).pss) h1, fun G0 H0 G H σ ρ Dn c C own2 hx m hs I h => ?_⟩
    unfold hdsF at h
    cases q : tbl.lookup c with
    | none => rw [q] at h; exact h.elim
    | some b =>
      rw [q] at h
      refine ⟨b, tb c b q C m, fun e a _ => ?_, fun e => ?_⟩
      · subst e
        obtain ⟨G', I'⟩ := I.toOwn hs
        exact ⟨G0, H0, G', ρ, I', h.noEx⟩
      · subst e
        exact h2 G0 H0 G H σ ρ Dn c C own2 hx m hs I h
theorem ds_try {X : Cx} {J : Jd} {own own1 : Owns} {body : List Stmt} {h0 : ExceptHandler} {hds : List ExceptHandler} {l : List (List (Str × Bool) × DSem)} {F1 : DSem} {pos : Pos} (hs : X.stack = X.env :: X.outer) (hf : X.env.frame = some X.env.locals) (tk : Takes X J.W)
    (hb : ∀ (W : WX) (pn : List (Addr × Obj)) (xe : Value → Shared → Prop), Takes (X.tr pn xe) W → PassesOwn (model X.prog X.w) X.A X.env xe → DSs (X.tr pn xe) ⟨W, J.L, own, J.rk⟩ own own1 body F1)
    (hh : DHds X J own own1 (h0 :: hds) l) (hx : oxSub J.ox own = true := by rfl) : DS X J own own1 (.Try body (h0 :: hds) [] [] pos) (sTry F1 l) := by
  obtain ⟨l2, h1, h2⟩ := hds_ok hh
  refine ⟨_, ps_try_many (tb := fun W => rdS X.mg ⟨W, J.L, own, J.rk⟩ own own1 F1) hs hf tk (fun W pn xe t p => (hb W pn xe t p).pss) h1, fun G0 H0 G H σ ρ Dn I h => ?_⟩
  refine ⟨G0, H0, G, ρ, I, ?_⟩
  unfold sTry at h
  cases q : F1 ρ with
  | ex c ρ' =>
    rw [q] at h
    exact fun C own2 G' H' σ' hx2 m I' => h2 G0 H0 G' H' σ' ρ' Dn c C own2 hx m hx2 I' h
  | nx ρ' => rw [q] at h; exact h
  | rt d => rw [q] at h; exact h
  | bk ρ' => rw [q] at h; exact h
  | ct ρ' => rw [q] at h; exact h
  | no => rw [q] at h; exact h
end DL

/-! DL11: paths into what a slot owns throughout; changes at their ends. -/
namespace DL
open PySem PySem.Spec PyProof.Rows L2

/-! ### owned pairs, whatever the keys -/
def RepOP {κ : Type} (H : Hp) : List (κ × D) → List (κ × V) → List Addr → Prop
  | [], vs, fp => vs = [] ∧ fp = []
  | (k, d) :: r, vs, fp => ∃ v s f1 f2, vs = (k, v) :: s ∧ fp = f1 ++ f2 ∧ RepO H d v f1 ∧ RepOP H r s f2
theorem repOK_iff {H : Hp} : ∀ {kvs : List (Key × D)} {ws : List (Key × V)} {fp : List Addr}, RepOK H kvs ws fp ↔ RepOP H kvs ws fp
  | [], _, _ => Iff.rfl
  | (k, d) :: r, ws, fp => by
    unfold RepOK RepOP
    constructor
    · rintro ⟨v, s, f1, f2, e, ef, h, q⟩; exact ⟨v, s, f1, f2, e, ef, h, repOK_iff.mp q⟩
    · rintro ⟨v, s, f1, f2, e, ef, h, q⟩; exact ⟨v, s, f1, f2, e, ef, h, repOK_iff.mpr q⟩
theorem repOT_iff {H : Hp} : ∀ {kvs : List (List Key × D)} {ws : List (List Key × V)} {fp : List Addr}, RepOT H kvs ws fp ↔ RepOP H kvs ws fp
  | [], _, _ => Iff.rfl
  | (k, d) :: r, ws, fp => by
    unfold RepOT RepOP
    constructor
    · rintro ⟨v, s, f1, f2, e, ef, h, q⟩; exact ⟨v, s, f1, f2, e, ef, h, repOT_iff.mp q⟩
    · rintro ⟨v, s, f1, f2, e, ef, h, q⟩; exact ⟨v, s, f1, f2, e, ef, h, repOT_iff.mpr q⟩
theorem At.sub {H H' : Hp} {f f' : List Addr} (h : At H H' f) (s : ∀ p ∈ f', p ∈ f) : At H H' f' := ⟨fun p hp => h.a p (s p hp), h.t⟩
theorem At.up {H H' : Hp} {f : List Addr} (h : ∀ a o, H a = some o → H' a = some o) (m : ∀ p ∈ f, Mut (H p)) : At H H' f := ⟨fun p hp => by
  cases r : H p with
  | none => have := m p hp; rw [r] at this; exact this.elim
  | some u => exact h _ _ r, fun a vs e => h _ _ e⟩
section
variable {κ : Type} [DecidableEq κ]
theorem RepOP.at {H H' : Hp} : ∀ {kvs : List (κ × D)} {ws : List (κ × V)} {fp : List Addr}, At H H' fp → RepOP H kvs ws fp → RepOP H' kvs ws fp
  | [], _, _, _, h => h
  | (k, d) :: r, _, _, l, ⟨v, s, f1, f2, e, ef, h, q⟩ => by subst ef; exact ⟨v, s, f1, f2, e, rfl, RepO.at l.l h, RepOP.at l.r q⟩
theorem RepOP.mut {H : Hp} : ∀ {kvs : List (κ × D)} {ws : List (κ × V)} {fp : List Addr}, RepOP H kvs ws fp → ∀ p ∈ fp, Mut (H p)
  | [], _, _, h, p, hp => by rw [h.2] at hp; cases hp
  | (k, d) :: r, _, _, ⟨v, s, f1, f2, e, ef, h, q⟩, p, hp => by
    subst ef
    rcases List.mem_append.mp hp with hp | hp
    · exact RepO.mut h p hp
    · exact RepOP.mut q p hp
theorem RepOP.rep {H G : Hp} : ∀ {kvs : List (κ × D)} {ws : List (κ × V)} {fp : List Addr}, At H G fp → RepOP H kvs ws fp → RepP G kvs ws
  | [], _, _, _, h => h.1
  | (k, d) :: r, _, _, l, ⟨v, s, f1, f2, e, ef, h, q⟩ => by subst ef; exact ⟨v, s, e, RepO.rep l.l h, RepOP.rep l.r q⟩
theorem RepOP.append {H : Hp} : ∀ {ds es : List (κ × D)} {vs ws : List (κ × V)} {f g : List Addr}, RepOP H ds vs f → RepOP H es ws g → RepOP H (ds ++ es) (vs ++ ws) (f ++ g)
  | [], _, _, _, _, _, h, q => by rw [h.1, h.2]; exact q
  | (k, d) :: r, _, _, _, _, _, ⟨v, s, f1, f2, e, ef, h, q⟩, q2 => by
    subst ef
    exact ⟨v, s ++ _, f1, f2 ++ _, by rw [e]; rfl, by simp, h, RepOP.append q q2⟩
theorem RepOP.mapImm {H : Hp} : ∀ {kvs : List (κ × D)} {ws : List (κ × V)} {fq : List Addr} {k : κ} {d : D} {y : V}, RepO H d y [] → RepOP H kvs ws fq → ∃ fq', RepOP H (kvs.map fun kv => if kv.1 = k then (kv.1, d) else kv) (ws.map fun kv => if kv.1 = k then (kv.1, y) else kv) fq' ∧ (∀ p ∈ fq', p ∈ fq) ∧ (fq.Nodup → fq'.Nodup)
  | [], _, _, _, _, _, _, h => by obtain ⟨e1, e2⟩ := h; subst e1 e2; exact ⟨[], ⟨rfl, rfl⟩, fun _ h => h, id⟩
  | (k', d') :: r, _, _, k, d, y, ho, ⟨v, s, f1, f2, e, ef, h, q⟩ => by
    subst e ef
    obtain ⟨fq', h1, h2, h3⟩ := RepOP.mapImm (k := k) ho q
    rw [List.map_cons, List.map_cons]
    by_cases hk : k' = k
    · rw [if_pos hk, if_pos hk]
      exact ⟨fq', ⟨y, _, [], fq', rfl, rfl, ho, h1⟩, fun p hp => List.mem_append_right _ (h2 p hp), fun nd => h3 (List.nodup_append.mp nd).2.1⟩
    · rw [if_neg hk, if_neg hk]
      refine ⟨f1 ++ fq', ⟨v, _, f1, fq', rfl, rfl, h, h1⟩, fun p hp => ?_, fun nd => ?_⟩
      · rcases List.mem_append.mp hp with hp | hp
        · exact List.mem_append_left _ hp
        · exact List.mem_append_right _ (h2 p hp)
      · have n := List.nodup_append.mp nd
        exact List.nodup_append.mpr ⟨n.1, h3 n.2.1, fun a ha b hb => n.2.2 a ha b (h2 b hb)⟩
theorem RepOP.any {H : Hp} {k : κ} {kvs : List (κ × D)} {ws : List (κ × V)} {fq : List Addr} (r : RepOP H kvs ws fq) : (ws.any fun kv => decide (kv.1 = k)) = (kvs.any fun kv => decide (kv.1 = k)) :=
  (r.rep (G := H) ⟨fun _ _ => rfl, fun _ _ e => e⟩).any
/-- a value put: immutable, or new under a new key -/
theorem RepOP.put {H : Hp} {kvs : List (κ × D)} {ws : List (κ × V)} {fq fd : List Addr} {k : κ} {d : D} {y : V} (ho : RepO H d y fd) (hc : fd = [] ∨ getA kvs k = none) (r : RepOP H kvs ws fq) (nd : fq.Nodup) (ndd : fd.Nodup) (dj : ∀ p ∈ fq, p ∉ fd) :
    ∃ fq', RepOP H (putA kvs k d) (putK ws k y) fq' ∧ (∀ p ∈ fq', p ∈ fq ∨ p ∈ fd) ∧ fq'.Nodup := by
  have ea := r.any (k := k)
  have eg : (kvs.any fun kv => decide (kv.1 = k)) = (getA kvs k).isSome := by
    unfold getA
    rw [Option.isSome_map]
    cases q : kvs.find? fun kv => decide (kv.1 = k) with
    | none => rw [List.find?_eq_none] at q; simpa using q
    | some z =>
      have := List.find?_some q
      have hm := List.mem_of_find?_eq_some q
      simp only [Option.isSome_some, List.any_eq_true]
      exact ⟨z, hm, this⟩
  unfold putA putK
  rw [ea]
  by_cases q : (kvs.any fun kv => decide (kv.1 = k)) = true
  · rw [if_pos q, if_pos q]
    rcases hc with e | e
    · subst e
      obtain ⟨fq', h1, h2, h3⟩ := RepOP.mapImm (k := k) ho r
      exact ⟨fq', h1, fun p hp => .inl (h2 p hp), h3 nd⟩
    · rw [eg, e] at q; cases q
  · rw [if_neg q, if_neg q]
    refine ⟨fq ++ fd, r.append ⟨y, [], fd, [], rfl, by simp, ho, rfl, rfl⟩, fun p hp => List.mem_append.mp hp, List.nodup_append.mpr ⟨nd, ndd, fun a ha b hb z => dj a ha (z ▸ hb)⟩⟩
def setA (kvs : List (κ × D)) (k : κ) (d : D) : List (κ × D) := match kvs with
  | [] => []
  | (k', x) :: r => if k' = k then (k', d) :: r else (k', x) :: setA r k d
theorem RepOP.focus {H : Hp} : ∀ {kvs : List (κ × D)} {ws : List (κ × V)} {fq : List Addr} {k : κ} {d' : D}, RepOP H kvs ws fq → getA kvs k = some d' →
    ∃ v' f1 f f2, fq = f1 ++ (f ++ f2) ∧ valV ws k = some v' ∧ RepO H d' v' f ∧ ∀ (H' : Hp) (d'' : D) (f' : List Addr), At H H' (f1 ++ f2) → RepO H' d'' v' f' → RepOP H' (setA kvs k d'') ws (f1 ++ (f' ++ f2))
  | [], _, _, _, _, _, e => by simp [getA] at e
  | (k', x) :: r, _, _, k, d', ⟨v, s, f1, f2, e, ef, h, q⟩, g => by
    subst e ef
    by_cases hk : k' = k
    · have gx : x = d' := by simpa [getA, hk] using g
      subst gx
      refine ⟨v, [], f1, f2, rfl, valV_pos hk, h, fun H' d'' f' a o => ?_⟩
      unfold setA
      rw [if_pos hk]
      exact ⟨v, s, f', f2, rfl, rfl, o, q.at (a.sub fun p hp => by simpa using hp)⟩
    · have g2 : getA r k = some d' := by rw [← g]; simp [getA, List.find?_cons, hk]
      obtain ⟨v', g1, gf, gg, e1, e2, e3, e4⟩ := RepOP.focus q g2
      subst e1
      refine ⟨v', f1 ++ g1, gf, gg, by simp, by rw [valV_neg (p := (k', v)) hk]; exact e2, e3, fun H' d'' f' a o => ?_⟩
      unfold setA
      rw [if_neg hk]
      exact ⟨v, s, f1, g1 ++ (f' ++ gg), rfl, by simp, h.at (a.sub fun p hp => by simp [hp]), e4 H' d'' f' (a.sub fun p hp => by
        rcases List.mem_append.mp hp with hp | hp <;> simp [hp]) o⟩
end
theorem RepOs.focus {H : Hp} : ∀ {ds : List D} {vs : List V} {fq : List Addr} {n : Nat} {d' : D}, RepOs H ds vs fq → ds[n]? = some d' →
    ∃ v' f1 f f2, fq = f1 ++ (f ++ f2) ∧ vs[n]? = some v' ∧ RepO H d' v' f ∧ ∀ (H' : Hp) (d'' : D) (f' : List Addr), At H H' (f1 ++ f2) → RepO H' d'' v' f' → RepOs H' (ds.set n d'') vs (f1 ++ (f' ++ f2))
  | [], _, _, _, _, _, e => by simp at e
  | x :: r, _, _, 0, d', ⟨v, s, f1, f2, e, ef, h, q⟩, g => by
    subst e ef
    have gx : x = d' := by simpa using g
    subst gx
    exact ⟨v, [], f1, f2, rfl, rfl, h, fun H' d'' f' a o => ⟨v, s, f', f2, rfl, rfl, o, q.at (a.sub fun p hp => by simpa using hp)⟩⟩
  | x :: r, _, _, n + 1, d', ⟨v, s, f1, f2, e, ef, h, q⟩, g => by
    subst e ef
    obtain ⟨v', g1, gf, gg, e1, e2, e3, e4⟩ := RepOs.focus (n := n) q (by simpa using g)
    subst e1
    exact ⟨v', f1 ++ g1, gf, gg, by simp, by simpa using e2, e3, fun H' d'' f' a o => ⟨v, s, f1, g1 ++ (f' ++ gg), rfl, by simp, h.at (a.sub fun p hp => by simp [hp]), e4 H' d'' f' (a.sub fun p hp => by
        rcases List.mem_append.mp hp with hp | hp <;> simp [hp]) o⟩⟩

/-! ### paths -/
inductive Stp where
  | ix (n : Nat) | kK (k : Key) | kT (k : List Key)
def getS : D → Stp → Option D
  | .tup xs, .ix n => xs[n]?
  | .lst xs, .ix n => xs[n]?
  | .dK kvs, .kK k => getA kvs k
  | .dT kvs, .kT k => getA kvs k
  | _, _ => none
def setSt (d : D) (s : Stp) (x : D) : D := match d, s with
  | .tup xs, .ix n => .tup (xs.set n x)
  | .lst xs, .ix n => .lst (xs.set n x)
  | .dK kvs, .kK k => .dK (setA kvs k x)
  | .dT kvs, .kT k => .dT (setA kvs k x)
  | d, _ => d
def getP : D → List Stp → Option D
  | d, [] => some d
  | d, s :: p => (getS d s).bind fun e => getP e p
def setP : D → List Stp → D → D
  | _, [], x => x
  | d, s :: p, x => match getS d s with
    | some e => setSt d s (setP e p x)
    | none => d
def StpV (H : Hp) (v : V) (s : Stp) (v' : V) : Prop := ∃ a, v = .ref a ∧ match s with
  | .ix n => ∃ vs, (H a = some (.tup vs) ∨ H a = some (.lst vs)) ∧ vs[n]? = some v'
  | .kK k => ∃ ws, H a = some (.dK ws) ∧ valV ws k = some v'
  | .kT k => ∃ ws, H a = some (.dT ws) ∧ valV ws k = some v'
def AtV (H : Hp) : V → List Stp → V → Prop
  | v, [], v' => v' = v
  | v, s :: p, v' => ∃ w, StpV H v s w ∧ AtV H w p v'
theorem StpV.up {H H' : Hp} (h : ∀ a o, H a = some o → H' a = some o) {v : V} {s : Stp} {v' : V} (q : StpV H v s v') : StpV H' v s v' := by
  obtain ⟨a, e, q⟩ := q
  refine ⟨a, e, ?_⟩
  cases s with
  | ix n => obtain ⟨vs, q, g⟩ := q; exact ⟨vs, q.imp (h _ _) (h _ _), g⟩
  | kK k => obtain ⟨vs, q, g⟩ := q; exact ⟨vs, h _ _ q, g⟩
  | kT k => obtain ⟨vs, q, g⟩ := q; exact ⟨vs, h _ _ q, g⟩
theorem AtV.up {H H' : Hp} (h : ∀ a o, H a = some o → H' a = some o) : ∀ {p : List Stp} {v v' : V}, AtV H v p v' → AtV H' v p v'
  | [], _, _, q => q
  | _ :: _, _, _, ⟨w, q, r⟩ => ⟨w, q.up h, AtV.up h r⟩
theorem StpV.fn {H : Hp} {v : V} {s : Stp} {v1 v2 : V} (q : StpV H v s v1) (r : StpV H v s v2) : v1 = v2 := by
  obtain ⟨a, e, q⟩ := q
  obtain ⟨b, e2, r⟩ := r
  subst e
  cases e2
  cases s with
  | ix n =>
    obtain ⟨vs, q, g⟩ := q
    obtain ⟨ws, r, g2⟩ := r
    have : vs = ws := by
      rcases q with q | q <;> rcases r with r | r <;> rw [q] at r <;> cases r <;> rfl
    subst this
    rw [g] at g2; cases g2; rfl
  | kK k => obtain ⟨vs, q, g⟩ := q; obtain ⟨ws, r, g2⟩ := r; rw [q] at r; cases r; rw [g] at g2; cases g2; rfl
  | kT k => obtain ⟨vs, q, g⟩ := q; obtain ⟨ws, r, g2⟩ := r; rw [q] at r; cases r; rw [g] at g2; cases g2; rfl
theorem AtV.fn {H : Hp} : ∀ {p : List Stp} {v v1 v2 : V}, AtV H v p v1 → AtV H v p v2 → v1 = v2
  | [], _, _, _, q, r => q.trans r.symm
  | _ :: _, _, _, _, ⟨w, q, r⟩, ⟨w2, q2, r2⟩ => by
    have e := q.fn q2
    subst e
    exact AtV.fn r r2
theorem AtV.snoc {H : Hp} {s : Stp} : ∀ {p : List Stp} {v w v' : V}, AtV H v p w → StpV H w s v' → AtV H v (p ++ [s]) v'
  | [], _, _, _, q, r => by rw [show _ = _ from q] at r; exact ⟨_, r, rfl⟩
  | _ :: _, _, _, _, ⟨w, q, r⟩, r2 => ⟨w, q, AtV.snoc r r2⟩
theorem RepO.step {H : Hp} {d d' : D} {v : V} {fp : List Addr} {s : Stp} (h : RepO H d v fp) (g : getS d s = some d') :
    ∃ v' f1 f f2, fp = f1 ++ (f ++ f2) ∧ StpV H v s v' ∧ RepO H d' v' f ∧ ∀ (H' : Hp) (d'' : D) (f' : List Addr), At H H' (f1 ++ f2) → RepO H' d'' v' f' → RepO H' (setSt d s d'') v (f1 ++ (f' ++ f2)) ∧ StpV H' v s v' := by
  cases d with
  | tup ds =>
    cases s with
    | ix n =>
      obtain ⟨a, vs, e, ha, r⟩ := h
      obtain ⟨v', f1, f, f2, e1, e2, e3, e4⟩ := r.focus g
      exact ⟨v', f1, f, f2, e1, ⟨a, e, vs, .inl ha, e2⟩, e3, fun H' d'' f' at' o => ⟨⟨a, vs, e, at'.t _ _ ha, e4 H' d'' f' at' o⟩, a, e, vs, .inl (at'.t _ _ ha), e2⟩⟩
    | _ => cases g
  | lst ds =>
    cases s with
    | ix n =>
      obtain ⟨a, vs, fq, e, ha, ef, r⟩ := h
      obtain ⟨v', f1, f, f2, e1, e2, e3, e4⟩ := r.focus g
      subst ef e1
      exact ⟨v', a :: f1, f, f2, rfl, ⟨a, e, vs, .inr ha, e2⟩, e3, fun H' d'' f' at' o => ⟨⟨a, vs, _, e, (at'.a a (by simp)).trans ha, rfl, e4 H' d'' f' (at'.sub fun p hp => List.mem_cons_of_mem _ hp) o⟩, a, e, vs, .inr ((at'.a a (by simp)).trans ha), e2⟩⟩
    | _ => cases g
  | dK kvs =>
    cases s with
    | kK k =>
      obtain ⟨a, ws, fq, e, ha, ef, r⟩ := h
      obtain ⟨v', f1, f, f2, e1, e2, e3, e4⟩ := (repOK_iff.mp r).focus g
      subst ef e1
      exact ⟨v', a :: f1, f, f2, rfl, ⟨a, e, ws, ha, e2⟩, e3, fun H' d'' f' at' o => ⟨⟨a, ws, _, e, (at'.a a (by simp)).trans ha, rfl, repOK_iff.mpr (e4 H' d'' f' (at'.sub fun p hp => List.mem_cons_of_mem _ hp) o)⟩, a, e, ws, (at'.a a (by simp)).trans ha, e2⟩⟩
    | _ => cases g
  | dT kvs =>
    cases s with
    | kT k =>
      obtain ⟨a, ws, fq, e, ha, ef, r⟩ := h
      obtain ⟨v', f1, f, f2, e1, e2, e3, e4⟩ := (repOT_iff.mp r).focus g
      subst ef e1
      exact ⟨v', a :: f1, f, f2, rfl, ⟨a, e, ws, ha, e2⟩, e3, fun H' d'' f' at' o => ⟨⟨a, ws, _, e, (at'.a a (by simp)).trans ha, rfl, repOT_iff.mpr (e4 H' d'' f' (at'.sub fun p hp => List.mem_cons_of_mem _ hp) o)⟩, a, e, ws, (at'.a a (by simp)).trans ha, e2⟩⟩
    | _ => cases g
  | _ => cases s <;> cases g
theorem RepO.path {H : Hp} : ∀ {p : List Stp} {d d' : D} {v : V} {fp : List Addr}, RepO H d v fp → getP d p = some d' →
    ∃ v' f1 f f2, fp = f1 ++ (f ++ f2) ∧ AtV H v p v' ∧ RepO H d' v' f ∧ ∀ (H' : Hp) (d'' : D) (f' : List Addr), At H H' (f1 ++ f2) → RepO H' d'' v' f' → RepO H' (setP d p d'') v (f1 ++ (f' ++ f2)) ∧ AtV H' v p v'
  | [], d, d', v, fp, h, g => by
    have e : d = d' := by simpa [getP] using g
    subst e
    exact ⟨v, [], fp, [], by simp, rfl, h, fun H' d'' f' _ o => ⟨by simpa [setP] using o, rfl⟩⟩
  | s :: p, d, d', v, fp, h, g => by
    obtain ⟨e, g1, g2⟩ := Option.bind_eq_some_iff.mp g
    obtain ⟨w, f1, f, f2, e1, e2, e3, e4⟩ := h.step g1
    obtain ⟨v', h1, hf, h2, k1, k2, k3, k4⟩ := RepO.path e3 g2
    subst e1 k1
    refine ⟨v', f1 ++ h1, hf, h2 ++ f2, by simp, ⟨w, e2, k2⟩, k3, fun H' d'' f' at' o => ?_⟩
    have o2 := k4 H' d'' f' (at'.sub fun q hq => by rcases List.mem_append.mp hq with hq | hq <;> simp [hq]) o
    have := e4 H' (setP e p d'') (h1 ++ (f' ++ h2)) (at'.sub fun q hq => by rcases List.mem_append.mp hq with hq | hq <;> simp [hq]) o2.1
    refine ⟨?_, w, this.2, o2.2⟩
    rw [show f1 ++ h1 ++ (f' ++ (h2 ++ f2)) = f1 ++ (h1 ++ (f' ++ h2) ++ f2) by simp]
    show RepO H' (match getS d s with | some e => setSt d s (setP e p d'') | none => d) v _
    rw [g1]
    exact this.1

/-- what slot j owns is changed at the end of a path: within f, and by new things -/
theorem SIf.pathWrite {fp} {G0 H0 G H H' : Hp} {own : Owns} {σ : L2.St} {ρ : Env} (I : SIf fp G0 H0 own G H σ ρ) {j : Nat} {d1 d'' : D} {v0 v' : V} {p : List Stp} {f1 f f2 f' : List Addr} (hj : own.lookup j = some .dp) (hv : σ[j]? = some (some v0)) (nd : (fp j).Nodup) (ef : fp j = f1 ++ (f ++ f2))
    (up : ∀ (H' : Hp) (d'' : D) (f' : List Addr), At H H' (f1 ++ f2) → RepO H' d'' v' f' → RepO H' (setP d1 p d'') v0 (f1 ++ (f' ++ f2)) ∧ AtV H' v0 p v') (o : RepO H' d'' v' f') (nd' : f'.Nodup) (hf : ∀ q ∈ f', q ∈ f ∨ (G q = none ∧ H0 q = none ∧ ∀ i, q ∉ fp i))
    (hH : ∀ a, a ∉ f → H' a = H a ∨ (H a = none ∧ H0 a = none)) : (∃ fpn, SIf fpn G0 H0 own G H' σ (ρ.set j (some (setP d1 p d''))) ∧ ∀ i q, q ∈ fpn i → q ∈ fp i ∨ q ∈ f') ∧ AtV H' v0 p v' := by
  have nd1 := List.nodup_append.mp (ef ▸ nd)
  have nd2 := List.nodup_append.mp nd1.2.1
  have nf : ∀ q, q ∈ f1 ++ f2 → q ∉ f := fun q hq hq2 => by
    rcases List.mem_append.mp hq with hq | hq
    · exact nd1.2.2 q hq q (List.mem_append_left _ hq2) rfl
    · exact nd2.2.2 q hq2 q hq rfl
  have inj : ∀ q, q ∈ f1 ++ f2 → q ∈ fp j := fun q hq => by rw [ef]; rcases List.mem_append.mp hq with hq | hq <;> simp [hq]
  have inf : ∀ q, q ∈ f → q ∈ fp j := fun q hq => by rw [ef]; simp [hq]
  have tup : ∀ a vs, H a = some (.tup vs) → H' a = some (.tup vs) := fun a vs e => by
    have hna : a ∉ f := fun hq => by have := (I.fpm j a (inf a hq)).2.2; rw [e] at this; exact this
    rcases hH a hna with q | q
    · rw [q]; exact e
    · rw [q.1] at e; cases e
  have at' : At H H' (f1 ++ f2) := ⟨fun q hq => by
    rcases hH q (nf q hq) with z | z
    · exact z
    · have := (I.fpm j q (inj q hq)).2.2; rw [z.1] at this; exact this.elim, tup⟩
  have o2 := up H' d'' f' at' o
  have fresh : ∀ q ∈ f', q ∉ f1 ++ f2 := fun q hq hq2 => by
    rcases hf q hq with z | z
    · exact nf q hq2 z
    · exact z.2.2 j (inj q hq2)
  have ndn : (f1 ++ (f' ++ f2)).Nodup := List.nodup_append.mpr ⟨nd1.1, List.nodup_append.mpr ⟨nd', nd2.2.1, fun a ha b hb z => fresh a ha (by subst z; simp [hb])⟩, fun a ha b hb z => by
    subst z
    rcases List.mem_append.mp hb with hb | hb
    · exact fresh a hb (by simp [ha])
    · exact nd1.2.2 a ha a (by simp [hb]) rfl⟩
  have src : ∀ q ∈ f1 ++ (f' ++ f2), q ∈ fp j ∨ (G q = none ∧ H0 q = none ∧ ∀ i, q ∉ fp i) := fun q hq => by
    rcases List.mem_append.mp hq with hq | hq
    · exact .inl (inj q (by simp [hq]))
    · rcases List.mem_append.mp hq with hq | hq
      · rcases hf q hq with z | z
        · exact .inl (inf q z)
        · exact .inr z
      · exact .inl (inj q (by simp [hq]))
  refine ⟨⟨_, I.change (k := .dp) (fj := f1 ++ (f' ++ f2)) hj hv (fun a ha => hH a fun z => ha (inf a z)) ⟨o2.1, ndn⟩ (fun q hq => ?_) (fun i q hne hq hq2 => ?_) fun q hq vs z => ?_, fun i q hq => ?_⟩, o2.2⟩
  · rcases src q hq with z | z
    · exact ⟨(I.fpm j q z).1, (I.fpm j q z).2.1⟩
    · exact ⟨z.1, z.2.1⟩
  · rcases src q hq2 with z | z
    · exact I.fpd i j q hne hq z
    · exact z.2.2 i hq
  · have := (I.fpm j q hq).2.2
    rw [z] at this
    exact this
  · by_cases hi : i = j
    · subst hi
      rw [fpSet_self] at hq
      rcases List.mem_append.mp hq with hq | hq
      · exact .inl (inj q (by simp [hq]))
      · rcases List.mem_append.mp hq with hq | hq
        · exact .inr hq
        · exact .inl (inj q (by simp [hq]))
    · rw [fpSet_ne hi] at hq
      exact .inl hq
theorem SIf.pathWriteS {fp} {G0 H0 G H H' : Hp} {own : Owns} {σ : L2.St} {ρ : Env} (I : SIf fp G0 H0 own G H σ ρ) {j : Nat} {d1 d'' : D} {v0 v' : V} {p : List Stp} {f1 f f2 f' : List Addr} (hj : own.lookup j = some .dp) (hv : σ[j]? = some (some v0)) (nd : (fp j).Nodup) (ef : fp j = f1 ++ (f ++ f2))
    (up : ∀ (H' : Hp) (d'' : D) (f' : List Addr), At H H' (f1 ++ f2) → RepO H' d'' v' f' → RepO H' (setP d1 p d'') v0 (f1 ++ (f' ++ f2)) ∧ AtV H' v0 p v') (o : RepO H' d'' v' f') (nd' : f'.Nodup) (hf : ∀ q ∈ f', q ∈ f ∨ (G q = none ∧ H0 q = none ∧ ∀ i, q ∉ fp i))
    (hH : ∀ a, a ∉ f → H' a = H a ∨ (H a = none ∧ H0 a = none)) : SI G0 H0 own G H' σ (ρ.set j (some (setP d1 p d''))) :=
  let ⟨⟨fpn, W, _⟩, _⟩ := I.pathWrite hj hv nd ef up o nd' hf hH
  ⟨fpn, W⟩
end DL

/-! DL12: expressions that name a place in what a slot owns; statements that change it. -/
namespace DL
open PySem PySem.Spec PyProof.Rows L2

/-! ### d.setdefault(k, x), whatever the keys -/
section
variable {X : Cx} {pins : List (Addr × Obj)} {σ : L2.St} {H : Hp} {s : Shared} {a b : Addr} {u r : Value} {d : V} {A : Around} {E : Value → Shared → Prop}
theorem d_setdT {kvs : List (List Key × V)} {k : List Key} {Q : Value → Shared → Prop} (hu : A.units + 1 < cLine) (I : Inv X pins σ H s) (e : H a = some (.dT kvs)) (eb : H b = some (.tup (k.map kV))) (rd : RelV d r) (l : kvs.length < sizeLine)
    (h1 : ∀ v, valV kvs k = some v → ∀ (w' : Value) (s' : Shared), Inv X pins σ H s' → RelV v w' → Q w' s') (h2 : valV kvs k = none → ∀ (w' : Value) (s' : Shared), Inv X pins σ (upd H a (.dT (putK kvs k d))) s' → RelV d w' → Q w' s') :
    wpAny (model X.prog X.w) A (call (.builtin "dict.setdefault") [.ref a, .ref b, r]) Q E s := by
  obtain ⟨z, hd, xs, rel, dd⟩ := dt_of I.hok e
  have hz : xs.length ≤ sizeLine := by rw [← Paired.length rel]; exact z
  have hl : (putK kvs k d).length ≤ sizeLine := by have := length_putK kvs k d; omega
  refine PySem.call_setdefault_heap (hsz := hz) (tupleKind_room_in1 hu) (key_of I.hok eb) hd dd (fun p hp => ?_) fun hn h' dd' hs => ?_
  · have q := rel.val k
    rw [hp] at q
    cases q0 : valV kvs k with
    | none => rw [q0] at q; exact (show False from q).elim
    | some v0 => rw [q0] at q; exact h1 v0 q0 _ _ (I.tok _) q
  · have q := rel.val k
    rw [hn] at q
    cases q0 : valV kvs k with
    | some v0 => rw [q0] at q; exact (show False from q).elim
    | none =>
      obtain ⟨q, es, ep, hq, h3, h4, h5, _, h6⟩ := dd'
      refine h2 q0 _ _ (d_write I (by rw [e]; exact True.intro) hs ⟨q, hq⟩ ⟨hl, hd, _, (rel.put k eb rd).keeps fun c ys ec => ?_, q, es, ep, hq, h3, h4, h5, h6⟩) rd
      rw [upd_ne (ne_of ec e (fun z => nomatch z))]
      exact ec
end
def DSetd (H : Hp) (a : Addr) (y z : V) (Q : VK) : Prop :=
  (∃ (kvs : List (Key × V)) (k : Key), H a = some (.dK kvs) ∧ y = kV k ∧ kvs.length < sizeLine ∧ (∀ v, valV kvs k = some v → Q v H) ∧ (valV kvs k = none → Q z (upd H a (.dK (putK kvs k z))))) ∨
  ∃ (kvs : List (List Key × V)) (k : List Key) (b : Addr), H a = some (.dT kvs) ∧ y = .ref b ∧ H b = some (.tup (k.map kV)) ∧ kvs.length < sizeLine ∧ (∀ v, valV kvs k = some v → Q v H) ∧ (valV kvs k = none → Q z (upd H a (.dT (putK kvs k z))))
def tSetdA (td ty tx : TE) : TE := fun σ H Q => td σ H fun x H1 => ∃ a, x = .ref a ∧ IsD H1 a ∧ ty σ H1 fun y H2 => tx σ H2 fun z H3 => DSetd H3 a y z Q
theorem pe_setdA {X : Cx} {o e f : Expr} {td ty tx : TE} {apos cpos : Pos} (hu : X.A.units + 1 < cLine) (ho : PE X o td) (he : PE X e ty) (hf : PE X f tx) (m : M2 X o "setdefault" apos e f cpos) : PE X (.Call (.Attribute o "setdefault" apos) [e, f] [] cpos) (tSetdA td ty tx) := by
  refine ⟨fun pins s σ H Q I h => ?_⟩
  refine wpAny_Call_method m.base m.few m.line PySem.F.plainAttrs_dict PySem.F.slot_dict_setdefault PySem.F.type_dict_setdefault (thn (ho.run pins s σ H _ I h) fun u s1 ⟨x, H1, I1, rx, a, ex, d, q1⟩ => ?_)
  subst ex
  obtain rfl : u = Value.ref a := rx
  obtain ⟨t1, t2, _⟩ := isD_at I1 d
  refine ⟨t1, t2, ?_⟩
  rw [m.trees]
  refine Calls.callWith_builtin rfl (Calls.evalArgs_plain (Calls.spliced_cons (thn (he.run pins s1 σ H1 _ I1 q1) fun iv s2 ⟨y, H2, I2, ry, q2⟩ =>
    Calls.spliced_cons (thn (hf.run pins s2 σ H2 _ I2 q2) fun fv s3 ⟨z, H3, I3, rz, q3⟩ => Calls.spliced_nil ?_))))
  rcases q3 with ⟨kvs, k, ea, ey, hl, q3, q4⟩ | ⟨kvs, k, b, ea, ey, eb, hl, q3, q4⟩
  · subst ey
    exact d_setd I3 ea ry rz hl (fun v hv w' s4 I4 rw' => ⟨v, _, I4, rw', q3 v hv⟩) fun hn w' s4 I4 rw' => ⟨z, _, I4, rw', q4 hn⟩
  · subst ey
    cases (show iv = Value.ref b from ry)
    exact d_setdT hu I3 ea eb rz hl (fun v hv w' s4 I4 rw' => ⟨v, _, I4, rw', q3 v hv⟩) fun hn w' s4 I4 rw' => ⟨z, _, I4, rw', q4 hn⟩

/-! ### places -/
abbrev Sel := Env → Res (D × List Stp)
/-- what stays while a place is looked at -/
structure DPk (j : Nat) (fp fp' : Nat → List Addr) (G H G' H' : Hp) : Prop where
  keep : ∀ a o, H a = some o → a ∉ fp j → H' a = some o
  fps : ∀ i q, q ∈ fp' i → q ∈ fp i ∨ q ∈ fp j ∨ H q = none
  reg : ∀ q o, G' q = some o → G q = some o ∨ H q = none ∨ ∃ vs, o = .tup vs
  le : ∀ q o, G q = some o → G' q = some o
theorem DPk.refl {j : Nat} {fp : Nat → List Addr} {G H : Hp} : DPk j fp fp G H G H := ⟨fun _ _ e _ => e, fun i _ h => .inl h, fun _ _ e => .inl e, fun _ _ e => e⟩
theorem DPk.up {j : Nat} {fp fp' : Nat → List Addr} {G H G' H' H2 : Hp} (k : DPk j fp fp' G H G' H') (h : ∀ a o, H' a = some o → H2 a = some o) : DPk j fp fp' G H G' H2 := ⟨fun a o e n => h a o (k.keep a o e n), k.fps, k.reg, k.le⟩
/-- e names a place in what slot j owns (which may change while e is looked at) -/
def DP (X : Cx) (own : Owns) (j : Nat) (e : Expr) (sel : Sel) : Prop :=
  ∃ t : TE, PE X e t ∧ ∀ (fp : Nat → List Addr) (G0 H0 G H : Hp) (σ : L2.St) (ρ : Env) (Q : VK), SIf fp G0 H0 own G H σ ρ →
    (∃ d1 p, sel ρ = .ok (d1, p) ∧ ∀ (fp' : Nat → List Addr) (G' H' : Hp) (v0 v' : V), DPk j fp fp' G H G' H' → SIf fp' G0 H0 own G' H' σ (ρ.set j (some d1)) → σ[j]? = some (some v0) → AtV H' v0 p v' → Q v' H') → t σ H Q
def stpOf : D → D → Option Stp
  | .lst xs, .int i => (ixN xs.length i).map .ix
  | .tup xs, .int i => (ixN xs.length i).map .ix
  | .dK _, k => (keyD k).map .kK
  | .dT _, .tup ks => (keysD ks).map .kT
  | _, _ => none
def pName (j : Nat) : Sel := fun ρ => match ρ[j]? with
  | some (some d) => .ok (d, [])
  | _ => .no
def noEx2 {α : Type} : Res α → Option α
  | .ok a => some a
  | _ => none
def stepTo (d1 : D) (p : List Stp) (k : D) : Res (D × List Stp) := match getP d1 p with
  | some c => (match stpOf c k with
    | some s => if (getS c s).isSome = true then .ok (d1, p ++ [s]) else .no
    | none => .no)
  | none => .no
def pIx (j : Nat) (sel : Sel) (f : Env → Res D) : Sel := fun ρ => noEx (sel ρ) >>= fun x => noEx (f (ρ.set j (some x.1))) >>= fun k => stepTo x.1 x.2 k
theorem set_self {ρ : Env} {j : Nat} {x : Option D} (h : ρ[j]? = some x) : ρ.set j x = ρ := by
  apply List.ext_getElem?
  intro i
  by_cases hi : j = i
  · subst hi
    have := (List.getElem?_eq_some_iff.mp h).1
    rw [List.getElem?_set_self this, h]
  · rw [List.getElem?_set_ne hi]
theorem get_set {ρ : Env} {j : Nat} {d d1 : D} (h : ρ[j]? = some (some d)) : (ρ.set j (some d1))[j]? = some (some d1) := List.getElem?_set_self (List.getElem?_eq_some_iff.mp h).1
section
variable {X : Cx} {J : Jd} {own own1 : Owns} {j : Nat} {e e2 e3 : Expr} {sel : Sel} {f f3 : Env → Res D} {pos : Pos}
theorem dp_name {x : Str} (hj : own.lookup j = some .dp) (pn : PE X (.Name x pos) (tVar j)) : DP X own j (.Name x pos) (pName j) := by
  refine ⟨_, pn, fun fp G0 H0 G H σ ρ Q I ⟨d1, p, e, q⟩ => ?_⟩
  unfold pName at e
  split at e
  · rename_i d h
    cases e
    obtain ⟨v, hv, o⟩ := I.own j .dp _ hj h
    exact ⟨v, hv, q fp G H v v .refl (by rw [set_self h]; exact I) hv rfl⟩
  · cases e
theorem glE_ok {W : WX} {G H : Hp} {σ : L2.St} {Q : VK} {r : Res D} {d : D} (h : r = .ok d) (q : ∀ G' H' v, Ext G H G' H' → Rep G' d v → Q v H') : GlE X.mg W G H σ Q r := by
  rw [h]; exact fun G' H' e v rv => q G' H' v e rv
/-- what stands at the place -/
theorem SIf.place {fp} {G0 H0 G H : Hp} {σ : L2.St} {ρ : Env} {d1 d' : D} {v0 v' : V} {p : List Stp} (I : SIf fp G0 H0 own G H σ ρ) (hj : own.lookup j = some .dp) (hd : ρ[j]? = some (some d1)) (hv : σ[j]? = some (some v0)) (ha : AtV H v0 p v') (g : getP d1 p = some d') :
    ∃ f1 f f2, (fp j).Nodup ∧ fp j = f1 ++ (f ++ f2) ∧ RepO H d' v' f ∧ ∀ (H' : Hp) (d'' : D) (f' : List Addr), At H H' (f1 ++ f2) → RepO H' d'' v' f' → RepO H' (setP d1 p d'') v0 (f1 ++ (f' ++ f2)) ∧ AtV H' v0 p v' := by
  obtain ⟨v, hv', o, nd⟩ := I.own j .dp _ hj hd
  rw [hv] at hv'; cases hv'
  obtain ⟨w, f1, f, f2, e1, e2, e3, e4⟩ := o.path g
  have := e2.fn ha
  subst this
  exact ⟨f1, f, f2, nd, e1, e3, e4⟩
theorem step_ix {H G2 : Hp} {c k : D} {s : Stp} {v' kv : V} {fq : List Addr} {d' : D} {Q : VK} (s2 : Sub G2 H) (rc : RepO H c v' fq) (rk : Rep G2 k kv) (es : stpOf c k = some s) (eg : getS c s = some d') (qq : ∀ w, StpV H v' s w → Q w H) : rIxAny X.K v' kv H Q := by
  obtain ⟨w, f1, f, f2, e1, e2, e3, e4⟩ := rc.step eg
  have q := qq w e2
  obtain ⟨a, ea, e2⟩ := e2
  clear e3 e4
  cases c with
  | lst ds =>
    cases k with
    | int i =>
      simp only [stpOf, Option.map_eq_some_iff] at es
      obtain ⟨n, hn, rfl⟩ := es
      obtain ⟨vs, hvs, gv⟩ := e2
      obtain ⟨a2, vs2, fq2, ea2, ha2, _, r⟩ := rc
      rw [ea] at ea2; cases ea2
      have : vs = vs2 := by rcases hvs with z | z <;> rw [z] at ha2 <;> cases ha2; rfl
      subst this
      have hl : vs.length = ds.length := (r.rep (G := H) ⟨fun _ _ => rfl, fun _ _ e => e⟩).length
      exact .inl ⟨a, vs, i, w, ea, rk, SqL.of ha2, by unfold L2.atI; rw [hl, hn]; exact gv, q⟩
    | _ => cases es
  | tup ds =>
    cases k with
    | int i =>
      simp only [stpOf, Option.map_eq_some_iff] at es
      obtain ⟨n, hn, rfl⟩ := es
      obtain ⟨vs, hvs, gv⟩ := e2
      obtain ⟨a2, vs2, ea2, ha2, r⟩ := rc
      rw [ea] at ea2; cases ea2
      have : vs = vs2 := by rcases hvs with z | z <;> rw [z] at ha2 <;> cases ha2; rfl
      subst this
      have hl : vs.length = ds.length := (r.rep (G := H) ⟨fun _ _ => rfl, fun _ _ e => e⟩).length
      exact .inr (.inl ⟨a, vs, i, w, ea, rk, SqT.of ha2, by unfold L2.atI; rw [hl, hn]; exact gv, q⟩)
    | _ => cases es
  | dK kvs =>
    have es : (keyD k).map Stp.kK = some s := by cases k <;> exact es
    obtain ⟨kk, hk, rfl⟩ := Option.map_eq_some_iff.mp es
    obtain ⟨ws, hws, gv⟩ := e2
    exact .inr (.inr (.inr ⟨a, w, ea, by rw [keyD_rep hk rk, ← gv]; exact DGet.k hws, q⟩))
  | dT kvs =>
    cases k with
    | tup ks =>
      simp only [stpOf, Option.map_eq_some_iff] at es
      obtain ⟨kk, hk, rfl⟩ := es
      obtain ⟨ws, hws, gv⟩ := e2
      obtain ⟨b, vs, eb, hb, rs⟩ := rk
      subst eb
      refine .inr (.inr (.inr ⟨a, w, ea, ?_, q⟩))
      rw [← gv]
      exact DGet.t hws (by rw [← keysD_rep hk rs]; exact s2 _ _ hb)
    | _ => cases es
  | _ => cases k <;> cases es
theorem dp_ix (hu : X.A.units + 1 < cLine) (hj : own.lookup j = some .dp) (d1 : DP X own j e sel) (d2 : DE X W0 e2 f) (hs : PlainIx e2) : DP X own j (.Subscript e e2 pos) (pIx j sel f) := by
  obtain ⟨t1, p1, h1⟩ := d1
  obtain ⟨t2, p2, h2⟩ := d2
  refine ⟨_, pe_ix (ix_any hu) p1 p2 hs, fun fp G0 H0 G H σ ρ Q I ⟨dd, p, es, q⟩ => ?_⟩
  unfold pIx at es
  obtain ⟨⟨dx, px⟩, e1, es⟩ := bind_ok' es
  obtain ⟨k, e2, es⟩ := bind_ok' es
  have e1 := noEx_ok e1
  have e2 := noEx_ok e2
  unfold stepTo at es
  split at es
  · rename_i c gc
    split at es
    · rename_i s ss
      split at es
      · rename_i gs
        cases es
        obtain ⟨d', eg⟩ := Option.isSome_iff_exists.mp gs
        refine h1 fp G0 H0 G H σ ρ _ I ⟨_, px, e1, fun fp' G' H' v0 v' kp I' hv ha => ?_⟩
        have hr : (ρ.set j (some dx))[j]? = some (some dx) := by
          have hl : j < ρ.length := by have := (List.getElem?_eq_some_iff.mp hv).1; have := I.len; omega
          exact List.getElem?_set_self hl
        refine h2 _ H' σ _ _ (view_ext I'.ext).s I'.view (glE_ok e2 fun G2 H2 kv ex rk => ?_)
        have I2 := I'.grow (Ext.up I'.sub ex.h)
        have ha2 := ha.up ex.h
        obtain ⟨f1, f, f2, nd, ef, o, _⟩ := I2.place hj hr hv ha2 gc
        exact step_ix ex.s o rk ss eg fun w hw => q fp' G' H2 v0 w (kp.up ex.h) I2 hv (ha2.snoc hw)
      · cases es
    · cases es
  · cases es
end

/-! ### d.setdefault(k, new) as a place -/
def setdTo (d1 : D) (p : List Stp) (k x : D) : Res (D × List Stp) := match getP d1 p with
  | some (.dK kvs) => (match keyD k with
    | some kk => if kvs.length < sizeLine then (match getA kvs kk with
      | some _ => .ok (d1, p ++ [.kK kk])
      | none => .ok (setP d1 p (.dK (putA kvs kk x)), p ++ [.kK kk])) else .no
    | none => .no)
  | some (.dT kvs) => (match k with
    | .tup ks => (match keysD ks with
      | some kk => if kvs.length < sizeLine then (match getA kvs kk with
        | some _ => .ok (d1, p ++ [.kT kk])
        | none => .ok (setP d1 p (.dT (putA kvs kk x)), p ++ [.kT kk])) else .no
      | none => .no)
    | _ => .no)
  | _ => .no
def isDicP (d1 : D) (p : List Stp) : Bool := match getP d1 p with
  | some d => isDic d
  | none => false
def pSetd (j : Nat) (sel : Sel) (f f3 : Env → Res D) : Sel := fun ρ => noEx (sel ρ) >>= fun x => if isDicP x.1 x.2 = true then noEx (f (ρ.set j (some x.1))) >>= fun k => noEx (f3 (ρ.set j (some x.1))) >>= fun y => setdTo x.1 x.2 k y else .no
theorem dic_isD {H : Hp} {d : D} {v : V} {fq : List Addr} (o : RepO H d v fq) (h : isDic d = true) : ∃ a, v = .ref a ∧ IsD H a ∧ a ∈ fq := by
  cases d with
  | dK kvs => obtain ⟨a, ws, fr, e, ha, ef, _⟩ := o; subst ef; exact ⟨a, e, .inl ⟨ws, .inl ha⟩, List.mem_cons_self⟩
  | dT kvs => obtain ⟨a, ws, fr, e, ha, ef, _⟩ := o; subst ef; exact ⟨a, e, .inr ⟨ws, .inl ha⟩, List.mem_cons_self⟩
  | _ => cases h
section
variable {X : Cx} {J : Jd} {own own1 : Owns} {j : Nat} {e e2 e3 : Expr} {sel : Sel} {f f3 : Env → Res D} {pos apos : Pos}
/-- an owned thing made new, beside what slots own -/
theorem new_beside {fp} {G0 H0 G H Gv H1 H2 : Hp} {σ : L2.St} {ρ : Env} {fy : List Addr} (I : SIf fp G0 H0 own G H σ ρ) (hn : ∀ q ∈ fy, H q = none) : ∀ i q, q ∈ fp i → q ∉ fy := fun i q hq hq2 => by
  have := (I.fpm i q hq).2.2
  rw [hn q hq2] at this
  exact this
theorem dp_setd (hu : X.A.units + 1 < cLine) (hj : own.lookup j = some .dp) (d1 : DP X own j e sel) (d2 : DE X W0 e2 f) (d3 : DF X W0 .dp e3 f3) (m : M2 X e "setdefault" apos e2 e3 pos) : DP X own j (.Call (.Attribute e "setdefault" apos) [e2, e3] [] pos) (pSetd j sel f f3) := by
  obtain ⟨t1, p1, h1⟩ := d1
  obtain ⟨t2, p2, h2⟩ := d2
  obtain ⟨t3, p3, h3⟩ := d3
  refine ⟨_, pe_setdA hu p1 p2 p3 m, fun fp G0 H0 G H σ ρ Q I ⟨dd, p, es, q⟩ => ?_⟩
  unfold pSetd at es
  obtain ⟨⟨dx, px⟩, e1, es⟩ := bind_ok' es
  split at es
  · rename_i hdic
    obtain ⟨k, e2, es⟩ := bind_ok' es
    obtain ⟨y, e3, es⟩ := bind_ok' es
    have e1 := noEx_ok e1
    have e2 := noEx_ok e2
    have e3 := noEx_ok e3
    refine h1 fp G0 H0 G H σ ρ _ I ⟨_, px, e1, fun fp' G' H' v0 v' kp I' hv ha => ?_⟩
    have hr : (ρ.set j (some dx))[j]? = some (some dx) := by
      have hl : j < ρ.length := by have := (List.getElem?_eq_some_iff.mp hv).1; have := I.len; omega
      exact List.getElem?_set_self hl
    unfold isDicP at hdic
    cases gc : getP dx px with
    | none => rw [gc] at hdic; cases hdic
    | some c =>
      rw [gc] at hdic
      obtain ⟨_, _, _, _, _, oc, _⟩ := I'.place hj hr hv ha gc
      obtain ⟨a, ea, hD, _⟩ := dic_isD oc hdic
      refine ⟨a, ea, hD, ?_⟩
      have hsv := (view_ext I'.ext).s
      refine h2 _ H' σ _ _ hsv I'.view (glE_ok e2 fun G2 H2 kv ex rk => ?_)
      have I2 := I'.grow (Ext.up I'.sub ex.h)
      have hsv2 := (view_ext I2.ext).s
      refine h3 _ H2 σ _ _ hsv2 I2.view ?_
      rw [e3]
      intro G3 H3 ex3 yv fy oy hny
      have I3 := I2.grow (Ext.up I2.sub ex3.h)
      have ha3 := (ha.up ex.h).up ex3.h
      obtain ⟨f1, fc, f2, nd, ef, oc3, upd3⟩ := I3.place hj hr hv ha3 gc
      have rk3 : Rep H3 k kv := (rk.le (Le.of ex.s)).le (Le.of ex3.h)
      have nb := new_beside (Gv := G) (H1 := H) (H2 := H) I2 fun q hq => (hny q hq).2
      have inc : ∀ q ∈ fc, q ∈ fp' j := fun q hq => by rw [ef]; simp [hq]
      have ndc : fc.Nodup := (List.nodup_append.mp (List.nodup_append.mp (ef ▸ nd)).2.1).1
      have fyF : ∀ q ∈ fy, G' q = none ∧ H0 q = none ∧ ∀ i, q ∉ fp' i := fun q hq => ⟨upd_none I2.sub (hny q hq).2, I2.ext.free (hny q hq).2, fun i z => nb i q z hq⟩
      have fin : ∀ (o' : HO) (c' : D) (s : Stp) (a2 : Addr) (fc' : List Addr), a2 ∈ fc → RepO (upd H3 a2 o') c' v' fc' → fc'.Nodup → (∀ q ∈ fc', q ∈ fc ∨ q ∈ fy) → StpV (upd H3 a2 o') v' s yv → dd = setP dx px c' → p = px ++ [s] → Q yv (upd H3 a2 o') := by
        intro o' c' s a2 fc' hm oc' nd' hsub hst hdd hp
        have W := I3.pathWrite (H' := upd H3 a2 o') (d'' := c') (v' := v') hj hv nd ef upd3 oc' nd' (fun q hq => (hsub q hq).imp id fun z => fyF q z) (fun b hb => .inl (upd_ne fun z => hb (z ▸ hm)))
        obtain ⟨⟨fpn, W, hfp⟩, hat⟩ := W
        subst hp
        rw [List.set_set, ← hdd] at W
        refine q fpn _ _ v0 yv ⟨fun a o e n => ?_, fun i q hq => ?_, kp.reg, kp.le⟩ W hv (hat.snoc hst)
        · have e3 := ((kp.up ex.h).up ex3.h).keep a o e n
          rw [upd_ne]
          · exact e3
          · intro z
            subst z
            rcases kp.fps j a (inc a hm) with z | z | z
            · exact n z
            · exact n z
            · rw [z] at e; cases e
        · rcases hfp i q hq with z | z
          · exact kp.fps i q z
          · rcases hsub q z with z | z
            · exact .inr ((kp.fps j q (inc q z)).elim .inl id)
            · by_cases hj2 : q ∈ fp j
              · exact .inr (.inl hj2)
              · refine .inr (.inr ?_)
                cases r : H q with
                | none => rfl
                | some u =>
                  have := (kp.up ex.h).keep q u r hj2
                  rw [(hny q z).2] at this; cases this
      have ndy := oy.2
      have oyr := oy.1
      cases c with
      | dK kvs =>
        obtain ⟨a3, ws, fq, ea3, ha4, efc, r⟩ := oc3
        rw [ea] at ea3; cases ea3
        unfold setdTo at es
        rw [gc] at es
        simp only at es
        split at es
        · rename_i kk ek
          split at es
          · rename_i hz
            have ekv := keyD_rep ek rk3
            have rp := (repOK_iff.mp r)
            have lw : ws.length = kvs.length := (rp.rep (G := H3) ⟨fun _ _ => rfl, fun _ _ e => e⟩).length
            have gv := (rp.rep (G := H3) ⟨fun _ _ => rfl, fun _ _ e => e⟩).get (k := kk)
            refine .inl ⟨ws, kk, ha4, ekv, by rw [lw]; exact hz, fun v hvv => ?_, fun hvn => ?_⟩
            · rcases gv with ⟨_, z⟩ | ⟨x, v2, z1, z2, _⟩
              · rw [z] at hvv; cases hvv
              · rw [z1] at es
                cases es
                exact q fp' G' H3 v0 v ((kp.up ex.h).up ex3.h) I3 hv (ha3.snoc ⟨a, ea, ws, ha4, hvv⟩)
            · rcases gv with ⟨z, _⟩ | ⟨x, v2, z1, z2, _⟩
              · rw [z] at es
                cases es
                have na : a ∉ fq := (List.nodup_cons.mp (efc ▸ ndc)).1
                have nfy : a ∉ fy := fun hm => nb j a (inc a (by rw [efc]; simp)) hm
                have at1 : ∀ {fz : List Addr}, a ∉ fz → At H3 (upd H3 a (.dK (putK ws kk yv))) fz := fun hz => ⟨fun y hy => upd_ne fun z => hz (z ▸ hy), fun y ws' e => by rw [upd_ne (ne_of e ha4 (by intro z; cases z))]; exact e⟩
                obtain ⟨fq', p1', p2', p3'⟩ := (rp.at (at1 na)).put (k := kk) (oyr.at (at1 nfy)) (.inr z) (List.nodup_cons.mp (efc ▸ ndc)).2 ndy (fun q hq hq2 => nb j q (inc q (by rw [efc]; simp [hq])) hq2)
                refine fin _ (.dK (putA kvs kk y)) (.kK kk) a (a :: fq') (by rw [efc]; simp) ⟨a, _, fq', ea, upd_same, rfl, repOK_iff.mpr p1'⟩ (List.nodup_cons.mpr ⟨fun hm => (p2' a hm).elim na nfy, p3'⟩) (fun q hq => ?_) ⟨a, ea, _, upd_same, by rw [valV_put, if_pos rfl]⟩ rfl rfl
                rcases List.mem_cons.mp hq with z | hq
                · subst z; exact .inl (by rw [efc]; simp)
                · exact (p2' q hq).imp (fun z => by rw [efc]; simp [z]) id
              · rw [z2] at hvn; cases hvn
          · cases es
        · cases es
      | dT kvs =>
        obtain ⟨a3, ws, fq, ea3, ha4, efc, r⟩ := oc3
        rw [ea] at ea3; cases ea3
        unfold setdTo at es
        rw [gc] at es
        simp only at es
        split at es
        rotate_left
        · cases es
        rename_i ks
        obtain ⟨bk, vks, ebk, hbk, rsk⟩ := rk3
        split at es
        · rename_i kk ek
          split at es
          · rename_i hz
            have hb4 : H3 bk = some (.tup (kk.map kV)) := by rw [← keysD_rep ek rsk]; exact hbk
            have rp := (repOT_iff.mp r)
            have lw : ws.length = kvs.length := (rp.rep (G := H3) ⟨fun _ _ => rfl, fun _ _ e => e⟩).length
            have gv := (rp.rep (G := H3) ⟨fun _ _ => rfl, fun _ _ e => e⟩).get (k := kk)
            refine .inr ⟨ws, kk, bk, ha4, ebk, hb4, by rw [lw]; exact hz, fun v hvv => ?_, fun hvn => ?_⟩
            · rcases gv with ⟨_, z⟩ | ⟨x, v2, z1, z2, _⟩
              · rw [z] at hvv; cases hvv
              · rw [z1] at es
                cases es
                exact q fp' G' H3 v0 v ((kp.up ex.h).up ex3.h) I3 hv (ha3.snoc ⟨a, ea, ws, ha4, hvv⟩)
            · rcases gv with ⟨z, _⟩ | ⟨x, v2, z1, z2, _⟩
              · rw [z] at es
                cases es
                have na : a ∉ fq := (List.nodup_cons.mp (efc ▸ ndc)).1
                have nfy : a ∉ fy := fun hm => nb j a (inc a (by rw [efc]; simp)) hm
                have at1 : ∀ {fz : List Addr}, a ∉ fz → At H3 (upd H3 a (.dT (putK ws kk yv))) fz := fun hz => ⟨fun y hy => upd_ne fun z => hz (z ▸ hy), fun y ws' e => by rw [upd_ne (ne_of e ha4 (by intro z; cases z))]; exact e⟩
                obtain ⟨fq', p1', p2', p3'⟩ := (rp.at (at1 na)).put (k := kk) (oyr.at (at1 nfy)) (.inr z) (List.nodup_cons.mp (efc ▸ ndc)).2 ndy (fun q hq hq2 => nb j q (inc q (by rw [efc]; simp [hq])) hq2)
                refine fin _ (.dT (putA kvs kk y)) (.kT kk) a (a :: fq') (by rw [efc]; simp) ⟨a, _, fq', ea, upd_same, rfl, repOT_iff.mpr p1'⟩ (List.nodup_cons.mpr ⟨fun hm => (p2' a hm).elim na nfy, p3'⟩) (fun q hq => ?_) ⟨a, ea, _, upd_same, by rw [valV_put, if_pos rfl]⟩ rfl rfl
                rcases List.mem_cons.mp hq with z | hq
                · subst z; exact .inl (by rw [efc]; simp)
                · exact (p2' q hq).imp (fun z => by rw [efc]; simp [z]) id
              · rw [z2] at hvn; cases hvn
          · cases es
        · cases es
      | _ => cases hdic
  · cases es
end
end DL

/-! DL13: statements that change what stands at a place. -/
namespace DL
open PySem PySem.Spec PyProof.Rows L2
mutual
theorem RepO.imm_nil {H : Hp} : ∀ {d : D} {v : V} {fp : List Addr}, imm d = true → RepO H d v fp → fp = []
  | .non, _, _, _, h => h.2
  | .bl _, _, _, _, h => h.2
  | .int _, _, _, _, h => h.2
  | .str _, _, _, _, h => h.2
  | .tup ds, _, _, i, ⟨a, vs, e, h, r⟩ => RepOs.imm_nil (by simpa [DL.imm] using i) r
  | .lst ds, _, _, i, _ => by simp [DL.imm] at i
  | .dK kvs, _, _, i, _ => by simp [DL.imm] at i
  | .dT kvs, _, _, i, _ => by simp [DL.imm] at i
theorem RepOs.imm_nil {H : Hp} : ∀ {ds : List D} {vs : List V} {fp : List Addr}, imms ds = true → RepOs H ds vs fp → fp = []
  | [], _, _, _, h => h.2
  | d :: r, _, _, i, ⟨v, s, f1, f2, e, ef, h, q⟩ => by
    have j : imm d = true ∧ imms r = true := by simpa [imms] using i
    rw [ef, RepO.imm_nil j.1 h, RepOs.imm_nil j.2 q]; rfl
end
section
variable {X : Cx} {J : Jd} {own own1 : Owns} {j : Nat} {e e2 e3 o : Expr} {sel : Sel} {f f3 : Env → Res D} {pos apos cpos : Pos}
theorem hasJ {fp} {G0 H0 G H : Hp} {σ : L2.St} {ρ : Env} {v0 : V} {x : D} (I : SIf fp G0 H0 own G H σ (ρ.set j (some x))) (hv : σ[j]? = some (some v0)) : (ρ.set j (some x))[j]? = some (some x) := by
  have hl : j < ρ.length := by have := (List.getElem?_eq_some_iff.mp hv).1; have := I.len; simp at this; omega
  exact List.getElem?_set_self hl

/-! ### P.append(e) -/
def pApp (j : Nat) (ρ : Env) (d1 : D) (p : List Stp) (d : D) : Out := match getP d1 p with
  | some (.lst ds) => if ds.length < sizeLine then .nx (ρ.set j (some (setP d1 p (.lst (ds ++ [d]))))) else .no
  | _ => .no
def isLstP (d1 : D) (p : List Stp) : Bool := match getP d1 p with
  | some (.lst _) => true
  | _ => false
def atSel (r : Res (D × List Stp)) (k : D → List Stp → Out) : Out := match r with
  | .ok (d1, p) => k d1 p
  | _ => .no
def sPAppI (j : Nat) (sel : Sel) (f : Env → Res D) : DSem := fun ρ => atSel (sel ρ) fun d1 p => if isLstP d1 p = true then andThen (f (ρ.set j (some d1))) (ρ.set j (some d1)) fun d => if imm d = true then pApp j (ρ.set j (some d1)) d1 p d else .no else .no
def sPAppF (j : Nat) (sel : Sel) (f : Env → Res D) : DSem := fun ρ => atSel (sel ρ) fun d1 p => if isLstP d1 p = true then andThen (f (ρ.set j (some d1))) (ρ.set j (some d1)) fun d => pApp j (ρ.set j (some d1)) d1 p d else .no
theorem lst_at {fp} {G0 H0 G H : Hp} {σ : L2.St} {ρ : Env} {v0 v' : V} {d1 : D} {p : List Stp} (I : SIf fp G0 H0 own G H σ (ρ.set j (some d1))) (hj : own.lookup j = some .dp) (hv : σ[j]? = some (some v0)) (ha : AtV H v0 p v') (hl : isLstP d1 p = true) : tyV X.K "list" v' H := by
  unfold isLstP at hl
  split at hl
  · rename_i ds g
    obtain ⟨_, _, _, _, _, o, _⟩ := I.place hj (hasJ I hv) hv ha g
    obtain ⟨a, vs, fq, ea, hH, _, _⟩ := o
    subst ea
    exact .inl ⟨rfl, vs, SqL.of hH⟩
  · cases hl
theorem papp_end {fp} {G0 H0 G H : Hp} {σ : L2.St} {ρ : Env} {Dn : Ends} {v0 v' y : V} {d1 d : D} {p : List Stp} {fd : List Addr} (I : SIf fp G0 H0 own G H σ (ρ.set j (some d1))) (hj : own.lookup j = some .dp) (hv : σ[j]? = some (some v0)) (ha : AtV H v0 p v')
    (od : RepO H d y fd) (nd : fd.Nodup) (hf : ∀ q ∈ fd, G q = none ∧ H0 q = none ∧ ∀ i, q ∉ fp i) (h : GS X.mg J G0 H0 own Dn (pApp j (ρ.set j (some d1)) d1 p d)) : rAppend v' [y] H (fun _ H' => Dn.nx σ H') := by
  unfold pApp at h
  split at h
  · rename_i ds g
    split at h
    · rename_i hz
      obtain ⟨f1, fc, f2, ndj, ef, oc, upd'⟩ := I.place hj (hasJ I hv) hv ha g
      obtain ⟨a, vs, fq, ea, hH, efc, r⟩ := oc
      subst ea efc
      have hl : vs.length = ds.length := (r.rep (G := H) ⟨fun _ _ => rfl, fun _ _ e => e⟩).length
      have ndc : (a :: fq).Nodup := (List.nodup_append.mp (List.nodup_append.mp (ef ▸ ndj)).2.1).1
      have na : a ∉ fq := (List.nodup_cons.mp ndc).1
      have inc : ∀ q ∈ a :: fq, q ∈ fp j := fun q hq => by rw [ef]; exact List.mem_append_right _ (List.mem_append_left _ hq)
      have nfd : a ∉ fd := fun z => (hf a z).2.2 j (inc a List.mem_cons_self)
      have at1 : ∀ {fz : List Addr}, a ∉ fz → At H (upd H a (.lst (vs ++ [y]))) fz := fun hz => ⟨fun q hq => upd_ne fun z => hz (z ▸ hq), fun b ws e => by rw [upd_ne (ne_of e hH (by intro z; cases z))]; exact e⟩
      have oc' : RepO (upd H a (.lst (vs ++ [y]))) (.lst (ds ++ [d])) (.ref a) (a :: (fq ++ fd)) := ⟨a, _, fq ++ fd, rfl, upd_same, rfl, (r.at (at1 na)).append ⟨y, [], fd, [], rfl, by simp, od.at (at1 nfd), rfl, rfl⟩⟩
      have W := I.pathWriteS (H' := upd H a (.lst (vs ++ [y]))) hj hv ndj ef upd' oc' (List.nodup_cons.mpr ⟨fun z => (List.mem_append.mp z).elim na nfd, List.nodup_append.mpr ⟨(List.nodup_cons.mp ndc).2, nd, fun x hx z hz e => (hf z hz).2.2 j (inc z (by rw [← e]; exact List.mem_cons_of_mem _ hx))⟩⟩)
        (fun q hq => by
          rcases List.mem_cons.mp hq with z | hq
          · exact .inl (by rw [z]; exact List.mem_cons_self)
          · rcases List.mem_append.mp hq with hq | hq
            · exact .inl (List.mem_cons_of_mem _ hq)
            · exact .inr (hf q hq)) (fun b hb => .inl (upd_ne fun z => hb (by rw [z]; exact List.mem_cons_self)))
      exact ⟨a, vs, y, rfl, rfl, hH, by rw [hl]; exact hz, h G _ σ W⟩
    · exact h.elim
  · exact h.elim
theorem ds_pappI (hj : own.lookup j = some .dp) (dp : DP X own j o sel) (d : DE X J.W e f) (hbase : attributeBase o "append" X.env (eval o X.env) = eval o X.env := by rfl)
    (hfew : ((backTo cpos (starEach (e :: []) X.env)).all (fun x => !x.1) && (backToKw cpos (keywordEach [] X.env)).all (fun x => x.1.isSome)
      && decide ((e :: ([] : List Expr)).length + ([] : List Keyword).length + (if ([] : List Keyword).isEmpty then 0 else 1) < 30)) = true := by rfl)
    (hline : (apos.endLine == cpos.line) = true := by rfl) (hs1 : starEach (e :: []) X.env = (false, eval e X.env) :: starEach [] X.env := by rfl) (hplain : (backTo cpos (starEach [] X.env)).any (·.1) = false := by rfl)
    (hs : swapsWith (.Call (.Attribute o "append" apos) [e] [] cpos) none pos.line X.env = pure false := by rfl) (hx : oxSub J.ox own = true := by rfl) : DS X J own own (.Expr (.Call (.Attribute o "append" apos) [e] [] cpos) pos) (sPAppI j sel f) := by
  obtain ⟨t1, p1, h1⟩ := dp
  obtain ⟨t, p, h2⟩ := d
  refine ⟨_, ps_expr (pe_bm PySem.F.plainAttrs_list PySem.F.slot_list_append PySem.F.type_list_append mt_append p1 (pa_cons p pa_nil hs1) hbase hfew hline hs1 hplain) hs, fun G0 H0 G H σ ρ Dn ⟨fp, I⟩ h => ?_⟩
  unfold sPAppI atSel at h
  split at h <;> (try simp only at h)
  · rename_i d1 pp es
    split at h
    · rename_i hl
      refine h1 fp G0 H0 G H σ ρ _ I ⟨d1, pp, es, fun fp' G' H' v0 v' kp I' hv ha => ⟨lst_at I' hj hv ha hl, ?_⟩⟩
      refine onView hx h2 I' h fun d hk G2 H2 y ex I2 _ ry => ?_
      split at hk
      · rename_i hi
        have I2' := I'.grow (Ext.up I'.sub ex.h)
        exact papp_end I2 hj hv (ha.up ex.h) (RepO.of_imm hi ((ry hi).le (Le.of I2.sub))) List.nodup_nil (fun q hq => by cases hq) hk
      · exact hk.elim
    · exact h.elim
  · exact h.elim
theorem ds_pappF (hj : own.lookup j = some .dp) (dp : DP X own j o sel) (d : DF X J.W .dp e f) (hbase : attributeBase o "append" X.env (eval o X.env) = eval o X.env := by rfl)
    (hfew : ((backTo cpos (starEach (e :: []) X.env)).all (fun x => !x.1) && (backToKw cpos (keywordEach [] X.env)).all (fun x => x.1.isSome)
      && decide ((e :: ([] : List Expr)).length + ([] : List Keyword).length + (if ([] : List Keyword).isEmpty then 0 else 1) < 30)) = true := by rfl)
    (hline : (apos.endLine == cpos.line) = true := by rfl) (hs1 : starEach (e :: []) X.env = (false, eval e X.env) :: starEach [] X.env := by rfl) (hplain : (backTo cpos (starEach [] X.env)).any (·.1) = false := by rfl)
    (hs : swapsWith (.Call (.Attribute o "append" apos) [e] [] cpos) none pos.line X.env = pure false := by rfl) (hx : oxSub J.ox own = true := by rfl) : DS X J own own (.Expr (.Call (.Attribute o "append" apos) [e] [] cpos) pos) (sPAppF j sel f) := by
  obtain ⟨t1, p1, h1⟩ := dp
  obtain ⟨t, p, h2⟩ := d
  refine ⟨_, ps_expr (pe_bm PySem.F.plainAttrs_list PySem.F.slot_list_append PySem.F.type_list_append mt_append p1 (pa_cons p pa_nil hs1) hbase hfew hline hs1 hplain) hs, fun G0 H0 G H σ ρ Dn ⟨fp, I⟩ h => ?_⟩
  unfold sPAppF atSel at h
  split at h <;> (try simp only at h)
  · rename_i d1 pp es
    split at h
    · rename_i hl
      refine h1 fp G0 H0 G H σ ρ _ I ⟨d1, pp, es, fun fp' G' H' v0 v' kp I' hv ha => ⟨lst_at I' hj hv ha hl, ?_⟩⟩
      have s := (view_ext I'.ext).s
      refine h2 _ H' σ _ _ s I'.view (toF hx I' s h fun d hk G2 H2 ex y fd od hn => ?_)
      have I2 := I'.grow (Ext.up I'.sub ex.h)
      exact papp_end I2 hj hv (ha.up ex.h) od.1 od.2 (fun q hq => ⟨upd_none I'.sub (hn q hq).2, I'.ext.free (hn q hq).2, fun i z => own_new I' (fun q hq => (hn q hq).2) i q z hq⟩) hk
    · exact h.elim
  · exact h.elim

/-! ### P.clear() -/
def sPClear (j : Nat) (sel : Sel) : DSem := fun ρ => atSel (sel ρ) fun d1 p => if isLstP d1 p = true then .nx (ρ.set j (some (setP d1 p (.lst [])))) else .no
theorem ds_pclear (hj : own.lookup j = some .dp) (dp : DP X own j o sel) (hbase : attributeBase o "clear" X.env (eval o X.env) = eval o X.env := by rfl) (hline : (apos.endLine == cpos.line) = true := by rfl)
    (hs : swapsWith (.Call (.Attribute o "clear" apos) [] [] cpos) none pos.line X.env = pure false := by rfl) : DS X J own own (.Expr (.Call (.Attribute o "clear" apos) [] [] cpos) pos) (sPClear j sel) := by
  obtain ⟨t1, p1, h1⟩ := dp
  refine ⟨_, ps_expr (pe_bm0 PySem.F.plainAttrs_list PySem.F.slot_list_clear PySem.F.type_list_clear mt_clear p1 hbase hline) hs, fun G0 H0 G H σ ρ Dn ⟨fp, I⟩ h => ?_⟩
  unfold sPClear atSel at h
  split at h <;> (try simp only at h)
  · rename_i d1 pp es
    split at h
    · rename_i hl
      refine h1 fp G0 H0 G H σ ρ _ I ⟨d1, pp, es, fun fp' G' H' v0 v' kp I' hv ha => ⟨lst_at I' hj hv ha hl, ?_⟩⟩
      unfold isLstP at hl
      split at hl
      · rename_i ds g
        obtain ⟨f1, fc, f2, ndj, ef, oc, upd'⟩ := I'.place hj (hasJ I' hv) hv ha g
        obtain ⟨a, vs, fq, ea, hH, efc, r⟩ := oc
        subst ea efc
        have oc' : RepO (upd H' a (.lst [])) (.lst []) (.ref a) [a] := ⟨a, [], [], rfl, upd_same, rfl, rfl, rfl⟩
        have W := I'.pathWriteS (H' := upd H' a (.lst [])) hj hv ndj ef upd' oc' (by simp) (fun q hq => .inl (by rw [show q = a by simpa using hq]; exact List.mem_cons_self)) (fun b hb => .inl (upd_ne fun z => hb (by rw [z]; exact List.mem_cons_self)))
        rw [List.set_set] at W
        exact ⟨a, vs, rfl, rfl, hH, h G' _ σ W⟩
      · cases hl
    · exact h.elim
  · exact h.elim

/-! ### P[k] = e -/
/-- what a list or dict becomes -/
def putAt (c k d : D) : Option D := match c with
  | .lst ds => (match k with
    | .int i => (ixN ds.length i).map fun n => .lst (ds.set n d)
    | _ => none)
  | .dK kvs => (match keyD k with
    | some kk => if kvs.length < sizeLine ∧ (imm d = true ∨ getA kvs kk = none) then some (.dK (putA kvs kk d)) else none
    | none => none)
  | .dT kvs => (match k with
    | .tup ks => (match keysD ks with
      | some kk => if kvs.length < sizeLine ∧ (imm d = true ∨ getA kvs kk = none) then some (.dT (putA kvs kk d)) else none
      | none => none)
    | _ => none)
  | _ => none
def pPut (j : Nat) (ρ : Env) (d1 : D) (p : List Stp) (k d : D) : Out := match getP d1 p with
  | some c => (match putAt c k d with
    | some c' => .nx (ρ.set j (some (setP d1 p c')))
    | none => .no)
  | none => .no
def isDicPP (d1 : D) (p : List Stp) : Bool := isDicP d1 p
def sPPutI (j : Nat) (sel : Sel) (fk fv : Env → Res D) : DSem := fun ρ => andThen (fv ρ) ρ fun d => if imm d = true then atSel (sel ρ) fun d1 p => if isDicP d1 p = true then andThen (fk (ρ.set j (some d1))) (ρ.set j (some d1)) fun k => pPut j (ρ.set j (some d1)) d1 p k d else .no else .no
def sPPutF (j : Nat) (sel : Sel) (fk fv : Env → Res D) : DSem := fun ρ => andThen (fv ρ) ρ fun d => atSel (sel ρ) fun d1 p => if isDicP d1 p = true then andThen (fk (ρ.set j (some d1))) (ρ.set j (some d1)) fun k => pPut j (ρ.set j (some d1)) d1 p k d else .no
theorem pput_end {fp} {G0 H0 G H G3 : Hp} {σ : L2.St} {ρ : Env} {Dn : Ends} {v0 v' kv y : V} {d1 k d : D} {p : List Stp} {fd : List Addr} (I : SIf fp G0 H0 own G H σ (ρ.set j (some d1))) (hj : own.lookup j = some .dp) (hv : σ[j]? = some (some v0)) (ha : AtV H v0 p v') (s3 : Sub G3 H) (rk : Rep G3 k kv)
    (od : RepO H d y fd) (nd : fd.Nodup) (hi : imm d = true → fd = []) (hf : ∀ q ∈ fd, G q = none ∧ H0 q = none ∧ ∀ i, q ∉ fp i) (hd : isDicP d1 p = true) (h : GS X.mg J G0 H0 own Dn (pPut j (ρ.set j (some d1)) d1 p k d)) : ∃ a H4, v' = .ref a ∧ DPut H a kv y H4 ∧ Dn.nx σ H4 := by
  unfold pPut at h
  split at h
  · rename_i c g
    split at h
    · rename_i c' ep
      obtain ⟨f1, fc, f2, ndj, ef, oc, upd'⟩ := I.place hj (hasJ I hv) hv ha g
      have inc : ∀ q ∈ fc, q ∈ fp j := fun q hq => by rw [ef]; exact List.mem_append_right _ (List.mem_append_left _ hq)
      have ndc : fc.Nodup := (List.nodup_append.mp (List.nodup_append.mp (ef ▸ ndj)).2.1).1
      cases c with
      | dK kvs =>
        obtain ⟨a, ws, fq, ea, hH, efc, r⟩ := oc
        subst ea efc
        have ep : (match keyD k with
          | some kk => if kvs.length < sizeLine ∧ (imm d = true ∨ getA kvs kk = none) then some (D.dK (putA kvs kk d)) else none
          | none => none) = some c' := ep
        split at ep
        · rename_i kk ek
          split at ep
          · rename_i hz
            cases ep
            have rp := repOK_iff.mp r
            have lw : ws.length = kvs.length := (rp.rep (G := H) ⟨fun _ _ => rfl, fun _ _ e => e⟩).length
            have na : a ∉ fq := (List.nodup_cons.mp ndc).1
            have nfd : a ∉ fd := fun z => (hf a z).2.2 j (inc a List.mem_cons_self)
            have at1 : ∀ {fz : List Addr}, a ∉ fz → At H (upd H a (.dK (putK ws kk y))) fz := fun hz => ⟨fun q hq => upd_ne fun z => hz (z ▸ hq), fun b ws' e => by rw [upd_ne (ne_of e hH (by intro z; cases z))]; exact e⟩
            obtain ⟨fq', q1, q2, q3⟩ := (rp.at (at1 na)).put (k := kk) (od.at (at1 nfd)) (hz.2.imp hi id) (List.nodup_cons.mp ndc).2 nd (fun q hq hq2 => (hf q hq2).2.2 j (inc q (List.mem_cons_of_mem _ hq)))
            have W := I.pathWriteS (H' := upd H a (.dK (putK ws kk y))) (d'' := .dK (putA kvs kk d)) (f' := a :: fq') hj hv ndj ef upd' ⟨a, _, fq', rfl, upd_same, rfl, repOK_iff.mpr q1⟩ (List.nodup_cons.mpr ⟨fun z => (q2 a z).elim na nfd, q3⟩)
              (fun q hq => by
                rcases List.mem_cons.mp hq with z | hq
                · exact .inl (by rw [z]; exact List.mem_cons_self)
                · exact (q2 q hq).imp (fun z => List.mem_cons_of_mem _ z) fun z => hf q z) (fun b hb => .inl (upd_ne fun z => hb (by rw [z]; exact List.mem_cons_self)))
            exact ⟨a, _, rfl, by rw [keyD_rep ek rk]; exact DPut.k hH (by rw [lw]; exact hz.1), h G _ σ W⟩
          · cases ep
        · cases ep
      | dT kvs =>
        cases k with
        | tup ks =>
          obtain ⟨a, ws, fq, ea, hH, efc, r⟩ := oc
          subst ea efc
          simp only [putAt] at ep
          split at ep
          · rename_i kk ek
            split at ep
            · rename_i hz
              cases ep
              obtain ⟨bk, vks, ebk, hbk, rsk⟩ := rk
              have hb4 : H bk = some (.tup (kk.map kV)) := by rw [← keysD_rep ek rsk]; exact s3 _ _ hbk
              have rp := repOT_iff.mp r
              have lw : ws.length = kvs.length := (rp.rep (G := H) ⟨fun _ _ => rfl, fun _ _ e => e⟩).length
              have na : a ∉ fq := (List.nodup_cons.mp ndc).1
              have nfd : a ∉ fd := fun z => (hf a z).2.2 j (inc a List.mem_cons_self)
              have at1 : ∀ {fz : List Addr}, a ∉ fz → At H (upd H a (.dT (putK ws kk y))) fz := fun hz => ⟨fun q hq => upd_ne fun z => hz (z ▸ hq), fun b ws' e => by rw [upd_ne (ne_of e hH (by intro z; cases z))]; exact e⟩
              obtain ⟨fq', q1, q2, q3⟩ := (rp.at (at1 na)).put (k := kk) (od.at (at1 nfd)) (hz.2.imp hi id) (List.nodup_cons.mp ndc).2 nd (fun q hq hq2 => (hf q hq2).2.2 j (inc q (List.mem_cons_of_mem _ hq)))
              have W := I.pathWriteS (H' := upd H a (.dT (putK ws kk y))) (d'' := .dT (putA kvs kk d)) (f' := a :: fq') hj hv ndj ef upd' ⟨a, _, fq', rfl, upd_same, rfl, repOT_iff.mpr q1⟩ (List.nodup_cons.mpr ⟨fun z => (q2 a z).elim na nfd, q3⟩)
                (fun q hq => by
                  rcases List.mem_cons.mp hq with z | hq
                  · exact .inl (by rw [z]; exact List.mem_cons_self)
                  · exact (q2 q hq).imp (fun z => List.mem_cons_of_mem _ z) fun z => hf q z) (fun b hb => .inl (upd_ne fun z => hb (by rw [z]; exact List.mem_cons_self)))
              exact ⟨a, _, rfl, by rw [ebk]; exact DPut.t hH hb4 (by rw [lw]; exact hz.1), h G _ σ W⟩
            · cases ep
          · cases ep
        | _ => cases ep
      | _ => unfold isDicP at hd; rw [g] at hd; cases hd
    · exact h.elim
  · exact h.elim
theorem ds_pputI {i value : Expr} {pos' : Pos} {fk fv : Env → Res D} (hu : X.A.units + 1 < cLine) (hj : own.lookup j = some .dp) (dp : DP X own j o sel) (dk : DE X J.W i fk) (dv : DE X J.W value fv) (hx : oxSub J.ox own = true := by rfl)
    (hs : swapsWith value (some (.Subscript o i pos')) pos.line X.env = pure false := by rfl) : DS X J own own (.Assign [.Subscript o i pos'] value pos) (sPPutI j sel fk fv) := by
  obtain ⟨t1, p1, h1⟩ := dp
  obtain ⟨tk, pk, hk⟩ := dk
  obtain ⟨tv, pv, hv⟩ := dv
  refine ⟨_, ps_dput hu p1 pk pv hs, fun G0 H0 G H σ ρ Dn ⟨fp, I⟩ h => ?_⟩
  unfold sPPutI at h
  refine onView hx hv I h fun d hd G1 H1 y e I1 _ ry => ?_
  split at hd
  · rename_i hi
    unfold atSel at hd
    split at hd <;> (try simp only at hd)
    · rename_i d1 pp es
      split at hd
      · rename_i hdd
        refine h1 fp G0 H0 _ H1 σ ρ _ I1 ⟨d1, pp, es, fun fp' G' H' v0 v' kp I' hv0 ha => ?_⟩
        have hr := hasJ I' hv0
        have s := (view_ext I'.ext).s
        unfold isDicP at hdd
        cases gc : getP d1 pp with
        | none => rw [gc] at hdd; cases hdd
        | some c =>
          have hdd' : isDicP d1 pp = true := by unfold isDicP; rw [gc]; rw [gc] at hdd; exact hdd
          refine hk _ H' σ _ _ s I'.view (toP hx I' s hd fun k _ hk' G2 H2 e2 kv rk => ?_)
          have I2 := I'.grow (Ext.up I'.sub e2.h)
          have yI : Rep H2 d y := by
            have y1 : Rep H1 d y := (ry hi).le (Le.of I1.sub)
            exact Rep.imm (fun a vs q => e2.h _ _ (kp.keep a _ q fun hm => by have := (I1.fpm j a hm).2.2; rw [q] at this; exact this)) hi y1
          exact pput_end I2 hj hv0 (ha.up e2.h) e2.s rk (RepO.of_imm hi yI) List.nodup_nil (fun _ => rfl) (fun q hq => by cases hq) hdd' hk'
      · exact hd.elim
    · exact hd.elim
  · exact hd.elim
/-- new data under a new key -/
theorem ds_pputF {i value : Expr} {pos' : Pos} {fk fv : Env → Res D} (hu : X.A.units + 1 < cLine) (hj : own.lookup j = some .dp) (dp : DP X own j o sel) (dk : DE X J.W i fk) (dv : DF X J.W .dp value fv) (hx : oxSub J.ox own = true := by rfl)
    (hs : swapsWith value (some (.Subscript o i pos')) pos.line X.env = pure false := by rfl) : DS X J own own (.Assign [.Subscript o i pos'] value pos) (sPPutF j sel fk fv) := by
  obtain ⟨t1, p1, h1⟩ := dp
  obtain ⟨tk, pk, hk⟩ := dk
  obtain ⟨tv, pv, hv⟩ := dv
  refine ⟨_, ps_dput hu p1 pk pv hs, fun G0 H0 G H σ ρ Dn ⟨fp, I⟩ h => ?_⟩
  unfold sPPutF at h
  have s := (view_ext I.ext).s
  refine hv _ H σ _ _ s I.view (toF hx I s h fun d hd G1 H1 ex y fd od hn => ?_)
  have I1 := I.grow (Ext.up I.sub ex.h)
  have nb := own_new I fun q hq => (hn q hq).2
  unfold atSel at hd
  split at hd <;> (try simp only at hd)
  · rename_i d1 pp es
    split at hd
    · rename_i hdd
      refine h1 fp G0 H0 _ H1 σ ρ _ I1 ⟨d1, pp, es, fun fp' G' H' v0 v' kp I' hv0 ha => ?_⟩
      have s := (view_ext I'.ext).s
      refine hk _ H' σ _ _ s I'.view (toP hx I' s hd fun k _ hk' G2 H2 e2 kv rk => ?_)
      have I2 := I'.grow (Ext.up I'.sub e2.h)
      have mfd := od.mut
      have odn := od.1
      have od2 : RepO H2 d y fd := odn.at ⟨fun q hq => by
          cases r : H1 q with
          | none => have := mfd q hq; rw [r] at this; exact this.elim
          | some u => exact e2.h _ _ (kp.keep q u r fun z => nb j q z hq), fun a vs q => e2.h _ _ (kp.keep a _ q fun hm => by have := (I1.fpm j a hm).2.2; rw [q] at this; exact this)⟩
      refine pput_end I2 hj hv0 (ha.up e2.h) e2.s rk od2 od.2 (fun hi => ?_) (fun q hq => ⟨?_, I.ext.free (hn q hq).2, fun i z => ?_⟩) hdd hk'
      · exact RepO.imm_nil hi odn
      · cases r : G' q with
        | none => rfl
        | some u =>
          rcases kp.reg q u r with z | z | ⟨vs, z⟩
          · rw [upd_none I.sub (hn q hq).2] at z; cases z
          · have := mfd q hq; rw [z] at this; exact this.elim
          · subst z
            have h3 := I'.sub _ _ r
            have h4 : H' q = H1 q := by
              cases r2 : H1 q with
              | none => have := mfd q hq; rw [r2] at this; exact this.elim
              | some u => exact kp.keep q u r2 fun z => nb j q z hq
            rw [h4] at h3
            have := mfd q hq
            rw [h3] at this
            exact this.elim
      · rcases kp.fps i q z with z | z | z
        · exact nb i q z hq
        · exact nb j q z hq
        · have := mfd q hq; rw [z] at this; exact this
    · exact hd.elim
  · exact hd.elim
end
end DL

/-! DL14: y.pop() as a value. -/
namespace DL
open PySem PySem.Spec PyProof.Rows L2
/-- e changes slots and is worth an immutable value, or one of the region -/
def DM (X : Cx) (own : Owns) (e : Expr) (f : Env → Res (Env × D)) : Prop :=
  ∃ t : TE, PE X e t ∧ ∀ (fp : Nat → List Addr) (G0 H0 G H : Hp) (σ : L2.St) (ρ : Env) (Q : VK), SIf fp G0 H0 own G H σ ρ →
    (∃ ρ' d, f ρ = .ok (ρ', d) ∧ ∀ (G' H' : Hp) (v : V), (∀ q o, G q = some o → G' q = some o) → (∀ a vs, H a = some (.tup vs) → H' a = some (.tup vs)) → SI G0 H0 own G' H' σ ρ' → Rep G' d v → Q v H') → t σ H Q
def fPop (own : Owns) (j : Nat) : Env → Res (Env × D) := fun ρ => match ρ[j]? with
  | some (some (.lst ds)) => (match ds.getLast? with
    | some d => if own.lookup j = some .sh ∨ imm d = true then .ok (ρ.set j (some (.lst ds.dropLast)), d) else .no
    | none => .no)
  | _ => .no
theorem RepOs.last {H : Hp} : ∀ {ds : List D} {vs : List V} {fq : List Addr} {d : D}, RepOs H ds vs fq → ds.getLast? = some d → imm d = true → ∃ v, vs.getLast? = some v ∧ RepO H d v [] ∧ RepOs H ds.dropLast vs.dropLast fq
  | [], _, _, _, _, e, _ => by simp at e
  | [x], _, _, d, ⟨v, s, f1, f2, e, ef, h, q⟩, g, hi => by
    obtain ⟨e1, e2⟩ := q
    subst e ef e1 e2
    have gx : x = d := by simpa using g
    subst gx
    have := RepO.imm_nil hi h
    subst this
    exact ⟨v, rfl, h, rfl, rfl⟩
  | x :: y :: r, _, _, d, ⟨v, s, f1, f2, e, ef, h, q⟩, g, hi => by
    obtain ⟨w, h1, h2, h3⟩ := RepOs.last (ds := y :: r) q (by simpa using g) hi
    obtain ⟨v2, s2, g1, g2, e2, _, _, _⟩ := q
    subst e e2 ef
    exact ⟨w, by simpa using h1, h2, v, _, f1, f2, rfl, rfl, h, by simpa using h3⟩
theorem Reps.last {G : Hp} {ds : List D} {vs : List V} {d : D} (r : Reps G ds vs) (g : ds.getLast? = some d) : ∃ v, vs.getLast? = some v ∧ Rep G d v := by
  rw [List.getLast?_eq_getElem?] at g ⊢
  rw [r.length]
  exact r.get g
section
variable {X : Cx} {J : Jd} {own own1 : Owns} {j : Nat} {e : Expr} {st : Stmt} {f : Env → Res (Env × D)} {pos apos cpos : Pos}
theorem dm_pop {kd : Kd} {x : Str} {p1 : Pos} (hj : own.lookup j = some kd) (pn : PE X (.Name x p1) (tVar j)) (hbase : attributeBase (.Name x p1) "pop" X.env (eval (.Name x p1) X.env) = eval (.Name x p1) X.env := by rfl) (hline : (apos.endLine == cpos.line) = true := by rfl) :
    DM X own (.Call (.Attribute (.Name x p1) "pop" apos) [] [] cpos) (fPop own j) := by
  refine ⟨_, pe_bm0 PySem.F.plainAttrs_list PySem.F.slot_list_pop PySem.F.type_list_pop mt_pop pn hbase hline, fun fp G0 H0 G H σ ρ Q I ⟨ρ', d, ef, q⟩ => ?_⟩
  unfold fPop at ef
  split at ef
  · rename_i ds hd
    split at ef
    · rename_i dl gl
      split at ef
      · rename_i hc
        cases ef
        obtain ⟨v, hv, o⟩ := I.own j kd _ hj hd
        refine ⟨v, hv, ?_⟩
        cases kd with
        | sh =>
          obtain ⟨p, ev, efp, vs, hp, r⟩ := o
          subst ev
          obtain ⟨y, gy, ry⟩ := r.last gl
          refine ⟨.inl ⟨rfl, vs, SqL.of hp⟩, p, vs, y, rfl, rfl, hp, by rw [← List.getLast?_eq_getElem?]; exact gy, ?_⟩
          exact q G _ y (fun _ _ e => e) (fun a ws e => by rw [upd_ne (ne_of e hp (by intro z; cases z))]; exact e) (I.write (o' := .lst vs.dropLast) hj hv (by rw [efp]; exact List.mem_cons_self) ⟨p, rfl, efp, _, upd_same, r.dropLast⟩) ry
        | dp =>
          have hi : imm d = true := by
            rcases hc with z | z
            · rw [hj] at z; cases z
            · exact z
          obtain ⟨⟨p, vs, fq, ev, hp, efp, r⟩, nd⟩ := o
          subst ev
          obtain ⟨y, gy, ry, rr⟩ := r.last gl hi
          refine ⟨.inl ⟨rfl, vs, SqL.of hp⟩, p, vs, y, rfl, rfl, hp, by rw [← List.getLast?_eq_getElem?]; exact gy, ?_⟩
          have na : p ∉ fq := (List.nodup_cons.mp (efp ▸ nd)).1
          have at1 : ∀ {fz : List Addr}, p ∉ fz → At H (upd H p (.lst vs.dropLast)) fz := fun hz => ⟨fun q hq => upd_ne fun z => hz (z ▸ hq), fun b ws e => by rw [upd_ne (ne_of e hp (by intro z; cases z))]; exact e⟩
          obtain ⟨fpn, W⟩ := I.write (o' := .lst vs.dropLast) (d := .lst ds.dropLast) hj hv (by rw [efp]; exact List.mem_cons_self) ⟨⟨p, _, fq, rfl, upd_same, efp, rr.at (at1 na)⟩, nd⟩
          have X2 := Ext.tups (G := G) (H := upd H p (.lst vs.dropLast)) (H' := upd H p (.lst vs.dropLast)) W.sub (fun _ _ e => e)
          refine q (tupG G (upd H p (.lst vs.dropLast))) _ y X2.g (fun a ws e => (at1 (fz := []) (by simp)).t _ _ e) ⟨fpn, W.grow X2⟩ ?_
          have ry2 : RepO (upd H p (.lst vs.dropLast)) d y [] := ry.at (at1 (by simp))
          exact Rep.imm (fun a vs q => tupG_tup q) hi (ry2.rep ⟨fun q hq => (by cases hq), fun _ _ e => e⟩)
      · cases ef
    · cases ef
  · cases ef
/-- name = y.pop() -/
def sAsgM (j : Nat) (f : Env → Res (Env × D)) : DSem := fun ρ => match f ρ with
  | .ok (ρ', d) => .nx (ρ'.set j (some d))
  | _ => .no
theorem ds_asgM {x : Str} {p1 : Pos} (hN : X.N.Nodup) (hi : X.N[j]? = some x) (hl : Loc X.env.scope x) (d : DM X own e f) (hs : swapsWith e (some (.Name x p1)) pos.line X.env = pure false := by rfl) (hf : X.fn x = true ∨ X.env.scope.names.lookup x = some .local := by first | exact .inl rfl | exact .inr rfl) :
    DS X J own (disown own j) (.Assign [.Name x p1] e pos) (sAsgM j f) := by
  obtain ⟨t, p, h1⟩ := d
  refine ⟨_, ps_set hN hi hl p hs hf, fun G0 H0 G H σ ρ Dn ⟨fp, I⟩ h => ?_⟩
  unfold sAsgM at h
  split at h
  · rename_i ρ' d ef
    refine h1 fp G0 H0 G H σ ρ _ I ⟨ρ', d, ef, fun G' H' v _ _ ⟨fpn, W⟩ rv => ?_⟩
    have I2 := (W.drop j).set (j := j) (d := d) (v := v) disown_self rv
    rw [set_none_set] at I2
    exact h G' H' _ ⟨_, I2⟩
  · exact h.elim
/-- a, b = y.pop() -/
def sUnpM (is : List Nat) (ks : D → Res (List D)) (f : Env → Res (Env × D)) : DSem := fun ρ => match f ρ with
  | .ok (ρ', d) => (match ks d with
    | .ok l => .nx (setE ρ' is l)
    | _ => .no)
  | _ => .no
theorem ds_unpM {tg : Expr} {is : List Nat} {ks : D → Res (List D)} (g : DG X tg is ks) (d : DM X own e f) (hi : ∀ i ∈ is, own.lookup i = none) (hs : swapsWithSole [tg] e pos.line X.env = pure false := by rfl) (hw : swappedStores [tg] e X.env = pure none := by rfl)
    (h1 : (assignEach [tg] X.env).map (·.2) = [assign tg X.env] := by rfl) : DS X J own own (.Assign [tg] e pos) (sUnpM is ks f) := by
  obtain ⟨t, pe, h2⟩ := d
  obtain ⟨tg', pg, h3⟩ := g
  refine ⟨_, ps_asg pe pg hs hw h1, fun G0 H0 G H σ ρ Dn ⟨fp, I⟩ h => ?_⟩
  unfold sUnpM at h
  split at h
  · rename_i ρ' d ef
    split at h
    · rename_i l q
      refine h2 fp G0 H0 G H σ ρ _ I ⟨ρ', d, ef, fun G' H' v _ _ ⟨fpn, W⟩ rv => ?_⟩
      exact h3 G' H' σ v d _ l W.sub rv q fun ws rws nws => h G' H' _ ⟨fpn, W.sets hi rws⟩
    · exact h.elim
  · exact h.elim
/-- d[y.pop()] = v, d an owned dict, v in the region or immutable -/
def sPutM (own : Owns) (j : Nat) (fk : Env → Res (Env × D)) (fv : Env → Res D) : DSem := fun ρ => if hasE ρ j = true then andThen (fv (maskE own ρ)) ρ fun d => (match fk ρ with
  | .ok (ρ', k) => if hasE ρ' j = true then putO ρ' j k d else .no
  | _ => .no) else .no
theorem ds_putM {i value : Expr} {x : Str} {p1 pos' : Pos} {fk : Env → Res (Env × D)} {fv : Env → Res D} (hu : X.A.units + 1 < cLine) (hj : own.lookup j = some .sh) (pn : PE X (.Name x p1) (tVar j)) (dk : DM X own i fk) (dv : DE X J.W value fv) (hx : oxSub J.ox own = true := by rfl)
    (hs : swapsWith value (some (.Subscript (.Name x p1) i pos')) pos.line X.env = pure false := by rfl) : DS X J own own (.Assign [.Subscript (.Name x p1) i pos'] value pos) (sPutM own j fk fv) := by
  obtain ⟨tk, pk, hk⟩ := dk
  obtain ⟨tv, pv, hv⟩ := dv
  refine ⟨_, ps_dput hu pn pk pv hs, fun G0 H0 G H σ ρ Dn ⟨fp, I⟩ h => ?_⟩
  unfold sPutM at h
  split at h
  · rename_i hh
    obtain ⟨c, q⟩ := hasE_get hh
    refine onMasked hx hv I h fun d hd G1 H1 y e I1 ry => ?_
    obtain ⟨v, hv, _⟩ := I1.own j .sh c hj q
    refine ⟨v, hv, ?_⟩
    split at hd
    · rename_i ρ' k ek
      split at hd
      · refine hk fp G0 H0 G1 H1 σ ρ _ I1 ⟨ρ', k, ek, fun G2 H2 kv hle _ ⟨fpn, W⟩ rk => ?_⟩
        exact put_end W hj W.sub rk (ry.le (Le.of hle)) hv hd
      · exact hd.elim
    · exact hd.elim
  · exact h.elim
end
end DL

/-! DL15: a tuple of immutable values and owned slots is handed back. -/
namespace DL
open PySem PySem.Spec PyProof.Rows L2
def DAo (X : Cx) (own : Owns) (es : List Expr) (js : List Nat) (f : Env → Res (List D)) : Prop :=
  ∃ t : TA, PA X es t ∧ ∀ (fp : Nat → List Addr) (G0 H0 G H : Hp) (σ : L2.St) (ρ : Env) (Q : List V → Hp → Prop), SIf fp G0 H0 own G H σ ρ →
    (∃ ds, f ρ = .ok ds ∧ ∀ (G' H' : Hp) (vs : List V) (fj : List Addr), Ext G H G' H' → SIf fp G0 H0 own G' H' σ ρ → RepOs H' ds vs fj → fj.Nodup → (∀ q ∈ fj, ∃ i ∈ js, q ∈ fp i) → Q vs H') → t σ H Q
section
variable {X : Cx} {J : Jd} {own own1 : Owns} {e : Expr} {es : List Expr} {js : List Nat} {f : Env → Res D} {g : Env → Res (List D)} {pos : Pos}
theorem dao_nil : DAo X own [] [] aNil := ⟨_, pa_nil, fun fp G0 H0 G H σ ρ Q I ⟨ds, e, q⟩ => by
  cases e
  exact q G H [] [] (Ext.refl I.sub) I ⟨rfl, rfl⟩ List.nodup_nil fun q hq => by cases hq⟩
def aoImm (f : Env → Res D) (g : Env → Res (List D)) : Env → Res (List D) := fun ρ => noEx (f ρ) >>= fun x => if imm x = true then noEx (g ρ) >>= fun xs => .ok (x :: xs) else .no
def aoOwn (j : Nat) (g : Env → Res (List D)) : Env → Res (List D) := fun ρ => match ρ[j]? with
  | some (some d) => noEx (g ρ) >>= fun xs => .ok (d :: xs)
  | _ => .no
theorem dao_imm (d1 : DE X W0 e f) (d2 : DAo X own es js g) (hs : starEach (e :: es) X.env = (false, eval e X.env) :: starEach es X.env := by rfl) : DAo X own (e :: es) js (aoImm f g) := by
  obtain ⟨t1, p1, h1⟩ := d1
  obtain ⟨t2, p2, h2⟩ := d2
  refine ⟨_, pa_cons p1 p2 hs, fun fp G0 H0 G H σ ρ Q I ⟨ds, ed, q⟩ => ?_⟩
  unfold aoImm at ed
  obtain ⟨x, e1, ed⟩ := bind_ok' ed
  split at ed
  · rename_i hi
    obtain ⟨xs, e2, ed⟩ := bind_ok' ed
    cases ed
    have s := (view_ext I.ext).s
    refine h1 _ H σ ρ _ s I.view (glE_ok (noEx_ok e1) fun G1 H1 v ex rv => ?_)
    have I1 := I.grow (Ext.tups I.sub ex.h)
    have x1 : Ext G H (tupG G H1) H1 := Ext.tups I.sub ex.h
    refine h2 fp G0 H0 _ H1 σ ρ _ I1 ⟨xs, noEx_ok e2, fun G2 H2 vs fj x2 I2 ro nd hj => ?_⟩
    have rv1 : Rep (tupG G H1) x v := Rep.imm (fun a vs q => tupG_tup (ex.s _ _ q)) hi rv
    exact q G2 H2 (v :: vs) fj (x1.trans x2) I2 ⟨v, vs, [], fj, rfl, rfl, RepO.of_imm hi ((rv1.le x2.le).le (Le.of I2.sub)), ro⟩ nd hj
  · cases ed
theorem dao_own {j : Nat} {x : Str} {p1 : Pos} (hj : own.lookup j = some .dp) (pn : PE X (.Name x p1) (tVar j)) (d2 : DAo X own es js g) (hn : j ∉ js) (hs : starEach (.Name x p1 :: es) X.env = (false, eval (.Name x p1) X.env) :: starEach es X.env := by rfl) : DAo X own (.Name x p1 :: es) (j :: js) (aoOwn j g) := by
  obtain ⟨t2, p2, h2⟩ := d2
  refine ⟨_, pa_cons pn p2 hs, fun fp G0 H0 G H σ ρ Q I ⟨ds, ed, q⟩ => ?_⟩
  unfold aoOwn at ed
  split at ed
  · rename_i d hd
    obtain ⟨xs, e2, ed⟩ := bind_ok' ed
    cases ed
    obtain ⟨v, hv, _⟩ := I.own j .dp _ hj hd
    refine ⟨v, hv, ?_⟩
    refine h2 fp G0 H0 G H σ ρ _ I ⟨xs, noEx_ok e2, fun G2 H2 vs fj x2 I2 ro nd hj2 => ?_⟩
    obtain ⟨v', hv', o, ndj⟩ := I2.own j .dp _ hj hd
    rw [hv] at hv'; cases hv'
    refine q G2 H2 (v :: vs) (fp j ++ fj) x2 I2 ⟨v, vs, fp j, fj, rfl, rfl, o, ro⟩ (List.nodup_append.mpr ⟨ndj, nd, fun a ha b hb z => ?_⟩) fun q hq => ?_
    · subst z
      obtain ⟨i, hi, hq⟩ := hj2 a hb
      exact I2.fpd j i a (fun z => hn (z ▸ hi)) ha hq
    · rcases List.mem_append.mp hq with hq | hq
      · exact ⟨j, List.mem_cons_self, hq⟩
      · obtain ⟨i, hi, hq⟩ := hj2 q hq
        exact ⟨i, List.mem_cons_of_mem _ hi, hq⟩
  · cases ed
def sRetTO (g : Env → Res (List D)) : DSem := fun ρ => match g ρ with
  | .ok xs => if xs.length ≤ sizeLine then .rt (.tup xs) else .no
  | _ => .no
theorem ds_retTO {k1 : Nat} {p1 : Pos} (hk : J.rk = some .dp) (d : DAo X own es js g) : DS X J own own1 (.Return (some (.Tuple es k1 p1)) pos) (sRetTO g) := by
  obtain ⟨t, p, h1⟩ := d
  refine ⟨_, ps_ret (pe_tup p), fun G0 H0 G H σ ρ Dn ⟨fp, I⟩ h => ?_⟩
  unfold sRetTO at h
  split at h
  · rename_i xs eg
    split at h
    · rename_i hz
      refine h1 fp G0 H0 G H σ ρ _ I ⟨xs, eg, fun G' H' vs fj x1 I' ro nd hj => ?_⟩
      have hl : vs.length = xs.length := (ro.rep (G := H') ⟨fun _ _ => rfl, fun _ _ e => e⟩).length
      refine ⟨by rw [hl]; exact hz, fun p np => ?_⟩
      have h : RetOk J.rk G0 H0 Dn.rt (.tup xs) := h
      unfold RetOk at h
      rw [hk] at h
      have ex : Ext G' H' (upd G' p (.tup vs)) (upd H' p (.tup vs)) := Ext.new I'.sub np
      refine h _ _ (.ref p) fj (I'.ext.trans ex) ⟨⟨p, vs, rfl, upd_same, ro.at (upd_at np ro.mut)⟩, nd⟩ fun q hq => ?_
      obtain ⟨i, _, hq2⟩ := hj q hq
      refine ⟨?_, (I'.fpm i q hq2).2.1⟩
      rw [upd_ne]
      · exact (I'.fpm i q hq2).1
      · intro z
        subst z
        have := (I'.fpm i q hq2).2.2
        rw [np] at this
        exact this
    · exact h.elim
  · exact h.elim
end
end DL

/-! DL16: more operators. -/
namespace DL
open PySem PySem.Spec PyProof.Rows L2
def g_neg : D → Res D
  | .int i => .ok (.int (-i))
  | _ => .no
instance (i j : Int) : Decidable (CPow i j) := inferInstanceAs (Decidable (_ ∧ _ ∧ _))
def g_pow : D → D → Res D
  | .int i, .int j => if CPow i j then .ok (.int (i ^ j.toNat)) else .no
  | _, _ => .no
def g_shr : D → D → Res D
  | .int i, .int j => if 0 ≤ j then .ok (.int (i / 2 ^ j.toNat)) else .no
  | _, _ => .no
def g_and : D → D → Res D
  | .int i, .int j => .ok (.int (Builtin.bitAnd i j))
  | _, _ => .no
instance (i j : Int) : Decidable (CMulW i j) := inferInstanceAs (Decidable (_ < _))
def g_mulW : D → D → Res D
  | .int i, .int j => if CMulW i j then .ok (.int (i * j)) else .no
  | _, _ => .no
section
variable {X : Cx} {W : WX} {e : Expr} {f : Env → Res D} {pos : Pos}
theorem de_neg (d : DE X W e f) : DE X W (.UnaryOp .USub e pos) (v1 g_neg f) := by
  obtain ⟨t1, p1, h1⟩ := d
  refine ⟨_, pe_un un_neg p1, fun G H σ ρ Q s e h => ?_⟩
  refine h1 G H σ ρ _ s e (Gl.imp (fun x G1 H1 _ e1 k v rv => ?_) (Gl.bind h))
  cases x with
  | int i => exact ⟨i, rv, Gl.int e1.s k⟩
  | _ => exact k.elim
theorem say_pow : Say2 X W (rI CPow fun i j => .int (i ^ j.toNat)) g_pow := by
  intro G H σ Q x y a b s r1 r2 h
  cases x with
  | int i =>
    cases y with
    | int j =>
      simp only [g_pow] at h
      split at h
      · rename_i z; exact ⟨i, j, r1, r2, z, h.int s⟩
      · exact h.elim
    | _ => exact h.elim
  | _ => exact h.elim
theorem say_shr : Say2 X W (rI (fun _ j => 0 ≤ j) fun i j => .int (i / 2 ^ j.toNat)) g_shr := by
  intro G H σ Q x y a b s r1 r2 h
  cases x with
  | int i =>
    cases y with
    | int j =>
      simp only [g_shr] at h
      split at h
      · rename_i z; exact ⟨i, j, r1, r2, z, h.int s⟩
      · exact h.elim
    | _ => exact h.elim
  | _ => exact h.elim
theorem say_and : Say2 X W (rI0 fun i j => .int (Builtin.bitAnd i j)) g_and := by
  intro G H σ Q x y a b s r1 r2 h
  cases x with
  | int i =>
    cases y with
    | int j => exact ⟨i, j, r1, r2, h.int s⟩
    | _ => exact h.elim
  | _ => exact h.elim
theorem say_mulW : Say2 X W (rI CMulW fun i j => .int (i * j)) g_mulW := by
  intro G H σ Q x y a b s r1 r2 h
  cases x with
  | int i =>
    cases y with
    | int j =>
      simp only [g_mulW] at h
      split at h
      · rename_i z; exact ⟨i, j, r1, r2, z, h.int s⟩
      · exact h.elim
    | _ => exact h.elim
  | _ => exact h.elim
end
end DL

/-! DL17: try .. except C as e: assignments that ask isinstance(e, ..). -/
namespace DL
open PySem PySem.Spec PyProof.Rows L2
theorem SIf.junk' {fp} {G0 H0 G H : Hp} {own : Owns} {σ : L2.St} {ρ : Env} (I : SIf fp G0 H0 own G H σ ρ) {r : Nat} {x : Option V} (hn : ∀ d, ρ[r]? ≠ some (some d)) : SIf fp G0 H0 own G H (σ.set r x) ρ :=
  ⟨I.ext, by rw [I.len, List.length_set], fun i d e q => by
    have hi : r ≠ i := fun z => by subst z; exact hn d e
    obtain ⟨v, h1, h2⟩ := I.val i d e q
    exact ⟨v, by rw [List.getElem?_set_ne hi]; exact h1, h2⟩, fun i k d q e => by
    have hi : r ≠ i := fun z => by subst z; exact hn d e
    obtain ⟨v, h1, h2⟩ := I.own i k d q e
    exact ⟨v, by rw [List.getElem?_set_ne hi]; exact h1, h2⟩, I.fpm, I.fpd⟩
theorem set_none_no {ρ : Env} {i : Nat} (d : D) : (ρ.set i none)[i]? ≠ some (some d) := fun e => by
  by_cases h : i < ρ.length
  · rw [List.getElem?_set_self h] at e; cases e
  · rw [List.getElem?_eq_none (by simpa using h)] at e; cases e
/-- an expression read while slot i holds the object a -/
def DEp (X : Cx) (i : Nat) (a : Addr) (e : Expr) (f : Env → Res D) : Prop :=
  ∃ t : TE, PE X e t ∧ ∀ (G H : Hp) (σ : L2.St) (ρ : Env) (Q : VK), Sub G H → EnvR G σ ρ → σ[i]? = some (some (.ref a)) → GlE X.mg W0 G H σ Q (f ρ) → t σ H Q
def DAp (X : Cx) (i : Nat) (a : Addr) (es : List Expr) (f : Env → Res (List D)) : Prop :=
  ∃ t : TA, PA X es t ∧ ∀ (G H : Hp) (σ : L2.St) (ρ : Env) (Q : List V → Hp → Prop), Sub G H → EnvR G σ ρ → σ[i]? = some (some (.ref a)) → GlA X.mg W0 G H σ Q (f ρ) → t σ H Q
section
variable {X : Cx} {i : Nat} {a : Addr} {e : Expr} {es : List Expr} {f : Env → Res D} {g : Env → Res (List D)} {pos : Pos}
theorem dep_of (d : DE X W0 e f) : DEp X i a e f := let ⟨t, p, h⟩ := d; ⟨t, p, fun G H σ ρ Q s e _ k => h G H σ ρ Q s e k⟩
theorem dap_nil : DAp X i a [] aNil := ⟨_, pa_nil, fun G H σ ρ Q s e _ h => h G H (Ext.refl s) [] rfl⟩
theorem dap_cons (d1 : DEp X i a e f) (d2 : DAp X i a es g) (hs : starEach (e :: es) X.env = (false, eval e X.env) :: starEach es X.env := by rfl) : DAp X i a (e :: es) (aCons f g) := by
  obtain ⟨t1, p1, h1⟩ := d1
  obtain ⟨t2, p2, h2⟩ := d2
  refine ⟨_, pa_cons p1 p2 hs, fun G H σ ρ Q s e pn h => ?_⟩
  refine h1 G H σ ρ _ s e pn (Gl.imp (fun x G1 H1 _ e1 k v rv => ?_) (Gl.bind h))
  refine h2 G1 H1 σ ρ _ e1.s (e.le e1.le) pn (Gl.imp (fun xs G2 H2 _ e2 k vs rvs => ?_) (Gl.bind k))
  exact k G2 H2 (Ext.refl e2.s) (v :: vs) ⟨v, vs, rfl, rv.le e2.le, rvs⟩
theorem dep_lst (d : DAp X i a es g) : DEp X i a (.List es pos) (vLst g) := by
  obtain ⟨t1, p1, h1⟩ := d
  refine ⟨_, pe_lst p1, fun G H σ ρ Q s e pn h => ?_⟩
  refine h1 G H σ ρ _ s e pn (Gl.imp (fun xs G1 H1 _ e1 k vs rvs => ?_) (Gl.bind h))
  split at k
  · rename_i z
    exact ⟨by rw [rvs.length]; exact z, fun p np => Gl.newL e1.s np rvs k⟩
  · exact k.elim
theorem dep_ix {e2 : Expr} {f2 : Env → Res D} (hu : X.A.units + 1 < cLine) (d1 : DEp X i a e f) (d2 : DEp X i a e2 f2) (hs : PlainIx e2) : DEp X i a (.Subscript e e2 pos) (v2 g_ix f f2) := by
  obtain ⟨t1, p1, h1⟩ := d1
  obtain ⟨t2, p2, h2⟩ := d2
  refine ⟨_, pe_ix (ix_any hu) p1 p2 hs, fun G H σ ρ Q s e pn h => ?_⟩
  refine h1 G H σ ρ _ s e pn (Gl.imp (fun x G1 H1 _ e1 k v rv => ?_) (Gl.bind h))
  refine h2 G1 H1 σ ρ _ e1.s (e.le e1.le) pn (Gl.imp (fun y G2 H2 _ e2 k w rw => ?_) (Gl.bind k))
  exact say_ix (X := X) (W := W0) G2 H2 σ Q x y v w e2.s (rv.le e2.le) rw k
theorem dep_int {p : Pos} (hg : L2.Gl X "int") (hm : X.mg "int" = none) (d : DAp X i a (e :: es) g) (he : starEach (e :: es) X.env = (false, eval e X.env) :: starEach es X.env := by rfl) (hpl : (backTo pos (starEach es X.env)).any (·.1) = false := by rfl) : DEp X i a (.Call (.Name "int" p) (e :: es) [] pos) (vCall c_int g) := by
  obtain ⟨t, pa, h1⟩ := d
  refine ⟨_, pe_callTy call_int1 hg hm (by decide +kernel) pa (by decide) (by decide) he hpl, fun G H σ ρ Q s e pn h => ?_⟩
  refine h1 G H σ ρ _ s e pn (Gl.imp (fun ds G1 H1 _ e1 k vs rv => ?_) (Gl.bind h))
  exact say_int (X := X) (W := W0) G1 H1 σ Q ds vs e1.s rv k
theorem dep_one {op} (d : DEp X i a e f) : DEp X i a (.BoolOp op [e] pos) f := let ⟨t, p, h⟩ := d; ⟨t, pe_one p, h⟩
theorem dep_and {b : Expr} {rest : List Expr} {f2 : Env → Res D} (d1 : DEp X i a e f) (d2 : DEp X i a (.BoolOp .And (b :: rest) pos) f2) : DEp X i a (.BoolOp .And (e :: b :: rest) pos) (vAnd f f2) := by
  obtain ⟨t1, p1, h1⟩ := d1
  obtain ⟨t2, p2, h2⟩ := d2
  refine ⟨_, pe_and p1 p2, fun G H σ ρ Q s e pn h => ?_⟩
  have h' : GlE X.mg W0 G H σ Q (f ρ >>= fun x => bOf x >>= fun b => if b = true then f2 ρ else .ok (.bl false)) := by
    unfold vAnd at h
    cases q : f ρ <;> rw [q] at h <;> exact h
  refine h1 G H σ ρ _ s e pn (Gl.imp (fun x G1 H1 _ e1 k v rv => ?_) (Gl.bind h'))
  obtain ⟨c, ec, k⟩ := Gl.bl2 rv k
  refine ⟨c, ec, ?_⟩
  cases c with
  | true => exact h2 G1 H1 σ ρ Q e1.s (e.le e1.le) pn k
  | false => exact Gl.bl e1.s k
end
section
variable {X : Cx} {i : Nat} {a D0 : Addr} {oe : Obj} {pn : List (Addr × Obj)} {pos : Pos}
/-- isinstance(e, C), e the exception of the class D0 in slot i -/
theorem dep_isE {x y : Str} {p1 p2 p3 : Pos} {c : V} {cv : Value} {b : Bool} (C : ExcC X.K D0) (hz : Zc (.ref D0) none oe) (hf : ∃ vs, oe.data = .fields vs) (pe : PE (X.suite a ((a, oe) :: pn)) (.Name x p1) (tVar i)) (pc : PE (X.suite a ((a, oe) :: pn)) (.Name y p2) (tC c)) (hcv : ∀ u, RelV c u → u = cv)
    (hk : PySem.W.kitOne X.K (.ref D0) cv = some b) (hg : L2.Gl (X.suite a ((a, oe) :: pn)) "isinstance") (hm : X.mg "isinstance" = none)
    (he : starEach [.Name x p1, .Name y p2] X.env = (false, eval (.Name x p1) X.env) :: starEach [.Name y p2] X.env := by rfl) (he2 : starEach [.Name y p2] X.env = (false, eval (.Name y p2) X.env) :: starEach [] X.env := by rfl) (hpl : (backTo pos (starEach [.Name y p2] X.env)).any (·.1) = false := by rfl) :
    DEp (X.suite a ((a, oe) :: pn)) i a (.Call (.Name "isinstance" p3) [.Name x p1, .Name y p2] [] pos) (vC (.bl b)) := by
  refine ⟨_, pe_callB (call_isE C hz hf) hg hm (by decide +kernel) (pa_cons pe (pa_cons pc pa_nil he2) he) (by decide) (by decide) he hpl, fun G H σ ρ Q s e pn h => ?_⟩
  exact ⟨.ref a, pn, c, cv, b, rfl, hcv, hk, h.bl s⟩
/-- an assignment in the suite -/
def DSp (X : Cx) (J : Jd) (own own' : Owns) (i : Nat) (a : Addr) (st : List Stmt) (F : DSem) : Prop :=
  ∃ t : TS, PSs X st t ∧ ∀ (G0 H0 G H : Hp) (σ : L2.St) (ρ : Env) (Dn : Ends), SI G0 H0 own G H σ ρ → σ[i]? = some (some (.ref a)) → GS X.mg J G0 H0 own' Dn (F ρ) → t Dn σ H
theorem dsp_asg {X : Cx} {J : Jd} {own : Owns} {i j : Nat} {a : Addr} {x : Str} {e : Expr} {f : Env → Res D} {pos pos' : Pos} (hN : X.N.Nodup) (hi : X.N[j]? = some x) (hl : Loc X.env.scope x) (d : DEp X i a e f) (ho : own.lookup j = none) (hW : J.W = W0)
    (hs : swapsWith e (some (.Name x pos')) pos.line X.env = pure false := by rfl) (hf : X.fn x = true ∨ X.env.scope.names.lookup x = some .local := by first | exact .inl rfl | exact .inr rfl) (hx : oxSub J.ox own = true := by rfl) :
    DSp X J own own i a [.Assign [.Name x pos'] e pos] (sAsg own j f) := by
  obtain ⟨t, p, h1⟩ := d
  refine ⟨_, pss_one (ps_set hN hi hl p hs hf), fun G0 H0 G H σ ρ Dn ⟨fp, I⟩ pn h => ?_⟩
  refine h1 G H σ (maskE own ρ) _ I.sub I.masked pn ?_
  have := toP (J := J) (Dn := Dn) (P := fun d G' H' => ∀ v, Rep G' d v → Dn.nx (σ.set j (some v)) H') hx I I.sub h fun d _ hk G' H' e v rv => by
    have I2 := (I.grow e).set (j := j) (d := d) (v := v) ho rv
    exact hk G' H' _ ⟨fp, I2⟩
  rw [hW] at this
  exact this
theorem nx_asg (own : Owns) (j : Nat) (f : Env → Res D) (ρ : Env) : (∃ ρ', sAsg own j f ρ = .nx ρ') ∨ sAsg own j f ρ = .no ∨ ∃ c ρ', sAsg own j f ρ = .ex c ρ' := by
  unfold sAsg andThen
  cases f (maskE own ρ) with
  | ok d => exact .inl ⟨_, rfl⟩
  | ex c => exact .inr (.inr ⟨_, _, rfl⟩)
  | no => exact .inr (.inl rfl)
/-! ### try .. except C as e -/
def sTryAs (i : Nat) (F1 : DSem) (l : List (Str × DSem)) : DSem := fun ρ => match F1 ρ with
  | .ex c ρ' => (match l.lookup c with
    | some F2 => if i < ρ'.length then noExO (match F2 (ρ'.set i none) with | .nx ρ'' => .nx (ρ''.set i none) | o => o) else .no
    | none => .no)
  | o => o
theorem ds_tryAs {X : Cx} {J : Jd} {own : Owns} {body suite : List Stmt} {b0 : Stmt} {x n : Str} {hv : Value} {i : Nat} {c0 : Str} {C0 : Addr} {F1 F2 : DSem} {np pos pos' : Pos} (hs : X.stack = X.env :: X.outer) (hf : X.env.frame = some X.env.locals) (hN : X.N.Nodup) (hi : X.N[i]? = some n) (hln : X.env.kindOf n = some .local) (hc : Names X x hv) (tk : Takes X J.W)
    (ho : own.lookup i = none) (hm : X.mg c0 = some (.ref C0)) (he : PySem.W.exmOne X.K (.ref C0) hv = some true)
    (hb : ∀ (W : WX) (pn : List (Addr × Obj)) (xe : Value → Shared → Prop), Takes (X.tr pn xe) W → PassesOwn (model X.prog X.w) X.A X.env xe → DSs (X.tr pn xe) ⟨W, J.L, own, J.rk⟩ own own body F1)
    (hsu : ∀ (a : Addr) (oe : Obj) (pn : List (Addr × Obj)), Zc (.ref C0) none oe → (∃ vs, oe.data = .fields vs) → DSp (X.suite a ((a, oe) :: pn)) ⟨W0, J.L, [], J.rk⟩ own own i a (b0 :: suite) F2)
    (hnx : ∀ ρ, (∃ ρ', F2 ρ = .nx ρ') ∨ F2 ρ = .no ∨ ∃ c ρ', F2 ρ = .ex c ρ') (hx : oxSub J.ox own = true := by rfl) : DS X J own own (.Try body [.ExceptHandler (some (.Name x np)) (some n) (b0 :: suite) pos'] [] [] pos) (sTryAs i F1 [(c0, F2)]) := by
  -- the suite's reading
  let ts : Addr → Value → Option Addr → TS := fun a cls d Dn σ H => cls = .ref C0 ∧ d = none ∧ ∃ G0 H0 G ρ, SI G0 H0 own G H σ ρ ∧ σ[i]? = some (some (.ref a)) ∧ GS X.mg ⟨W0, J.L, [], J.rk⟩ G0 H0 own Dn (F2 ρ)
  have pts : ∀ (a : Addr) (oe : Obj) (cls : Value) (d : Option Addr) (pn : List (Addr × Obj)), Zc cls d oe → (∃ vs, oe.data = .fields vs) → PSs (X.suite a ((a, oe) :: pn)) (b0 :: suite) (ts a cls d) := fun a oe cls d pn hz hd => by
    refine ⟨fun pins s σ H Dn I ⟨e1, e2, G0, H0, G, ρ, si, hp, g⟩ => ?_⟩
    subst e1 e2
    obtain ⟨t, p, h⟩ := hsu a oe pn hz hd
    exact p.run pins s σ H Dn I (h G0 H0 G H σ ρ Dn si hp g)
  refine ⟨_, ps_try_as (tb := fun W => rdS X.mg ⟨W, J.L, own, J.rk⟩ own own F1) (ts := ts) hs hf hN hi hln hc tk (fun W pn xe t p => (hb W pn xe t p).pss) pts, fun G0 H0 G H σ ρ Dn I h => ?_⟩
  refine ⟨G0, H0, G, ρ, I, ?_⟩
  unfold sTryAs at h
  cases q : F1 ρ with
  | ex c ρ' =>
    rw [q] at h
    simp only at h
    intro C own2 G' H' σ' hx2 m I'
    by_cases ec : c = c0
    · subst ec
      rw [hm] at m; cases m
      rw [show List.lookup c [(c, F2)] = some F2 by simp [List.lookup]] at h
      simp only at h
      split at h
      rotate_left
      · exact h.elim
      rename_i hlr
      refine ⟨true, he, fun _ a na => ?_, fun z => by cases z⟩
      obtain ⟨G2, I2⟩ := I'.toOwn hx2
      obtain ⟨fp, I2⟩ := I2
      have I3 : SI G0 H0 own G2 H' (σ'.set i (some (.ref a))) (ρ'.set i none) := ⟨fp, (I2.weak (ρ' := ρ'.set i none) (by simp) fun k d e => by
        by_cases hk : i = k
        · subst hk; exact absurd e (set_none_no d)
        · rwa [List.getElem?_set_ne hk] at e).junk' set_none_no⟩
      have hlen : i < σ'.length := by rw [← I'.len]; exact hlr
      refine ⟨rfl, rfl, G0, H0, G2, _, I3, List.getElem?_set_self hlen, ?_⟩
      rcases hnx (ρ'.set i none) with ⟨ρ2, e2⟩ | e2 | ⟨c, ρ2, e2⟩
      · rw [e2] at h ⊢
        intro G3 H3 σ3 ⟨fp3, I4⟩
        exact h G3 H3 _ ⟨fp3, (I4.weak (ρ' := ρ2.set i none) (by simp) fun k d e => by
          by_cases hk : i = k
          · subst hk; exact absurd e (set_none_no d)
          · rwa [List.getElem?_set_ne hk] at e).junk' set_none_no⟩
      · rw [e2] at h; exact h.elim
      · rw [e2] at h; exact h.elim
    · rw [show List.lookup c [(c0, F2)] = none by rw [List.lookup_cons, show (c == c0) = false by simpa using ec]; rfl] at h
      exact h.elim
  | nx ρ' => rw [q] at h; exact h
  | rt d => rw [q] at h; exact h
  | bk ρ' => rw [q] at h; exact h
  | ct ρ' => rw [q] at h; exact h
  | no => rw [q] at h; exact h
end
theorem hu1m {A : Around} {k : Nat} {v : Option Value} (hr : Room k A) : (A.mark v).units + 1 < cLine := by rw [Around.mark_units]; exact hu1 hr
end DL

/-! DL18: sorted(set(xs)), xs a list of tuples of ints. -/
namespace DL
open PySem PySem.Spec PyProof.Rows L2
def lexb : List Int → List Int → Bool
  | [], _ :: _ => true
  | a :: r, b :: q => decide (a < b) || (decide (a = b) && lexb r q)
  | _, [] => false
theorem lexb_irr : ∀ x : List Int, lexb x x = false
  | [] => rfl
  | a :: r => by simp [lexb, lexb_irr r]
theorem lexb_tr : ∀ {x y z : List Int}, lexb x y = true → lexb y z = true → lexb x z = true
  | [], y :: _, [], _, h => by simp [lexb] at h
  | [], _ :: _, _ :: _, _, _ => rfl
  | [], [], _, h, _ => by simp [lexb] at h
  | _ :: _, [], _, h, _ => by simp [lexb] at h
  | _ :: _, _ :: _, [], _, h => by simp [lexb] at h
  | a :: r, b :: q, c :: s, h1, h2 => by
    simp only [lexb, Bool.or_eq_true, Bool.and_eq_true, decide_eq_true_eq] at h1 h2 ⊢
    rcases h1 with h1 | ⟨h1, h1'⟩ <;> rcases h2 with h2 | ⟨h2, h2'⟩
    · exact .inl (by omega)
    · exact .inl (by omega)
    · exact .inl (by omega)
    · exact .inr ⟨by omega, lexb_tr h1' h2'⟩
theorem lexb_tri : ∀ x y : List Int, lexb x y = true ∨ x = y ∨ lexb y x = true
  | [], [] => .inr (.inl rfl)
  | [], _ :: _ => .inl rfl
  | _ :: _, [] => .inr (.inr rfl)
  | a :: r, b :: q => by
    simp only [lexb, Bool.or_eq_true, Bool.and_eq_true, decide_eq_true_eq, List.cons.injEq]
    rcases Int.lt_trichotomy a b with h | h | h
    · exact .inl (.inl h)
    · rcases lexb_tri r q with t | t | t
      · exact .inl (.inr ⟨h, t⟩)
      · exact .inr (.inl ⟨h, t⟩)
      · exact .inr (.inr (.inr ⟨h.symm, t⟩))
    · exact .inr (.inr (.inl h))
theorem lexb_asy {x y : List Int} (h : lexb x y = true) : lexb y x = false := by
  cases q : lexb y x with
  | false => rfl
  | true => have := lexb_tr h q; rw [lexb_irr] at this; cases this
abbrev LexS (xs : List (List Int)) : Prop := xs.Pairwise fun x y => lexb x y = true
theorem lexS_uniq : ∀ {xs ys : List (List Int)}, LexS xs → LexS ys → (∀ x, x ∈ xs ↔ x ∈ ys) → xs = ys
  | [], [], _, _, _ => rfl
  | [], y :: r, _, _, h => by have := (h y).mpr List.mem_cons_self; cases this
  | x :: r, [], _, _, h => by have := (h x).mp List.mem_cons_self; cases this
  | x :: r, y :: q, h1, h2, h => by
    obtain ⟨a1, a2⟩ := List.pairwise_cons.mp h1
    obtain ⟨b1, b2⟩ := List.pairwise_cons.mp h2
    have e : x = y := by
      rcases List.mem_cons.mp ((h x).mp List.mem_cons_self) with e | m
      · exact e
      · rcases List.mem_cons.mp ((h y).mpr List.mem_cons_self) with e | m2
        · exact e.symm
        · have := lexb_tr (a1 y m2) (b1 x m); rw [lexb_irr] at this; cases this
    subst e
    rw [lexS_uniq a2 b2 fun z => ?_]
    constructor
    · intro m
      rcases List.mem_cons.mp ((h z).mp (List.mem_cons_of_mem _ m)) with e | m2
      · subst e; have := a1 z m; rw [lexb_irr] at this; cases this
      · exact m2
    · intro m
      rcases List.mem_cons.mp ((h z).mpr (List.mem_cons_of_mem _ m)) with e | m2
      · subst e; have := b1 z m; rw [lexb_irr] at this; cases this
      · exact m2
def insL (x : List Int) : List (List Int) → List (List Int)
  | [] => [x]
  | y :: r => if lexb x y = true then x :: y :: r else if x = y then y :: r else y :: insL x r
def sset (xs : List (List Int)) : List (List Int) := xs.foldr insL []
theorem mem_insL {x z : List Int} : ∀ {xs : List (List Int)}, z ∈ insL x xs ↔ z = x ∨ z ∈ xs
  | [] => by simp [insL]
  | y :: r => by
    unfold insL
    split
    · simp
    · split
      · rename_i h; subst h; simp
      · simp only [List.mem_cons, mem_insL (xs := r)]
        constructor
        · rintro (h | h | h)
          · exact .inr (.inl h)
          · exact .inl h
          · exact .inr (.inr h)
        · rintro (h | h | h)
          · exact .inr (.inl h)
          · exact .inl h
          · exact .inr (.inr h)
theorem lexS_insL {x : List Int} : ∀ {xs : List (List Int)}, LexS xs → LexS (insL x xs)
  | [], _ => by simp [insL]
  | y :: r, h => by
    obtain ⟨a1, a2⟩ := List.pairwise_cons.mp h
    unfold insL
    split
    · rename_i hl
      exact List.pairwise_cons.mpr ⟨fun z hz => by
        rcases List.mem_cons.mp hz with e | m
        · subst e; exact hl
        · exact lexb_tr hl (a1 z m), h⟩
    · rename_i hl
      split
      · exact h
      · rename_i hne
        refine List.pairwise_cons.mpr ⟨fun z hz => ?_, lexS_insL a2⟩
        rcases mem_insL.mp hz with e | m
        · subst e
          rcases lexb_tri z y with t | t | t
          · exact absurd t hl
          · exact absurd t hne
          · exact t
        · exact a1 z m
theorem mem_sset {z : List Int} : ∀ {xs : List (List Int)}, z ∈ sset xs ↔ z ∈ xs
  | [] => Iff.rfl
  | x :: r => by show z ∈ insL x (sset r) ↔ _; rw [mem_insL, mem_sset (xs := r), List.mem_cons]
theorem lexS_sset : ∀ xs : List (List Int), LexS (sset xs)
  | [] => .nil
  | x :: r => lexS_insL (lexS_sset r)
/-- the code's order, of tuples of one length -/
theorem lex_of_code {B : Int} : ∀ {n m : List Int}, n.length = m.length → TS.Bd B n → TS.Bd B m → TS.code B n ≤ TS.code B m → n ≠ m → lexb n m = true
  | [], [], _, _, _, _, h => absurd rfl h
  | a :: r, b :: q, hl, h1, h2, hc, hne => by
    simp only [lexb, Bool.or_eq_true, Bool.and_eq_true, decide_eq_true_eq]
    have hl' : r.length = q.length := by simpa using hl
    rcases Int.lt_trichotomy a b with h | h | h
    · exact .inl h
    · subst h
      refine .inr ⟨rfl, lex_of_code hl' h1.tail h2.tail ?_ fun e => hne (by rw [e])⟩
      rcases Int.lt_or_le (TS.code B q) (TS.code B r) with z | z
      · have := (TS.code_same (B := B) (d := a) hl'.symm).mpr z; omega
      · exact z
    · have := TS.code_lt (B := B) hl'.symm h2.tail h1.tail h; omega
theorem lexS_of_code {B : Int} {d : Nat} : ∀ {xs : List (List Int)}, (∀ x ∈ xs, x.length = d ∧ TS.Bd B x) → xs.Nodup → xs.Pairwise (fun x y => TS.code B x ≤ TS.code B y) → LexS xs
  | [], _, _, _ => .nil
  | x :: r, h, hn, hp => by
    obtain ⟨n1, n2⟩ := List.nodup_cons.mp hn
    obtain ⟨p1, p2⟩ := List.pairwise_cons.mp hp
    refine List.pairwise_cons.mpr ⟨fun y hy => ?_, lexS_of_code (fun z hz => h z (List.mem_cons_of_mem _ hz)) n2 p2⟩
    have hx := h x List.mem_cons_self
    have hy2 := h y (List.mem_cons_of_mem _ hy)
    exact lex_of_code (hx.1.trans hy2.1.symm) hx.2 hy2.2 (p1 y hy) fun e => n1 (e ▸ hy)
/-! ### rows of tuples of ints as D -/
def tupsOf : List D → Option (List (List Int))
  | [] => some []
  | .tup ds :: r => match intsOf ds with
    | some k => (match tupsOf r with | some ks => some (k :: ks) | none => none)
    | none => none
  | _ :: _ => none
def tupD (k : List Int) : D := .tup (k.map D.int)
theorem tups_rep {G : Hp} : ∀ {ds : List D} {vs : List V} {ks : List (List Int)}, tupsOf ds = some ks → Reps G ds vs → ∃ ps : List (Addr × List Int), vs = ps.map (fun p => V.ref p.1) ∧ ps.map (·.2) = ks ∧ ∀ p ∈ ps, G p.1 = some (.tup (p.2.map V.int))
  | [], vs, ks, h, r => by
    simp only [tupsOf, Option.some.injEq] at h; subst h
    exact ⟨[], r, rfl, fun p hp => by cases hp⟩
  | d :: ds, _, ks, h, ⟨v, vs, e, r1, r2⟩ => by
    cases d with
    | tup xs =>
      simp only [tupsOf] at h
      split at h
      · rename_i k hk
        split at h
        · rename_i ks' hks
          simp only [Option.some.injEq] at h; subst h
          obtain ⟨ps, e1, e2, e3⟩ := tups_rep hks r2
          obtain ⟨a, ws, ev, ha, q⟩ := r1
          subst ev
          rw [ints_rep hk q] at ha
          refine ⟨(a, k) :: ps, by rw [e, e1]; rfl, by rw [List.map_cons, e2], fun p hp => ?_⟩
          rcases List.mem_cons.mp hp with e | m
          · subst e; exact ha
          · exact e3 p m
        · cases h
      · cases h
    | _ => simp [tupsOf] at h
theorem reps_tups {G : Hp} : ∀ (ps : List (Addr × List Int)), (∀ p ∈ ps, G p.1 = some (.tup (p.2.map V.int))) → Reps G ((ps.map (·.2)).map tupD) (ps.map fun p => V.ref p.1)
  | [], _ => rfl
  | p :: r, h => ⟨_, _, rfl, ⟨p.1, _, rfl, h p List.mem_cons_self, reps_ints p.2⟩, reps_tups r fun q hq => h q (List.mem_cons_of_mem _ hq)⟩
/-- tuples of one length, of numbers from nought on, fewer than 64 -/
def tupOk (ks : List (List Int)) : Bool := decide (ks.length < 64) && ks.all fun k => decide (1 ≤ k.length) && decide (k.length = (ks.headD []).length) && k.all fun i => decide (0 ≤ i)
def g_sset : D → Res D
  | .lst ds => match tupsOf ds with
    | some ks => if tupOk ks = true then .ok (.lst ((sset ks).map tupD)) else .no
    | none => .no
  | _ => .no
def bigOf : List (List Int) → Int
  | [] => 1
  | k :: r => k.foldr (fun i b => if i < b then b else i + 1) (bigOf r)
theorem fold_ge (b : Int) : ∀ k : List Int, b ≤ k.foldr (fun i b => if i < b then b else i + 1) b
  | [] => Int.le_refl _
  | i :: r => by
    have := fold_ge b r
    show b ≤ if i < _ then _ else _
    split <;> omega
theorem fold_lt (b : Int) : ∀ (k : List Int) (i : Int), i ∈ k → i < k.foldr (fun i b => if i < b then b else i + 1) b
  | j :: r, i, h => by
    show i < if j < _ then _ else _
    rcases List.mem_cons.mp h with e | m
    · subst e; split <;> omega
    · have := fold_lt b r i m; split <;> omega
theorem bigOf_lt : ∀ {ks : List (List Int)} {k : List Int} {i : Int}, k ∈ ks → i ∈ k → i < bigOf ks
  | x :: r, k, i, hk, hi => by
    show i < x.foldr _ (bigOf r)
    rcases List.mem_cons.mp hk with e | m
    · subst e; exact fold_lt _ _ _ hi
    · have := bigOf_lt m hi
      have := fold_ge (bigOf r) x
      omega
section
variable {X : Cx} {W : WX} {e : Expr} {f : Env → Res D} {p p2 q pos : Pos}
theorem de_sset (hc : X.calm = true) (hu : X.A.units + 64 < cLine) (hg : L2.Gl X "sorted") (hm : X.mg "sorted" = none) (hg2 : L2.Gl X "set") (hm2 : X.mg "set" = none) (d : DE X W e f)
    (hs : starEach [e] X.env = (false, eval e X.env) :: starEach [] X.env := by rfl) (hpl : (backTo q (starEach [] X.env)).any (·.1) = false := by rfl)
    (hs2 : starEach [.Call (.Name "set" p2) [e] [] q] X.env = (false, eval (.Call (.Name "set" p2) [e] [] q) X.env) :: starEach [] X.env := by rfl) (hpl2 : (backTo pos (starEach [] X.env)).any (·.1) = false := by rfl) :
    DE X W (.Call (.Name "sorted" p) [.Call (.Name "set" p2) [e] [] q] [] pos) (v1 g_sset f) := by
  obtain ⟨t, pe, h⟩ := d
  refine ⟨_, pe_callB (cr_sortedT hc) hg hm (by decide +kernel) (pa_cons (pe_callTy (cr_setOfT hc hu) hg2 hm2 (by decide +kernel) (pa_cons pe pa_nil hs) (by decide) (by decide) hs hpl) pa_nil hs2) (by decide) (by decide) hs2 hpl2, fun G H σ ρ Q s ee k => ?_⟩
  refine h G H σ ρ _ s ee (Gl.imp (fun x G1 H1 _ e1 k v rv => ?_) (Gl.bind k))
  show rSetOfT X.K X.prog X.w [v] H1 fun y H3 => rSortedT X.K X.prog X.w [y] H3 Q
  unfold g_sset at k
  split at k
  · rename_i ds
    split at k
    · rename_i ks hks
      split at k
      · rename_i ok
        unfold tupOk at ok
        simp only [Bool.and_eq_true, decide_eq_true_eq, List.all_eq_true] at ok
        obtain ⟨o1, o2⟩ := ok
        obtain ⟨l, vs, ev, hl, q⟩ := rv
        subst ev
        obtain ⟨ps, q1, q2, q3⟩ := tups_rep hks q
        subst q1
        obtain ⟨d, hd1, hd⟩ : ∃ d, 1 ≤ d ∧ ∀ p ∈ ps, p.2.length = d ∧ TS.Bd (bigOf ks) p.2 := by
          cases ks with
          | nil =>
            have : ps = [] := by simpa using q2
            subst this
            exact ⟨1, Nat.le_refl _, fun p hp => by cases hp⟩
          | cons k0 r =>
            refine ⟨k0.length, (o2 k0 List.mem_cons_self).1.1, fun p hp => ?_⟩
            have hm : p.2 ∈ k0 :: r := by rw [← q2]; exact List.mem_map_of_mem hp
            obtain ⟨⟨_, z1⟩, z2⟩ := o2 p.2 hm
            exact ⟨z1, fun i hi => ⟨z2 i hi, bigOf_lt hm hi⟩⟩
        refine ⟨l, ps, rfl, e1.s.sqL hl, fun p hp => e1.s.sqT (q3 p hp), by rw [← q2, List.length_map] at o1; exact o1, fun a L ha m1 m2 => ?_⟩
        have x1 := Ext.hid (o := SetTO X.prog X.w a L) e1.s ha
        have s1 := x1.s
        refine ⟨a, L, _, bigOf ks, rfl, upd_same .., fun p hp => s1.sqT (q3 p (m1 p hp)), hd1, fun p hp => hd p (m1 p hp), fun L' p' pm nd _ pw hp' => ?_⟩
        have el : L'.map (·.2) = sset ks := lexS_uniq (lexS_of_code (fun x hx => by
              obtain ⟨y, hy, rfl⟩ := List.mem_map.mp hx
              exact hd y (m1 y (pm.mem_iff.mp hy))) nd (List.pairwise_map.mpr pw)) (lexS_sset ks) fun x => by
            rw [mem_sset, ← q2]
            constructor
            · intro hx
              obtain ⟨y, hy, rfl⟩ := List.mem_map.mp hx
              exact List.mem_map_of_mem (m1 y (pm.mem_iff.mp hy))
            · intro hx
              obtain ⟨y, hy, rfl⟩ := List.mem_map.mp hx
              exact (pm.map (·.2)).mem_iff.mpr (m2 y hy)
        refine Gl.newL s1 hp' (by rw [← el]; exact reps_tups L' fun p hp => q3 p (m1 p (pm.mem_iff.mp hp))) (k.mono x1)
      · exact k.elim
    · exact k.elim
  · exact k.elim
end
end DL

/-! DL19: list(d), d a dict. -/
namespace DL
open PySem PySem.Spec PyProof.Rows L2
def kD : Key → D
  | .inl i => .int i
  | .inr x => .str x
theorem rep_kD {G : Hp} (k : Key) : Rep G (kD k) (kV k) := by cases k <;> rfl
theorem reps_kD {G : Hp} : ∀ ks : List Key, Reps G (ks.map kD) (ks.map kV)
  | [] => rfl
  | k :: r => ⟨_, _, rfl, rep_kD k, reps_kD r⟩
def keysK : D → Res (List D)
  | .dK kvs => .ok ((kvs.map (·.1)).map kD)
  | _ => .no
def keysT : D → Res (List D)
  | .dT kvs => .ok ((kvs.map (·.1)).map fun k => .tup (k.map kD))
  | _ => .no
def nListK (f : Env → Res D) : Env → Res (List D) := fun ρ => f ρ >>= keysK
def nListT (f : Env → Res D) : Env → Res (List D) := fun ρ => f ρ >>= keysT
theorem repK_keys {G : Hp} : ∀ {kvs : List (Key × D)} {ws : List (Key × V)}, RepK G kvs ws → ws.map (·.1) = kvs.map (·.1)
  | [], _, h => by rw [show _ = _ from h]; rfl
  | (k, d) :: r, _, ⟨v, s, e, _, q⟩ => by rw [e, List.map_cons, List.map_cons, repK_keys q]
theorem repT_keys {G : Hp} : ∀ {kvs : List (List Key × D)} {ws : List (List Key × V)}, RepT G kvs ws → ws.map (·.1) = kvs.map (·.1)
  | [], _, h => by rw [show _ = _ from h]; rfl
  | (k, d) :: r, _, ⟨v, s, e, _, q⟩ => by rw [e, List.map_cons, List.map_cons, repT_keys q]
theorem reps_keys {G H : Hp} (ht : ∀ a vs, H a = some (.tup vs) → G a = some (.tup vs)) : ∀ {ws : List (List Key × V)} {bs : List Addr}, IsKeys H ws bs → Reps G ((ws.map (·.1)).map fun k => D.tup (k.map kD)) (bs.map V.ref) := by
  intro ws bs h
  induction h with
  | nil => rfl
  | cons hb _ ih => exact ⟨_, _, rfl, ⟨_, _, rfl, ht _ _ hb, reps_kD _⟩, ih⟩
section
variable {X : Cx} {W : WX} {e : Expr} {f : Env → Res D} {p pos : Pos}
theorem dn_listK (hc : X.calm = true) (hg : L2.Gl X "list") (hm : X.mg "list" = none) (d : DE X W e f) (he : starEach (e :: []) X.env = (false, eval e X.env) :: starEach [] X.env := by rfl) (hpl : (backTo pos (starEach [] X.env)).any (·.1) = false := by rfl) :
    DN X W (.Call (.Name "list" p) [e] [] pos) (nListK f) := by
  obtain ⟨t1, p1, h1⟩ := d
  refine ⟨_, pe_callTy (call_listD hc) hg hm (by decide +kernel) (pa_cons p1 pa_nil he) (by decide) (by decide) he hpl, fun G H σ ρ Q s e h => ?_⟩
  refine h1 G H σ ρ _ s e ?_
  unfold nListK at h
  cases q : f ρ with
  | ok x =>
    rw [q, Res.bind_ok] at h
    intro G1 H1 e1 v rv
    cases x with
    | dK xs =>
      obtain ⟨a, ws, rfl, ha, ra⟩ := rv
      exact ⟨a, ws, rfl, e1.s.rd ha, fun p np => GlN.end e1 np (by rw [show (ws.map fun kv => kV kv.1) = (ws.map (·.1)).map kV by rw [List.map_map]; rfl, repK_keys ra]; exact reps_kD _) h⟩
    | _ => exact h.elim
  | ex c => rw [q] at h; exact h
  | no => rw [q] at h; exact h
theorem dn_listT (hc : X.calm = true) (hg : L2.Gl X "list") (hm : X.mg "list" = none) (d : DE X W e f) (he : starEach (e :: []) X.env = (false, eval e X.env) :: starEach [] X.env := by rfl) (hpl : (backTo pos (starEach [] X.env)).any (·.1) = false := by rfl) :
    DN X W (.Call (.Name "list" p) [e] [] pos) (nListT f) := by
  obtain ⟨t1, p1, h1⟩ := d
  refine ⟨_, pe_callTy (call_list_dT hc) hg hm (by decide +kernel) (pa_cons p1 pa_nil he) (by decide) (by decide) he hpl, fun G H σ ρ Q s e h => ?_⟩
  refine h1 G H σ ρ _ s e ?_
  unfold nListT at h
  cases q : f ρ with
  | ok x =>
    rw [q, Res.bind_ok] at h
    intro G1 H1 e1 v rv
    cases x with
    | dT xs =>
      obtain ⟨a, ws, rfl, ha, ra⟩ := rv
      refine ⟨a, ws, rfl, e1.s.rd ha, fun p bs np hk => ?_⟩
      have x2 := Ext.tups e1.s (fun a o (h : H1 a = some o) => h)
      have np2 : H1 p = none := np
      exact GlN.end (e1.trans x2) np2 (by rw [← repT_keys ra]; exact reps_keys (fun a vs h => by unfold tupG; rw [h]) hk) h
    | _ => exact h.elim
  | ex c => rw [q] at h; exact h
  | no => rw [q] at h; exact h
end
end DL

/-! DL20: a < b < c; x += e of ints. -/
namespace DL
open PySem PySem.Spec PyProof.Rows L2
def vChain (g g' : D → D → Res D) (f1 f2 f3 : Env → Res D) : Env → Res D := fun ρ => f1 ρ >>= fun x => f2 ρ >>= fun y => g x y >>= fun z => bOf z >>= fun k => if k = true then f3 ρ >>= fun w => g' y w else .ok (.bl false)
section
variable {X : Cx} {W : WX} {e1 e2 e3 : Expr} {f1 f2 f3 : Env → Res D} {pos : Pos} {op op' : CmpOp} {p p' : Int → Int → Bool}
theorem chain_reads {t1 t2 t3 : TE} (h1 : ∀ (G H : Hp) (σ : L2.St) (ρ : Env) (Q : VK), Sub G H → EnvR G σ ρ → GlE X.mg W G H σ Q (f1 ρ) → t1 σ H Q) (h2 : ∀ (G H : Hp) (σ : L2.St) (ρ : Env) (Q : VK), Sub G H → EnvR G σ ρ → GlE X.mg W G H σ Q (f2 ρ) → t2 σ H Q)
    (h3 : ∀ (G H : Hp) (σ : L2.St) (ρ : Env) (Q : VK), Sub G H → EnvR G σ ρ → GlE X.mg W G H σ Q (f3 ρ) → t3 σ H Q) (G H : Hp) (σ : L2.St) (ρ : Env) (Q : VK) (s : Sub G H) (e : EnvR G σ ρ) (h : GlE X.mg W G H σ Q (vChain (gI p) (gI p') f1 f2 f3 ρ)) :
    tChain (rI0 fun i j => .bl (p i j)) (rI0 fun i j => .bl (p' i j)) t1 t2 t3 σ H Q := by
  refine h1 G H σ ρ _ s e (Gl.imp (fun x G1 H1 _ e1 k v rv => ?_) (Gl.bind h))
  refine h2 G1 H1 σ ρ _ e1.s (e.le e1.le) (Gl.imp (fun y G2 H2 _ e2 k w rw => ?_) (Gl.bind k))
  refine say_I (X := X) (W := W) G2 H2 σ _ x y v w e2.s (rv.le e2.le) rw (Gl.imp (fun z G3 H3 _ e3 k u ru => ?_) (Gl.bind k))
  cases z with
  | bl b =>
    refine ⟨b, ru, ?_⟩
    cases b with
    | false => exact k G3 H3 (Ext.refl e3.s) _ rfl
    | true =>
      have k2 : GlE X.mg W G3 H3 σ Q (f3 ρ >>= fun w => gI p' y w) := k
      refine h3 G3 H3 σ ρ _ e3.s ((e.le (e1.trans e2).le).le e3.le) (Gl.imp (fun c G4 H4 _ e4 k t rt => ?_) (Gl.bind k2))
      exact say_I (X := X) (W := W) G4 H4 σ Q y c w t e4.s ((rw.le e3.le).le e4.le) rt k
  | _ => exact k.elim
theorem de_chain (ho : OpR X (compareOp op) (rI0 fun i j => .bl (p i j))) (ho' : OpR X (compareOp op') (rI0 fun i j => .bl (p' i j))) (d1 : DE X W e1 f1) (d2 : DE X W e2 f2) (d3 : DE X W e3 f3) (hm : lastMarks [op, op'] [e2, e3] = false := by with_unfolding_all rfl) :
    DE X W (.Compare e1 [op, op'] [e2, e3] pos) (vChain (gI p) (gI p') f1 f2 f3) := by
  obtain ⟨t1, p1, h1⟩ := d1
  obtain ⟨t2, p2, h2⟩ := d2
  obtain ⟨t3, p3, h3⟩ := d3
  exact ⟨_, pe_chain ho ho' p1 p2 p3 hm, chain_reads h1 h2 h3⟩
theorem dt_chain (ho : OpR X (compareOp op) (rI0 fun i j => .bl (p i j))) (ho' : OpR X (compareOp op') (rI0 fun i j => .bl (p' i j))) (d1 : DE X W e1 f1) (d2 : DE X W e2 f2) (d3 : DE X W e3 f3) (hm : lastMarks [op, op'] [e2, e3] = false := by with_unfolding_all rfl) :
    DT X W (.Compare e1 [op, op'] [e2, e3] pos) (vB (vChain (gI p) (gI p') f1 f2 f3)) := by
  obtain ⟨t1, p1, h1⟩ := d1
  obtain ⟨t2, p2, h2⟩ := d2
  obtain ⟨t3, p3, h3⟩ := d3
  refine ⟨_, pt_chain ho ho' p1 p2 p3 hm, fun G H σ ρ Q s e h => ?_⟩
  refine chain_reads h1 h2 h3 G H σ ρ _ s e (Gl.imp (fun x G1 H1 _ e1 k v rv => ?_) (Gl.bind h))
  cases x with
  | bl b => exact ⟨b, rv, k G1 H1 (Ext.refl e1.s)⟩
  | _ => exact k.elim
end
def augK (i : Int) (ρ : Env) (s : Nat) : D → Out
  | .int k => .nx (ρ.set s (some (.int (i + k))))
  | _ => .no
def augR (j : Nat) (f : Env → Res D) (ρ : Env) : Option (Option D) → Out
  | some (some (.int i)) => andThen (f ρ) ρ (augK i ρ j)
  | _ => .no
def sAug (j : Nat) (f : Env → Res D) : DSem := fun ρ => augR j f ρ ρ[j]?
section
variable {X : Cx} {J : Jd} {own : Owns} {e : Expr} {f : Env → Res D} {pos : Pos}
theorem ds_aug {j : Nat} {x : Str} {pos' : Pos} (hN : X.N.Nodup) (hi : X.N[j]? = some x) (hl : Loc X.env.scope x) (ho : own.lookup j = none) (d : DE X J.W e f) (hx : oxSub J.ox own = true := by rfl) (hf : X.fn x = true ∨ X.env.scope.names.lookup x = some .local := by first | exact .inl rfl | exact .inr rfl | assumption) :
    DS X J own own (.AugAssign (.Name x pos') .Add e pos) (sAug j f) := by
  obtain ⟨t, pe, h1⟩ := d
  refine ⟨_, ps_aug (i := j) hN hi hl pe ip_add hf, fun G0 H0 G H σ ρ Dn ⟨fp, I⟩ h => ?_⟩
  unfold sAug augR at h
  split at h
  · rename_i i q
    obtain ⟨v, h2, h3⟩ := I.val j _ q ho
    refine ⟨v, h2, ?_⟩
    cases (show v = .int i from h3)
    refine onView hx h1 I h fun d hk G' H' v e I' rv _ => ?_
    cases d with
    | int k =>
      cases (show v = .int k from rv)
      exact ⟨i, k, rfl, rfl, hk _ _ _ ⟨fp, I'.set (d := .int (i + k)) (v := .int (i + k)) ho rfl⟩⟩
    | _ => exact hk.elim
  · exact h.elim
end
end DL

/-! DL21: zip of two tuples. -/
namespace DL
open PySem PySem.Spec PyProof.Rows L2
def zipR : D → D → Res (List D)
  | .lst xs, .lst ys => .ok (zipD xs ys)
  | .tup xs, .tup ys => .ok (zipD xs ys)
  | _, _ => .no
def iZip2 (f g : Env → Res D) : Env → Res (List D) := fun ρ => f ρ >>= fun x => g ρ >>= fun y => zipR x y
section
variable {K : PySem.W.Frag} {G : Hp} {a : Addr} {vs : List V} {ds : List D}
theorem itd_zipT {b : Addr} {ws : List V} {es : List D} (h : G a = some (.tup vs)) (r : Reps G ds vs) (hb : G b = some (.tup ws)) (rb : Reps G es ws) : ItD (RZ.ItzT K a b) G (zipD ds es) := by
  intro G2 H2 i g sb
  have h2 := sb.sqT (K := K) (g _ _ h)
  have hb2 := sb.sqT (K := K) (g _ _ hb)
  have r2 := r.le (Le.of g)
  have rb2 := rb.le (Le.of g)
  refine ⟨fun d e => ?_, fun e => ⟨vs, ws, h2, hb2, by rw [r.length, rb.length]; rw [zipD_len] at e; omega⟩⟩
  obtain ⟨x, x', e1, e1', rfl⟩ := zipD_get e
  obtain ⟨v, e2, rv⟩ := r2.get e1
  obtain ⟨v', e2', rv'⟩ := rb2.get e1'
  refine ⟨⟨vs, ws, v, v', h2, hb2, e2, e2'⟩, fun w H' y => ?_⟩
  obtain ⟨T, z, z', rfl, nT, rfl, y, y'⟩ := y
  have y := y vs h2
  rw [e2] at y; cases y
  have y' := y' ws hb2
  rw [e2'] at y'; cases y'
  have ex : Ext G2 H2 (upd G2 T (.tup [v, v'])) (upd H2 T (.tup [v, v'])) := Ext.new sb nT
  exact ⟨_, ex, T, _, rfl, upd_same, v, [v'], rfl, rv.le ex.le, v', [], rfl, rv'.le ex.le, rfl⟩
end
section
variable {X : Cx} {W : WX} {e e2 : Expr} {f g : Env → Res D} {p pos : Pos}
theorem di_zip2 {elts : List Expr} {kk : Nat} {tpos : Pos} (hg : L2.Gl X "zip") (hm : X.mg "zip" = none) (d : DE X W e f) (d2 : DE X W e2 g) (hs : starEach [e, e2] X.env = (false, eval e X.env) :: starEach [e2] X.env := by rfl) (hs2 : starEach [e2] X.env = (false, eval e2 X.env) :: starEach [] X.env := by rfl)
    (hpl : (backTo pos (starEach [e2] X.env)).any (·.1) = false := by rfl) : DI X W (.Tuple elts kk tpos) (.Call (.Name "zip" p) [e, e2] [] pos) (iZip2 f g) := by
  obtain ⟨t, pe, h1⟩ := d
  obtain ⟨t2, pe2, h2⟩ := d2
  refine ⟨_, RZ.pi_zipA hg hm (pa_cons pe (pa_cons pe2 pa_nil hs2) hs) hs hpl, fun G H σ ρ R s e h => ?_⟩
  refine h1 G H σ ρ _ s e (Gl.imp (fun x G1 H1 _ e1 k v rv => ?_) (Gl.bind h))
  refine h2 G1 H1 σ ρ _ e1.s (e.le e1.le) (Gl.imp (fun y G2 H2 _ e2 k w rw' => ?_) (Gl.bind k))
  cases x with
  | lst xs =>
    cases y with
    | lst ys =>
      obtain ⟨a, vs, rfl, ha, ra⟩ := rv.le e2.le
      obtain ⟨b, ws, rfl, hb, rb⟩ := rw'
      exact ⟨a, b, vs, ws, rfl, .inl ⟨e2.s.sqL ha, e2.s.sqL hb, k G2 H2 (Ext.refl e2.s) _ (itd_zip ha ra hb rb)⟩⟩
    | _ => exact k.elim
  | tup xs =>
    cases y with
    | tup ys =>
      obtain ⟨a, vs, rfl, ha, ra⟩ := rv.le e2.le
      obtain ⟨b, ws, rfl, hb, rb⟩ := rw'
      exact ⟨a, b, vs, ws, rfl, .inr ⟨e2.s.sqT ha, e2.s.sqT hb, k G2 H2 (Ext.refl e2.s) _ (itd_zipT ha ra hb rb)⟩⟩
    | _ => exact k.elim
  | _ => exact k.elim
end
end DL

/-! DL22: comprehensions whose items are new data. -/
namespace DL
open PySem PySem.Spec PyProof.Rows L2
def rdF (mg : Str → Option Value) (W : WX) (k : Kd) (f : Env → Res D) : TE := fun σ H Q => ∃ G ρ, Sub G H ∧ EnvR G σ ρ ∧ GlF mg W k G H σ Q (f ρ)
theorem DF.pe {X : Cx} {W : WX} {k : Kd} {e : Expr} {f : Env → Res D} (d : DF X W k e f) : PE X e (rdF X.mg W k f) := by
  obtain ⟨t, p, h⟩ := d
  exact ⟨fun pins s σ H Q I ⟨G, ρ, sb, er, g⟩ => p.run pins s σ H Q I (h G H σ ρ Q sb er g)⟩
theorem lc_runF {X : Cx} {W : WX} {is vs : List Nat} {ks : D → Res (List D)} {ft : Env → Res Bool} {fe : Env → Res D} {G1 H1 : Hp} {σ : L2.St} {ρ : Env} {Q : VK} {J : It} {ds ys : List D} {Da : Addr}
    (hv : ∀ i ∈ is, i ∈ vs) (er : EnvR G1 σ ρ) (sb : Sub G1 H1) (hJ : ItD J G1 ds) (nDa : H1 Da = none) (hl : compL is ks ft fe (wipeE ρ vs) ds = .ok ys) (hz : ys.length ≤ sizeLine)
    (hQ : ∀ G' H' acc fj, Ext G1 H1 G' H' → G' Da = none → H' Da = some (.lst acc) → RepOs H' ys acc fj → fj.Nodup → (∀ p ∈ fj, G' p = none ∧ H1 p = none) → Da ∉ fj → Q (.ref Da) H') :
    ∃ W : Nat → Nat → Hp → Prop, (∃ m, W 0 m (upd H1 Da (.lst []))) ∧ ∀ i m H, W i m H →
      (J.stop i H ∧ Q (.ref Da) H) ∨ (J.go i H ∧ ∃ Nx : Hp → Prop, (∀ H', Nx H' → ∃ m', m' < m ∧ W (i + 1) m' H') ∧ ∀ x H', J.yld i H x H' → rdG is ks x (wipe σ vs) H' fun σ2 H2 => wipe σ2 vs = wipe σ vs ∧ rdT X.mg W0 ft σ2 H2 fun b H3 =>
        if b = true then rdF X.mg W0 .dp fe σ2 H3 fun y H4 => ∃ acc, H4 Da = some (.lst acc) ∧ acc.length < sizeLine ∧ Nx (upd H4 Da (.lst (acc ++ [y]))) else Nx H3) := by
  let Iv : Nat → Hp → Prop := fun i H => ∃ G acc accD rest fj, Ext G1 H1 G H ∧ G Da = none ∧ H Da = some (.lst acc) ∧ RepOs H accD acc fj ∧ (fj.Nodup ∧ (∀ p ∈ fj, G p = none ∧ H1 p = none) ∧ Da ∉ fj) ∧ compL is ks ft fe (wipeE ρ vs) (ds.drop i) = .ok rest ∧ accD ++ rest = ys ∧ i ≤ ds.length
  refine ⟨fun i m H => m = ds.length - i ∧ Iv i H, ⟨ds.length, by simp, G1, [], [], ys, [], Ext.hid sb nDa, ?_, upd_same, ⟨rfl, rfl⟩, ⟨List.nodup_nil, fun p hp => (by cases hp), by simp⟩, hl, rfl, Nat.zero_le _⟩, ?_⟩
  · cases q : G1 Da with
    | none => rfl
    | some o => rw [sb _ _ q] at nDa; cases nDa
  rintro i m H ⟨rfl, G, acc, accD, rest, fj, ex, gD, hD, ra, ⟨nd, nw, nDf⟩, hc, hy, hi⟩
  by_cases hlt : i < ds.length
  · refine .inr ?_
    have hd : ds.drop i = ds[i] :: ds.drop (i + 1) := List.drop_eq_getElem_cons hlt
    rw [hd] at hc
    obtain ⟨l, e1, hc⟩ := bind_ok' hc
    obtain ⟨b, e2, hc⟩ := bind_ok' hc
    have e2 := noEx_ok e2
    obtain ⟨go, yl⟩ := (hJ G H i ex.g ex.s).1 ds[i] (by simp [hlt])
    refine ⟨go, Iv (i + 1), fun H' iv => ⟨ds.length - (i + 1), by omega, rfl, iv⟩, fun x H2 y => ?_⟩
    obtain ⟨G2, ex2, rx⟩ := yl x H2 y
    have hD2 : H2 Da = some (.lst acc) := ex2.h _ _ hD
    refine ⟨G2, ds[i], l, ex2.s, rx, e1, fun ws rws nws => ⟨by rw [wipe_sets hv, wipe_wipe], ?_⟩⟩
    have er2 : EnvR G2 (setS (wipe σ vs) is ws) (setE (wipeE ρ vs) is l) := (((er.le ex.le).le ex2.le).wipe vs).sets rws
    refine ⟨G2, _, ex2.s, er2, ?_⟩
    rw [e2]
    intro G3 H3 ex3
    have hD3 : H3 Da = some (.lst acc) := ex3.h _ _ hD2
    have exA : Ext G H G3 H3 := ex2.trans ex3
    have mu : ∀ p ∈ fj, Mut (H p) := ra.mut
    have nD : ∀ {G4 H4 : Hp}, Ext G H G4 H4 → G4 Da = none := fun {G4 H4} e4 => e4.mutn gD (by rw [hD]; trivial)
    cases b with
    | false =>
      show ite _ _ _
      rw [if_neg Bool.false_ne_true]
      exact ⟨G3, acc, accD, rest, fj, ex.trans exA, nD exA, hD3, ra.at (exA.at mu), ⟨nd, fun p hp => ⟨exA.mutn (nw p hp).1 (mu p hp), (nw p hp).2⟩, nDf⟩, hc, hy, hlt⟩
    | true =>
      show ite _ _ _
      rw [if_pos rfl] at hc ⊢
      obtain ⟨y, e3, hc⟩ := bind_ok' hc
      have e3 := noEx_ok e3
      obtain ⟨ys', e4, hc⟩ := bind_ok' hc
      have e5 : y :: ys' = rest := by simpa using hc
      subst e5
      refine ⟨G3, _, ex3.s, er2.le ex3.le, ?_⟩
      rw [e3]
      intro G4 H4 ex4 v fv ov hnv
      have exB : Ext G H G4 H4 := exA.trans ex4
      have hD4 : H4 Da = some (.lst acc) := ex4.h _ _ hD3
      have dv : Da ∉ fv := fun z => by have := (hnv Da z).2; rw [hD3] at this; cases this
      have dA : Da ∉ fj ++ fv := fun z => by
        rcases List.mem_append.mp z with z | z
        · exact nDf z
        · exact dv z
      have at2 : At H4 (upd H4 Da (.lst (acc ++ [v]))) (fj ++ fv) := ⟨fun p hp => upd_ne fun z => dA (z ▸ hp), fun a us e => by
        rw [upd_ne]; exact e
        intro z; subst z; rw [hD4] at e; cases e⟩
      have r4 : RepOs H4 accD acc fj := ra.at (exB.at mu)
      have all4 : RepOs H4 (accD ++ [y]) (acc ++ [v]) (fj ++ fv) := by
        have := RepOs.append r4 (es := [y]) (ws := [v]) (g := fv ++ []) ⟨v, [], fv, [], rfl, rfl, ov.1, rfl, rfl⟩
        simpa using this
      refine ⟨acc, hD4, ?_, G4, acc ++ [v], accD ++ [y], ys', fj ++ fv, ?_, nD exB, upd_same, all4.at at2, ⟨?_, fun p hp => ?_, dA⟩, e4, by simpa using hy, hlt⟩
      · have h1 : acc.length = accD.length := (ra.rep (G := H) ⟨fun _ _ => rfl, fun _ _ e => e⟩).length
        have h2 : ys.length = accD.length + (ys'.length + 1) := by rw [← hy]; simp
        omega
      · have exC := ex.trans exB
        refine ⟨fun a o q => ?_, exC.g, fun a o q => ?_, exC.n⟩
        · rw [upd_ne (ne_of_none q nDa)]; exact exC.h a o q
        · have : a ≠ Da := fun z => by subst z; rw [nD exB] at q; cases q
          rw [upd_ne this]; exact exC.s a o q
      · refine List.nodup_append.mpr ⟨nd, ov.2, fun a ha b hb z => ?_⟩
        subst z
        have := mut_keep exA (mu a ha)
        rw [(hnv a hb).2] at this
        exact this
      · rcases List.mem_append.mp hp with hp | hp
        · exact ⟨exB.mutn (nw p hp).1 (mu p hp), (nw p hp).2⟩
        · exact ⟨(hnv p hp).1, (ex.trans exA).free (hnv p hp).2⟩
  · refine .inl ⟨(hJ G H i ex.g ex.s).2 (by omega), ?_⟩
    have e : i = ds.length := by omega
    subst e
    rw [List.drop_length] at hc
    have e2 : [] = rest := by simpa [compL] using hc
    subst e2
    rw [List.append_nil] at hy
    subst hy
    exact hQ G H acc fj ex gD hD ra nd nw nDf
section
variable {X : Cx} {W : WX} {elt tg iter : Expr} {ifs : List Expr} {scope : Scope} {own : List (Str × Nat)} {is : List Nat} {ks : D → Res (List D)} {fi : Env → Res (List D)} {ft : Env → Res Bool} {fe : Env → Res D} {pos : Pos}
theorem lc_F {wi : TI} {vs : List Nat} (h1 : ∀ (G H : Hp) (σ : L2.St) (ρ : Env) (R : It → Hp → Prop), Sub G H → EnvR G σ ρ → GlI X.mg W G H σ R (fi ρ) → wi σ H R) (hv : ∀ i ∈ is, i ∈ vs)
    (G H : Hp) (σ : L2.St) (ρ : Env) (Q : VK) (s : Sub G H) (e : EnvR G σ ρ) (h : GlF X.mg W .dp G H σ Q (vLstOf (nComp fi is ks ft fe vs) ρ)) : tLc wi (rdG is ks) (rdT X.mg W0 ft) (rdF X.mg W0 .dp fe) vs σ H Q := by
  refine h1 G H σ ρ _ s e ?_
  unfold vLstOf nComp at h
  cases q : fi ρ with
  | ok ds =>
    rw [q] at h
    simp only [Res.bind_ok] at h
    intro G1 H1 e1 J hJ Da nDa
    cases q2 : compL is ks ft fe (wipeE ρ vs) ds with
    | ok ys =>
      rw [q2] at h
      simp only [noEx, Res.bind_ok] at h
      split at h
      · rename_i hz
        exact lc_runF (W := W) hv (e.le e1.le) e1.s hJ nDa q2 hz fun G2 H2 acc fj e2 gD hD r nd nw nDf => h G2 H2 (e1.trans e2) (.ref Da) (Da :: fj) ⟨⟨Da, acc, fj, rfl, hD, rfl, r⟩, List.nodup_cons.mpr ⟨nDf, nd⟩⟩ fun p hp => by
          rcases List.mem_cons.mp hp with z | hp
          · subst z; exact ⟨gD, e1.free nDa⟩
          · exact ⟨(nw p hp).1, e1.free (nw p hp).2⟩
      · exact h.elim
    | ex c => rw [q2] at h; exact h.elim
    | no => rw [q2] at h; exact h.elim
  | ex c => rw [q] at h; exact h
  | no => rw [q] at h; exact h
theorem df_comp (hc : X.calm = true) (hN : X.N.Nodup) (di : DI X W tg iter fi) (ok : BlkOk X.N X.env.scope scope own)
    (dg : ∀ (s : Shared) (H : Hp) (C : Addr) (cl : List (Str × Addr)) (fp : List Addr), DG (X.blk s H scope (compEnvC scope cl C X.env) fp) tg is ks)
    (dt : ∀ (s : Shared) (H : Hp) (C : Addr) (cl : List (Str × Addr)) (fp : List Addr), DTs (X.blk s H scope (compEnvC scope cl C X.env) fp) W0 ifs ft)
    (de : ∀ (s : Shared) (H : Hp) (C : Addr) (cl : List (Str × Addr)) (fp : List Addr), DF (X.blk s H scope (compEnvC scope cl C X.env) fp) W0 .dp elt fe)
    (hv : ∀ i ∈ is, i ∈ own.map (·.2)) (hs : ∀ x, foldedSetIterable iter X.env x = pure x := by intro _; rfl) : DF X W .dp (.ListComp elt [⟨tg, iter, ifs, 0⟩] scope pos) (vLstOf (nComp fi is ks ft fe (own.map (·.2)))) := by
  obtain ⟨wi, pi, h1⟩ := di
  exact ⟨_, pe_lc (te := rdF X.mg W0 .dp fe) (tt := rdT X.mg W0 ft) (g := rdG is ks) hc hN pi ok (fun s H C cl fp => (dg s H C cl fp).pg) (fun s H C cl fp => (dt s H C cl fp).pts) (fun s H C cl fp => (de s H C cl fp).pe) hs, lc_F h1 hv⟩
theorem af_comp {i : Nat} {y : Str} {py spos : Pos} (hc : X.calm = true) (hN : X.N.Nodup) (hy : X.N[i]? = some y) (hyl : X.env.scope.names.lookup y = some .local)
    (hsw : swapsWith (.ListComp elt [⟨tg, iter, ifs, 0⟩] scope pos) (some (.Name y py)) spos.line X.env = pure true) (di : DI X W tg iter fi) (ok : BlkOk X.N X.env.scope scope own)
    (dg : ∀ (s : Shared) (H : Hp) (C : Addr) (cl : List (Str × Addr)) (fp : List Addr), DG (X.blk s H scope (compEnvC scope cl C X.env) fp) tg is ks)
    (dt : ∀ (s : Shared) (H : Hp) (C : Addr) (cl : List (Str × Addr)) (fp : List Addr), DTs (X.blk s H scope (compEnvC scope cl C X.env) fp) W0 ifs ft)
    (de : ∀ (s : Shared) (H : Hp) (C : Addr) (cl : List (Str × Addr)) (fp : List Addr), DF (X.blk s H scope (compEnvC scope cl C X.env) fp) W0 .dp elt fe)
    (hv : ∀ i ∈ is, i ∈ own.map (·.2)) (hs : ∀ x, foldedSetIterable iter X.env x = pure x := by intro _; rfl) : AF X W .dp (.Assign [.Name y py] (.ListComp elt [⟨tg, iter, ifs, 0⟩] scope pos) spos) i (vLstOf (nComp fi is ks ft fe (own.map (·.2)))) := by
  obtain ⟨wi, pi, h1⟩ := di
  exact ⟨_, ps_setLc (te := rdF X.mg W0 .dp fe) (tt := rdT X.mg W0 ft) (g := rdG is ks) hc hN hy hyl hsw pi ok (fun s H C cl fp => (dg s H C cl fp).pg) (fun s H C cl fp => (dt s H C cl fp).pts) (fun s H C cl fp => (de s H C cl fp).pe) hs, lc_F h1 hv⟩
end
end DL

/-! DL23: for k, v in d.items(), d any dict of the region; locked meanwhile. -/
namespace DL
open PySem PySem.Spec PyProof.Rows L2
theorem frzT2 {X : Cx} {pins : List (Addr × Obj)} {σ : L2.St} {H : Hp} {s : Shared} {d : Addr} {o : Obj} {kvs : List (List Key × V)} (I : Inv X pins σ H s) (h : H d = some (.frz o (.dT kvs))) :
    (d == sysModules) = false ∧ s.heap.get? d = some o ∧ o.ExactDict ∧ ∃ (es : Array DictEntry) (ep : Nat), o.data = .dict es ep ∧ es.size = kvs.length ∧
      ∀ (i : Nat) (k : List Key) (v : V), kvs[i]? = some (k, v) → ∃ (en : DictEntry) (q : Addr), es[i]? = some en ∧ en.key = .ref q ∧ H q = some (.tup (k.map kV)) ∧ RelV v en.val := by
  obtain ⟨hd, z, hs, xs, pr, o', es, ep, ho, hx, hdt, he, _⟩ := I.hok d _ h
  rw [hd] at ho
  cases ho
  refine ⟨hs, hd, hx, es, ep, hdt, ?_, fun i k v e => ?_⟩
  · have l1 : es.size = xs.length := size_of_entries he
    have l2 : kvs.length = xs.length := Paired.length pr
    omega
  · obtain ⟨b, hb, e1, e2, e3⟩ := paired_get pr e
    have q := entry_at he i
    rw [hb] at q
    exact ⟨_, b.2.1, q, rfl, e2, e3⟩
def ItiT (d : Addr) (o : Obj) (kvs : List (List Key × V)) : It :=
  ⟨fun i H => H d = some (.frz o (.dT kvs)) ∧ i < kvs.length, fun i H x H' => ∃ T k v q, kvs[i]? = some (k, v) ∧ H q = some (.tup (k.map kV)) ∧ x = .ref T ∧ H T = none ∧ H' = upd H T (.tup [.ref q, v]), fun i H => H d = some (.frz o (.dT kvs)) ∧ kvs.length ≤ i⟩
theorem turn_itemsT {P : Program} {w : World} {K : PySem.W.Frag} {d : Addr} {o : Obj} {es : Array DictEntry} {ep : Nat} {kvs : List (List Key × V)} {elts : List Expr} {kk : Nat} {tpos : Pos} (it : Addr) (hod : o.data = .dict es ep) :
    Turn P w K (.Tuple elts kk tpos) (ItiT d o kvs) [it] it (fun i h => ∃ ok ov, IsItemIter h it d i es.size ep ok ov) where
  mem := by simp
  obj := fun i h st b hb => by
    have e : b = it := by simpa using hb
    subst e
    obtain ⟨ok, ov, e⟩ := st
    exact ⟨_, e, fun v z => nomatch z⟩
  keep := fun i h h' st k => let ⟨ok, ov, e⟩ := st; ⟨ok, ov, k it (by simp) _ e⟩
  item := by
    intro X hP hw hK hc i pins s σ H E I hf st hg
    subst hP hw hK
    obtain ⟨hd, hi⟩ := hg
    obtain ⟨hs, hgd, hx, es', ep', hdt, hsz, ent⟩ := frzT2 I hd
    obtain ⟨rfl, rfl⟩ := dict_ep hod hdt
    obtain ⟨⟨k, v⟩, hkv⟩ : ∃ p, kvs[i]? = some p := ⟨kvs[i], List.getElem?_eq_getElem hi⟩
    obtain ⟨en, q, hen, hkey, hq, rv⟩ := ent i k v hkv
    have hlt' : i < es'.size := by omega
    have een : es'[i] = en := by
      rw [Array.getElem?_eq_getElem hlt'] at hen
      exact Option.some.inj hen
    obtain ⟨ok, ov, he⟩ := st
    have hlt : it < s.heap.objs.size := Heap.lt_size he
    have raw : s.heap.DictRaw d es' ep' := ⟨o, hgd, hx, hdt⟩
    refine wpAny_pyNext_items_item_raw he raw hlt' fun h' ho hT hz hk => ?_
    rw [een] at ho hT
    refine ⟨_, rfl, wpAny_letOwnedTupleGo_items (s := { s with heap := h' }) ho fun h'' he' sb => ?_⟩
    have hT2 : h''.get? s.heap.objs.size = some { cls := .type "tuple", data := .seq #[en.key, en.val] } := (sb.2 _ (Nat.ne_of_gt hlt)).trans hT
    have new : ObjOk X.prog X.w (upd H s.heap.objs.size (.tup [.ref q, v])) h'' s.heap.objs.size (.tup [.ref q, v]) :=
      ⟨by show 2 ≤ sizeLine; decide, [en.key, en.val], .cons (show RelV (.ref q) en.key from hkey) (.cons rv .nil), ⟨_, hT2, rfl, _, rfl⟩⟩
    have I1 : Inv X pins σ (upd H s.heap.objs.size (.tup [.ref q, v])) { s with heap := h'' } :=
      I.turnedNew (t' := s.toks) (ch := [it]) (fun b ob hb e => (sb.2 b (by simpa using hb)).trans (hk b ob (by simpa using hb) e)) hf (Nat.le_refl _) new
    refine ⟨.ref s.heap.objs.size, _, I1, rfl, ⟨_, k, v, q, hkv, hq, rfl, I.hok.fresh (Nat.le_refl _), rfl⟩, ⟨en.key, en.val, he'⟩, fun b hb => ?_⟩
    have e : b = it := by simpa using hb
    rw [e, upd_ne (Nat.ne_of_lt hlt)]
    exact (hf it (by simp)).1
  done := by
    intro X hP hw hK hc i pins s σ H E I hf st hg
    subst hP hw hK
    obtain ⟨hd, hi⟩ := hg
    obtain ⟨f0, f1, f2, f3, f4, f5⟩ := hf it (by simp)
    obtain ⟨hs, hgd, hx, es', ep', hdt, hsz, ent⟩ := frzT2 I hd
    obtain ⟨rfl, rfl⟩ := dict_ep hod hdt
    obtain ⟨ok, ov, he⟩ := st
    have raw : s.heap.DictRaw d es' ep' := ⟨o, hgd, hx, hdt⟩
    exact wpAny_pyNext_items_end_raw (I.ok.hd hc) he raw (by omega) fun h' eb => ⟨rfl, I.turned (t' := s.toks) (fun b ob hb e => eb b ob hb e) f0 f1 f3 f4 f5⟩
  self := fun A i s Q E st h => let ⟨_, _, e⟩ := st; PySem.W.kcp_self e h
/-- d.items(); a dict that is not locked is locked now -/
def iItemsL (X : Cx) (td : TE) : TI := fun σ H R => td σ H fun x H1 => ∃ d, x = .ref d ∧
  ((∃ o kvs, H1 d = some (.frz o (.dK kvs)) ∧ R (Iti d o kvs) H1) ∨ (∃ o kvs, H1 d = some (.frz o (.dT kvs)) ∧ R (ItiT d o kvs) H1) ∨
   (∃ kvs, H1 d = some (.dK kvs) ∧ ∀ o, (∀ o' u', X.H_0 d ≠ some (.frz o' u')) → R (Iti d o kvs) (upd H1 d (.frz o (.dK kvs)))) ∨
   (∃ kvs, H1 d = some (.dT kvs) ∧ ∀ o, (∀ o' u', X.H_0 d ≠ some (.frz o' u')) → R (ItiT d o kvs) (upd H1 d (.frz o (.dT kvs)))))
theorem pi_itemsL {X : Cx} {e : Expr} {td : TE} {apos cpos : Pos} {elts : List Expr} {kk : Nat} {tpos : Pos} (he : PE X e td) (hbase : attributeBase e "items" X.env (eval e X.env) = eval e X.env := by rfl) (hline : (apos.endLine == cpos.line) = true := by rfl) :
    PI X (.Tuple elts kk tpos) (.Call (.Attribute e "items" apos) [] [] cpos) (iItemsL X td) := by
  refine ⟨fun pins s σ H R I h => ?_⟩
  refine wpAny_Call_method (T := "dict") (id := "dict.items") hbase rfl hline F.plainAttrs_dict F.slot_dict_items F.type_dict_items (thn (he.run pins s σ H _ I h) fun u s1 ⟨x, H1, I1, rx, d, ex, q⟩ => ?_)
  subst ex
  obtain rfl : u = Value.ref d := rx
  have key : (∃ H2 o kvs, Inv X pins σ H2 s1 ∧ H2 d = some (.frz o (.dK kvs)) ∧ R (Iti d o kvs) H2) ∨ (∃ H2 o kvs, Inv X pins σ H2 s1 ∧ H2 d = some (.frz o (.dT kvs)) ∧ R (ItiT d o kvs) H2) := by
    rcases q with ⟨o, kvs, hd, q⟩ | ⟨o, kvs, hd, q⟩ | ⟨kvs, hd, q⟩ | ⟨kvs, hd, q⟩
    · exact .inl ⟨H1, o, kvs, I1, hd, q⟩
    · exact .inr ⟨H1, o, kvs, I1, hd, q⟩
    · obtain ⟨od, I2⟩ := I1.lock hd trivial
      exact .inl ⟨_, od, kvs, I2, upd_same, q od (I1.nofrz hd trivial)⟩
    · obtain ⟨od, I2⟩ := I1.lock hd trivial
      exact .inr ⟨_, od, kvs, I2, upd_same, q od (I1.nofrz hd trivial)⟩
  rcases key with ⟨H2, o, kvs, I1, hd, q⟩ | ⟨H2, o, kvs, I1, hd, q⟩
  · obtain ⟨hs, hgd, hx, es, ep, vs, hdt, hsz, kv, hm⟩ := I1.frzK hd
    have hl : kvs.length = vs.length := Paired.length kv
    refine ⟨hm.dictOf.typeIs, hm.dictOf.mapOf.noDict, ?_⟩
    have I2 : Inv X pins σ H2 { s1 with heap := s1.heap.push { cls := .type "dict_items", data := .fields #[.ref d] } } := I1.kept (t' := s1.toks) fun b ob q => Heap.get?_push_of_some _ q
    have fin : wpAny (model X.prog X.w) X.A (pyIter (.ref s1.heap.objs.size)) (PIE X pins σ (.Tuple elts kk tpos) R) X.xe { s1 with heap := s1.heap.push { cls := .type "dict_items", data := .fields #[.ref d] } } := by
      refine wpAny_pyIter_items (d := d) (knd := mixKind X.prog X.w) ⟨_, Heap.get?_push_size _ rfl, rfl, rfl⟩ (hm.push _) (pi_one (tk := s1.toks) I2 _ (turn_items _ hdt) ⟨.none, .none, ?_⟩ q)
      rw [hl]
      exact Heap.get?_push_size _ rfl
    show wpAny _ _ (callWith cpos (.builtin "dict.items") [.ref d] [] []) _ X.xe s1
    exact method_meetsIn F.slot_dict_items F.entry_dict_items rfl (PySem.evalArgs_none ⟨rfl, hm.dictOf.typeIs, F.args_dict_items_1 _, _, meets_dict_items (mixKind X.prog X.w) d hs, ⟨vs, hm.dictOf⟩, fin⟩)
  · obtain ⟨hs, hgd, hx, es, ep, hdt, hsz, ent⟩ := frzT2 I1 hd
    have raw : s1.heap.DictRaw d es ep := ⟨o, hgd, hx, hdt⟩
    refine ⟨raw.typeIs, ?_, ?_⟩
    · exact fun a e => by cases e; exact ⟨o, hgd, hx.2.1⟩
    have I2 : Inv X pins σ H2 { s1 with heap := s1.heap.push { cls := .type "dict_items", data := .fields #[.ref d] } } := I1.kept (t' := s1.toks) fun b ob q => Heap.get?_push_of_some _ q
    have fin : wpAny (model X.prog X.w) X.A (pyIter (.ref s1.heap.objs.size)) (PIE X pins σ (.Tuple elts kk tpos) R) X.xe { s1 with heap := s1.heap.push { cls := .type "dict_items", data := .fields #[.ref d] } } := by
      refine wpAny_pyIter_items_raw (d := d) (es := es) (ep := ep) ⟨_, Heap.get?_push_size _ rfl, rfl, rfl⟩ (raw.at fun o e => Heap.get?_push_of_some _ e) (pi_one (tk := s1.toks) I2 _ (turn_itemsT _ hdt) ⟨.none, .none, ?_⟩ q)
      exact Heap.get?_push_size _ rfl
    show wpAny _ _ (callWith cpos (.builtin "dict.items") [.ref d] [] []) _ X.xe s1
    refine Calls.callWith_builtin rfl (PySem.evalArgs_none ?_)
    exact DT.callItems (es := es) (ep := ep) hs ⟨o, hgd, hx, hdt⟩ fin
end DL

/-! DL24: the loop over d.items(). -/
namespace DL
open PySem PySem.Spec PyProof.Rows L2
/-- behind a loop: as it stands, or unlocked -/
def unl {α : Type} (H0' : Hp) (Q : α → Hp → Prop) : α → Hp → Prop := fun x H => Q x H ∨ ∃ d od u, H d = some (.frz od u) ∧ (∀ o' u', H0' d ≠ some (.frz o' u')) ∧ Q x (upd H d u)
def unlE (H0' : Hp) (D : Ends) : Ends := ⟨unl H0' D.nx, unl H0' D.rt, unl H0' D.bk, unl H0' D.ct⟩
theorem ps_unl {X : Cx} {st : Stmt} {t : TS} (h : PS X st t) : PS X st (fun D σ H => t (unlE X.H_0 D) σ H) := by
  refine ⟨fun pins s σ H D I hw => ?_⟩
  refine thn (h.run pins s σ H _ I hw) fun f s1 q => ?_
  cases f with
  | next => obtain ⟨σ', H', I2, q | ⟨d, od, u, hd, hn, q⟩⟩ := q; exact ⟨σ', H', I2, q⟩; exact ⟨σ', _, I2.unlock hd hn, q⟩
  | brk => obtain ⟨σ', H', I2, q | ⟨d, od, u, hd, hn, q⟩⟩ := q; exact ⟨σ', H', I2, q⟩; exact ⟨σ', _, I2.unlock hd hn, q⟩
  | cont => obtain ⟨σ', H', I2, q | ⟨d, od, u, hd, hn, q⟩⟩ := q; exact ⟨σ', H', I2, q⟩; exact ⟨σ', _, I2.unlock hd hn, q⟩
  | ret v => obtain ⟨x, σ', H', I2, r, q | ⟨d, od, u, hd, hn, q⟩⟩ := q; exact ⟨x, σ', H', I2, r, q⟩; exact ⟨x, σ', _, I2.unlock hd hn, r, q⟩
/-! ### regions whose dict at d is locked -/
/-- less than Le: of lists and dicts -/
def Le2 (G G' : Hp) : Prop := (∀ a u, (∀ o w, u ≠ .frz o w) → Rd G a u → Rd G' a u) ∧ ∀ a vs, G a = some (.tup vs) → G' a = some (.tup vs)
mutual
theorem Rep.le2 {G G' : Hp} (l : Le2 G G') : ∀ {d : D} {v : V}, Rep G d v → Rep G' d v
  | .non, _, h => h
  | .bl _, _, h => h
  | .int _, _, h => h
  | .str _, _, h => h
  | .tup ds, _, ⟨a, vs, e, h, r⟩ => ⟨a, vs, e, l.2 _ _ h, Reps.le2 l r⟩
  | .lst ds, _, ⟨a, vs, e, h, r⟩ => ⟨a, vs, e, l.1 _ _ (fun _ _ z => nomatch z) h, Reps.le2 l r⟩
  | .dK kvs, _, ⟨a, vs, e, h, r⟩ => ⟨a, vs, e, l.1 _ _ (fun _ _ z => nomatch z) h, RepK.le2 l r⟩
  | .dT kvs, _, ⟨a, vs, e, h, r⟩ => ⟨a, vs, e, l.1 _ _ (fun _ _ z => nomatch z) h, RepT.le2 l r⟩
theorem Reps.le2 {G G' : Hp} (l : Le2 G G') : ∀ {ds : List D} {vs : List V}, Reps G ds vs → Reps G' ds vs
  | [], _, h => h
  | d :: r, _, ⟨v, s, e, h, q⟩ => ⟨v, s, e, Rep.le2 l h, Reps.le2 l q⟩
theorem RepK.le2 {G G' : Hp} (l : Le2 G G') : ∀ {ds : List (Key × D)} {vs : List (Key × V)}, RepK G ds vs → RepK G' ds vs
  | [], _, h => h
  | (k, d) :: r, _, ⟨v, s, e, h, q⟩ => ⟨v, s, e, Rep.le2 l h, RepK.le2 l q⟩
theorem RepT.le2 {G G' : Hp} (l : Le2 G G') : ∀ {ds : List (List Key × D)} {vs : List (List Key × V)}, RepT G ds vs → RepT G' ds vs
  | [], _, h => h
  | (k, d) :: r, _, ⟨v, s, e, h, q⟩ => ⟨v, s, e, Rep.le2 l h, RepT.le2 l q⟩
end
/-- d is held at u -/
def isDict : HO → Prop
  | .dK _ => True
  | .dT _ => True
  | _ => False
theorem isDict.nofrz {u : HO} (h : isDict u) : ∀ o w, u ≠ .frz o w := fun o w z => by subst z; exact h
theorem isDict.notup {u : HO} (h : isDict u) : ∀ vs, u ≠ .tup vs := fun o z => by subst z; exact h
theorem isDict.mut {u : HO} (h : isDict u) : Mut (some u) := by cases u <;> first | trivial | exact h.elim
noncomputable section
open Classical
variable {d : Addr} {od : Obj} {u : HO} {G H G0 H0 : Hp}
/-- all as it stands, d locked where it is there -/
def lkd (d : Addr) (x : HO) (H : Hp) : Hp := fun a => if a = d ∧ H a ≠ none then some x else H a
theorem lkd_ne {x : HO} {a : Addr} (h : a ≠ d) : lkd d x H a = H a := if_neg fun z => h z.1
theorem lkd_self {x : HO} (h : H d ≠ none) : lkd d x H d = some x := if_pos ⟨rfl, h⟩
theorem lkd_none {x : HO} {a : Addr} : lkd d x H a = none ↔ H a = none := by
  unfold lkd
  split
  · rename_i h; simp [h.2]
  · rfl
theorem lkd_upd {x : HO} (h : H d ≠ none) : lkd d x H = upd H d x := by
  funext a
  by_cases e : a = d
  · subst e; rw [lkd_self h, upd_same]
  · rw [lkd_ne e, upd_ne e]
theorem le2_lkd {x : HO} (hd : G d = some u) (hx : ∀ w, (∀ o z, w ≠ .frz o z) → Rd (fun _ => some u) d w → Rd (fun _ => some x) d w) (hu : ∀ vs, u ≠ .tup vs) : Le2 G (lkd d x G) := by
  refine ⟨fun a w hw h => ?_, fun a vs h => ?_⟩
  · by_cases e : a = d
    · subst e
      have : Rd (fun _ => some u) a w := by unfold Rd at h ⊢; rw [hd] at h; exact h
      have := hx w hw this
      unfold Rd at this ⊢
      rw [lkd_self (by rw [hd]; simp)]
      exact this
    · unfold Rd at h ⊢
      rw [lkd_ne e]; exact h
  · rw [lkd_ne]; exact h
    intro e; subst e; rw [hd] at h; cases h; exact hu _ rfl
theorem ext_lkd {x : HO} (hd : G d = some u) (hu : ∀ vs, u ≠ .tup vs) (e : Ext G0 H0 G H) : Ext (lkd d x G0) (lkd d x H0) (lkd d x G) (lkd d x H) where
  h := fun a o q => by
    by_cases z : a = d
    · subst z
      have n : H0 a ≠ none := fun n => by rw [lkd_none.mpr n] at q; cases q
      have : H a ≠ none := by
        cases r : H0 a with
        | none => exact absurd r n
        | some w => rw [e.h _ _ r]; simp
      rw [lkd_self n] at q
      rw [lkd_self this]; exact q
    · rw [lkd_ne z] at q ⊢; exact e.h _ _ q
  g := fun a o q => by
    by_cases z : a = d
    · subst z
      have n : G0 a ≠ none := fun n => by rw [lkd_none.mpr n] at q; cases q
      rw [lkd_self n] at q
      rw [lkd_self (by rw [hd]; simp)]; exact q
    · rw [lkd_ne z] at q ⊢; exact e.g _ _ q
  s := fun a o q => by
    by_cases z : a = d
    · subst z
      rw [lkd_self (by rw [hd]; simp)] at q
      rw [lkd_self (by rw [e.s _ _ hd]; simp)]; exact q
    · rw [lkd_ne z] at q ⊢; exact e.s _ _ q
  n := fun a o q => by
    by_cases z : a = d
    · subst z
      rw [lkd_self (by rw [hd]; simp)] at q
      rcases e.n _ _ hd with r | r | ⟨vs, r⟩
      · exact .inl (by rw [lkd_self (by rw [r]; simp)]; exact q)
      · exact .inr (.inl (lkd_none.mpr r))
      · exact absurd r (hu vs)
    · rw [lkd_ne z] at q
      rcases e.n _ _ q with r | r | r
      · exact .inl (by rw [lkd_ne z]; exact r)
      · exact .inr (.inl (lkd_none.mpr r))
      · exact .inr (.inr r)
/-- the state, d locked or unlocked -/
theorem SIf.lkd {fp} {own : Owns} {σ : L2.St} {ρ : Env} {x : HO} (I : SIf fp G0 H0 own G H σ ρ) (hd : G d = some u) (hx : ∀ w, (∀ o z, w ≠ .frz o z) → Rd (fun _ => some u) d w → Rd (fun _ => some x) d w) (hu : ∀ vs, u ≠ .tup vs) :
    SIf fp (lkd d x G0) (lkd d x H0) own (lkd d x G) (lkd d x H) σ ρ := by
  have nd : ∀ i, d ∉ fp i := fun i z => by have := (I.fpm i d z).1; rw [hd] at this; cases this
  have l2 : Le2 G (DL.lkd d x G) := le2_lkd hd hx hu
  have at1 : ∀ i, At H (DL.lkd d x H) (fp i) := fun i => ⟨fun p hp => lkd_ne fun z => nd i (z ▸ hp), fun a vs e => by
    rw [lkd_ne]; exact e
    intro z; subst z; rw [I.sub _ _ hd] at e; cases e; exact hu _ rfl⟩
  refine ⟨ext_lkd hd hu I.ext, I.len, fun i dd e q => ?_, fun i k dd q e => ?_, fun i p hp => ?_, I.fpd⟩
  · obtain ⟨v, h1, h2⟩ := I.val i dd e q
    exact ⟨v, h1, h2.le2 l2⟩
  · obtain ⟨v, h1, h2⟩ := I.own i k dd q e
    refine ⟨v, h1, ?_⟩
    cases k with
    | sh =>
      obtain ⟨p, e1, e2, h3⟩ := h2
      refine ⟨p, e1, e2, ?_⟩
      have hp := (at1 i).a p (by rw [e2]; exact List.mem_cons_self)
      cases dd with
      | lst ds => obtain ⟨vs, a1, a2⟩ := h3; exact ⟨vs, hp.trans a1, a2.le2 l2⟩
      | dK ds => obtain ⟨vs, a1, a2⟩ := h3; exact ⟨vs, hp.trans a1, a2.le2 l2⟩
      | dT ds => obtain ⟨vs, a1, a2⟩ := h3; exact ⟨vs, hp.trans a1, a2.le2 l2⟩
      | _ => exact h3.elim
    | dp => exact ⟨h2.1.at (at1 i), h2.2⟩
  · obtain ⟨h1, h2, h3⟩ := I.fpm i p hp
    exact ⟨lkd_none.mpr h1, lkd_none.mpr h2, by rw [lkd_ne (fun z => nd i (by rw [← z]; exact hp) : p ≠ d)]; exact h3⟩
end

theorem lock_ok {d : Addr} {od : Obj} {u : HO} (h : isDict u) : ∀ w, (∀ o z, w ≠ .frz o z) → Rd (fun _ => some u) d w → Rd (fun _ => some (.frz od u)) d w := fun w hw r => by
  rcases r with e | ⟨o, e⟩
  · cases e; exact .inr ⟨od, rfl⟩
  · cases e; exact h.elim
theorem unlock_ok {d : Addr} {od : Obj} {u : HO} : ∀ w, (∀ o z, w ≠ .frz o z) → Rd (fun _ => some (.frz od u)) d w → Rd (fun _ => some u) d w := fun w hw r => by
  rcases r with e | ⟨o, e⟩
  · cases e; exact absurd rfl (hw _ _)
  · cases e; exact .inl rfl
theorem lkd_back {d : Addr} {od : Obj} {u : HO} {H : Hp} (h : H d = none ∨ H d = some u) : lkd d u (lkd d (.frz od u) H) = H := by
  funext a
  by_cases e : a = d
  · subst e
    rcases h with h | h
    · rw [h, lkd_none, lkd_none]; exact h
    · rw [lkd_self (by rw [Ne, lkd_none, h]; simp), h]
  · rw [lkd_ne e, lkd_ne e]
def nrO : Out → Out
  | .nx ρ => .nx ρ
  | .rt d => .rt d
  | _ => .no
def itemsOf : D → Res (List D)
  | .dK kvs => .ok (kvs.map fun kv => .tup [kD kv.1, kv.2])
  | .dT kvs => .ok (kvs.map fun kv => .tup [.tup (kv.1.map kD), kv.2])
  | _ => .no
def itemsK (is fg : List Nat) (ks : D → Res (List D)) (F : DSem) (ρ : Env) : Res (List D) → Out
  | .ok ds => nrO (forF is ks F fg ds (forget ρ fg))
  | _ => .no
def sForI (own : Owns) (f : Env → Res D) (is : List Nat) (ks : D → Res (List D)) (F : DSem) (fg : List Nat) : DSem := fun ρ => andThen (f (maskE own ρ)) ρ fun d => itemsK is fg ks F ρ (itemsOf d)
theorem RepK.get {G : Hp} : ∀ {kvs : List (Key × D)} {ws : List (Key × V)} {i : Nat} {kv : Key × D}, RepK G kvs ws → kvs[i]? = some kv → ∃ v, ws[i]? = some (kv.1, v) ∧ Rep G kv.2 v
  | [], _, _, _, _, e => by simp at e
  | (k, d) :: r, _, 0, _, ⟨v, s, e, h, q⟩, e2 => by simp at e2; subst e2; exact ⟨v, by rw [e]; rfl, h⟩
  | (k, d) :: r, _, i + 1, kv, ⟨v, s, e, h, q⟩, e2 => by
    obtain ⟨w, h1, h2⟩ := RepK.get (i := i) (kv := kv) q (by simpa using e2)
    exact ⟨w, by rw [e]; simpa using h1, h2⟩
theorem RepT.get {G : Hp} : ∀ {kvs : List (List Key × D)} {ws : List (List Key × V)} {i : Nat} {kv : List Key × D}, RepT G kvs ws → kvs[i]? = some kv → ∃ v, ws[i]? = some (kv.1, v) ∧ Rep G kv.2 v
  | [], _, _, _, _, e => by simp at e
  | (k, d) :: r, _, 0, _, ⟨v, s, e, h, q⟩, e2 => by simp at e2; subst e2; exact ⟨v, by rw [e]; rfl, h⟩
  | (k, d) :: r, _, i + 1, kv, ⟨v, s, e, h, q⟩, e2 => by
    obtain ⟨w, h1, h2⟩ := RepT.get (i := i) (kv := kv) q (by simpa using e2)
    exact ⟨w, by rw [e]; simpa using h1, h2⟩
theorem itd_items {G : Hp} {d : Addr} {o : Obj} {kvs : List (Key × D)} {ws : List (Key × V)} (h : G d = some (.frz o (.dK ws))) (r : RepK G kvs ws) : ItD (Iti d o ws) G (kvs.map fun kv => .tup [kD kv.1, kv.2]) := by
  intro G2 H2 i g sb
  have h2 : H2 d = some (.frz o (.dK ws)) := sb _ _ (g _ _ h)
  have r2 := r.le (Le.of g)
  have len : ws.length = kvs.length := by have := congrArg List.length (repK_keys r); simpa using this
  refine ⟨fun x e => ?_, fun e => ⟨h2, by rw [len]; simpa using e⟩⟩
  rw [List.getElem?_map, Option.map_eq_some_iff] at e
  obtain ⟨kv, e1, rfl⟩ := e
  obtain ⟨v, e2, rv⟩ := r2.get e1
  refine ⟨⟨h2, (List.getElem?_eq_some_iff.mp e2).1⟩, fun w H' y => ?_⟩
  obtain ⟨T, k, v', e3, rfl, nT, rfl⟩ := y
  rw [e2] at e3; cases e3
  have ex : Ext G2 H2 (upd G2 T (.tup [kV kv.1, v])) (upd H2 T (.tup [kV kv.1, v])) := Ext.new sb nT
  exact ⟨_, ex, T, _, rfl, upd_same, kV kv.1, [v], rfl, rep_kD kv.1, v, [], rfl, rv.le ex.le, rfl⟩
theorem itd_itemsT {G : Hp} {d : Addr} {o : Obj} {kvs : List (List Key × D)} {ws : List (List Key × V)} (h : G d = some (.frz o (.dT ws))) (r : RepT G kvs ws) : ItD (ItiT d o ws) G (kvs.map fun kv => .tup [.tup (kv.1.map kD), kv.2]) := by
  intro G2 H2 i g sb
  have h2 : H2 d = some (.frz o (.dT ws)) := sb _ _ (g _ _ h)
  have r2 := r.le (Le.of g)
  have len : ws.length = kvs.length := by have := congrArg List.length (repT_keys r); simpa using this
  refine ⟨fun x e => ?_, fun e => ⟨h2, by rw [len]; simpa using e⟩⟩
  rw [List.getElem?_map, Option.map_eq_some_iff] at e
  obtain ⟨kv, e1, rfl⟩ := e
  obtain ⟨v, e2, rv⟩ := r2.get e1
  refine ⟨⟨h2, (List.getElem?_eq_some_iff.mp e2).1⟩, fun w H' y => ?_⟩
  obtain ⟨T, k, v', q, e3, hq, rfl, nT, rfl⟩ := y
  rw [e2] at e3; cases e3
  have ex : Ext G2 H2 (tupG G2 (upd H2 T (.tup [.ref q, v]))) (upd H2 T (.tup [.ref q, v])) := Ext.tups sb fun a o e => by rw [upd_ne (ne_of_none e nT)]; exact e
  exact ⟨_, ex, T, _, rfl, tupG_tup upd_same, .ref q, [v], rfl, ⟨q, _, rfl, tupG_tup (by rw [upd_ne (ne_of_none hq nT)]; exact hq), reps_kD kv.1⟩, v, [], rfl, rv.le ex.le, rfl⟩
theorem OwnK.lkd {k : Kd} {d : Addr} {x u : HO} {G H : Hp} {dd : D} {v : V} {fj : List Addr} (hd : G d = some u) (hH : H d = some u) (hx : ∀ w, (∀ o z, w ≠ .frz o z) → Rd (fun _ => some u) d w → Rd (fun _ => some x) d w) (hu : ∀ vs, u ≠ .tup vs) (n : ∀ p ∈ fj, G p = none) (h2 : OwnK k G H dd v fj) : OwnK k (lkd d x G) (lkd d x H) dd v fj := by
  have l2 : Le2 G (DL.lkd d x G) := le2_lkd hd hx hu
  have nd : d ∉ fj := fun z => by rw [n d z] at hd; cases hd
  have at1 : At H (DL.lkd d x H) fj := ⟨fun p hp => lkd_ne fun z => nd (z ▸ hp), fun a vs e => by
    rw [lkd_ne]; exact e
    intro z; subst z; rw [hH] at e; cases e; exact hu _ rfl⟩
  cases k with
  | sh =>
    obtain ⟨p, e1, e2, h3⟩ := h2
    refine ⟨p, e1, e2, ?_⟩
    have hp := at1.a p (by rw [e2]; exact List.mem_cons_self)
    cases dd with
    | lst ds => obtain ⟨vs, a1, a2⟩ := h3; exact ⟨vs, hp.trans a1, a2.le2 l2⟩
    | dK ds => obtain ⟨vs, a1, a2⟩ := h3; exact ⟨vs, hp.trans a1, a2.le2 l2⟩
    | dT ds => obtain ⟨vs, a1, a2⟩ := h3; exact ⟨vs, hp.trans a1, a2.le2 l2⟩
    | _ => exact h3.elim
  | dp => exact ⟨h2.1.at at1, h2.2⟩
theorem items_hk {X : Cx} {J : Jd} {own : Owns} {fp} {G0 H0 G H : Hp} {σ : L2.St} {ρ : Env} {Dn : Ends} {a : Addr} {o : Obj} {u : HO} {ot : Out} (I : SIf fp G0 H0 own G H σ ρ) (hG : G a = some u) (hu : isDict u) (hn : ∀ o' u', X.H_0 a ≠ some (.frz o' u'))
    (hk : GS X.mg J G0 H0 own Dn (nrO ot)) : GS X.mg ⟨W0, own, [], J.rk⟩ (lkd a (.frz o u) G) (holeH (lkd a (.frz o u) H) fp) own (unlE X.H_0 Dn) ot := by
  have hH : H a = some u := I.sub _ _ hG
  have I2 := I.lkd (x := .frz o u) hG (lock_ok hu) hu.notup
  have b0 : G0 a = none ∨ G0 a = some u := by
    cases r : G0 a with
    | none => exact .inl rfl
    | some w => have := I.ext.g _ _ r; rw [hG] at this; exact .inr this.symm
  have c0 : H0 a = none ∨ H0 a = some u := by
    cases r : H0 a with
    | none => exact .inl rfl
    | some w => have := I.ext.h _ _ r; rw [hH] at this; exact .inr this.symm
  have nt : ∀ vs, HO.frz o u ≠ .tup vs := fun vs z => by cases z
  cases ot with
  | nx ρ' =>
    intro G2 H2 σ2 S2
    obtain ⟨fq, S3⟩ := SI.unground I2 S2
    have hG2 : G2 a = some (.frz o u) := S2.ext.g _ _ (lkd_self (by rw [hG]; simp))
    have hH2 := S2.sub _ _ hG2
    refine .inr ⟨a, o, u, hH2, hn, ?_⟩
    rw [← lkd_upd (by rw [hH2]; simp)]
    have S4 := S3.lkd (x := u) hG2 unlock_ok nt
    rw [lkd_back b0, lkd_back c0] at S4
    exact hk _ _ σ2 ⟨fq, S4⟩
  | rt dd =>
    have hk : RetOk J.rk G0 H0 Dn.rt dd := hk
    show RetOk J.rk _ _ (unl X.H_0 Dn.rt) dd
    unfold RetOk at hk ⊢
    cases q : J.rk with
    | none =>
      rw [q] at hk
      intro G2 H2 v x r
      have hG2 : G2 a = some (.frz o u) := x.g _ _ (lkd_self (by rw [hG]; simp))
      have hH2 := x.s _ _ hG2
      refine .inr ⟨a, o, u, hH2, hn, ?_⟩
      rw [← lkd_upd (by rw [hH2]; simp)]
      have x3 := ext_lkd (x := u) hG2 nt (Ext.unground I2 x)
      rw [lkd_back b0, lkd_back c0] at x3
      exact hk _ _ v x3 (r.le2 (le2_lkd hG2 unlock_ok nt))
    | some k =>
      rw [q] at hk
      intro G2 H2 v fj x ow n
      have hG2 : G2 a = some (.frz o u) := x.g _ _ (lkd_self (by rw [hG]; simp))
      have hH2 := x.s _ _ hG2
      refine .inr ⟨a, o, u, hH2, hn, ?_⟩
      rw [← lkd_upd (by rw [hH2]; simp)]
      have x3 := ext_lkd (x := u) hG2 nt (Ext.unground I2 x)
      rw [lkd_back b0, lkd_back c0] at x3
      exact hk _ _ v fj x3 (ow.lkd hG2 hH2 unlock_ok nt fun p hp => (n p hp).1) fun p hp => ⟨lkd_none.mpr (n p hp).1, lkd_none.mp (unground_none I2 (n p hp).2)⟩
  | _ => exact hk.elim
theorem items_hk0 {X : Cx} {J : Jd} {own : Owns} {fp} {G0 H0 G H : Hp} {σ : L2.St} {ρ : Env} {Dn : Ends} {ot : Out} (I : SIf fp G0 H0 own G H σ ρ) (hk : GS X.mg J G0 H0 own Dn (nrO ot)) : GS X.mg ⟨W0, own, [], J.rk⟩ G (holeH H fp) own (unlE X.H_0 Dn) ot := by
  cases ot with
  | nx ρ' => exact fun G2 H2 σ2 S2 => .inl (hk G2 H2 σ2 (SI.unground I S2))
  | rt dd =>
    have hk : RetOk J.rk G0 H0 Dn.rt dd := hk
    have h2 := RetOk.ground I hk
    show RetOk J.rk _ _ (unl X.H_0 Dn.rt) dd
    unfold RetOk at h2 ⊢
    cases q : J.rk with
    | none => rw [q] at h2; exact fun G2 H2 v x r => .inl (h2 G2 H2 v x r)
    | some k => rw [q] at h2; exact fun G2 H2 v fj x ow n => .inl (h2 G2 H2 v fj x ow n)
  | _ => exact hk.elim
section
variable {X : Cx} {J : Jd} {own : Owns} {pos apos cpos tpos : Pos} {e : Expr} {elts : List Expr} {kk : Nat} {body : List Stmt} {f : Env → Res D} {is fg : List Nat} {ks : D → Res (List D)} {F : DSem}
theorem ds_forI (hp : PassesOwn (model X.prog X.w) X.A X.env X.xe) (hc : X.calm = true) (de : DE X J.W e f) (dg : DG X (.Tuple elts kk tpos) is ks) (db : DSs X ⟨W0, own, [], J.rk⟩ own own body F)
    (hi : ∀ i ∈ is, own.lookup i = none) (hx : oxSub J.ox own = true := by rfl) (hs : ∀ x, foldedSetIterable (.Call (.Attribute e "items" apos) [] [] cpos) X.env x = pure x := by intro _; rfl)
    (hbase : attributeBase e "items" X.env (eval e X.env) = eval e X.env := by rfl) (hline : (apos.endLine == cpos.line) = true := by rfl) : DS X J own own (.For (.Tuple elts kk tpos) (.Call (.Attribute e "items" apos) [] [] cpos) body [] pos) (sForI own f is ks F fg) := by
  obtain ⟨t, pe, h1⟩ := de
  obtain ⟨tg', pg, h3⟩ := dg
  obtain ⟨tb, pb, hb⟩ := db
  refine ⟨_, ps_unl (ps_for hp hc (pi_itemsL pe hbase hline) pg pb hs), fun G0 H0 G H σ ρ Dn ⟨fp, I⟩ h => ?_⟩
  refine h1 G H σ (maskE own ρ) _ I.sub I.masked (toP hx I I.sub h fun d _ hk G' H' ex v rv => ?_)
  have I1 := I.grow ex
  have run : ∀ (G2 H2 : Hp) (It' : It) (ds : List D), SI G2 (holeH H2 fp) own G2 H2 σ ρ → ItD It' G2 ds → GS X.mg ⟨W0, own, [], J.rk⟩ G2 (holeH H2 fp) own (unlE X.H_0 Dn) (forF is ks F fg ds (forget ρ fg)) → _ := fun G2 H2 It' ds I2 hJ hk => for_run (J := ⟨W0, own, [], J.rk⟩) (Dn := unlE X.H_0 Dn) h3 hb hi (I2.forget fg) hJ hk
  cases d with
  | dK kvs =>
    obtain ⟨a, ws, rfl, hR, r⟩ := rv
    rcases hR with hG | ⟨o, hG⟩
    · refine ⟨a, rfl, .inr (.inr (.inl ⟨ws, I1.sub _ _ hG, fun o hn => ?_⟩))⟩
      have I2 := (I1.lkd (x := .frz o (.dK ws)) hG (lock_ok trivial) (fun vs z => by cases z)).ground
      have hk2 := items_hk (o := o) I1 hG trivial hn hk
      have lg : lkd a (.frz o (.dK ws)) G' a = some (.frz o (.dK ws)) := lkd_self (by rw [hG]; simp)
      have := run _ _ (Iti a o ws) _ ⟨fp, I2⟩ (itd_items lg (r.le2 (le2_lkd hG (lock_ok trivial) fun vs z => by cases z))) hk2
      rw [lkd_upd (by rw [I1.sub _ _ hG]; simp)] at this
      exact this
    · exact ⟨a, rfl, .inl ⟨o, ws, I1.sub _ _ hG, run _ _ (Iti a o ws) _ ⟨fp, I1.ground⟩ (itd_items hG r) (items_hk0 I1 hk)⟩⟩
  | dT kvs =>
    obtain ⟨a, ws, rfl, hR, r⟩ := rv
    rcases hR with hG | ⟨o, hG⟩
    · refine ⟨a, rfl, .inr (.inr (.inr ⟨ws, I1.sub _ _ hG, fun o hn => ?_⟩))⟩
      have I2 := (I1.lkd (x := .frz o (.dT ws)) hG (lock_ok trivial) (fun vs z => by cases z)).ground
      have hk2 := items_hk (o := o) I1 hG trivial hn hk
      have lg : lkd a (.frz o (.dT ws)) G' a = some (.frz o (.dT ws)) := lkd_self (by rw [hG]; simp)
      have := run _ _ (ItiT a o ws) _ ⟨fp, I2⟩ (itd_itemsT lg (r.le2 (le2_lkd hG (lock_ok trivial) fun vs z => by cases z))) hk2
      rw [lkd_upd (by rw [I1.sub _ _ hG]; simp)] at this
      exact this
    · exact ⟨a, rfl, .inr (.inl ⟨o, ws, I1.sub _ _ hG, run _ _ (ItiT a o ws) _ ⟨fp, I1.ground⟩ (itd_itemsT hG r) (items_hk0 I1 hk)⟩)⟩
  | _ => exact hk.elim
end
end DL

/-! DL25: a def that changes what its first argument owns; a name for a place in it. -/
namespace DL
open PySem PySem.Spec PyProof.Rows L2
def minusH (H : Hp) (fp : List Addr) : Hp := fun a => if a ∈ fp then none else H a
theorem minus_some {H : Hp} {fp : List Addr} {a : Addr} {o : HO} (h : minusH H fp a = some o) : H a = some o ∧ a ∉ fp := by
  unfold minusH at h
  split at h
  · cases h
  · rename_i q; exact ⟨h, q⟩
theorem minus_out {H : Hp} {fp : List Addr} {a : Addr} (h : a ∉ fp) : minusH H fp a = H a := if_neg h
theorem minus_in {H : Hp} {fp : List Addr} {a : Addr} (h : a ∈ fp) : minusH H fp a = none := if_pos h
theorem minus_none {H : Hp} {fp : List Addr} {a : Addr} (h : minusH H fp a = none) : H a = none ∨ a ∈ fp := by
  unfold minusH at h
  split at h
  · rename_i q; exact .inr q
  · exact .inl h
/-- the promise: it changes what its first argument owns, and answers a datum that leans on tuples alone -/
def spIO (n : Nat) (m : List D → Res (D × D)) : Sp := fun vs H Q E => vs.length = n ∧ ∃ v0 vr d0 ds fp, vs = v0 :: vr ∧ RepO H d0 v0 fp ∧ fp.Nodup ∧ imms ds = true ∧ Reps H ds vr ∧ match m (d0 :: ds) with
  | .ok (r, d1) => imm r = true ∧ ∀ H' v fj, (∀ a o, H a = some o → a ∉ fp → H' a = some o) → RepO H' d1 v0 fj → fj.Nodup → (∀ q ∈ fj, q ∈ fp ∨ H q = none) → Rep H' r v → Q v H'
  | _ => False
inductive AOut where
  | nx (ρ : Env) | rt (d : D) (ρ : Env) | no
/-- slot r names the place p in what slot j owns, which stands at v0 -/
def AlI (j r : Nat) (p : List Stp) (v0 : V) (G0 H0 : Hp) (own : Owns) (G H : Hp) (σ : L2.St) (ρ : Env) : Prop :=
  ∃ fp v', SIf fp G0 H0 own G H σ ρ ∧ σ[j]? = some (some v0) ∧ σ[r]? = some (some v') ∧ AtV H v0 p v' ∧ ∃ d1 c, ρ[j]? = some (some d1) ∧ getP d1 p = some c
def GSA (j r : Nat) (p : List Stp) (v0 : V) (G0 H0 : Hp) (own : Owns) (Dn : Ends) : AOut → Prop
  | .nx ρ => ∀ G H σ, AlI j r p v0 G0 H0 own G H σ ρ → Dn.nx σ H
  | .rt d ρ => imm d = true ∧ ∀ G H σ v, AlI j r p v0 G0 H0 own G H σ ρ → Rep H d v → Dn.rt v H
  | .no => False
abbrev ASem := List Stp → Env → AOut
def DSA (X : Cx) (j r : Nat) (own : Owns) (st : Stmt) (F : ASem) : Prop :=
  ∃ t : TS, PS X st t ∧ ∀ (p : List Stp) (v0 : V) (G0 H0 G H : Hp) (σ : L2.St) (ρ : Env) (Dn : Ends), AlI j r p v0 G0 H0 own G H σ ρ → GSA j r p v0 G0 H0 own Dn (F p ρ) → t Dn σ H
def DSAs (X : Cx) (j r : Nat) (own : Owns) (st : List Stmt) (F : ASem) : Prop :=
  ∃ t : TS, PSs X st t ∧ ∀ (p : List Stp) (v0 : V) (G0 H0 G H : Hp) (σ : L2.St) (ρ : Env) (Dn : Ends), AlI j r p v0 G0 H0 own G H σ ρ → GSA j r p v0 G0 H0 own Dn (F p ρ) → t Dn σ H
def aNext : ASem := fun _ ρ => .nx ρ
def aSeq (F1 F2 : ASem) : ASem := fun p ρ => match F1 p ρ with
  | .nx ρ' => F2 p ρ'
  | o => o
/-- the slots as they are read: slot r holds what stands at the place -/
def rdA (j r : Nat) (p : List Stp) (ρ : Env) : Env := match ρ[j]? with
  | some (some d1) => (match getP d1 p with
    | some c => ρ.set r (some c)
    | none => ρ)
  | _ => ρ
def aThen {α : Type} (x : Res α) (k : α → AOut) : AOut := match x with
  | .ok a => k a
  | _ => .no
section
variable {X : Cx} {own : Owns} {j r : Nat} {st : Stmt} {rest : List Stmt} {F F1 F2 : ASem} {e : Expr} {f : Env → Res D} {pos : Pos}
theorem dsa_nil : DSAs X j r own [] aNext := ⟨_, pss_nil, fun p v0 G0 H0 G H σ ρ Dn I h => h G H σ I⟩
theorem dsa_one (d : DSA X j r own st F) : DSAs X j r own [st] F := let ⟨t, p, h⟩ := d; ⟨t, pss_one p, h⟩
theorem dsa_cons (d1 : DSA X j r own st F1) (d2 : DSAs X j r own rest F2) : DSAs X j r own (st :: rest) (aSeq F1 F2) := by
  obtain ⟨t1, p1, h1⟩ := d1
  obtain ⟨t2, p2, h2⟩ := d2
  refine ⟨_, pss_cons p1 p2, fun p v0 G0 H0 G H σ ρ Dn I h => ?_⟩
  refine h1 p v0 G0 H0 G H σ ρ { Dn with nx := t2 Dn } I ?_
  unfold aSeq at h
  cases q : F1 p ρ with
  | nx ρ' => rw [q] at h; exact fun G' H' σ' I' => h2 p v0 G0 H0 G' H' σ' ρ' Dn I' h
  | rt d ρ' => rw [q] at h; exact h
  | no => rw [q] at h; exact h
theorem AlI.view {p : List Stp} {v0 : V} {G0 H0 G H : Hp} {σ : L2.St} {ρ : Env} (hj : own.lookup j = some .dp) (I : AlI j r p v0 G0 H0 own G H σ ρ) : Sub (viewG H0 G H) H ∧ EnvR (viewG H0 G H) σ (rdA j r p ρ) := by
  obtain ⟨fp, v', I, h0, hr, ha, d1, c, hd, g⟩ := I
  refine ⟨(view_ext I.ext).s, ?_⟩
  obtain ⟨f1, f, f2, nd, ef, o, _⟩ := I.place hj hd h0 ha g
  have rc : Rep (viewG H0 G H) c v' := o.rep (view_at fun q hq => (I.fpm j q (by rw [ef]; simp [hq])).2.1)
  have e : rdA j r p ρ = ρ.set r (some c) := by unfold rdA; rw [hd]; simp only; rw [g]
  rw [e]
  refine ⟨by rw [List.length_set]; exact I.len, fun i d q => ?_⟩
  by_cases hi : r = i
  · subst hi
    have hl : r < ρ.length := by
      have := (List.getElem?_eq_some_iff.mp q).1
      simpa using this
    rw [List.getElem?_set_self hl] at q
    cases q
    exact ⟨v', hr, rc⟩
  · rw [List.getElem?_set_ne hi] at q
    exact I.view.val i d q
theorem AlI.grow {p : List Stp} {v0 : V} {G0 H0 G H H' : Hp} {σ : L2.St} {ρ : Env} (I : AlI j r p v0 G0 H0 own G H σ ρ) (h : ∀ a o, H a = some o → H' a = some o) : AlI j r p v0 G0 H0 own (tupG G H') H' σ ρ := by
  obtain ⟨fp, v', I, h0, hr, ha, d1, c, hd, g⟩ := I
  exact ⟨fp, v', I.grow (Ext.tups I.sub h), h0, hr, ha.up h, d1, c, hd, g⟩
theorem onAl {p : List Stp} {v0 : V} {t : TE} {G0 H0 G H : Hp} {σ : L2.St} {ρ : Env} {Dn : Ends} {k : D → AOut} {Q : VK} (hj : own.lookup j = some .dp)
    (h1 : ∀ (G H : Hp) (σ : L2.St) (ρ : Env) (Q : VK), Sub G H → EnvR G σ ρ → GlE X.mg W0 G H σ Q (f ρ) → t σ H Q) (I : AlI j r p v0 G0 H0 own G H σ ρ) (h : GSA j r p v0 G0 H0 own Dn (aThen (f (rdA j r p ρ)) k))
    (hP : ∀ d, GSA j r p v0 G0 H0 own Dn (k d) → ∀ G' H' v, (∀ a o, H a = some o → H' a = some o) → Sub G' H' → AlI j r p v0 G0 H0 own (tupG G H') H' σ ρ → Rep G' d v → (imm d = true → Rep H' d v) → Q v H') : t σ H Q := by
  obtain ⟨s, er⟩ := I.view hj
  refine h1 _ H σ _ Q s er ?_
  cases q : f (rdA j r p ρ) with
  | ok d => rw [q] at h; exact fun G' H' ex v rv => hP d h G' H' v ex.h ex.s (I.grow ex.h) rv fun hi => rv.le (Le.of ex.s)
  | ex c => rw [q] at h; exact h.elim
  | no => rw [q] at h; exact h.elim
def aIf (fc : Env → Res Bool) (j r : Nat) (F1 F2 : ASem) : ASem := fun p ρ => aThen (fc (rdA j r p ρ)) fun b => if b = true then F1 p ρ else F2 p ρ
theorem dsa_if {c : Expr} {a b : List Stmt} {fc : Env → Res Bool} (hj : own.lookup j = some .dp) (d : DT X W0 c fc) (d1 : DSAs X j r own a F1) (d2 : DSAs X j r own b F2) : DSA X j r own (.If c a b pos) (aIf fc j r F1 F2) := by
  obtain ⟨t, pt, h1⟩ := d
  obtain ⟨ta, pa, ha⟩ := d1
  obtain ⟨tb, pb, hb⟩ := d2
  refine ⟨_, ps_if pt pa pb, fun p v0 G0 H0 G H σ ρ Dn I h => ?_⟩
  obtain ⟨s, er⟩ := I.view hj
  refine h1 _ H σ _ _ s er ?_
  unfold aIf aThen at h
  cases q : fc (rdA j r p ρ) with
  | ok x =>
    rw [q] at h
    intro G' H' ex
    have I' := I.grow ex.h
    cases x with
    | true => exact ha p v0 G0 H0 _ H' σ ρ Dn I' h
    | false => exact hb p v0 G0 H0 _ H' σ ρ Dn I' h
  | ex c => rw [q] at h; exact h.elim
  | no => rw [q] at h; exact h.elim
/-- return of a datum that leans on tuples alone -/
def aRet (j r : Nat) (f : Env → Res D) : ASem := fun p ρ => aThen (f (rdA j r p ρ)) fun d => if imm d = true then .rt d ρ else .no
theorem dsa_ret (hj : own.lookup j = some .dp) (d : DE X W0 e f) : DSA X j r own (.Return (some e) pos) (aRet j r f) := by
  obtain ⟨t, pe, h1⟩ := d
  refine ⟨_, ps_ret pe, fun p v0 G0 H0 G H σ ρ Dn I h => ?_⟩
  refine onAl hj h1 I h fun d hk G' H' v _ _ I' _ ri => ?_
  split at hk
  · rename_i hi
    exact hk.2 _ H' σ v I' (ri hi)
  · exact hk.elim
/-- row[k] = v -/
def aPutK (j : Nat) (p : List Stp) (ρ : Env) (k d : D) : AOut := match ρ[j]? with
  | some (some d1) => (match getP d1 p with
    | some (.dK kvs) => (match keyD k with
      | some kk => if kvs.length < sizeLine then .nx (ρ.set j (some (setP d1 p (.dK (putA kvs kk d))))) else .no
      | none => .no)
    | _ => .no)
  | _ => .no
def aPut (j r : Nat) (fk fv : Env → Res D) : ASem := fun p ρ => aThen (fv (rdA j r p ρ)) fun d => if imm d = true then aThen (fk (rdA j r p ρ)) fun k => aPutK j p ρ k d else .no
theorem getP_setP : ∀ {p : List Stp} {d1 c c' : D}, getP d1 p = some c → ∃ c2, getP (setP d1 p c') p = some c2
  | [], d1, c, c', _ => ⟨c', rfl⟩
  | s :: p, d1, c, c', h => by
    unfold getP at h
    cases g1 : getS d1 s with
    | none => rw [g1] at h; cases h
    | some e =>
      rw [g1] at h
      obtain ⟨c2, h2⟩ := getP_setP (c' := c') (show getP e p = some c from h)
      refine ⟨c2, ?_⟩
      show (getS (setP d1 (s :: p) c') s).bind _ = _
      have : setP d1 (s :: p) c' = setSt d1 s (setP e p c') := by
        show (match getS d1 s with | some e => setSt d1 s (setP e p c') | none => d1) = _
        rw [g1]
      rw [this]
      have : getS (setSt d1 s (setP e p c')) s = some (setP e p c') := by
        cases d1 <;> cases s <;> simp only [getS] at g1 <;> try (cases g1; done)
        · show (List.set _ _ _)[_]? = _
          exact List.getElem?_set_self (List.getElem?_eq_some_iff.mp g1).1
        · show (List.set _ _ _)[_]? = _
          exact List.getElem?_set_self (List.getElem?_eq_some_iff.mp g1).1
        · rename_i kvs k
          show getA (setA kvs k (setP e p c')) k = _
          have gs : ∀ kvs : List (Key × D), (getA kvs k).isSome = true → getA (setA kvs k (setP e p c')) k = some (setP e p c') := fun kvs => by
            induction kvs with
            | nil => intro h; simp [getA] at h
            | cons kv r ih =>
              obtain ⟨k', x⟩ := kv
              intro h
              unfold setA
              by_cases q : k' = k
              · subst q; simp [getA]
              · rw [if_neg q]
                have h' : (getA r k).isSome = true := by simpa [getA, List.find?_cons, q] using h
                have := ih h'
                simpa [getA, List.find?_cons, q] using this
          exact gs kvs (by rw [g1]; rfl)
        · rename_i kvs k
          show getA (setA kvs k (setP e p c')) k = _
          have gs : ∀ kvs : List (List Key × D), (getA kvs k).isSome = true → getA (setA kvs k (setP e p c')) k = some (setP e p c') := fun kvs => by
            induction kvs with
            | nil => intro h; simp [getA] at h
            | cons kv r ih =>
              obtain ⟨k', x⟩ := kv
              intro h
              unfold setA
              by_cases q : k' = k
              · subst q; simp [getA]
              · rw [if_neg q]
                have h' : (getA r k).isSome = true := by simpa [getA, List.find?_cons, q] using h
                have := ih h'
                simpa [getA, List.find?_cons, q] using this
          exact gs kvs (by rw [g1]; rfl)
      rw [this]
      exact h2
theorem dsa_put {row : Str} {i value : Expr} {pos1 pos' : Pos} {fk fv : Env → Res D} (hu : X.A.units + 1 < cLine) (hj : own.lookup j = some .dp) (pr : PE X (.Name row pos1) (tVar r)) (dk : DE X W0 i fk) (dv : DE X W0 value fv)
    (hs : swapsWith value (some (.Subscript (.Name row pos1) i pos')) pos.line X.env = pure false := by rfl) : DSA X j r own (.Assign [.Subscript (.Name row pos1) i pos'] value pos) (aPut j r fk fv) := by
  obtain ⟨tk, pk, hk⟩ := dk
  obtain ⟨tv, pv, hv⟩ := dv
  refine ⟨_, ps_dput hu pr pk pv hs, fun p v0 G0 H0 G H σ ρ Dn I h => ?_⟩
  refine onAl hj hv I h fun d hd G1 H1 y ex1 s1 I1 _ ry => ?_
  split at hd
  · rename_i hi
    have I1' := I1
    obtain ⟨fp, v', J1, h0, hr, ha, d1, c, hd1, g⟩ := I1'
    refine ⟨v', hr, ?_⟩
    refine onAl hj hk I1 hd fun k hk2 G2 H2 kv ex2 s2 I2 rk _ => ?_
    have ry2 : Rep H2 d y := Rep.imm (fun a vs q => ex2 _ _ q) hi (ry hi)
    obtain ⟨fp2, v2, J2, h02, hr2, ha2, d2, c2, hd2, g2⟩ := I2
    rw [hr] at hr2; cases hr2
    rw [hd1] at hd2; cases hd2
    rw [g] at g2; cases g2
    unfold aPutK at hk2
    rw [hd1] at hk2
    simp only at hk2
    rw [g] at hk2
    cases c with
    | dK kvs =>
      simp only at hk2
      split at hk2
      · rename_i kk ek
        split at hk2
        · rename_i hz
          obtain ⟨f1, fc, f2, nd, ef, oc, upd'⟩ := J2.place hj hd1 h0 ha2 g
          obtain ⟨a, ws, fq, ea, hH, efc, rr⟩ := oc
          subst ea efc
          have inc : ∀ q ∈ a :: fq, q ∈ fp2 j := fun q hq => by rw [ef]; exact List.mem_append_right _ (List.mem_append_left _ hq)
          have ndc : (a :: fq).Nodup := (List.nodup_append.mp (List.nodup_append.mp (ef ▸ nd)).2.1).1
          have rp := repOK_iff.mp rr
          have lw : ws.length = kvs.length := (rp.rep (G := H2) ⟨fun _ _ => rfl, fun _ _ e => e⟩).length
          have na : a ∉ fq := (List.nodup_cons.mp ndc).1
          have at1 : ∀ {fz : List Addr}, a ∉ fz → At H2 (upd H2 a (.dK (putK ws kk y))) fz := fun hz => ⟨fun q hq => upd_ne fun z => hz (z ▸ hq), fun b ws' e => by rw [upd_ne (ne_of e hH (by intro z; cases z))]; exact e⟩
          obtain ⟨fq', q1, q2, q3⟩ := (rp.at (at1 na)).put (k := kk) (d := d) (fd := []) ((RepO.of_imm hi ry2).at (at1 (by simp))) (.inl rfl) (List.nodup_cons.mp ndc).2 List.nodup_nil (fun q hq hq2 => by cases hq2)
          obtain ⟨⟨fpn, W, _⟩, hat⟩ := J2.pathWrite (H' := upd H2 a (.dK (putK ws kk y))) (d'' := .dK (putA kvs kk d)) (f' := a :: fq') hj h0 nd ef upd' ⟨a, _, fq', rfl, upd_same, rfl, repOK_iff.mpr q1⟩ (List.nodup_cons.mpr ⟨fun z => (q2 a z).elim na (by simp), q3⟩)
            (fun q hq => by
              rcases List.mem_cons.mp hq with z | hq
              · exact .inl (by rw [z]; exact List.mem_cons_self)
              · rcases q2 q hq with z | z
                · exact .inl (List.mem_cons_of_mem _ z)
                · cases z) (fun b hb => .inl (upd_ne fun z => hb (by rw [z]; exact List.mem_cons_self)))
          have hl : j < ρ.length := (List.getElem?_eq_some_iff.mp hd1).1
          obtain ⟨c2, gc2⟩ := getP_setP (c' := .dK (putA kvs kk d)) g
          refine ⟨a, _, rfl, by rw [keyD_rep ek (rk.le (Le.of s2))]; exact DPut.k hH (by rw [lw]; exact hz), ?_⟩
          exact hk2 _ _ σ ⟨fpn, .ref a, W, h0, hr, hat, _, c2, List.getElem?_set_self hl, gc2⟩
        · exact hk2.elim
      · exact hk2.elim
    | _ => exact hk2.elim
  · exact hd.elim
end
/-! ### such a def -/
/-- name = place, then the rest -/
def ioF (j r : Nat) (sel : Sel) (F : ASem) : Env → AOut := fun ρ => match sel ρ with
  | .ok (d1, p) => if (getP d1 p).isSome = true then F p ((ρ.set j (some d1)).set r none) else .no
  | _ => .no
def runIO (N : Nat) (F : Env → AOut) (ds : List D) : Res (D × D) := match F (startE N ds) with
  | .rt d ρ => (match ρ[0]? with
    | some (some d1) => .ok (d, d1)
    | _ => .no)
  | .nx ρ => (match ρ[0]? with
    | some (some d1) => .ok (.non, d1)
    | _ => .no)
  | .no => .no
section
variable {P : Program} {w : World} {K : PySem.W.Frag} {mg : Str → Option Value} {base : Heap}
theorem lookup_one {i : Nat} (h : i ≠ 0) : ([(0, Kd.dp)] : Owns).lookup i = none := by rw [List.lookup_cons, show (i == 0) = false by simpa using h]; rfl
theorem start_imm {N : Nat} {d0 : D} {ds : List D} (hi : imms ds = true) {i : Nat} {d : D} (h : (startE N (d0 :: ds))[i]? = some (some d)) (h0 : i ≠ 0) : imm d = true := by
  have all : ∀ {ds : List D}, imms ds = true → ∀ d ∈ ds, imm d = true := fun {ds} => by
    induction ds with
    | nil => intro _ d hd; cases hd
    | cons x r ih =>
      intro h d hd
      simp only [imms, Bool.and_eq_true] at h
      rcases List.mem_cons.mp hd with rfl | hd
      · exact h.1
      · exact ih h.2 d hd
  unfold startE at h
  cases i with
  | zero => exact absurd rfl h0
  | succ i =>
    simp only [List.map_cons, List.cons_append, List.getElem?_cons_succ] at h
    by_cases hl : i < ds.length
    · rw [List.getElem?_append_left (by simpa using hl), List.getElem?_map] at h
      cases q : ds[i]? with
      | none => rw [q] at h; cases h
      | some x =>
        rw [q] at h
        have : x = d := by simpa using h
        subst this
        exact all hi x (List.mem_of_getElem? q)
    · rw [List.getElem?_append_right (by simpa using hl), List.getElem?_replicate] at h
      split at h <;> cases h
theorem def_okIO {x qual row : Str} {st : Stmt} {f : Addr} {fd : FuncData} {N ps : List Str} {k r : Nat} {sel : Sel} {F : ASem} {e : Expr} {rest : List Stmt} {pos pos' : Pos} (Fn : Fun K x qual st f fd) (S : FnScope N ps (defScope st)) (hr0 : r ≠ 0) (hrN : r < N.length) (hbody : defBody st = .Assign [.Name row pos'] e pos :: rest)
    (hb : ∀ (cdv : Value) (A : Around) (outer : List PySem.Env) (s : Shared) (H : Hp) (E : XK), Room k (A.deeper (envOfC qual (defScope st) s.heap.objs.size f cdv)) →
      DP (cxOf (L2.CX P w) P w K mg base N qual (defScope st) f cdv A outer s H E) [(0, .dp)] 0 e sel ∧ (∀ t, PE (cxOf (L2.CX P w) P w K mg base N qual (defScope st) f cdv A outer s H E) e t → PS (cxOf (L2.CX P w) P w K mg base N qual (defScope st) f cdv A outer s H E) (.Assign [.Name row pos'] e pos) (tAsg t (gName r))) ∧
      DSAs (cxOf (L2.CX P w) P w K mg base N qual (defScope st) f cdv A outer s H E) 0 r [(0, .dp)] rest F) :
    FnOk P w K mg base (L2.CX P w) (k + 1) f fd ps (spIO ps.length (runIO N.length (ioF 0 r sel F))) := by
  refine Fn.okX S (fun vs H Q E h => h.1) fun cdv A outer s H vs Q E hr h => ?_
  obtain ⟨⟨t1, p1, h1⟩, hset, t2, p2, h2⟩ := hb cdv A outer s H E hr
  obtain ⟨hl, v0, vr, d0, ds, fp, ev, o, nd, hi, rs, hq⟩ := h
  subst ev
  refine ⟨_, by rw [hbody]; exact pss_cons (hset t1 p1) p2, ?_⟩
  have mf := o.mut
  have o' : Rep H d0 v0 := o.rep ⟨fun _ _ => rfl, fun _ _ e => e⟩
  have er := startR (N := N) (show Reps H (d0 :: ds) (v0 :: vr) from ⟨v0, vr, rfl, o', rs⟩)
  have tn : ∀ a vs, H a = some (.tup vs) → minusH H fp a = some (.tup vs) := fun a vs e => by
    rw [minus_out]; exact e
    intro z; have := mf a z; rw [e] at this; exact this
  have I : SIf (fun i => if i = 0 then fp else []) (minusH H fp) (minusH H fp) [(0, .dp)] (minusH H fp) H (L2.start N (v0 :: vr)) (startE N.length (d0 :: ds)) := by
    refine ⟨⟨fun a o e => (minus_some e).1, fun _ _ e => e, fun a o e => (minus_some e).1, fun a o e => .inl e⟩, er.len, fun i d e q => ?_, fun i k d q e => ?_, fun i p hp => ?_, fun i j p hne hp => ?_⟩
    · obtain ⟨v, g1, g2⟩ := er.val i d e
      have hi0 : i ≠ 0 := fun z => by subst z; simp at q
      exact ⟨v, g1, Rep.imm tn (start_imm hi e hi0) g2⟩
    · by_cases hi0 : i = 0
      · subst hi0
        have ek : k = .dp := by have : some Kd.dp = some k := q; cases this; rfl
        subst ek
        have ed : d = d0 := by
          have : (startE N.length (d0 :: ds))[0]? = some (some d0) := by simp [startE]
          rw [this] at e; cases e; rfl
        subst ed
        exact ⟨v0, by simp [L2.start], o, nd⟩
      · rw [lookup_one hi0] at q; cases q
    · by_cases hi0 : i = 0
      · subst hi0
        have hp : p ∈ fp := by simpa using hp
        exact ⟨minus_in hp, minus_in hp, mf p hp⟩
      · simp [hi0] at hp
    · by_cases hi0 : i = 0
      · subst hi0
        by_cases hj0 : j = 0
        · exact absurd hj0.symm hne
        · simp [hj0]
      · simp [hi0] at hp
  unfold runIO ioF at hq
  cases q : sel (startE N.length (d0 :: ds)) with
  | ok x =>
    obtain ⟨d1, p⟩ := x
    rw [q] at hq
    by_cases gs : (getP d1 p).isSome = true
    rotate_left
    · simp only [if_neg gs] at hq
    simp only [if_pos gs] at hq
    refine h1 _ _ _ _ H _ _ _ I ⟨d1, p, q, fun fp' G' H' v0' v' kp I' hv ha => ?_⟩
    have hv0 : v0' = v0 := by
      have : (L2.start N (v0 :: vr))[0]? = some (some v0) := by simp [L2.start]
      rw [this] at hv; cases hv; rfl
    subst hv0
    have hl0 : 0 < (startE N.length (d0 :: ds)).length := by simp [startE]
    have hd1 : ((startE N.length (d0 :: ds)).set 0 (some d1))[0]? = some (some d1) := List.getElem?_set_self hl0
    have gc : ∃ c, getP d1 p = some c := Option.isSome_iff_exists.mp gs
    obtain ⟨c, gc⟩ := gc
    by_cases hrl : r < (L2.start N (v0' :: vr)).length
    · have AI : AlI 0 r p v0' (minusH H fp) (minusH H fp) [(0, .dp)] G' H' ((L2.start N (v0' :: vr)).set r (some v')) (((startE N.length (d0 :: ds)).set 0 (some d1)).set r none) := by
        refine ⟨fp', v', ?_, ?_, List.getElem?_set_self hrl, ha, d1, c, ?_, gc⟩
        · refine ⟨I'.ext, by simpa using I'.len, fun i d e q => ?_, fun i k d q e => ?_, I'.fpm, I'.fpd⟩
          · by_cases hi2 : r = i
            · subst hi2
              rw [List.getElem?_set_self (by rw [I'.len]; exact hrl)] at e; cases e
            · rw [List.getElem?_set_ne hi2] at e
              obtain ⟨v, g1, g2⟩ := I'.val i d e q
              exact ⟨v, by rw [List.getElem?_set_ne hi2]; exact g1, g2⟩
          · have hi2 : r ≠ i := fun z => by subst z; rw [lookup_one hr0] at q; cases q
            rw [List.getElem?_set_ne hi2] at e
            obtain ⟨v, g1, g2⟩ := I'.own i k d q e
            exact ⟨v, by rw [List.getElem?_set_ne hi2]; exact g1, g2⟩
        · rw [List.getElem?_set_ne hr0]; exact hv
        · rw [List.getElem?_set_ne hr0]; exact hd1
      refine h2 p v0' _ _ G' H' _ _ _ AI ?_
      have fin : ∀ (ρ' : Env) (r' : D) (d1' : D) (G3 H3 : Hp) (σ3 : L2.St) (v : V), ρ'[0]? = some (some d1') → AlI 0 r p v0' (minusH H fp) (minusH H fp) [(0, .dp)] G3 H3 σ3 ρ' → Rep H3 r' v →
          (∀ H' v fj, (∀ a o, H a = some o → a ∉ fp → H' a = some o) → RepO H' d1' v0' fj → fj.Nodup → (∀ q ∈ fj, q ∈ fp ∨ H q = none) → Rep H' r' v → Q v H') → Q v H3 := by
        intro ρ' r' d1' G3 H3 σ3 v e ⟨fp3, v3, I3, g0, _, _, _, _, _, _⟩ rv hq
        obtain ⟨v2, g1, g2⟩ := I3.own 0 .dp d1' rfl e
        rw [g0] at g1; cases g1
        refine hq H3 v (fp3 0) (fun a o e hn => I3.ext.h a o (by rw [minus_out hn]; exact e)) g2.1 g2.2 (fun q hq => ?_) rv
        exact (minus_none (I3.fpm 0 q hq).2.1).symm
      cases z : F p (((startE N.length (d0 :: ds)).set 0 (some d1)).set r none) with
      | rt d ρ' =>
        rw [z] at hq
        simp only at hq
        cases e : ρ'[0]? with
        | none => rw [e] at hq; exact hq.elim
        | some y =>
          cases y with
          | none => rw [e] at hq; exact hq.elim
          | some d1' =>
            rw [e] at hq
            exact ⟨hq.1, fun G3 H3 σ3 v I3 rv => fin ρ' d d1' G3 H3 σ3 v e I3 rv hq.2⟩
      | nx ρ' =>
        rw [z] at hq
        simp only at hq
        cases e : ρ'[0]? with
        | none => rw [e] at hq; exact hq.elim
        | some y =>
          cases y with
          | none => rw [e] at hq; exact hq.elim
          | some d1' =>
            rw [e] at hq
            exact fun G3 H3 σ3 I3 => fin ρ' .non d1' G3 H3 σ3 .non e I3 rfl hq.2
      | no => rw [z] at hq; exact hq.elim
    · exact absurd (by simp [L2.start]; omega) hrl
  | ex c => rw [q] at hq; exact hq.elim
  | no => rw [q] at hq; exact hq.elim
end
end DL

/-! DL26: calls of such defs; defs that take over what they are handed. -/
namespace DL
open PySem PySem.Spec PyProof.Rows L2
def ioK (n : Nat) (m : List D → Res (D × D)) (d0 : D) (k : D → D → Out) (ds : List D) : Out :=
  if imms ds = true ∧ ds.length + 1 = n then (match m (d0 :: ds) with
    | .ok (r, d1) => if imm r = true then k r d1 else .no
    | _ => .no) else .no
def ioR (j n : Nat) (m : List D → Res (D × D)) (fa : Env → Res (List D)) (k : D → Env → Out) (ρ : Env) : Option (Option D) → Out
  | some (some d0) => andThen (fa ρ) ρ (ioK n m d0 fun r d1 => k r (ρ.set j (some d1)))
  | _ => .no
def ioSem (j n : Nat) (m : List D → Res (D × D)) (fa : Env → Res (List D)) (k : D → Env → Out) : DSem := fun ρ => ioR j n m fa k ρ ρ[j]?
section
variable {X : Cx} {J : Jd} {own own1 : Owns} {j n k : Nat} {f : Addr} {fd : FuncData} {ps : List Str} {x : Str} {e0 : Expr} {es : List Expr} {p pos pos' : Pos} {fa : Env → Res (List D)} {m : List D → Res (D × D)}
theorem io_reads {t2 : TA} {G0 H0 G H : Hp} {σ : L2.St} {ρ : Env} {Dn : Ends} {kk : D → Env → Out} {Q : VK} {E : L2.St → XK} (hj : own.lookup j = some .dp) (hx : oxSub J.ox own = true)
    (h2 : ∀ (G H : Hp) (σ : L2.St) (ρ : Env) (Q : List V → Hp → Prop), Sub G H → EnvR G σ ρ → GlA X.mg J.W G H σ Q (fa ρ) → t2 σ H Q) (I : SI G0 H0 own G H σ ρ) (h : GS X.mg J G0 H0 own1 Dn (ioSem j n m fa kk ρ))
    (hP : ∀ r d1, GS X.mg J G0 H0 own1 Dn (kk r (ρ.set j (some d1))) → ∀ G' H' v, SI G0 H0 own G' H' σ (ρ.set j (some d1)) → Rep H' r v → Q v H') : tCallS (spIO n m) E (tCons (tVar j) t2) σ H Q := by
  obtain ⟨fp, I⟩ := I
  unfold ioSem at h
  cases q : ρ[j]? with
  | none => rw [q] at h; exact h.elim
  | some y =>
    cases y with
    | none => rw [q] at h; exact h.elim
    | some d0 =>
      rw [q] at h
      obtain ⟨v0, hv, o⟩ := I.own j .dp d0 hj q
      refine ⟨v0, hv, ?_⟩
      have s := (view_ext I.ext).s
      refine h2 _ H σ ρ _ s I.view (toP hx I s h fun ds _ hk G' H' e vs rv => ?_)
      have I' := I.grow (Ext.tups I.sub e.h)
      obtain ⟨v0', hv', o'⟩ := I'.own j .dp d0 hj q
      rw [hv] at hv'; cases hv'
      unfold ioK at hk
      split at hk
      · rename_i hc
        refine ⟨by show vs.length + 1 = n; rw [rv.length]; exact hc.2, v0, vs, d0, ds, fp j, rfl, o'.1, o'.2, hc.1, rv.le (Le.of e.s), ?_⟩
        cases qm : m (d0 :: ds) with
        | ok z =>
          obtain ⟨r, d1⟩ := z
          rw [qm] at hk
          simp only at hk
          split at hk
          · rename_i hi
            refine ⟨hi, fun H3 v fj fr o3 nd hn rr => ?_⟩
            have ch := I'.change (H' := H3) (d := d1) (fj := fj) hj hv (fun a ha => by
                cases z : H' a with
                | none => exact .inr ⟨rfl, I'.ext.free z⟩
                | some w => exact .inl (fr a w z ha)) ⟨o3, nd⟩ (fun q hq => by
                  rcases hn q hq with z | z
                  · exact ⟨(I'.fpm j q z).1, (I'.fpm j q z).2.1⟩
                  · exact ⟨upd_none I'.sub z, I'.ext.free z⟩) (fun i q hne hq hq2 => by
                  rcases hn q hq2 with z | z
                  · exact I'.fpd i j q hne hq z
                  · have := (I'.fpm i q hq).2.2; rw [z] at this; exact this) (fun q hq vs z => by have := (I'.fpm j q hq).2.2; rw [z] at this; exact this)
            exact hP r d1 hk _ H3 v ⟨_, ch⟩ rr
          · exact hk.elim
        | ex c => rw [qm] at hk; exact hk.elim
        | no => rw [qm] at hk; exact hk.elim
      · exact hk.elim
/-- if f(x, ..): f changes what slot j (x) owns, and answers a truth -/
def ifIO (F1 F2 : DSem) (r : D) (ρ : Env) : Out := match r with
  | .bl b => if b = true then F1 ρ else F2 ρ
  | _ => .no
def sIfIO (j n : Nat) (m : List D → Res (D × D)) (fa : Env → Res (List D)) (F1 F2 : DSem) : DSem := ioSem j n m fa (ifIO F1 F2)
theorem ds_ifIO {a b : List Stmt} {F1 F2 : DSem} (F : FnOk X.prog X.w X.K X.mg X.base (L2.CX X.prog X.w) k f fd ps (spIO n m)) (tk : Takes X J.W) (hr : Room k X.A) (hg : L2.Gl X x) (hm : X.mg x = some (.ref f)) (hk : PySem.W.keepIn X.K (.ref f) = true) (hb : Binds X.K fd ps [])
    (hj : own.lookup j = some .dp) (pj : PE X e0 (tVar j)) (d : DA X J.W es fa) (d1 : DSs X J own own1 a F1) (d2 : DSs X J own own1 b F2) (hx : oxSub J.ox own = true := by rfl)
    (hdb : (x == ("__debug__" : Str)) = false := by decide) (he : starEach (e0 :: es) X.env = (false, eval e0 X.env) :: starEach es X.env := by rfl) (hpl : (backTo pos' (starEach es X.env)).any (·.1) = false := by rfl)
    (ht : ∀ whole, isTrue (.Call (.Name x p) (e0 :: es) [] pos') X.env whole = (do let v ← whole; standAt (Expr.Call (.Name x p) (e0 :: es) [] pos').pos; holding [v] (truthy v)) := by intro _; rfl) :
    DS X J own own1 (.If (.Call (.Name x p) (e0 :: es) [] pos') a b pos) (sIfIO j n m fa F1 F2) := by
  obtain ⟨t2, pa2, h2⟩ := d
  obtain ⟨ta, pa, ha⟩ := d1
  obtain ⟨tb, pb, hb'⟩ := d2
  refine ⟨_, ps_if (pt_val (pe_callS F hr hg hm hk hb (fun σ => passAt tk σ) (pa_cons pj pa2 he) hdb he hpl) ht) pa pb, fun G0 H0 G H σ ρ Dn I h => ?_⟩
  refine io_reads hj hx h2 I h fun r d1 hk2 G' H' v I' rr => ?_
  cases r with
  | bl c =>
    refine ⟨c, rr, ?_⟩
    cases c with
    | true => exact ha G0 H0 G' H' σ _ Dn I' hk2
    | false => exact hb' G0 H0 G' H' σ _ Dn I' hk2
  | _ => exact hk2.elim
/-- f(x, ..) as a statement -/
def sExIO (j n : Nat) (m : List D → Res (D × D)) (fa : Env → Res (List D)) : DSem := ioSem j n m fa fun _ ρ => .nx ρ
theorem ds_exIO (F : FnOk X.prog X.w X.K X.mg X.base (L2.CX X.prog X.w) k f fd ps (spIO n m)) (tk : Takes X J.W) (hr : Room k X.A) (hg : L2.Gl X x) (hm : X.mg x = some (.ref f)) (hk : PySem.W.keepIn X.K (.ref f) = true) (hb : Binds X.K fd ps [])
    (hj : own.lookup j = some .dp) (pj : PE X e0 (tVar j)) (d : DA X J.W es fa) (hx : oxSub J.ox own = true := by rfl)
    (hdb : (x == ("__debug__" : Str)) = false := by decide) (he : starEach (e0 :: es) X.env = (false, eval e0 X.env) :: starEach es X.env := by rfl) (hpl : (backTo pos' (starEach es X.env)).any (·.1) = false := by rfl)
    (hs : swapsWith (.Call (.Name x p) (e0 :: es) [] pos') none pos.line X.env = pure false := by rfl) : DS X J own own (.Expr (.Call (.Name x p) (e0 :: es) [] pos') pos) (sExIO j n m fa) := by
  obtain ⟨t2, pa2, h2⟩ := d
  refine ⟨_, ps_expr (pe_callS F hr hg hm hk hb (fun σ => passAt tk σ) (pa_cons pj pa2 he) hdb he hpl) hs, fun G0 H0 G H σ ρ Dn I h => ?_⟩
  exact io_reads hj hx h2 I h fun r d1 hk2 G' H' v I' rr => hk2 G' H' σ I'
end
/-! ### a def that takes its first argument over, and hands back what it owns -/
def spMv (n : Nat) (m : List D → Res D) : Sp := fun vs H Q E => vs.length = n ∧ ∃ G v0 vr d0 ds fp, vs = v0 :: vr ∧ Sub G H ∧ RepO H d0 v0 fp ∧ fp.Nodup ∧ (∀ p ∈ fp, G p = none) ∧ Reps G ds vr ∧ match m (d0 :: ds) with
  | .ok d => ∀ G' H' v fj, Ext G (minusH H fp) G' H' → RepO H' d v fj → fj.Nodup → (∀ p ∈ fj, G' p = none ∧ minusH H fp p = none) → Q v H'
  | _ => False
section
variable {P : Program} {w : World} {K : PySem.W.Frag} {mg : Str → Option Value} {base : Heap}
theorem start_rest {G : Hp} {N : List Str} {d0 : D} {v0 : V} {ds : List D} {vr : List V} (r : Reps G ds vr) {i : Nat} {d : D} (e : (startE N.length (d0 :: ds))[i + 1]? = some (some d)) : ∃ v, (L2.start N (v0 :: vr))[i + 1]? = some (some v) ∧ Rep G d v := by
  unfold startE at e
  unfold L2.start
  simp only [List.map_cons, List.cons_append, List.getElem?_cons_succ] at e ⊢
  by_cases hi : i < ds.length
  · rw [List.getElem?_append_left (by simpa using hi), List.getElem?_map] at e
    cases q : ds[i]? with
    | none => rw [q] at e; cases e
    | some x =>
      rw [q] at e
      have e : x = d := by simpa using e
      subst e
      obtain ⟨v, h1, h2⟩ := r.get q
      refine ⟨v, ?_, h2⟩
      rw [List.getElem?_append_left (by rw [List.length_map, r.length]; exact hi), List.getElem?_map, h1]
      rfl
  · rw [List.getElem?_append_right (by simpa using hi), List.getElem?_replicate] at e
    split at e <;> cases e
theorem def_okMv {x qual : Str} {st : Stmt} {f : Addr} {fd : FuncData} {N ps : List Str} {k : Nat} {F : DSem} (Fn : Fun K x qual st f fd) (S : FnScope N ps (defScope st)) {own' : Owns}
    (hb : ∀ (cdv : Value) (A : Around) (outer : List PySem.Env) (s : Shared) (H : Hp) (E : XK), Room k (A.deeper (envOfC qual (defScope st) s.heap.objs.size f cdv)) →
      Takes (cxOf (L2.CX P w) P w K mg base N qual (defScope st) f cdv A outer s H E) (fun cls d _ H => E cls d H) →
      PassesOwn (model P w) (cxOf (L2.CX P w) P w K mg base N qual (defScope st) f cdv A outer s H E).A (cxOf (L2.CX P w) P w K mg base N qual (defScope st) f cdv A outer s H E).env (cxOf (L2.CX P w) P w K mg base N qual (defScope st) f cdv A outer s H E).xe →
      DSs (cxOf (L2.CX P w) P w K mg base N qual (defScope st) f cdv A outer s H E) ⟨fun cls d _ H => E cls d H, [], [], some .dp⟩ [(0, .dp)] own' (defBody st) F) :
    FnOk P w K mg base (L2.CX P w) (k + 1) f fd ps (spMv ps.length (runF N.length F)) := by
  refine Fn.okX S (fun vs H Q E h => h.1) fun cdv A outer s H vs Q E hr h => ?_
  obtain ⟨t, pt, ht⟩ := hb cdv A outer s H E hr (takes_of rfl rfl rfl rfl) (passes_of rfl)
  obtain ⟨hl, G, v0, vr, d0, ds, fp, ev, sb, o, nd, hn, rs, hq⟩ := h
  subst ev
  refine ⟨t, pt, ?_⟩
  have mf := o.mut
  have len : (startE N.length (d0 :: ds)).length = (L2.start N (v0 :: vr)).length := by simp [startE, L2.start, rs.length]
  refine ht G (minusH H fp) G H (L2.start N (v0 :: vr)) (startE N.length (d0 :: ds)) _ ⟨fun i => if i = 0 then fp else [], ⟨⟨fun a o e => (minus_some e).1, fun _ _ e => e, sb, fun a o e => .inl e⟩, len, fun i d e q => ?_, fun i k d q e => ?_, fun i p hp => ?_, fun i j p hne hp => ?_⟩⟩ ?_
  · cases i with
    | zero => simp at q
    | succ i => exact start_rest rs e
  · by_cases hi0 : i = 0
    · subst hi0
      have ek : k = .dp := by have : some Kd.dp = some k := q; cases this; rfl
      subst ek
      have ed : d = d0 := by
        have : (startE N.length (d0 :: ds))[0]? = some (some d0) := by simp [startE]
        rw [this] at e; cases e; rfl
      subst ed
      exact ⟨v0, by simp [L2.start], o, nd⟩
    · rw [lookup_one hi0] at q; cases q
  · by_cases hi0 : i = 0
    · subst hi0
      have hp : p ∈ fp := by simpa using hp
      exact ⟨hn p hp, minus_in hp, mf p hp⟩
    · simp [hi0] at hp
  · by_cases hi0 : i = 0
    · subst hi0
      by_cases hj0 : j = 0
      · exact absurd hj0.symm hne
      · simp [hj0]
    · simp [hi0] at hp
  · unfold runF at hq
    cases q : F (startE N.length (d0 :: ds)) with
    | nx ρ' =>
      rw [q] at hq
      exact fun G' H' σ' I' => hq G' H' .non [] I'.ext ⟨rfl, rfl⟩ List.nodup_nil fun p hp => by cases hp
    | rt d => rw [q] at hq; exact fun G' H' v fj x o n => hq G' H' v fj x o.1 o.2 n
    | ex c ρ' => rw [q] at hq; exact hq.elim
    | bk ρ' => rw [q] at hq; exact hq.elim
    | ct ρ' => rw [q] at hq; exact hq.elim
    | no => rw [q] at hq; exact hq.elim
end
def mvK (n : Nat) (m : List D → Res D) (d0 : D) (ds : List D) : Out := if ds.length + 1 = n then (match m (d0 :: ds) with
    | .ok d => .rt d
    | _ => .no) else .no
def mvR (own : Owns) (n : Nat) (m : List D → Res D) (fa : Env → Res (List D)) (ρ : Env) : Option (Option D) → Out
  | some (some d0) => andThen (fa (maskE own ρ)) ρ (mvK n m d0)
  | _ => .no
def sRetMv (own : Owns) (j n : Nat) (m : List D → Res D) (fa : Env → Res (List D)) : DSem := fun ρ => mvR own n m fa ρ ρ[j]?
section
variable {X : Cx} {J : Jd} {own own1 : Owns} {j n k : Nat} {f : Addr} {fd : FuncData} {ps : List Str} {x : Str} {e0 : Expr} {es : List Expr} {p pos pos' : Pos} {fa : Env → Res (List D)} {m : List D → Res D}
theorem ds_retMv (hrk : J.rk = some .dp) (F : FnOk X.prog X.w X.K X.mg X.base (L2.CX X.prog X.w) k f fd ps (spMv n m)) (tk : Takes X J.W) (hr : Room k X.A) (hg : L2.Gl X x) (hm : X.mg x = some (.ref f)) (hk : PySem.W.keepIn X.K (.ref f) = true) (hb : Binds X.K fd ps [])
    (hj : own.lookup j = some .dp) (pj : PE X e0 (tVar j)) (d : DA X J.W es fa) (hx : oxSub J.ox own = true := by rfl)
    (hdb : (x == ("__debug__" : Str)) = false := by decide) (he : starEach (e0 :: es) X.env = (false, eval e0 X.env) :: starEach es X.env := by rfl) (hpl : (backTo pos' (starEach es X.env)).any (·.1) = false := by rfl) :
    DS X J own own1 (.Return (some (.Call (.Name x p) (e0 :: es) [] pos')) pos) (sRetMv own j n m fa) := by
  obtain ⟨t2, pa2, h2⟩ := d
  refine ⟨_, ps_ret (pe_callS F hr hg hm hk hb (fun σ => passAt tk σ) (pa_cons pj pa2 he) hdb he hpl), fun G0 H0 G H σ ρ Dn ⟨fp, I⟩ h => ?_⟩
  unfold sRetMv at h
  cases q : ρ[j]? with
  | none => rw [q] at h; exact h.elim
  | some y =>
    cases y with
    | none => rw [q] at h; exact h.elim
    | some d0 =>
      rw [q] at h
      obtain ⟨v0, hv, o⟩ := I.own j .dp d0 hj q
      refine ⟨v0, hv, ?_⟩
      refine h2 G H σ (maskE own ρ) _ I.sub I.masked (toP hx I I.sub h fun ds _ hk G' H' e vs rv => ?_)
      have I' := I.grow e
      obtain ⟨v0', hv', o'⟩ := I'.own j .dp d0 hj q
      rw [hv] at hv'; cases hv'
      unfold mvK at hk
      split at hk
      · rename_i hc
        refine ⟨by show vs.length + 1 = n; rw [rv.length]; exact hc, G', v0, vs, d0, ds, fp j, rfl, I'.sub, o'.1, o'.2, fun p hp => (I'.fpm j p hp).1, rv, ?_⟩
        cases qm : m (d0 :: ds) with
        | ok dd =>
          rw [qm] at hk
          have hk : RetOk J.rk G0 H0 Dn.rt dd := hk
          unfold RetOk at hk
          rw [hrk] at hk
          have bk : ∀ {a : Addr}, minusH H' (fp j) a = none → H0 a = none := fun {a} z => by
            rcases minus_none z with z | z
            · exact I'.ext.free z
            · exact (I'.fpm j a z).2.1
          intro G2 H2 v fj xx o2 nd2 n2
          refine hk G2 H2 v fj ⟨fun a o e => ?_, fun a o e => xx.g a o (I'.ext.g a o e), xx.s, fun a o e => ?_⟩ ⟨o2, nd2⟩ fun p hp => ⟨(n2 p hp).1, bk (n2 p hp).2⟩
          · refine xx.h a o ?_
            rw [minus_out fun z => by rw [(I'.fpm j a z).2.1] at e; cases e]
            exact I'.ext.h a o e
          · rcases xx.n a o e with z | z | z
            · exact I'.ext.n a o z
            · exact .inr (.inl (bk z))
            · exact .inr (.inr z)
        | ex c => rw [qm] at hk; exact hk.elim
        | no => rw [qm] at hk; exact hk.elim
      · exact hk.elim
end
end DL

/-! DL27: list(range(n)); sorted lists of tuples; a, b = x, y. -/
namespace DL
open PySem PySem.Spec PyProof.Rows L2
theorem rg_rep {G : Hp} (a : Int) : ∀ n : Nat, Reps G (rangeD a n) ((List.range n).map fun i => V.int (a + (i : Nat)))
  | 0 => rfl
  | n + 1 => by
    unfold rangeD
    rw [List.range_succ, List.map_append, List.map_append]
    exact Reps.append (rg_rep a n) ⟨_, _, rfl, rfl, rfl⟩
def rgl1 : D → Res (List D)
  | .int j => if -(2 ^ 62) ≤ j ∧ j < 2 ^ 62 ∧ j.toNat ≤ 2 ^ 24 then .ok (rangeD 0 j.toNat) else .no
  | _ => .no
def nListR (f : Env → Res D) : Env → Res (List D) := fun ρ => f ρ >>= rgl1
section
variable {X : Cx} {W : WX} {e : Expr} {f : Env → Res D} {p p2 q pos : Pos}
theorem dn_listR (hc : X.calm = true) (hg : L2.Gl X "list") (hm : X.mg "list" = none) (hg2 : L2.Gl X "range") (hm2 : X.mg "range" = none) (d : DE X W e f)
    (hs : starEach [e] X.env = (false, eval e X.env) :: starEach [] X.env := by rfl)
    (na : starEach [.Call (.Name "range" p2) [e] [] q] X.env = (false, eval (.Call (.Name "range" p2) [e] [] q) X.env) :: starEach [] X.env := by rfl) :
    DN X W (.Call (.Name "list" p) [.Call (.Name "range" p2) [e] [] q] [] pos) (nListR f) := by
  obtain ⟨t1, p1, h1⟩ := d
  refine ⟨_, pe_listRg hc hg hm (prg_1 hg2 hm2 p1 hs) na, fun G H σ ρ Q s e h => ?_⟩
  refine h1 G H σ ρ _ s e ?_
  unfold nListR at h
  cases qf : f ρ with
  | ok x =>
    rw [qf, Res.bind_ok] at h
    intro G1 H1 e1 v rv
    cases x with
    | int j =>
      cases (show v = .int j from rv)
      have h : GlN X.mg W G H σ Q (if -(2 ^ 62) ≤ j ∧ j < 2 ^ 62 ∧ j.toNat ≤ 2 ^ 24 then .ok (rangeD 0 j.toNat) else .no) := h
      split at h
      · rename_i z
        refine ⟨j, rfl, ⟨by omega, by omega, z.1, z.2.1, by have := z.2.2; simpa using this⟩, fun p np => ?_⟩
        refine GlN.end e1 np ?_ h
        have := rg_rep (G := G1) 0 j.toNat
        unfold rgV
        rw [show (j - 0).toNat = j.toNat by simp]
        exact this
      · exact h.elim
    | _ => exact h.elim
  | ex c => rw [qf] at h; exact h
  | no => rw [qf] at h; exact h
end
/-! ### sorted(xs), tuples of ints -/
theorem perm_unmap {α β : Type} {f : α → β} {l1 l2 : List β} (p : l1.Perm l2) : ∀ {ps : List α}, l2 = ps.map f → ∃ L : List α, l1 = L.map f ∧ L.Perm ps := by
  induction p with
  | nil => intro ps e; exact ⟨[], rfl, by cases ps with | nil => exact .refl _ | cons => simp at e⟩
  | cons x p ih =>
    intro ps e
    cases ps with
    | nil => simp at e
    | cons y r =>
      simp only [List.map_cons, List.cons.injEq] at e
      obtain ⟨L, e1, p1⟩ := ih e.2
      exact ⟨y :: L, by rw [e1, e.1]; rfl, p1.cons y⟩
  | swap x y l =>
    intro ps e
    match ps, e with
    | a :: b :: r, e =>
      simp only [List.map_cons, List.cons.injEq] at e
      exact ⟨b :: a :: r, by rw [e.1, e.2.1, e.2.2]; rfl, .swap a b r⟩
    | [], e => simp at e
    | [_], e => simp at e
  | trans p q ih1 ih2 =>
    intro ps e
    obtain ⟨L, e1, p1⟩ := ih2 e
    obtain ⟨L2, e2, p2⟩ := ih1 e1
    exact ⟨L2, e2, p2.trans p1⟩
def leL (x y : List Int) : Prop := lexb x y = true ∨ x = y
theorem leL_anti {x y : List Int} (h : leL x y) (h2 : leL y x) : x = y := by
  rcases h with h | h
  · rcases h2 with h2 | h2
    · rw [lexb_asy h] at h2; cases h2
    · exact h2.symm
  · exact h
theorem leL_uniq : ∀ {xs ys : List (List Int)}, xs.Perm ys → xs.Pairwise leL → ys.Pairwise leL → xs = ys
  | [], ys, p, _, _ => p.nil_eq
  | x :: r, [], p, _, _ => by have := p.length_eq; simp at this
  | x :: r, y :: q, p, h1, h2 => by
    obtain ⟨a1, a2⟩ := List.pairwise_cons.mp h1
    obtain ⟨b1, b2⟩ := List.pairwise_cons.mp h2
    have e : x = y := by
      rcases List.mem_cons.mp (p.mem_iff.mp List.mem_cons_self) with e | m
      · exact e
      · rcases List.mem_cons.mp (p.mem_iff.mpr List.mem_cons_self) with e | m2
        · exact e.symm
        · exact leL_anti (a1 y m2) (b1 x m)
    subst e
    rw [leL_uniq (p.cons_inv) a2 b2]
def insS (x : List Int) : List (List Int) → List (List Int)
  | [] => [x]
  | y :: r => if lexb y x = true then y :: insS x r else x :: y :: r
def ssort (xs : List (List Int)) : List (List Int) := xs.foldr insS []
theorem insS_perm (x : List Int) : ∀ xs, (insS x xs).Perm (x :: xs)
  | [] => .refl _
  | y :: r => by
    unfold insS
    split
    · exact ((insS_perm x r).cons y).trans (.swap x y r)
    · exact .refl _
theorem ssort_perm : ∀ xs, (ssort xs).Perm xs
  | [] => .refl _
  | x :: r => (insS_perm x _).trans ((ssort_perm r).cons x)
theorem leL_tr {x y z : List Int} (h : leL x y) (h2 : leL y z) : leL x z := by
  rcases h with h | rfl
  · rcases h2 with h2 | rfl
    · exact .inl (lexb_tr h h2)
    · exact .inl h
  · exact h2
theorem insS_sorted (x : List Int) : ∀ {xs}, List.Pairwise leL xs → List.Pairwise leL (insS x xs)
  | [], _ => List.pairwise_singleton _ _
  | y :: r, h => by
    obtain ⟨a, b⟩ := List.pairwise_cons.mp h
    unfold insS
    split
    · rename_i q
      refine List.pairwise_cons.mpr ⟨fun z hz => ?_, insS_sorted x b⟩
      rcases List.mem_cons.mp ((insS_perm x r).mem_iff.mp hz) with rfl | hz
      · exact .inl q
      · exact a z hz
    · rename_i q
      have xy : leL x y := by
        rcases lexb_tri x y with t | t | t
        · exact .inl t
        · exact .inr t
        · exact absurd t q
      refine List.pairwise_cons.mpr ⟨fun z hz => ?_, h⟩
      rcases List.mem_cons.mp hz with rfl | hz
      · exact xy
      · exact leL_tr xy (a z hz)
theorem ssort_sorted : ∀ xs, List.Pairwise leL (ssort xs)
  | [] => .nil
  | x :: r => insS_sorted x (ssort_sorted r)
/-- all of one length d, within [0, B) -/
def tupIn (d : Nat) (B : Int) (ks : List (List Int)) : Bool := decide (ks.length < 64) && ks.all fun k => decide (k.length = d) && k.all fun i => decide (0 ≤ i) && decide (i < B)
def g_sort (d : Nat) (B : Int) : D → Res D
  | .lst ds => (match tupsOf ds with
    | some ks => if tupIn d B ks = true then .ok (.lst ((ssort ks).map tupD)) else .no
    | none => .no)
  | _ => .no
section
variable {X : Cx} {W : WX} {e : Expr} {f : Env → Res D} {p p2 q pos : Pos}
theorem de_sort {d : Nat} {B : Int} (hd : 1 ≤ d) (hg : L2.Gl X "sorted") (hm : X.mg "sorted" = none) (de : DE X W e f)
    (hs : starEach [e] X.env = (false, eval e X.env) :: starEach [] X.env := by rfl) (hpl : (backTo pos (starEach [] X.env)).any (·.1) = false := by rfl) :
    DE X W (.Call (.Name "sorted" p) [e] [] pos) (v1 (g_sort d B) f) := by
  obtain ⟨t, pe, h⟩ := de
  refine ⟨_, pe_callB (cr_sortT (d := d) (B := B) hd) hg hm (by decide +kernel) (pa_cons pe pa_nil hs) (by decide) (by decide) hs hpl, fun G H σ ρ Q s ee k => ?_⟩
  refine h G H σ ρ _ s ee (Gl.imp (fun x G1 H1 _ e1 k v rv => ?_) (Gl.bind k))
  show rSortU X.K d B [v] H1 Q
  unfold g_sort at k
  split at k
  · rename_i ds
    split at k
    · rename_i ks hks
      split at k
      · rename_i ok
        unfold tupIn at ok
        simp only [Bool.and_eq_true, decide_eq_true_eq, List.all_eq_true] at ok
        obtain ⟨o1, o2⟩ := ok
        obtain ⟨l, vs, ev, hl, qr⟩ := rv
        subst ev
        obtain ⟨ps, q1, q2, q3⟩ := tups_rep hks qr
        subst q1
        have hB : ∀ p ∈ ps, p.2.length = d ∧ TS.Bd B p.2 := fun p hp => by
          have hm : p.2 ∈ ks := by rw [← q2]; exact List.mem_map_of_mem hp
          obtain ⟨z1, z2⟩ := o2 p.2 hm
          exact ⟨z1, fun i hi => z2 i hi⟩
        have ti : ∀ p ∈ ps, TupI X.K H1 (V.ref p.1) p.2 := fun p hp => ⟨p.1, rfl, e1.s.sqT (q3 p hp)⟩
        refine ⟨l, _, rfl, e1.s.sqL hl, by rw [List.length_map]; rw [← q2, List.length_map] at o1; exact o1, fun x hx => ?_, fun ys p' pm pw np => ?_⟩
        · obtain ⟨p, hp, rfl⟩ := List.mem_map.mp hx
          exact ⟨p.2, ti p hp, (hB p hp).1, (hB p hp).2⟩
        · obtain ⟨L', e', pm'⟩ : ∃ L' : List (Addr × List Int), ys = L'.map (fun p => V.ref p.1) ∧ L'.Perm ps := perm_unmap pm rfl
          subst e'
          have el : L'.map (·.2) = ssort ks := by
            refine leL_uniq ?_ ?_ (ssort_sorted ks)
            · exact ((pm'.map (·.2)).trans (by rw [q2])).trans (ssort_perm ks).symm
            · refine List.pairwise_map.mpr ((List.pairwise_map.mp pw).imp_of_mem fun {a b} ha hb hab => ?_)
              have ha := pm'.mem_iff.mp ha
              have hb := pm'.mem_iff.mp hb
              have := hab a.2 b.2 (ti a ha) (ti b hb)
              by_cases en : a.2 = b.2
              · exact .inr en
              · exact .inl (lex_of_code ((hB a ha).1.trans (hB b hb).1.symm) (hB a ha).2 (hB b hb).2 this en)
          refine Gl.newL e1.s np (by rw [← el]; exact reps_tups L' fun p hp => q3 p (pm'.mem_iff.mp hp)) k
      · exact k.elim
    · exact k.elim
  · exact k.elim
end
/-! ### a, b = x, y -/
def parO (ρ : Env) (i j : Nat) : List D → Out
  | [x, y] => .nx ((ρ.set i (some x)).set j (some y))
  | _ => .no
def sPar (own : Owns) (i j : Nat) (fa : Env → Res (List D)) : DSem := fun ρ => andThen (fa (maskE own ρ)) ρ (parO ρ i j)
section
variable {X : Cx} {J : Jd} {own : Owns} {fa : Env → Res (List D)} {pos : Pos}
theorem ds_par {i j : Nat} {x y : Str} {a b : Expr} {px py pt : Pos} {kt k2 pt2} (hc : X.calm = true) (hN : X.N.Nodup) (hi : X.N[i]? = some x) (hj : X.N[j]? = some y) (hij : i ≠ j)
    (hx1 : X.env.scope.names.lookup x = some .local) (hy : X.env.scope.names.lookup y = some .local) (d : DA X J.W [a, b] fa) (oi : own.lookup i = none) (oj : own.lookup j = none)
    (hw : swappedStores [.Tuple [.Name x px, .Name y py] kt pt] (.Tuple [a, b] k2 pt2) X.env = pure (some [x, y])) (hx : oxSub J.ox own = true := by rfl)
    (hs : swapsWithSole [.Tuple [.Name x px, .Name y py] kt pt] (.Tuple [a, b] k2 pt2) pos.line X.env = pure false := by rfl) :
    DS X J own own (.Assign [.Tuple [.Name x px, .Name y py] kt pt] (.Tuple [a, b] k2 pt2) pos) (sPar own i j fa) := by
  obtain ⟨t, pa, h1⟩ := d
  refine ⟨_, ps_par hc hN hi hj hij hx1 hy pa hw hs, fun G0 H0 G H σ ρ Dn ⟨fp, I⟩ h => ?_⟩
  refine h1 G H σ (maskE own ρ) _ I.sub I.masked (toP hx I I.sub h fun ds _ hk G' H' e vs rv => ?_)
  have I' := I.grow e
  match ds, rv, hk with
  | [d1, d2], ⟨v, s, e1, r1, w, s2, e2, r2, e3⟩, hk =>
    subst e1
    subst e2
    cases (show s2 = [] from e3)
    exact ⟨v, w, rfl, hk G' H' _ ⟨fp, (I'.set oi r1).set oj r2⟩⟩
  | [], _, hk => exact hk.elim
  | [_], _, hk => exact hk.elim
  | _ :: _ :: _ :: _, _, hk => exact hk.elim
end
end DL

/-! DL28: for x in f(..): new data that stand in the region meanwhile. -/
namespace DL
open PySem PySem.Spec PyProof.Rows L2
theorem SIf.more {fp} {G0 H0 G H : Hp} {own : Owns} {σ : L2.St} {ρ : Env} (I : SIf fp G0 H0 own G H σ ρ) {fj : List Addr} (hn : ∀ p ∈ fj, H0 p = none) (hd : ∀ i p, p ∈ fp i → p ∉ fj) : SIf fp G0 H0 own (joinG G H fj) H σ ρ := by
  have hg := joinG_le I.sub fj
  refine ⟨joinG_ext I.ext hn, I.len, fun i d e q => ?_, fun i k d q e => ?_, fun i p hp => ?_, I.fpd⟩
  · obtain ⟨v, h1, h2⟩ := I.val i d e q
    exact ⟨v, h1, h2.le (Le.of hg)⟩
  · obtain ⟨v, h1, h2⟩ := I.own i k d q e
    exact ⟨v, h1, h2.at (Le.of hg) ⟨fun _ _ => rfl, fun _ _ e => e⟩⟩
  · obtain ⟨h1, h2, h3⟩ := I.fpm i p hp
    refine ⟨?_, h2, h3⟩
    unfold joinG
    split
    · rename_i vs q; rw [q] at h3; exact h3.elim
    · rw [if_neg (hd i p hp)]; exact h1
def forFK (is fg : List Nat) (ks : D → Res (List D)) (F : DSem) (ρ : Env) : D → Out
  | .lst ds => forF is ks F fg ds (forget ρ fg)
  | _ => .no
def sForF (f : Env → Res D) (is : List Nat) (ks : D → Res (List D)) (F : DSem) (fg : List Nat) : DSem := fun ρ => andThen (f ρ) ρ (forFK is fg ks F ρ)
theorem ds_forF {X : Cx} {J : Jd} {own : Owns} {pos : Pos} {tg e : Expr} {body : List Stmt} {f : Env → Res D} {is fg : List Nat} {ks : D → Res (List D)} {F : DSem} (hp : PassesOwn (model X.prog X.w) X.A X.env X.xe) (hc : X.calm = true) (d : DF X J.W .dp e f) (dg : DG X tg is ks) (db : DSs X { J with L := own } own own body F)
    (hi : ∀ i ∈ is, own.lookup i = none) (hx : oxSub J.ox own = true := by rfl) (hs : ∀ x, foldedSetIterable e X.env x = pure x := by intro _; rfl) : DS X J own own (.For tg e body [] pos) (sForF f is ks F fg) := by
  obtain ⟨t, pe, h1⟩ := d
  obtain ⟨tg', pg, h3⟩ := dg
  obtain ⟨tb, pb, hb⟩ := db
  refine ⟨_, ps_for hp hc (pi_any pe) pg pb hs, fun G0 H0 G H σ ρ Dn ⟨fp, I⟩ h => ?_⟩
  have s := (view_ext I.ext).s
  refine h1 _ H σ ρ _ s I.view (toF hx I s h fun d hk G' H' e v fj o hn => ?_)
  have o' : OwnK .dp (tupG G H') H' d v fj := o
  have I1 := I.grow (Ext.tups I.sub e.h)
  have I2 := I1.more (fj := fj) (fun p hp => I.ext.free (hn p hp).2) (own_new I fun p hp => (hn p hp).2)
  cases d with
  | lst ds =>
    have r := o'.rep (Le.of (joinG_le I1.sub fj)) joinG_at
    obtain ⟨a, vs, rfl, hR, q⟩ := r
    refine ⟨a, rfl, .inl ⟨⟨vs, I2.sub.sqL hR⟩, ?_⟩⟩
    exact for_run h3 hb hi (SI.forget ⟨fp, I2.ground⟩ fg) (itd_list hR q) (GS.ground I2 hk)
  | _ => exact hk.elim
theorem ds_breakW {X : Cx} {own own1 : Owns} {W L ox rk} {pos : Pos} (h : L = own := by rfl) : DS X ⟨W, L, ox, rk⟩ own own1 (.Break pos) sBreak := h ▸ ⟨_, ps_break, fun G0 H0 G H σ ρ Dn I h => h G H σ I⟩
theorem ds_contW {X : Cx} {own own1 : Owns} {W L ox rk} {pos : Pos} (h : L = own := by rfl) : DS X ⟨W, L, ox, rk⟩ own own1 (.Continue pos) sCont := h ▸ ⟨_, ps_continue, fun G0 H0 G H σ ρ Dn I h => h G H σ I⟩
end DL

/-! DL29: the law's promise, with fuel as the script wants it. -/
namespace DL
open PySem PySem.Spec PyProof.Rows L2
section
variable {P : Program} {w : World} {K : PySem.W.Frag} {mg : Str → Option Value} {base : Heap}
theorem law_okF {k : Nat} {f : Addr} {fd : FuncData} {x : Str} {m : Nat → List D → Res D} (F : ∀ fuel, FnOk P w K mg base (L2.CX P w) k f fd [x] (spK mg none 1 (m fuel))) (h : ∀ ns : List Int, ns.length ≤ 63 → ∃ fuel, m fuel [.lst (ns.map D.int)] = .ok (.bl true)) : FnOk P w K mg base (L2.CX P w) k f fd [x] spLaw := by
  have key : ∀ vs H Q E, spLaw vs H Q E → ∃ fuel, spK mg none 1 (m fuel) vs H Q E := fun vs H Q E ⟨a, ns, e, hr, hl, q⟩ => by
    subst e
    obtain ⟨fuel, hf⟩ := h ns hl
    refine ⟨fuel, rfl, H, [.lst (ns.map D.int)], fun _ _ e => e, ⟨.ref a, [], rfl, ⟨a, _, rfl, hr, reps_ints ns⟩, rfl⟩, ?_⟩
    rw [hf]
    intro G' H' v _ rv
    have e : v = .bl true := rv
    subst e
    exact q H'
  exact ⟨fun vs H Q E q => let ⟨fu, h⟩ := key vs H Q E q; (F fu).len vs H Q E h, fun A outer s H args us vs Q E hr he hb hv hs => let ⟨fu, h⟩ := key vs H Q E hs; (F fu).run A outer s H args us vs Q E hr he hb hv h⟩
end
end DL

/-! DL30: what is never reached; defs with a default. -/
namespace DL
open PySem PySem.Spec PyProof.Rows L2
/-! ### never reached -/
def sDead : DSem := fun _ => .no
theorem ps_dead {X : Cx} {st : Stmt} : PS X st (fun _ _ _ => False) := ⟨fun pins s σ H D I h => h.elim⟩
theorem pss_dead {X : Cx} {sts : List Stmt} : PSs X sts (fun _ _ _ => False) := ⟨fun pins s σ H D I h => h.elim⟩
theorem ds_dead {X : Cx} {J : Jd} {own own1 : Owns} {st : Stmt} : DS X J own own1 st sDead := ⟨_, ps_dead, fun G0 H0 G H σ ρ Dn I h => h.elim⟩
theorem dss_dead {X : Cx} {J : Jd} {own own1 : Owns} {sts : List Stmt} : DSs X J own own1 sts sDead := ⟨_, pss_dead, fun G0 H0 G H σ ρ Dn I h => h.elim⟩
def never : List D → Res D := fun _ => .no
theorem never_ok {P : Program} {w : World} {K : PySem.W.Frag} {mg : Str → Option Value} {base : Heap} {CX : CXT} {k : Nat} {f : Addr} {fd : FuncData} {ps : List Str} {rk : Option Kd} : FnOk P w K mg base CX k f fd ps (spK mg rk ps.length never) :=
  ⟨fun vs H Q E h => h.1, fun A outer s H args us vs Q E hr he hb hv ⟨_, _, _, _, _, h⟩ => h.elim⟩
/-! ### a def with one default, a number -/
theorem funD_mk {K : PySem.W.Frag} {x qual : Str} {st : Stmt} {f T : Addr} {oc oc2 : Value} {od an od2 : Option Addr} {osl sl2 : Array (Option Value)} {kV doc pm cdv ct : Value} {d : Int} {tk : Tok} {n2 : Nat} (l : K.lookup f = some ⟨oc, od, .func (PySem.W.fnOf x qual (defArgs st) (defBody st) (defScope st) (.ref T) kV doc pm an cdv ct), osl⟩)
    (lT : K.lookup T = some ⟨oc2, od2, .seq #[.int d tk] n2, sl2⟩) (c : PySem.W.codeIn K cdv qual = true) (k : PySem.W.keepIn K (.ref f) = true) : FunD K x qual (defArgs st) (defBody st) (defScope st) [.int d] [] f (PySem.W.fnOf x qual (defArgs st) (defBody st) (defScope st) (.ref T) kV doc pm an cdv ct) :=
  ⟨⟨oc, od, .ref T, kV, doc, pm, an, cdv, ct, osl, rfl, l, c, .inr ⟨by simp, T, _, [.int d tk], n2, rfl, lT, rfl, .cons ⟨_, rfl⟩ .nil⟩, .inl rfl⟩, k⟩
section
variable {P : Program} {w : World} {K : PySem.W.Frag} {mg : Str → Option Value} {base : Heap}
theorem def_okD {x qual : Str} {st : Stmt} {f : Addr} {fd : FuncData} {N ps : List Str} {k : Nat} {rk : Option Kd} {F : DSem} {dvs : List V} {kws : List (Str × V)} (Fn : FunD K x qual (defArgs st) (defBody st) (defScope st) dvs kws f fd) (S : FnScope N ps (defScope st)) {own' : Owns} (hend : rk = none ∨ rk = some .dp)
    (hb : ∀ (cdv : Value) (A : Around) (outer : List PySem.Env) (s : Shared) (H : Hp) (E : XK), Room k (A.deeper (envOfC qual (defScope st) s.heap.objs.size f cdv)) →
      Takes (cxOf (L2.CX P w) P w K mg base N qual (defScope st) f cdv A outer s H E) (fun cls d _ H => E cls d H) →
      PassesOwn (model P w) (cxOf (L2.CX P w) P w K mg base N qual (defScope st) f cdv A outer s H E).A (cxOf (L2.CX P w) P w K mg base N qual (defScope st) f cdv A outer s H E).env (cxOf (L2.CX P w) P w K mg base N qual (defScope st) f cdv A outer s H E).xe →
      DSs (cxOf (L2.CX P w) P w K mg base N qual (defScope st) f cdv A outer s H E) ⟨fun cls d _ H => E cls d H, [], [], rk⟩ [] own' (defBody st) F) :
    FnOk P w K mg base (L2.CX P w) (k + 1) f fd ps (spK mg rk ps.length (runF N.length F)) := by
  refine Fn.ok S (fun vs H Q E h => h.1) fun cdv A outer s H vs Q E hr h => ?_
  obtain ⟨t, pt, ht⟩ := hb cdv A outer s H E hr (takes_of rfl rfl rfl rfl) (passes_of rfl)
  obtain ⟨hl, G, ds, sb, rs, hq⟩ := h
  refine ⟨t, pt, ?_⟩
  have er := startR (N := N) rs
  refine ht G H G H (L2.start N vs) (startE N.length ds) _ ⟨fun _ => [], ⟨Ext.refl sb, er.len, fun i d e _ => er.val i d e, fun i k d q => by simp at q, fun i p hp => by simp at hp, fun i j p _ hp => by simp at hp⟩⟩ ?_
  unfold runF at hq
  cases q : F (startE N.length ds) with
  | nx ρ' =>
    rw [q] at hq
    intro G' H' σ' I'
    have hq : RetOk rk G H Q .non := hq
    unfold RetOk at hq
    rcases hend with e | e
    · rw [e] at hq; exact hq G' H' .non I'.ext rfl
    · rw [e] at hq; exact hq G' H' .non [] I'.ext ⟨⟨rfl, rfl⟩, List.nodup_nil⟩ fun p hp => by cases hp
  | rt d => rw [q] at hq; exact hq
  | ex c ρ' => rw [q] at hq; exact fun C own G' H' σ' _ m I' => hq C G' H' m I'.ext
  | bk ρ' => rw [q] at hq; exact hq.elim
  | ct ρ' => rw [q] at hq; exact hq.elim
  | no => rw [q] at hq; exact hq.elim
/-- f(e, ..), one default fills up -/
def vCallD (n : Nat) (d : Int) (fn : List D → Res D) (g : Env → Res (List D)) : Env → Res D := fun ρ => g ρ >>= fun xs => if xs.length + 1 = n then fn (xs ++ [.int d]) else .no
theorem de_callD {X : Cx} {W : WX} {k : Nat} {f : Addr} {fd : FuncData} {ps : List Str} {rk : Option Kd} {n : Nat} {fn : List D → Res D} {x : Str} {p pos : Pos} {e : Expr} {es : List Expr} {g : Env → Res (List D)} {d : Int} {ds : List Value}
    (F : FnOk X.prog X.w X.K X.mg X.base (L2.CX X.prog X.w) k f fd ps (spK X.mg rk n fn)) (tk : Takes X W) (hr : Room k X.A) (hg : L2.Gl X x) (hm : X.mg x = some (.ref f)) (hk : PySem.W.keepIn X.K (.ref f) = true) (hb : Binds X.K fd ps ds) (hd : Vals [.int d] ds)
    (da : DA X W (e :: es) g) (hdb : (x == ("__debug__" : Str)) = false := by decide) (he : starEach (e :: es) X.env = (false, eval e X.env) :: starEach es X.env := by rfl) (hpl : (backTo pos (starEach es X.env)).any (·.1) = false := by rfl) :
    DE X W (.Call (.Name x p) (e :: es) [] pos) (vCallD n d fn g) := by
  obtain ⟨t, pa, h1⟩ := da
  refine ⟨_, pe_callSD F hr hg hm hk hb hd (fun σ => passAt tk σ) pa hdb he hpl, fun G H σ ρ Q s e h => ?_⟩
  refine h1 G H σ ρ _ s e (Gl.imp (fun ds G1 H1 _ e1 k vs rv => ?_) (Gl.bind h))
  split at k
  · rename_i hl
    have := rv.append (show Reps G1 [D.int d] [V.int d] from ⟨_, _, rfl, rfl, rfl⟩)
    exact call_rep e1.s this (by rw [this.length]; simp; omega) k
  · exact k.elim
end
end DL

/-! DL31: xs.index(y). -/
namespace DL
open PySem PySem.Spec PyProof.Rows L2
def gIdx (ds : List D) (y : D) : Res D := if SeqAt.shaped (py (.lst ds)) = true ∧ SeqAt.shaped (py y) = true then (match (pys ds).findIdx? (fun z => PyData.eqv z (py y)) with | some j => .ok (.int (j : Int)) | none => .no) else .no
def ixK (g : Env → Res D) (ρ : Env) : D → Res D
  | .lst ds => g ρ >>= gIdx ds
  | _ => .no
def vIndex (f g : Env → Res D) : Env → Res D := fun ρ => f ρ >>= ixK g ρ
theorem de_index {X : Cx} {W : WX} {o e : Expr} {f g : Env → Res D} {apos cpos : Pos} (hu : X.A.units + 65 < cLine) (d1 : DE X W o f) (d2 : DE X W e g)
    (hbase : attributeBase o "index" X.env (eval o X.env) = eval o X.env := by rfl)
    (hfew : ((backTo cpos (starEach [e] X.env)).all (fun x => !x.1) && (backToKw cpos (keywordEach [] X.env)).all (fun x => x.1.isSome)
      && decide (([e] : List Expr).length + ([] : List Keyword).length + (if ([] : List Keyword).isEmpty then 0 else 1) < 30)) = true := by rfl)
    (hline : (apos.endLine == cpos.line) = true := by rfl) (hs : starEach [e] X.env = (false, eval e X.env) :: starEach [] X.env := by rfl) (hplain : (backTo cpos (starEach [] X.env)).any (·.1) = false := by rfl) :
    DE X W (.Call (.Attribute o "index" apos) [e] [] cpos) (vIndex f g) := by
  obtain ⟨t1, p1, h1⟩ := d1
  obtain ⟨t2, p2, h2⟩ := d2
  refine ⟨_, pe_bm F.plainAttrs_list F.slot_list_index F.type_list_index (mt_indexD hu) p1 (pa_cons p2 pa_nil hs) hbase hfew hline hs hplain, fun G H σ ρ Q s e h => ?_⟩
  refine h1 G H σ ρ _ s e (Gl.imp (fun x G1 H1 _ e1 k v rv => ?_) (Gl.bind h))
  cases x with
  | lst ds =>
    have rv0 := rv
    obtain ⟨a, vs, rfl, hR, q⟩ := rv
    refine ⟨.inl ⟨rfl, vs, e1.s.sqL hR⟩, ?_⟩
    · refine h2 G1 H1 σ ρ _ e1.s (e.le e1.le) (Gl.imp (fun y G2 H2 _ e2 k2 w rw' => ?_) (Gl.bind (show Gl X.mg W G1 H1 σ _ (g ρ >>= gIdx ds) from k)))
      unfold gIdx at k2
      split at k2
      · rename_i z
        split at k2
        · rename_i j hj
          obtain ⟨hlt, hp, hno⟩ := List.findIdx?_eq_some_iff_getElem.mp hj
          refine ⟨a, w, py y, pys ds, j, (pys ds)[j], rfl, rfl, dp_of (d := .lst ds) e2.s (SeqAt.canLay_of_shaped z.1) (rv0.le e2.le), dp_of e2.s (SeqAt.canLay_of_shaped z.2) rw', z.1, z.2, List.getElem?_eq_getElem hlt, hp, fun m z' hm hz' => ?_, ?_⟩
          · obtain ⟨hl2, rfl⟩ := List.getElem?_eq_some_iff.mp hz'
            simpa using hno m hm
          · exact k2 G2 H2 (Ext.refl e2.s) _ rfl
        · exact k2.elim
      · exact k2.elim
  | _ => exact k.elim
end DL

/-! DL32: x in (a, b, ..). -/
namespace DL
open PySem PySem.Spec PyProof.Rows L2
def rInT (K : PySem.W.Frag) : R2 := fun x y H Q => ∃ d ds, Dp K H x d ∧ Dp K H y (.tuple ds) ∧ SeqAt.shaped d = true ∧ SeqAt.shaped (.tuple ds) = true ∧ Q (.bl (ds.any fun z => PyData.eqv z d)) H
theorem op_inT {X : Cx} (hu : X.A.units + 65 < cLine) : OpR X (compareOp .In) (rInT X.K) := by
  intro pins s σ H x y v u Q I rx ry h
  obtain ⟨d, ds, hd, he, sd, se, q⟩ := h
  obtain ⟨as, r1⟩ := Dp.reads I d x v hd rx
  obtain ⟨bs, r2⟩ := Dp.reads I (.tuple ds) y u he ry
  exact SeqAt.in_tuple_reads r2 r1 (SeqAt.canLay_of_shaped se) (SeqAt.canLay_of_shaped sd) (room_in_shaped sd hu) ⟨.bl _, H, I, rfl, q⟩
def g_inT : D → D → Res D
  | x, .tup ys => if SeqAt.shaped (py x) = true ∧ SeqAt.shaped (py (.tup ys)) = true then .ok (.bl ((pys ys).any fun z => PyData.eqv z (py x))) else .no
  | _, _ => .no
theorem say_inT {X : Cx} {W : WX} : Say2 X W (rInT X.K) g_inT := by
  intro G H σ Q x y a b s r1 r2 h
  cases y with
  | tup ys =>
    simp only [g_inT] at h
    split at h
    · rename_i z
      have d2 : Dp X.K H b (py (.tup ys)) := dp_of s (SeqAt.canLay_of_shaped z.2) r2
      exact ⟨_, pys ys, dp_of s (SeqAt.canLay_of_shaped z.1) r1, d2, z.1, z.2, h.bl s⟩
    · exact h.elim
  | _ => exact h.elim
end DL

/-! DM1: reckoning with mirrors: equations for simp; what is not known yet is not looked into. -/
namespace DL
open PySem L2

/-! ### answers in a row -/
def Res.thn {α β : Type} (r : Res α) (k : α → Res β) : Res β := r >>= k
section
variable {α β : Type} {k : α → Res β}
@[simp] theorem thn_ok {a : α} : Res.thn (.ok a) k = k a := rfl
@[simp] theorem thn_ex {c : Str} : Res.thn (.ex c) k = .ex c := rfl
@[simp] theorem thn_no : Res.thn .no k = .no := rfl
theorem thn_if {c : Prop} [Decidable c] {a b : Res α} : Res.thn (if c then a else b) k = if c then Res.thn a k else Res.thn b k := by split <;> rfl
end
def Out.thn (o : Out) (k : DSem) : Out := match o with
  | .nx ρ => k ρ
  | o => o
section
variable {k : DSem} {ρ : Env}
@[simp] theorem othn_nx : Out.thn (.nx ρ) k = k ρ := rfl
@[simp] theorem othn_rt {d : D} : Out.thn (.rt d) k = .rt d := rfl
@[simp] theorem othn_bk : Out.thn (.bk ρ) k = .bk ρ := rfl
@[simp] theorem othn_ct : Out.thn (.ct ρ) k = .ct ρ := rfl
@[simp] theorem othn_ex {c : Str} : Out.thn (.ex c ρ) k = .ex c ρ := rfl
@[simp] theorem othn_no : Out.thn .no k = .no := rfl
theorem othn_if {c : Prop} [Decidable c] {a b : Out} : Out.thn (if c then a else b) k = if c then Out.thn a k else Out.thn b k := by split <;> rfl
end
section
variable {α : Type} {ρ : Env} {k : α → Out}
@[simp] theorem andThen_ok {a : α} : andThen (.ok a) ρ k = k a := rfl
@[simp] theorem andThen_ex {c : Str} : andThen (.ex c) ρ k = .ex c ρ := rfl
@[simp] theorem andThen_no : andThen .no ρ k = .no := rfl
theorem andThen_if {c : Prop} [Decidable c] {a b : Res α} : andThen (if c then a else b) ρ k = if c then andThen a ρ k else andThen b ρ k := by split <;> rfl
end
/-- what is handed back by an outcome -/
def Out.res : Out → Res D
  | .rt d => .ok d
  | .nx _ => .ok .non
  | .ex c _ => .ex c
  | _ => .no
@[simp] theorem res_rt {d : D} : Out.res (.rt d) = .ok d := rfl
@[simp] theorem res_nx {ρ : Env} : Out.res (.nx ρ) = .ok .non := rfl
@[simp] theorem res_ex {c : Str} {ρ : Env} : Out.res (.ex c ρ) = .ex c := rfl
@[simp] theorem runF_eq (n : Nat) (F : DSem) (ds : List D) : runF n F ds = (F (startE n ds)).res := by unfold runF Out.res; rfl
@[simp] theorem bif_true {α : Type} {a b : α} : (if True then a else b) = a := if_pos trivial

/-! ### equations -/
section
variable {ρ : Env} {f g h : Env → Res D} {c c' : Env → Res Bool} {F G : DSem} {own : Owns} {i j n : Nat}
def getR : Option (Option D) → Res D
  | some (some d) => .ok d
  | _ => .no
@[simp] theorem getR_some {d : D} : getR (some (some d)) = .ok d := rfl
@[simp] theorem getR_none : getR none = .no := rfl
@[simp] theorem getR_none' : getR (some none) = .no := rfl
@[simp] theorem e_var : vVar i ρ = getR ρ[i]? := by unfold vVar getR; rfl
@[simp] theorem e_C {d : D} : vC d ρ = .ok d := rfl
@[simp] theorem e_v2 {o : D → D → Res D} : v2 o f g ρ = (f ρ).thn fun x => (g ρ).thn fun y => o x y := rfl
@[simp] theorem e_v1 {o : D → Res D} : v1 o f ρ = (f ρ).thn o := rfl
@[simp] theorem e_B : vB f ρ = (f ρ).thn bOf := rfl
@[simp] theorem e_aNil : aNil ρ = .ok [] := rfl
@[simp] theorem e_aCons {a : Env → Res (List D)} : aCons f a ρ = (f ρ).thn fun x => (a ρ).thn fun xs => .ok (x :: xs) := rfl
@[simp] theorem e_aConsI {a : Env → Res (List D)} : aConsI f a ρ = (f ρ).thn fun x => if imm x = true then (a ρ).thn fun xs => .ok (x :: xs) else .no := rfl
@[simp] theorem e_tup {a : Env → Res (List D)} : vTup a ρ = (a ρ).thn fun xs => if xs.length ≤ sizeLine then .ok (.tup xs) else .no := rfl
@[simp] theorem e_lst {a : Env → Res (List D)} : vLst a ρ = (a ρ).thn fun xs => if xs.length ≤ sizeLine then .ok (.lst xs) else .no := rfl
@[simp] theorem e_lstOf {a : Env → Res (List D)} : vLstOf a ρ = (a ρ).thn fun ds => .ok (.lst ds) := rfl
@[simp] theorem e_lstI {a : Env → Res (List D)} : vLstI a ρ = (a ρ).thn fun ds => if imms ds = true then .ok (.lst ds) else .no := rfl
@[simp] theorem e_nLst {a : Env → Res (List D)} : nLst a ρ = (a ρ).thn fun xs => if xs.length ≤ sizeLine then .ok xs else .no := rfl
@[simp] theorem e_nList : nList f ρ = (f ρ).thn seqOf := rfl
def catR : D → D → Res (List D)
  | .lst xs, .lst ys => if xs.length + ys.length ≤ sizeLine then .ok (xs ++ ys) else .no
  | _, _ => .no
@[simp] theorem e_nCat : nCat f g ρ = (f ρ).thn fun x => (g ρ).thn fun y => catR x y := by unfold nCat Res.thn; congr 1
def slR : D → Option Int → Option Int → Res (List D)
  | .lst xs, l, u => .ok (cutA xs l u)
  | _, _, _ => .no
@[simp] theorem e_nSl {lo hi : Env → Res (Option Int)} : nSl f lo hi ρ = (f ρ).thn fun x => (lo ρ).thn fun l => (hi ρ).thn fun u => slR x l u := by
  unfold nSl Res.thn
  congr 1
  funext x
  cases x <;> rfl
@[simp] theorem e_sl {lo hi : Env → Res (Option Int)} : vSl f lo hi ρ = (f ρ).thn fun x => (lo ρ).thn fun l => (hi ρ).thn fun u => g_sl x l u := rfl
@[simp] theorem e_oNone : oNone ρ = .ok none := rfl
@[simp] theorem e_oSome : oSome f ρ = (f ρ).thn iOf := rfl
@[simp] theorem e_call {o : List D → Res D} {a : Env → Res (List D)} : vCall o a ρ = (a ρ).thn o := rfl
@[simp] theorem e_callN {o : List D → Res D} {a : Env → Res (List D)} : vCallN n o a ρ = (a ρ).thn fun ds => if ds.length = n then o ds else .no := rfl
@[simp] theorem e_call0 {o : List D → Res D} : vCall0 o ρ = o [] := rfl
@[simp] theorem e_and : vAnd f g ρ = (f ρ).thn fun x => (bOf x).thn fun b => if b = true then g ρ else .ok (.bl false) := by unfold vAnd Res.thn; cases f ρ <;> rfl
@[simp] theorem e_or : vOr f g ρ = (f ρ).thn fun x => (bOf x).thn fun b => if b = true then .ok (.bl true) else g ρ := by unfold vOr Res.thn; cases f ρ <;> rfl
@[simp] theorem e_not : vNot f ρ = (f ρ).thn fun x => (bOf x).thn fun b => .ok (.bl (!b)) := by unfold vNot Res.thn; cases f ρ <;> rfl
@[simp] theorem e_if : vIf c f g ρ = (c ρ).thn fun b => if b = true then f ρ else g ρ := rfl
@[simp] theorem e_notD : tNotD c ρ = (c ρ).thn fun b => .ok (!b) := rfl
@[simp] theorem e_andD : tAndD c c' ρ = (c ρ).thn fun b => if b = true then c' ρ else .ok false := rfl
@[simp] theorem e_orD : tOrD c c' ρ = (c ρ).thn fun b => if b = true then .ok true else c' ρ := rfl
@[simp] theorem e_true : tTrue ρ = .ok true := rfl
@[simp] theorem e_dic : vDic f ρ = (f ρ).thn dicOf := rfl
@[simp] theorem e_get2 : vGet2 f g h ρ = (f ρ).thn fun d => (g ρ).thn fun k => (h ρ).thn fun x => (getD? d k).thn fun o => .ok (o.getD x) := rfl
@[simp] theorem e_get1 : vGet1 f g ρ = (f ρ).thn fun d => (g ρ).thn fun k => (getD? d k).thn fun o => .ok (o.getD .non) := rfl
@[simp] theorem e_iSeq : iSeq f ρ = (f ρ).thn seqOf := rfl
def rng1 : D → Res (List D)
  | .int j => if -(2 ^ 62) ≤ j ∧ j < 2 ^ 62 then .ok (rangeD 0 j.toNat) else .no
  | _ => .no
def rng2 : D → D → Res (List D)
  | .int i, .int j => if -(2 ^ 62) ≤ i ∧ i < 2 ^ 62 ∧ -(2 ^ 62) ≤ j ∧ j < 2 ^ 62 then .ok (rangeD i (j - i).toNat) else .no
  | _, _ => .no
@[simp] theorem e_range1 : iRange1 f ρ = (f ρ).thn rng1 := by unfold iRange1 Res.thn; congr 1
@[simp] theorem e_range2 : iRange2 f g ρ = (f ρ).thn fun x => (g ρ).thn fun y => rng2 x y := by unfold iRange2 Res.thn; congr 1
@[simp] theorem e_enum : iEnumD f ρ = (f ρ).thn fun x => (lstOf x).thn fun ds => .ok (enumD ds) := by unfold iEnumD Res.thn; cases f ρ <;> rfl
@[simp] theorem e_rev : iRevD f ρ = (f ρ).thn fun x => (lstOf x).thn fun ds => .ok ds.reverse := by unfold iRevD Res.thn; cases f ρ <;> rfl
@[simp] theorem e_zip : iZipD f g ρ = (f ρ).thn fun x => (g ρ).thn fun y => (lstOf x).thn fun ds => (lstOf y).thn fun es => .ok (zipD ds es) := rfl
@[simp] theorem e_comp {fi : Env → Res (List D)} {is vs : List Nat} {ks : D → Res (List D)} {ft : Env → Res Bool} : nComp fi is ks ft f vs ρ = (fi ρ).thn fun ds => (noEx (compL is ks ft f (wipeE ρ vs) ds)).thn fun ys => if ys.length ≤ sizeLine then .ok ys else .no := rfl
@[simp] theorem s_seq : sSeq F G ρ = (F ρ).thn G := by unfold sSeq Out.thn; rfl
@[simp] theorem s_next : sNext ρ = .nx ρ := rfl
@[simp] theorem s_asg : sAsg own j f ρ = andThen (f (maskE own ρ)) ρ fun d => .nx (ρ.set j (some d)) := rfl
@[simp] theorem s_asgI : sAsgI j f ρ = andThen (f ρ) ρ fun d => if imm d = true then .nx (ρ.set j (some d)) else .no := rfl
@[simp] theorem s_asgV : sAsgV j f ρ = andThen (f ρ) ρ fun d => .nx (ρ.set j (some d)) := rfl
@[simp] theorem s_ret : sRet f ρ = andThen (f ρ) ρ fun d => .rt d := rfl
@[simp] theorem s_retI : sRetI f ρ = andThen (f ρ) ρ fun d => if imm d = true then .rt d else .no := rfl
@[simp] theorem s_retN : sRetN ρ = .rt .non := rfl
def retO : Option (Option D) → Out
  | some (some d) => .rt d
  | _ => .no
@[simp] theorem retO_some {d : D} : retO (some (some d)) = .rt d := rfl
@[simp] theorem s_retO : sRetO j ρ = retO ρ[j]? := by unfold sRetO retO; rfl
@[simp] theorem s_drop : sDrop f ρ = andThen (f ρ) ρ fun _ => .nx ρ := rfl
def ifK (F G : DSem) (ρ : Env) (b : Bool) : Out := if b = true then F ρ else G ρ
@[simp] theorem ifK_true : ifK F G ρ true = F ρ := rfl
@[simp] theorem ifK_false : ifK F G ρ false = G ρ := rfl
@[simp] theorem s_if : sIf c F G ρ = andThen (c ρ) ρ (ifK F G ρ) := rfl
def unpR (ρ : Env) (is : List Nat) : Res (List D) → Out
  | .ok l => .nx (setE ρ is l)
  | _ => .no
@[simp] theorem unpR_ok {is : List Nat} {l : List D} : unpR ρ is (.ok l) = .nx (setE ρ is l) := rfl
@[simp] theorem s_unp {is : List Nat} {ks : D → Res (List D)} : sUnp own is ks f ρ = andThen (f (maskE own ρ)) ρ fun d => unpR ρ is (ks d) := by
  unfold sUnp; congr 1
@[simp] theorem s_unpI {is : List Nat} {ks : D → Res (List D)} : sUnpI is ks f ρ = andThen (f ρ) ρ fun d => if imm d = true then unpR ρ is (ks d) else .no := by
  unfold sUnpI; congr 1; funext d; cases ks d <;> simp [unpR]
@[simp] theorem s_then {g : Env → Env} : sThen F g ρ = (F ρ).thn fun ρ' => .nx (g ρ') := by unfold sThen Out.thn; rfl
@[simp] theorem s_app : sApp own j f ρ = if isLst ρ j = true then andThen (f (maskE own ρ)) ρ fun d => appD ρ j d else .no := rfl
@[simp] theorem s_appI : sAppI j f ρ = if isLst ρ j = true then andThen (f ρ) ρ fun d => if imm d = true then appD ρ j d else .no else .no := rfl
@[simp] theorem s_appF : sAppF j f ρ = if isLst ρ j = true then andThen (f ρ) ρ fun d => appD ρ j d else .no := rfl
@[simp] theorem s_put : sPut own j f g ρ = if hasE ρ j = true then andThen (g (maskE own ρ)) ρ fun d => andThen (f ρ) ρ fun k => putO ρ j k d else .no := rfl
@[simp] theorem s_putI : sPutI j f g ρ = if hasE ρ j = true then andThen (g ρ) ρ fun d => if imm d = true then andThen (f ρ) ρ fun k => putO ρ j k d else .no else .no := rfl
@[simp] theorem s_setL : sSetL own j f g ρ = if hasE ρ j = true then andThen (g (maskE own ρ)) ρ fun d => andThen (f ρ) ρ fun k => setO ρ j k d else .no := rfl
@[simp] theorem s_setLI : sSetLI j f g ρ = if hasE ρ j = true then andThen (g ρ) ρ fun d => if imm d = true then andThen (f ρ) ρ fun k => setO ρ j k d else .no else .no := rfl
@[simp] theorem s_clear : sClear j ρ = if isLst ρ j = true then .nx (ρ.set j (some (.lst []))) else .no := rfl
@[simp] theorem s_for {fi : Env → Res (List D)} {is fg : List Nat} {ks : D → Res (List D)} : sFor own fi is ks F fg ρ = andThen (fi (maskE own ρ)) ρ fun ds => forF is ks F fg ds (forget ρ fg) := rfl
@[simp] theorem s_forV {fi : Env → Res (List D)} {is fg : List Nat} {ks : D → Res (List D)} : sForV fi is ks F fg ρ = andThen (fi ρ) ρ fun ds => forF is ks F fg ds (forget ρ fg) := rfl
end
@[simp] theorem isLst_ok {ρ : Env} {j : Nat} {ds : List D} (h : ρ[j]? = some (some (.lst ds))) : isLst ρ j = true := by unfold isLst; rw [h]
@[simp] theorem hasE_ok {ρ : Env} {j : Nat} {d : D} (h : ρ[j]? = some (some d)) : hasE ρ j = true := by unfold hasE; rw [h]

/-! ### values -/
@[simp] theorem g_add_int (i j : Int) : g_add (.int i) (.int j) = .ok (.int (i + j)) := rfl
@[simp] theorem g_sub_int (i j : Int) : g_sub (.int i) (.int j) = .ok (.int (i - j)) := rfl
theorem g_mul_int {i j : Int} (h : (-18446744073709551616 < i ∧ i < 18446744073709551616) ∨ (-18446744073709551616 < j ∧ j < 18446744073709551616)) : g_mul (.int i) (.int j) = .ok (.int (i * j)) := by
  have h : CMul i j := h
  simp [g_mul, h]
theorem g_mod_int {i j : Int} (h : 0 < j) : g_mod (.int i) (.int j) = .ok (.int (i % j)) := by simp [g_mod, h]
theorem g_fdiv_int {i j : Int} (h : 0 < j) (h2 : j < 18446744073709551616) : g_fdiv (.int i) (.int j) = .ok (.int (i / j)) := by
  have : CDivW i j := wide_div (b := 64) h (by omega) (by omega) (by omega)
  simp [g_fdiv, this]
@[simp] theorem gI_int (p : Int → Int → Bool) (i j : Int) : gI p (.int i) (.int j) = .ok (.bl (p i j)) := rfl
@[simp] theorem bOf_bl (b : Bool) : bOf (.bl b) = .ok b := rfl
@[simp] theorem iOf_int (i : Int) : iOf (.int i) = .ok (some i) := rfl
@[simp] theorem seqOf_lst (xs : List D) : seqOf (.lst xs) = .ok xs := rfl
@[simp] theorem seqOf_tup (xs : List D) : seqOf (.tup xs) = .ok xs := rfl
@[simp] theorem lstOf_lst (xs : List D) : lstOf (.lst xs) = .ok xs := rfl
@[simp] theorem c_len_lst (xs : List D) : c_len [.lst xs] = .ok (.int xs.length) := rfl
@[simp] theorem c_len_tup (xs : List D) : c_len [.tup xs] = .ok (.int xs.length) := rfl
@[simp] theorem kName_ok (d : D) : kName d = .ok [d] := rfl
@[simp] theorem g_sl_tup (xs : List D) (l u : Option Int) : g_sl (.tup xs) l u = .ok (.tup (cutA xs l u)) := rfl
@[simp] theorem g_sl_lst (xs : List D) (l u : Option Int) : g_sl (.lst xs) l u = .ok (.lst (cutA xs l u)) := rfl
@[simp] theorem maskE_nil (ρ : Env) : maskE [] ρ = ρ := rfl
theorem sz (n : Nat) (h : n ≤ 16777216) : (n ≤ sizeLine) = True := by have : sizeLine = 16777216 := rfl; rw [this]; exact eq_true h
end DL

/-! DM2: equality of data, loops by folds, slices. -/
namespace DL
open PySem L2

/-! ### == of data without truths -/
mutual
/-- no truths, no dicts, so deep at most -/
def nb : Nat → D → Bool
  | _, .non => true
  | _, .int _ => true
  | _, .str x => PyData.strOk x
  | n, .tup xs => match n with | 0 => false | n + 1 => nbs n xs
  | n, .lst xs => match n with | 0 => false | n + 1 => nbs n xs
  | _, _ => false
def nbs : Nat → List D → Bool
  | _, [] => true
  | n, x :: r => nb n x && nbs n r
end
mutual
theorem nb_lay : ∀ (x : D) (n : Nat), nb n x = true → (py x).canLay0 = true ∧ (py x).depth ≤ n
  | .non, n, _ => ⟨rfl, Nat.zero_le _⟩
  | .int _, n, _ => ⟨rfl, Nat.zero_le _⟩
  | .str x, n, h => ⟨by show PyData.strOk x = true; simpa [nb] using h, Nat.zero_le _⟩
  | .bl _, n, h => by simp [nb] at h
  | .dK _, n, h => by simp [nb] at h
  | .dT _, n, h => by simp [nb] at h
  | .tup xs, 0, h => by simp [nb] at h
  | .tup xs, n + 1, h => by
    have q := nbs_lay xs n (by simpa [nb] using h)
    exact ⟨by simpa [py, PyData.canLay0] using q.1, by have := q.2; simp only [py, PyData.depth]; omega⟩
  | .lst xs, 0, h => by simp [nb] at h
  | .lst xs, n + 1, h => by
    have q := nbs_lay xs n (by simpa [nb] using h)
    exact ⟨by simpa [py, PyData.canLay0] using q.1, by have := q.2; simp only [py, PyData.depth]; omega⟩
theorem nbs_lay : ∀ (xs : List D) (n : Nat), nbs n xs = true → PyData.canLayAll0 (pys xs) = true ∧ PyData.depthAll (pys xs) ≤ n
  | [], n, _ => ⟨rfl, Nat.zero_le _⟩
  | x :: r, n, h => by
    have h2 : nb n x = true ∧ nbs n r = true := by simpa [nbs] using h
    have q1 := nb_lay x n h2.1
    have q2 := nbs_lay r n h2.2
    refine ⟨by simp only [pys, PyData.canLayAll0, Bool.and_eq_true]; exact ⟨q1.1, q2.1⟩, ?_⟩
    simp only [pys, PyData.depthAll]
    omega
end
mutual
theorem nb_eqv : ∀ (x y : D) (n m : Nat), nb n x = true → nb m y = true → (PyData.eqv (py x) (py y) = true ↔ x = y)
  | .bl _, _, n, _, h, _ => by simp [nb] at h
  | .dK _, _, n, _, h, _ => by simp [nb] at h
  | .dT _, _, n, _, h, _ => by simp [nb] at h
  | _, .bl _, _, n, _, h => by simp [nb] at h
  | _, .dK _, _, n, _, h => by simp [nb] at h
  | _, .dT _, _, n, _, h => by simp [nb] at h
  | .non, .non, _, _, _, _ => by simp [py, PyData.eqv]
  | .non, .int _, _, _, _, _ => by simp [py, PyData.eqv]
  | .non, .str _, _, _, _, _ => by simp [py, PyData.eqv]
  | .non, .tup _, _, _, _, _ => by simp [py, PyData.eqv]
  | .non, .lst _, _, _, _, _ => by simp [py, PyData.eqv]
  | .int _, .non, _, _, _, _ => by simp [py, PyData.eqv]
  | .int _, .int _, _, _, _, _ => by simp [py, PyData.eqv]
  | .int _, .str _, _, _, _, _ => by simp [py, PyData.eqv]
  | .int _, .tup _, _, _, _, _ => by simp [py, PyData.eqv]
  | .int _, .lst _, _, _, _, _ => by simp [py, PyData.eqv]
  | .str _, .non, _, _, _, _ => by simp [py, PyData.eqv]
  | .str _, .int _, _, _, _, _ => by simp [py, PyData.eqv]
  | .str _, .str _, _, _, _, _ => by simp [py, PyData.eqv]
  | .str _, .tup _, _, _, _, _ => by simp [py, PyData.eqv]
  | .str _, .lst _, _, _, _, _ => by simp [py, PyData.eqv]
  | .tup _, .non, _, _, _, _ => by simp [py, PyData.eqv]
  | .tup _, .int _, _, _, _, _ => by simp [py, PyData.eqv]
  | .tup _, .str _, _, _, _, _ => by simp [py, PyData.eqv]
  | .tup _, .lst _, _, _, _, _ => by simp [py, PyData.eqv]
  | .lst _, .non, _, _, _, _ => by simp [py, PyData.eqv]
  | .lst _, .int _, _, _, _, _ => by simp [py, PyData.eqv]
  | .lst _, .str _, _, _, _, _ => by simp [py, PyData.eqv]
  | .lst _, .tup _, _, _, _, _ => by simp [py, PyData.eqv]
  | .tup xs, .tup ys, 0, _, h, _ => by simp [nb] at h
  | .tup xs, .tup ys, _ + 1, 0, _, h => by simp [nb] at h
  | .tup xs, .tup ys, n + 1, m + 1, h, h2 => by
    have := nbs_eqv xs ys n m (by simpa [nb] using h) (by simpa [nb] using h2)
    simp only [py, PyData.eqv, this, D.tup.injEq]
  | .lst xs, .lst ys, 0, _, h, _ => by simp [nb] at h
  | .lst xs, .lst ys, _ + 1, 0, _, h => by simp [nb] at h
  | .lst xs, .lst ys, n + 1, m + 1, h, h2 => by
    have := nbs_eqv xs ys n m (by simpa [nb] using h) (by simpa [nb] using h2)
    simp only [py, PyData.eqv, this, D.lst.injEq]
theorem nbs_eqv : ∀ (xs ys : List D) (n m : Nat), nbs n xs = true → nbs m ys = true → (PyData.eqvAll (pys xs) (pys ys) = true ↔ xs = ys)
  | [], [], _, _, _, _ => by simp [pys, PyData.eqvAll]
  | [], _ :: _, _, _, _, _ => by simp [pys, PyData.eqvAll]
  | _ :: _, [], _, _, _, _ => by simp [pys, PyData.eqvAll]
  | x :: xs, y :: ys, n, m, h, h2 => by
    have a : nb n x = true ∧ nbs n xs = true := by simpa [nbs] using h
    have b : nb m y = true ∧ nbs m ys = true := by simpa [nbs] using h2
    simp only [pys, PyData.eqvAll, Bool.and_eq_true, nb_eqv x y n m a.1 b.1, nbs_eqv xs ys n m a.2 b.2, List.cons.injEq]
end
open Classical in
theorem deq_nb {x y : D} {n m : Nat} (hx : nb n x = true) (hy : nb m y = true) (hn : n ≤ 64) (hm : m ≤ 64) : deq x y = .ok (decide (x = y)) := by
  have q1 := nb_lay x n hx
  have q2 := nb_lay y m hy
  have s1 : SeqAt.shaped (py x) = true := by unfold SeqAt.shaped; rw [q1.1]; simp; omega
  have s2 : SeqAt.shaped (py y) = true := by unfold SeqAt.shaped; rw [q2.1]; simp; omega
  unfold deq
  rw [if_pos ⟨s1, s2⟩]
  congr 1
  have := nb_eqv x y n m hx hy
  by_cases e : x = y
  · rw [decide_eq_true e]; exact this.mpr e
  · rw [decide_eq_false e]
    cases q : PyData.eqv (py x) (py y) with
    | true => exact absurd (this.mp q) e
    | false => rfl
open Classical in
theorem deq_true {x y : D} {n m : Nat} (hx : nb n x = true) (hy : nb m y = true) (hn : n ≤ 64) (hm : m ≤ 64) (e : x = y) : deq x y = .ok true := by rw [deq_nb hx hy hn hm, decide_eq_true e]
open Classical in
theorem deq_false {x y : D} {n m : Nat} (hx : nb n x = true) (hy : nb m y = true) (hn : n ≤ 64) (hm : m ≤ 64) (e : x ≠ y) : deq x y = .ok false := by rw [deq_nb hx hy hn hm, decide_eq_false e]
theorem deq_int (i j : Int) : deq (.int i) (.int j) = .ok (decide (i = j)) := by
  rw [deq_nb (n := 0) (m := 0) rfl rfl (by omega) (by omega)]
  simp
theorem g_eq_int (i j : Int) : g_eq (.int i) (.int j) = .ok (.bl (decide (i = j))) := by unfold g_eq; rw [deq_int]; rfl
theorem g_ne_int (i j : Int) : g_ne (.int i) (.int j) = .ok (.bl (!decide (i = j))) := by unfold g_ne; rw [deq_int]; rfl
theorem nbs_map {α : Type} {f : α → D} {n : Nat} (h : ∀ x, nb n (f x) = true) : ∀ xs : List α, nbs n (xs.map f) = true
  | [] => rfl
  | x :: r => by simp only [List.map_cons, nbs, h x, nbs_map h r, Bool.and_self]
theorem nbs_map' {α : Type} {f : α → D} {n : Nat} : ∀ {xs : List α}, (∀ x ∈ xs, nb n (f x) = true) → nbs n (xs.map f) = true
  | [], _ => rfl
  | x :: r, h => by simp only [List.map_cons, nbs, h x List.mem_cons_self, nbs_map' fun y hy => h y (List.mem_cons_of_mem _ hy), Bool.and_self]
@[simp] theorem nb_int (n : Nat) (i : Int) : nb n (.int i) = true := by unfold nb; rfl
@[simp] theorem nb_non (n : Nat) : nb n .non = true := by unfold nb; rfl
@[simp] theorem nb_tup (n : Nat) (xs : List D) : nb (n + 1) (.tup xs) = nbs n xs := by simp [nb]
@[simp] theorem nb_lst (n : Nat) (xs : List D) : nb (n + 1) (.lst xs) = nbs n xs := by simp [nb]
@[simp] theorem nbs_nil (n : Nat) : nbs n [] = true := rfl
@[simp] theorem nbs_cons (n : Nat) (x : D) (r : List D) : nbs n (x :: r) = (nb n x && nbs n r) := rfl
@[simp] theorem nbs_ints (n : Nat) (xs : List Int) : nbs n (xs.map D.int) = true := nbs_map (fun x => nb_int n x) xs
theorem nbs_append (n : Nat) : ∀ (xs ys : List D), nbs n (xs ++ ys) = (nbs n xs && nbs n ys)
  | [], ys => by simp
  | x :: r, ys => by simp only [List.cons_append, nbs, nbs_append n r ys, Bool.and_assoc]
theorem int_inj {xs ys : List Int} : xs.map D.int = ys.map D.int ↔ xs = ys := by
  constructor
  · intro h
    induction xs generalizing ys with
    | nil => cases ys with
      | nil => rfl
      | cons _ _ => simp at h
    | cons x r ih => cases ys with
      | nil => simp at h
      | cons y s =>
        simp only [List.map_cons, List.cons.injEq, D.int.injEq] at h
        rw [h.1, ih h.2]
  · intro h; rw [h]

/-! ### imm -/
theorem imms_map {α : Type} {f : α → D} (h : ∀ x, imm (f x) = true) : ∀ xs : List α, imms (xs.map f) = true
  | [] => rfl
  | x :: r => by simp only [List.map_cons, imms, h x, imms_map h r, Bool.and_self]
@[simp] theorem imm_int (i : Int) : imm (.int i) = true := by unfold imm; rfl
@[simp] theorem imm_bl (i : Bool) : imm (.bl i) = true := by unfold imm; rfl
@[simp] theorem imm_str (i : Str) : imm (.str i) = true := by unfold imm; rfl
@[simp] theorem imm_non : imm .non = true := by unfold imm; rfl
@[simp] theorem imm_tup (xs : List D) : imm (.tup xs) = imms xs := by simp [imm]
@[simp] theorem imm_lst (xs : List D) : imm (.lst xs) = false := by simp [imm]
@[simp] theorem imms_nil : imms [] = true := rfl
@[simp] theorem imms_cons (x : D) (r : List D) : imms (x :: r) = (imm x && imms r) := rfl
@[simp] theorem imms_ints (xs : List Int) : imms (xs.map D.int) = true := imms_map (fun x => imm_int x) xs
theorem imms_append : ∀ (xs ys : List D), imms (xs ++ ys) = (imms xs && imms ys)
  | [], ys => by simp
  | x :: r, ys => by simp only [List.cons_append, imms, imms_append r ys, Bool.and_assoc]

/-! ### places -/
theorem atI_map {α : Type} (f : α → D) (xs : List α) (k : Nat) (h : k < xs.length) : atI (xs.map f) ((k : Nat) : Int) = some (f xs[k]) := atI_nat (by simp [h])
theorem g_ix_lst {α : Type} (f : α → D) (xs : List α) (k : Nat) (h : k < xs.length) : g_ix (.lst (xs.map f)) (.int ((k : Nat) : Int)) = .ok (f xs[k]) := by simp only [g_ix, atI_map f xs k h]
theorem g_ix_lst' {α : Type} (f : α → D) (xs : List α) (i : Int) (h0 : 0 ≤ i) (h : i < xs.length) : g_ix (.lst (xs.map f)) (.int i) = .ok (f (xs[i.toNat]'(by omega))) := by
  obtain ⟨k, rfl⟩ := Int.eq_ofNat_of_zero_le h0
  exact g_ix_lst f xs k (by omega)
theorem g_ix_nat (xs : List D) (k : Nat) (h : k < xs.length) : g_ix (.lst xs) (.int ((k : Nat) : Int)) = .ok xs[k] := by
  have : atI xs ((k : Nat) : Int) = some xs[k] := atI_nat (by simp [h])
  simp only [g_ix, this]
theorem g_ix_cons0 (x : D) (r : List D) : g_ix (.lst (x :: r)) (.int 0) = .ok x := g_ix_nat (x :: r) 0 (by simp)
theorem g_ix_t0 (x : D) (r : List D) : g_ix (.tup (x :: r)) (.int 0) = .ok x := by
  have : atI (x :: r) ((0 : Nat) : Int) = some x := atI_nat rfl
  simp only [g_ix]; rw [show (0 : Int) = ((0 : Nat) : Int) from rfl, this]
theorem g_ix_t1 (x y : D) (r : List D) : g_ix (.tup (x :: y :: r)) (.int 1) = .ok y := by
  have : atI (x :: y :: r) ((1 : Nat) : Int) = some y := atI_nat rfl
  simp only [g_ix]; rw [show (1 : Int) = ((1 : Nat) : Int) from rfl, this]
theorem g_ix_t2 (x y z : D) (r : List D) : g_ix (.tup (x :: y :: z :: r)) (.int 2) = .ok z := by
  have : atI (x :: y :: z :: r) ((2 : Nat) : Int) = some z := atI_nat rfl
  simp only [g_ix]; rw [show (2 : Int) = ((2 : Nat) : Int) from rfl, this]
theorem g_ix_t3 (x y z u : D) (r : List D) : g_ix (.tup (x :: y :: z :: u :: r)) (.int 3) = .ok u := by
  have : atI (x :: y :: z :: u :: r) ((3 : Nat) : Int) = some u := atI_nat rfl
  simp only [g_ix]; rw [show (3 : Int) = ((3 : Nat) : Int) from rfl, this]

/-! ### slices -/
theorem cutA_to {α : Type} (xs : List α) (k : Nat) : cutA xs none (some (k : Int)) = xs.take k := by
  unfold cutA
  rw [HT.sIx_none, HT.sIx_nat]
  simp [List.take_eq_take_iff]
theorem cutA_from {α : Type} (xs : List α) (k : Nat) : cutA xs (some (k : Int)) none = xs.drop k := by
  unfold cutA
  rw [HT.sIx_none, HT.sIx_nat]
  by_cases h : k ≤ xs.length
  · rw [Nat.min_eq_left h, List.take_of_length_le (by simp)]
  · rw [Nat.min_eq_right (by omega), List.drop_eq_nil_of_le (Nat.le_refl _), List.drop_eq_nil_of_le (by omega)]; simp
theorem cutA_mid {α : Type} (xs : List α) (k m : Nat) : cutA xs (some (k : Int)) (some (m : Int)) = (xs.drop k).take (m - k) := by
  unfold cutA
  rw [HT.sIx_nat, HT.sIx_nat]
  by_cases h : k ≤ xs.length
  · rw [Nat.min_eq_left h, List.take_eq_take_iff, List.length_drop]; omega
  · rw [Nat.min_eq_right (show xs.length ≤ k by omega), List.drop_eq_nil_of_le (Nat.le_refl _), List.drop_eq_nil_of_le (show xs.length ≤ k by omega)]; simp
theorem cutA_map {α β : Type} (f : α → β) (xs : List α) (l u : Option Int) : cutA (xs.map f) l u = (cutA xs l u).map f := by
  unfold cutA
  simp [List.map_take, List.map_drop]

/-! ### loops -/
theorem compL_map {α : Type} {is : List Nat} {ks : D → Res (List D)} {ft : Env → Res Bool} {fe : Env → Res D} {ρ : Env} (enc g : α → D) : ∀ {xs : List α}, (∀ x ∈ xs, ∃ l, ks (enc x) = .ok l ∧ ft (setE ρ is l) = .ok true ∧ fe (setE ρ is l) = .ok (g x)) →
    compL is ks ft fe ρ (xs.map enc) = .ok (xs.map g)
  | [], _ => rfl
  | x :: r, h => by
    obtain ⟨l, h1, h2, h3⟩ := h x List.mem_cons_self
    have ih := compL_map enc g fun y hy => h y (List.mem_cons_of_mem _ hy)
    simp only [List.map_cons, compL, h1, h2, h3, noEx, Res.bind_ok, if_pos, ih]
theorem compL_filter {α : Type} {is : List Nat} {ks : D → Res (List D)} {ft : Env → Res Bool} {fe : Env → Res D} {ρ : Env} (enc g : α → D) (p : α → Bool) : ∀ {xs : List α}, (∀ x ∈ xs, ∃ l, ks (enc x) = .ok l ∧ ft (setE ρ is l) = .ok (p x) ∧ (p x = true → fe (setE ρ is l) = .ok (g x))) →
    compL is ks ft fe ρ (xs.map enc) = .ok ((xs.filter p).map g)
  | [], _ => rfl
  | x :: r, h => by
    obtain ⟨l, h1, h2, h3⟩ := h x List.mem_cons_self
    have ih := compL_filter enc g p fun y hy => h y (List.mem_cons_of_mem _ hy)
    cases q : p x with
    | true => rw [List.filter_cons_of_pos q]; simp only [List.map_cons, compL, h1, h2, q, h3 q, noEx, Res.bind_ok, if_pos, ih]
    | false => rw [List.filter_cons_of_neg (by simp [q])]; simp only [List.map_cons, compL, h1, h2, q, noEx, Res.bind_ok, Bool.false_eq_true, if_false, ih]
theorem forF_fold {α S : Type} {is fg : List Nat} {ks : D → Res (List D)} {F : DSem} (enc : α → D) (φ : S → Env) (step : S → α → S) (Iv : Nat → S → Prop) (xs : List α) :
    ∀ (n : Nat) (s : S), (∀ i s x, xs[i]? = some x → Iv (n + i) s → ∃ l ρ', ks (enc x) = .ok l ∧ (F (setE (φ s) is l) = .nx ρ' ∨ F (setE (φ s) is l) = .ct ρ') ∧ forget ρ' fg = φ (step s x) ∧ Iv (n + i + 1) (step s x)) → Iv n s →
      forF is ks F fg (xs.map enc) (φ s) = .nx (φ (xs.foldl step s)) ∧ Iv (n + xs.length) (xs.foldl step s) := by
  induction xs with
  | nil => intro n s _ h; exact ⟨rfl, h⟩
  | cons x r ih =>
    intro n s hs h
    obtain ⟨l, ρ', h1, h2, h3, h4⟩ := hs 0 s x rfl h
    have := ih (n + 1) (step s x) (fun i s' x' e iv => by
      have := hs (i + 1) s' x' (by simpa using e) (by rwa [show n + (i + 1) = n + 1 + i by omega])
      rwa [show n + (i + 1) = n + 1 + i by omega] at this) h4
    rw [List.map_cons, List.foldl_cons, List.length_cons, show n + (r.length + 1) = n + 1 + r.length by omega]
    refine ⟨?_, this.2⟩
    unfold forF
    rw [h1]
    rcases h2 with h2 | h2
    · simp only [h2, h3]; exact this.1
    · simp only [h2, h3]; exact this.1
theorem enumD_map {α : Type} (f : α → D) (xs : List α) : enumD (xs.map f) = xs.zipIdx.map fun p => D.tup [.int (p.2 : Int), f p.1] := by
  unfold enumD
  rw [List.zipIdx_map, List.map_map]
  rfl
theorem rangeD_eq (n : Nat) : rangeD 0 n = (List.range n).map fun (k : Nat) => D.int (k : Int) := by
  unfold rangeD
  simp
theorem rng1_ok {j : Int} (h0 : 0 ≤ j) (h : j < 4611686018427387904) : rng1 (.int j) = .ok ((List.range j.toNat).map fun (k : Nat) => D.int (k : Int)) := by
  show (if -(2 ^ 62) ≤ j ∧ j < 2 ^ 62 then Res.ok (rangeD 0 j.toNat) else Res.no) = _
  rw [if_pos ⟨by omega, by omega⟩, rangeD_eq]
theorem foldl_filter {α β : Type} (p : α → Bool) (g : α → β) : ∀ (xs : List α) (s : List β), xs.foldl (fun s x => if p x then s ++ [g x] else s) s = s ++ (xs.filter p).map g
  | [], s => by simp
  | x :: r, s => by
    rw [List.foldl_cons, foldl_filter p g r]
    cases q : p x with
    | true => simp [List.filter_cons_of_pos q]
    | false => simp [List.filter_cons_of_neg (by simp [q] : ¬ p x = true)]
theorem range_zipIdx {α β : Type} (d : α) (f : α → Nat → β) (xs : List α) : (List.range xs.length).map (fun k => f (xs.getD k d) k) = xs.zipIdx.map fun p => f p.1 p.2 := by
  apply List.ext_getElem?
  intro i
  rw [List.getElem?_map, List.getElem?_map, List.getElem?_zipIdx]
  by_cases h : i < xs.length
  · simp [h]
  · simp [h]
end DL

/-! DL33: min(xs, default=d), xs a list of tuples of ints. -/
namespace DL
open PySem PySem.Spec PyProof.Rows L2
def minTy (K : PySem.W.Frag) (x d : V) (H : Hp) (Q : VK) : Prop := ∃ (a : Addr) (vs : List V) (ds : List PyData), x = .ref a ∧ SqL K H a vs ∧ DpAll K H vs ds ∧ PySem.W.AlikeAll ds ∧ PyData.canLayAll0 ds = true ∧ PyData.depthAll ds ≤ 60 ∧
  (ds = [] → Q d H) ∧ ∀ (y : PyData) (ys : List PyData) (i : Nat) (v' : V), ds = y :: ys → vs[i]? = some v' → ds[i]? = some (PySem.W.minD y ys) → Q v' H
theorem pe_minD {X : Cx} {e de : Expr} {te td : TE} {p pos kpos : Pos} (hc : X.calm = true) (hu : X.A.units + 65 < cLine) (hg : L2.Gl X "min") (hm : X.mg "min" = none) (pe : PE X e te) (pd : PE X de td)
    (he : starEach [e] X.env = (false, eval e X.env) :: starEach [] X.env := by rfl) (hpl : (backTo pos (starEach [e] X.env)).any (·.1) = false := by rfl) (hall : (backToKw pos (keywordEach [⟨some "default", de, kpos⟩] X.env)).all (·.1.isSome) = true := by rfl)
    (hks : (backToKw pos (keywordEach [⟨some "default", de, kpos⟩] X.env)).filterMap (·.1) = [("default" : Str)] := by rfl) (hkw : (backToKw pos (keywordEach [⟨some "default", de, kpos⟩] X.env)).any (·.1.isNone) = false := by rfl)
    (he2 : backTo pos (starEach [e] X.env) = (false, eval e X.env) :: backTo pos (starEach [] X.env) := by rfl) :
    PE X (.Call (.Name "min" p) [e] [⟨some "default", de, kpos⟩] pos) (fun σ H Q => te σ H fun x H1 => td σ H1 fun d H2 => minTy X.K x d H2 Q) := by
  refine ⟨fun pins s σ H Q I h => ?_⟩
  refine wpAny_Call_Name_kw (ld_blt (u := .builtin "min") I hg hm (by decide +kernel) ?_ (by decide) (by decide))
  refine PyProof.Rows.callWith_kw ?_ he2 hpl hall hkw
  have pa := pa_cons pe pa_nil he
  refine thn (pa.run pos pins s σ H (fun vs H1 => match vs with | [x] => td σ H1 fun d H2 => minTy X.K x d H2 Q | _ => False) I h) fun us s1 ⟨vs, H1, I1, r, q⟩ => ?_
  match vs, r, q with
  | [x], r, q =>
  have pk := pk_cons (nm := some "default") (kpos := kpos) pd pk_nil
  refine thn (pk.run pos pins s1 σ H1 (fun zs H2 => match zs with | [d] => minTy X.K x d H2 Q | _ => False) I1 q) fun kvs s2 ⟨zs, H2, I2, rz, q2⟩ => ?_
  match zs, rz, q2 with
  | [d], rz, q2 =>
  rw [hks]
  obtain ⟨a, vs, ds, rfl, hs, hd, hal, hcl, hdp, h0, h1⟩ := q2
  rw [Vals.ref1 r]
  obtain ⟨ud, ek, rd⟩ : ∃ ud, kvs = [ud] ∧ RelV d ud := by
    cases rz with
    | cons rd rt => cases rt; exact ⟨_, rfl, rd⟩
  subst ek
  obtain ⟨its, rv, hl, _⟩ := I2.list hs
  obtain ⟨as, hr⟩ := Dp.readsAll I2 ds _ its hd rv
  have hxs := SeqAt.readsAll_map ds its as hcl hr
  show wpAny _ _ (call (.builtin "min") [.ref a] [("default", ud)]) _ _ s2
  refine PySem.W.min_list_default (xs := ds) (vs := its.toArray) (I2.ok.hd hc) hl.isList (by simpa using hr) hal (by have := hdp; omega) (fun e h' tk k => ?_) fun y ys i v h' tk bs e hv rm k => ?_
  · exact ⟨d, H2, I2.kept (t' := tk) k, rd, h0 e⟩
  · have hv2 : its[i]? = some v := by simpa using hv
    have hi : i < its.length := (List.getElem?_eq_some_iff.mp hv2).1
    have hv3 : i < vs.length := by rw [rv.length]; exact hi
    obtain ⟨u', hu', rx⟩ := rv.get (List.getElem?_eq_getElem hv3)
    rw [hv2] at hu'
    cases hu'
    refine ⟨_, H2, I2.kept (t' := tk) k, rx, h1 y ys i _ e (List.getElem?_eq_getElem hv3) ?_⟩
    have hdl : i < ds.length := by rw [← hxs, List.length_map]; exact hi
    obtain ⟨bs', r', _⟩ := PySem.W.readsAll_at hr i v hv2
    have r2 := PySem.W.reads_keeps k r'
    have gd : ds.getD i .none = ds[i] := by rw [List.getD_eq_getElem?_getD, List.getElem?_eq_getElem hdl]; rfl
    rw [gd] at r2
    rw [List.getElem?_eq_getElem hdl]
    congr 1
    exact PySem.SeqAt.Reads.unique _ _ _ _ _ (PyData.canLay0_of_mem _ _ hcl (List.getElem_mem hdl)) r2 rm
end DL

/-! DL34: min(xs, default=d): the rule. -/
namespace DL
open PySem PySem.Spec PyProof.Rows L2
def minK (k : List Int) (r : List (List Int)) : List Int := r.foldl (fun a y => if lexb y a then y else a) k
def minO (d : D) : List (List Int) → D
  | [] => d
  | k :: r => tupD (minK k r)
def minI (d : D) : List Int → D
  | [] => d
  | n :: r => .int (r.foldl min n)
def gMinD : D → D → Res D
  | .lst ds, d => match tupsOf ds with
    | some ks => if ks.all (fun k => decide (k.length = (ks.headD []).length)) = true then .ok (minO d ks) else .no
    | none => (match intsOf ds with
      | some ns => .ok (minI d ns)
      | none => .no)
  | _, _ => .no
theorem pys_map : ∀ ds : List D, pys ds = ds.map py
  | [] => rfl
  | d :: r => by show py d :: pys r = _; rw [pys_map r]; rfl
theorem py_tup (k : List Int) : py (tupD k) = .tuple (k.map .int) := by
  show PyData.tuple (pys (k.map D.int)) = _
  rw [pys_map, List.map_map]
  rfl
theorem py_tup_inj {a b : List Int} (h : py (tupD a) = py (tupD b)) : a = b := by
  rw [py_tup, py_tup] at h
  injection h with h
  have : ∀ (a b : List Int), a.map PyData.int = b.map PyData.int → a = b := fun a => by
    induction a with
    | nil => intro b h; cases b with | nil => rfl | cons => simp at h
    | cons x r ih =>
      intro b h
      cases b with
      | nil => simp at h
      | cons y q => simp at h; rw [h.1, ih q (by simpa using h.2)]
  exact this a b h
theorem lt_lexb : ∀ (x y : List Int), PyProof.Rows.lexLt PyProof.Rows.itemOrd (PySem.W.keyToksAll (x.map .int)) (PySem.W.keyToksAll (y.map .int)) = lexb x y
  | [], [] => by decide
  | [], b :: q => by
    show (decide ((0 : Int) < 1) || _) = true
    simp
  | a :: r, [] => by
    show (decide ((1 : Int) < 0) || (!decide ((0 : Int) < 1) && _)) = false
    simp
  | a :: r, b :: q => by
    have ih := lt_lexb r q
    show (decide ((1 : Int) < 1) || (!decide ((1 : Int) < 1) && (decide (a < b) || (!decide (b < a) && PyProof.Rows.lexLt PyProof.Rows.itemOrd (PySem.W.keyToksAll (r.map .int)) (PySem.W.keyToksAll (q.map .int)))))) = _
    rw [ih, show lexb (a :: r) (b :: q) = (decide (a < b) || (decide (a = b) && lexb r q)) from rfl]
    by_cases h1 : a < b
    · simp [h1]
    · by_cases h2 : b < a
      · simp [h1, h2, show ¬ a = b by omega]
      · simp [show a = b by omega]
theorem dlt_tup (x y : List Int) : PySem.W.dataLt (py (tupD x)) (py (tupD y)) = lexb x y := by
  rw [py_tup, py_tup]
  exact lt_lexb x y
theorem minD_tup : ∀ (r : List (List Int)) (k : List Int), PySem.W.minD (py (tupD k)) (pys (r.map tupD)) = py (tupD (minK k r))
  | [], k => rfl
  | y :: r, k => by
    show PySem.W.minD (if PySem.W.dataLt (py (tupD y)) (py (tupD k)) then py (tupD y) else py (tupD k)) (pys (r.map tupD)) = _
    rw [dlt_tup]
    show _ = py (tupD (minK (if lexb y k then y else k) r))
    rw [← minD_tup r]
    cases lexb y k <;> rfl
theorem ints_inv : ∀ {ds : List D} {k : List Int}, intsOf ds = some k → ds = k.map D.int
  | [], k, h => by simp only [intsOf, Option.some.injEq] at h; subst h; rfl
  | d :: r, k, h => by
    cases d with
    | int i =>
      simp only [intsOf] at h
      cases q : intsOf r with
      | none => rw [q] at h; cases h
      | some z => rw [q] at h; cases h; rw [ints_inv q]; rfl
    | _ => simp [intsOf] at h
theorem tups_inv : ∀ {ds : List D} {ks : List (List Int)}, tupsOf ds = some ks → ds = ks.map tupD
  | [], ks, h => by simp only [tupsOf, Option.some.injEq] at h; subst h; rfl
  | d :: r, ks, h => by
    cases d with
    | tup xs =>
      simp only [tupsOf] at h
      cases q : intsOf xs with
      | none => rw [q] at h; cases h
      | some z =>
        rw [q] at h
        simp only at h
        cases q2 : tupsOf r with
        | none => rw [q2] at h; cases h
        | some zs => rw [q2] at h; cases h; rw [ints_inv q, tups_inv q2]; rfl
    | _ => simp [tupsOf] at h
theorem alike_ints : ∀ (a b : List Int), PySem.W.alikeAll (a.map .int) (b.map .int) = true
  | [], b => by cases b <;> rfl
  | _ :: _, [] => rfl
  | a :: r, b :: q => by
    show (PySem.W.alike (.int a) (.int b) && PySem.W.alikeAll (r.map .int) (q.map .int)) = true
    rw [alike_ints r q]; rfl
theorem alike_tups (ks : List (List Int)) : PySem.W.AlikeAll (pys (ks.map tupD)) := by
  rw [pys_map, List.map_map]
  refine ⟨fun x hx y hy => ?_, fun x hx => ?_⟩
  · obtain ⟨a, _, rfl⟩ := List.mem_map.mp hx
    obtain ⟨b, _, rfl⟩ := List.mem_map.mp hy
    simp only [Function.comp_def, py_tup]
    exact alike_ints a b
  · obtain ⟨a, _, rfl⟩ := List.mem_map.mp hx
    simp only [Function.comp_def, py_tup]
    exact fun h => nomatch h
theorem pys_ints (ns : List Int) : pys (ns.map D.int) = ns.map .int := by
  rw [pys_map, List.map_map]; rfl
theorem nb_tupD (n : Nat) (k : List Int) : nb (n + 1) (tupD k) = true := by unfold tupD; simp
theorem de_minD {X : Cx} {W : WX} {e de : Expr} {f g : Env → Res D} {p pos kpos : Pos} (hc : X.calm = true) (hu : X.A.units + 65 < cLine) (hg : L2.Gl X "min") (hm : X.mg "min" = none) (d1 : DE X W e f) (d2 : DE X W de g)
    (he : starEach [e] X.env = (false, eval e X.env) :: starEach [] X.env := by rfl) (hpl : (backTo pos (starEach [e] X.env)).any (·.1) = false := by rfl) (hall : (backToKw pos (keywordEach [⟨some "default", de, kpos⟩] X.env)).all (·.1.isSome) = true := by rfl)
    (hks : (backToKw pos (keywordEach [⟨some "default", de, kpos⟩] X.env)).filterMap (·.1) = [("default" : Str)] := by rfl) (hkw : (backToKw pos (keywordEach [⟨some "default", de, kpos⟩] X.env)).any (·.1.isNone) = false := by rfl)
    (he2 : backTo pos (starEach [e] X.env) = (false, eval e X.env) :: backTo pos (starEach [] X.env) := by rfl) :
    DE X W (.Call (.Name "min" p) [e] [⟨some "default", de, kpos⟩] pos) (v2 gMinD f g) := by
  obtain ⟨t1, p1, h1⟩ := d1
  obtain ⟨t2, p2, h2⟩ := d2
  refine ⟨_, pe_minD hc hu hg hm p1 p2 he hpl hall hks hkw he2, fun G H σ ρ Q s e h => ?_⟩
  refine h1 G H σ ρ _ s e (Gl.imp (fun x G1 H1 _ e1 kg v rv => ?_) (Gl.bind h))
  refine h2 G1 H1 σ ρ _ e1.s (e.le e1.le) (Gl.imp (fun y G2 H2 _ e2 k2 w rw' => ?_) (Gl.bind kg))
  have rv2 := rv.le e2.le
  cases x with
  | lst ds =>
    simp only [gMinD] at k2
    split at k2
    · rename_i ks hks2
      split at k2
      · have ed := tups_inv hks2
        subst ed
        have nbk : nbs 5 (ks.map tupD) = true := nbs_map (fun z => nb_tupD 4 z) ks
        obtain ⟨cl, dp⟩ := nbs_lay _ 5 nbk
        obtain ⟨a, vs, rfl, hR, q⟩ := rv2
        refine ⟨a, vs, pys (ks.map tupD), rfl, e2.s.sqL hR, dps_of e2.s cl q, alike_tups ks, cl, by omega, fun e0 => ?_, fun y ys i v' ey hv' hd => ?_⟩
        · cases ks with
          | nil => exact k2 G2 H2 (Ext.refl e2.s) w rw'
          | cons a b => simp [pys] at e0
        · cases ks with
          | nil => simp [pys] at ey
          | cons k r =>
            have ey2 : py (tupD k) = y ∧ pys (r.map tupD) = ys := by
              rw [List.map_cons] at ey
              have : py (tupD k) :: pys (r.map tupD) = y :: ys := ey
              injection this with a b
              exact ⟨a, b⟩
            obtain ⟨rfl, rfl⟩ := ey2
            rw [minD_tup] at hd
            rw [pys_map, List.getElem?_map, Option.map_eq_some_iff] at hd
            obtain ⟨d, hd1, hd2⟩ := hd
            rw [List.getElem?_map, Option.map_eq_some_iff] at hd1
            obtain ⟨k', hk', rfl⟩ := hd1
            have ek : k' = minK k r := py_tup_inj hd2
            obtain ⟨v2, g1, g2⟩ := q.get (i := i) (d := tupD k') (by rw [List.getElem?_map, hk']; rfl)
            rw [ek] at g2
            rw [hv'] at g1
            cases g1
            exact k2 G2 H2 (Ext.refl e2.s) _ g2
      · exact k2.elim
    · split at k2
      · rename_i ns hns
        have ed := ints_inv hns
        subst ed
        have nbk : nbs 5 (ns.map D.int) = true := nbs_ints 5 ns
        obtain ⟨cl, dp⟩ := nbs_lay _ 5 nbk
        obtain ⟨a, vs, rfl, hR, q⟩ := rv2
        refine ⟨a, vs, pys (ns.map D.int), rfl, e2.s.sqL hR, dps_of e2.s cl q, ?_, cl, by omega, fun e0 => ?_, fun y ys i v' ey hv' hd => ?_⟩
        · rw [pys_ints]
          exact ⟨fun x hx y hy => by
            obtain ⟨a, _, rfl⟩ := List.mem_map.mp hx
            obtain ⟨b, _, rfl⟩ := List.mem_map.mp hy
            rfl, fun x hx => by
            obtain ⟨a, _, rfl⟩ := List.mem_map.mp hx
            exact fun h => nomatch h⟩
        · cases ns with
          | nil => exact k2 G2 H2 (Ext.refl e2.s) w rw'
          | cons a b => simp [pys] at e0
        · rw [pys_ints] at ey hd
          cases ns with
          | nil => cases ey
          | cons n r =>
            rw [List.map_cons] at ey
            injection ey with ey1 ey2
            subst ey1 ey2
            rw [PySem.W.minD_ints, List.getElem?_map, Option.map_eq_some_iff] at hd
            obtain ⟨m, hm1, hm2⟩ := hd
            have em : m = r.foldl min n := by injection hm2
            obtain ⟨v2, g1, g2⟩ := q.get (i := i) (d := .int m) (by rw [List.getElem?_map, hm1]; rfl)
            rw [hv'] at g1
            cases g1
            rw [em] at g2
            exact k2 G2 H2 (Ext.refl e2.s) _ g2
      · exact k2.elim
  | _ => exact k2.elim
end DL

/-! DL35: {k: v}. -/
namespace DL
open PySem PySem.Spec PyProof.Rows L2
def dispR (x y : D) : Res D := match keyD x with
  | some kk => .ok (.dK [(kk, y)])
  | none => .no
def vDisp1 (fk fv : Env → Res D) : Env → Res D := fun ρ => noEx (fk ρ) >>= fun x => noEx (fv ρ) >>= fun y => dispR x y
theorem df_disp1 {X : Cx} {W : WX} {a b : Expr} {fk fv : Env → Res D} {pos : Pos} (d1 : DE X W a fk) (d2 : DE X W b fv) : DF X W .sh (.Dict [some a] [b] pos) (vDisp1 fk fv) := by
  obtain ⟨t1, p1, h1⟩ := d1
  obtain ⟨t2, p2, h2⟩ := d2
  refine ⟨_, pe_disp (pps_cons p1 p2 pps_nil) rfl rfl (by simp) (by simp), fun G H σ ρ Q s e h p np => ?_⟩
  have hid : Ext G H G (upd H p (.dK [])) := Ext.hid s np
  unfold vDisp1 at h
  cases q1 : fk ρ with
  | ok x =>
    rw [q1] at h
    refine h1 G _ σ ρ _ hid.s e ?_
    rw [q1]
    intro G1 H1 e1 v rv
    cases q2 : fv ρ with
    | ok y =>
      rw [q2] at h
      refine h2 G1 H1 σ ρ _ e1.s (e.le e1.le) ?_
      rw [q2]
      intro G2 H2 e2 w rw'
      have e12 := e1.trans e2
      have hp : H2 p = some (.dK []) := e12.h _ _ upd_same
      have h : GlF X.mg W .sh G H σ Q (dispR x y) := h
      unfold dispR at h
      cases q3 : keyD x with
      | some kk =>
        rw [q3] at h
        have ev : v = kV kk := keyD_rep q3 rv
        refine ⟨hp, [(kk, w)], by rw [ev]; rfl, by simp, ?_⟩
        have gp : G2 p = none := by
          cases z : G2 p with
          | none => rfl
          | some o =>
            exfalso
            have z2 := e2.s _ _ z
            rw [hp] at z2
            cases z2
            rcases e12.n _ _ z with a | a | ⟨vs, a⟩
            · rw [s _ _ a] at np; cases np
            · rw [upd_same] at a; cases a
            · cases a
        have ex : Ext G H G2 (upd H2 p (.dK [(kk, w)])) := by
          refine ⟨fun a o z => ?_, fun a o z => e12.g a o z, fun a o z => ?_, fun a o z => ?_⟩
          · rw [upd_ne (ne_of_none z np)]; exact e12.h a o (hid.h a o z)
          · rw [upd_ne (ne_of_none z gp)]; exact e12.s a o z
          · rcases e12.n a o z with b | b | b
            · exact .inl b
            · refine .inr (.inl ?_)
              by_cases c : a = p
              · rw [c]; exact np
              · rwa [upd_ne c] at b
            · exact .inr (.inr b)
        exact h G2 _ ex (.ref p) [p] ⟨p, rfl, rfl, [(kk, w)], upd_same, w, [], rfl, rw', rfl⟩ fun a ha => by rw [show a = p by simpa using ha]; exact ⟨gp, np⟩
      | none => rw [q3] at h; exact h.elim
    | ex c => rw [q2] at h; exact h.elim
    | no => rw [q2] at h; exact h.elim
  | ex c => rw [q1] at h; exact h.elim
  | no => rw [q1] at h; exact h.elim
end DL

/-! DL36: for k, v in xs[i].items(), xs an own list whose items stand in the region. -/
namespace DL
open PySem PySem.Spec PyProof.Rows L2
def ixL (ds : List D) : D → Res D
  | .int i => (match atI ds i with
    | some d => .ok d
    | none => .no)
  | _ => .no
def isK (own : Owns) (f : Env → Res D) (is : List Nat) (ks : D → Res (List D)) (F : DSem) (fg : List Nat) (ρ : Env) : Option (Option D) → Out
  | some (some (.lst ds)) => andThen (f (maskE own ρ)) ρ fun y => andThen (ixL ds y) ρ fun d => itemsK is fg ks F ρ (itemsOf d)
  | _ => .no
def sForIS (own : Owns) (j : Nat) (f : Env → Res D) (is : List Nat) (ks : D → Res (List D)) (F : DSem) (fg : List Nat) : DSem := fun ρ => isK own f is ks F fg ρ ρ[j]?
section
variable {X : Cx} {J : Jd} {own : Owns} {pos apos cpos tpos : Pos} {e : Expr} {elts : List Expr} {kk : Nat} {body : List Stmt} {f : Env → Res D} {is fg : List Nat} {ks : D → Res (List D)} {F : DSem}
theorem ds_forIS (hu : X.A.units + 1 < cLine) (hp : PassesOwn (model X.prog X.w) X.A X.env X.xe) (hc : X.calm = true) {xn : Str} {px pi : Pos} {ie : Expr} {j : Nat} (hj : own.lookup j = some .sh) (pj : PE X (.Name xn px) (tVar j)) (de : DE X J.W ie f) (hpi : PlainIx ie) (dg : DG X (.Tuple elts kk tpos) is ks) (db : DSs X ⟨W0, own, [], J.rk⟩ own own body F)
    (hi : ∀ i ∈ is, own.lookup i = none) (hx : oxSub J.ox own = true := by rfl) (hs : ∀ x, foldedSetIterable (.Call (.Attribute (.Subscript (.Name xn px) ie pi) "items" apos) [] [] cpos) X.env x = pure x := by intro _; rfl)
    (hbase : attributeBase (.Subscript (.Name xn px) ie pi) "items" X.env (eval (.Subscript (.Name xn px) ie pi) X.env) = eval (.Subscript (.Name xn px) ie pi) X.env := by rfl) (hline : (apos.endLine == cpos.line) = true := by rfl) : DS X J own own (.For (.Tuple elts kk tpos) (.Call (.Attribute (.Subscript (.Name xn px) ie pi) "items" apos) [] [] cpos) body [] pos) (sForIS own j f is ks F fg) := by
  obtain ⟨t, pe, h1⟩ := de
  obtain ⟨tg', pg, h3⟩ := dg
  obtain ⟨tb, pb, hb⟩ := db
  refine ⟨_, ps_unl (ps_for hp hc (pi_itemsL (pe_ix (ix_any hu) pj pe hpi) hbase hline) pg pb hs), fun G0 H0 G H σ ρ Dn ⟨fp, I⟩ h => ?_⟩
  unfold sForIS at h
  cases q : ρ[j]? with
  | none => rw [q] at h; exact h.elim
  | some z =>
  cases z with
  | none => rw [q] at h; exact h.elim
  | some d0 =>
  rw [q] at h
  obtain ⟨ds0, rfl⟩ : ∃ ds, d0 = .lst ds := by
    cases d0 with
    | lst ds => exact ⟨ds, rfl⟩
    | _ => exact h.elim
  obtain ⟨v0, hv, _⟩ := I.own j .sh _ hj q
  refine ⟨v0, hv, ?_⟩
  refine h1 G H σ (maskE own ρ) _ I.sub I.masked (toP hx I I.sub h fun y _ hky G' H' ex w rw' => ?_)
  have I1 := I.grow ex
  obtain ⟨v0', hv', o'⟩ := I1.own j .sh _ hj q
  rw [hv] at hv'; cases hv'
  obtain ⟨p0, ev0, _, vs0, hp0, rs0⟩ := o'
  obtain ⟨i0, rfl⟩ : ∃ i, y = .int i := by
    cases y with
    | int i => exact ⟨i, rfl⟩
    | _ => exact hky.elim
  simp only [ixL] at hky
  cases qa : atI ds0 i0 with
  | none => rw [qa] at hky; exact hky.elim
  | some d =>
  rw [qa] at hky
  have hk : GS X.mg J G0 H0 own Dn (itemsK is fg ks F ρ (itemsOf d)) := hky
  obtain ⟨v, e2, rv⟩ := rs0.atI qa
  refine .inl ⟨p0, vs0, i0, v, ev0, rw', Sub.sqL (G := H') (fun _ _ e => e) (.inl hp0), e2, ?_⟩
  have run : ∀ (G2 H2 : Hp) (It' : It) (ds : List D), SI G2 (holeH H2 fp) own G2 H2 σ ρ → ItD It' G2 ds → GS X.mg ⟨W0, own, [], J.rk⟩ G2 (holeH H2 fp) own (unlE X.H_0 Dn) (forF is ks F fg ds (forget ρ fg)) → _ := fun G2 H2 It' ds I2 hJ hk => for_run (J := ⟨W0, own, [], J.rk⟩) (Dn := unlE X.H_0 Dn) h3 hb hi (I2.forget fg) hJ hk
  cases d with
  | dK kvs =>
    obtain ⟨a, ws, rfl, hR, r⟩ := rv
    rcases hR with hG | ⟨o, hG⟩
    · refine ⟨a, rfl, .inr (.inr (.inl ⟨ws, I1.sub _ _ hG, fun o hn => ?_⟩))⟩
      have I2 := (I1.lkd (x := .frz o (.dK ws)) hG (lock_ok trivial) (fun vs z => by cases z)).ground
      have hk2 := items_hk (o := o) I1 hG trivial hn hk
      have lg : lkd a (.frz o (.dK ws)) G' a = some (.frz o (.dK ws)) := lkd_self (by rw [hG]; simp)
      have := run _ _ (Iti a o ws) _ ⟨fp, I2⟩ (itd_items lg (r.le2 (le2_lkd hG (lock_ok trivial) fun vs z => by cases z))) hk2
      rw [lkd_upd (by rw [I1.sub _ _ hG]; simp)] at this
      exact this
    · exact ⟨a, rfl, .inl ⟨o, ws, I1.sub _ _ hG, run _ _ (Iti a o ws) _ ⟨fp, I1.ground⟩ (itd_items hG r) (items_hk0 I1 hk)⟩⟩
  | dT kvs =>
    obtain ⟨a, ws, rfl, hR, r⟩ := rv
    rcases hR with hG | ⟨o, hG⟩
    · refine ⟨a, rfl, .inr (.inr (.inr ⟨ws, I1.sub _ _ hG, fun o hn => ?_⟩))⟩
      have I2 := (I1.lkd (x := .frz o (.dT ws)) hG (lock_ok trivial) (fun vs z => by cases z)).ground
      have hk2 := items_hk (o := o) I1 hG trivial hn hk
      have lg : lkd a (.frz o (.dT ws)) G' a = some (.frz o (.dT ws)) := lkd_self (by rw [hG]; simp)
      have := run _ _ (ItiT a o ws) _ ⟨fp, I2⟩ (itd_itemsT lg (r.le2 (le2_lkd hG (lock_ok trivial) fun vs z => by cases z))) hk2
      rw [lkd_upd (by rw [I1.sub _ _ hG]; simp)] at this
      exact this
    · exact ⟨a, rfl, .inr (.inl ⟨o, ws, I1.sub _ _ hG, run _ _ (ItiT a o ws) _ ⟨fp, I1.ground⟩ (itd_itemsT hG r) (items_hk0 I1 hk)⟩)⟩
  | _ => exact hk.elim
end
end DL

/-! DL37: sorted(set(xs)), xs a list of ints. -/
namespace DL
open PySem PySem.Spec PyProof.Rows L2
/-- a new set's object -/
abbrev sob (w : World) : Obj := { cls := .type "set", dict := none, data := .set #[] 0 (.fresh 0 0 (!w.params.followText "set-order")) }
section
variable {P : Program} {w : World} {A : Around} {E : Value → Shared → Prop} {s : Shared}
set_option maxHeartbeats 3200000 in
theorem setOfInts {l : Addr} {vs : Array Value} (ns : List Int) {Q : Value → Shared → Prop} (hh : A.handled = none) (hl : s.heap.IsList l vs) (hit : IntsAre vs.toList ns) (hb : ns.length + 1 < scanBound)
    (fin : ∀ (h' : Heap) (tk c : Nat), SetR w h' s.heap.objs.size (fun j => decide (j ∈ ns)) c → c ≤ ns.length → (∀ b o, s.heap.get? b = some o → h'.get? b = some o) → Q (.ref s.heap.objs.size) { s with heap := h', toks := tk }) :
    wpAny (model P w) A (call (.type "set") [.ref l]) Q E s := by
  have size : vs.size = ns.length := (Array.length_toList (xs := vs)).symm.trans (IntsAre.length hit)
  obtain ⟨mc, ml, hmro⟩ := F.called_set.mro
  have made := F.called_set.made
  have sub := F.called_set.sub
  refine wpAny_call (codeAny_of_tree ?_)
  show wpAny _ _ (callAny (.type "set") _) _ _ _
  refine wpAny_pure ⟨Code.quiet_builtin _ (by decide +kernel), codeAny_builtin F.entry_type_call ?_⟩
  rw [Around.under_plain (weight_type_call_type "set" [.ref l] []) rfl]
  have nt := F.called_set.notType
  have cc := F.called_set.canCreate
  have tc := F.typeCall_set_1 (.ref l)
  repeat (any_goals (first | assumption | wp_step))
  refine codeAny_mono (code_set_led1 (.ref l) (E := E) (Q₁ := fun v s₁ => v = .ref s.heap.objs.size ∧ s₁ = { s with heap := s.heap.push (sob w) }) ⟨rfl, rfl⟩) fun r s₁ hr => ?_
  match r, hr with
  | .error e, hr => exact hr
  | .ok (.ret v), hr =>
    obtain ⟨rfl, rfl⟩ := hr
    have here : (s.heap.push (sob w)).get? s.heap.objs.size = some (sob w) := Heap.get?_push_size _ rfl
    have ty : Shared.TypeIs { s with heap := s.heap.push (sob w) } (.ref s.heap.objs.size) "set" := ⟨_, here, rfl⟩
    have il := F.called_set.init.lookup
    have ib := F.called_set.init.bind (.ref s.heap.objs.size)
    repeat (any_goals (first | assumption | wp_step))
    refine codeAny_mono (codeAny_call_builtin (R := wants (fun r s₂ => r = .none ∧ ∃ h' tk c, s₂ = { s with heap := h', toks := tk } ∧ SetR w h' s.heap.objs.size (fun j => decide (j ∈ ns)) c ∧ c ≤ ns.length ∧ (∀ b o, s.heap.get? b = some o → h'.get? b = some o)) E)
      F.called_set.init.plain F.entry_set_init (check_set_init_1 ty ?_)) fun r₂ s₂ hr₂ => ?_
    · obtain ⟨⟨c1, d1, data, sl1⟩, ho, e1, k1, e2⟩ := hl
      simp only at e1 e2
      subst e1 e2
      have old : (s.heap.push (sob w)).get? l = some { cls := .type "list", dict := d1, data := .seq vs k1, slots := sl1 } := Heap.get?_push_of_some _ ho
      have u1 := F.sub_list_set
      have u2 := F.sub_list_frozenset
      have u3 : (Value.type "list" == Value.type "dict") = false := by decide
      have lst : (s.heap.push (sob w)).IsList l vs := ⟨_, old, rfl, k1, rfl⟩
      have lt : l < s.heap.objs.size := Heap.lt_size ho
      have sz : (s.heap.push (sob w)).objs.size = s.heap.objs.size + 1 := Heap.size_push ..
      unfold Builtin.«set.__init__» noKeywords Builtin.Frozenset.updateFrom
      generalize hPI : pyIter = PI
      wp_walk
      subst hPI
      refine wpAny_pyIter_list lst (wpAny_bind (wpAny_runValue ?_))
      have hh3 : A.in1.in1.in1.handled = none := by simp [hh]
      refine set_update_ints ((Walks.list hh3 _ l (by rw [sz]; exact Nat.ne_of_lt (Nat.lt_succ_of_lt lt)) vs).toS) s.heap.objs.size (fun z => by
        simp only [List.mem_cons, List.not_mem_nil, or_false] at z
        rcases z with z | z
        · rw [sz] at z; exact absurd z (Nat.ne_of_lt (Nat.lt_succ_self _))
        · exact absurd z (Nat.ne_of_gt lt)) ns size hb (fun i v hv => ?_) (vs.size - 0) 0 _ (by omega) (Nat.zero_le _)
        ⟨⟨_, Heap.get?_push_size _ rfl, rfl, rfl⟩, lst.push _⟩ ⟨0, Nat.le_refl 0, setR_new_at (Heap.get?_push_of_some _ here)⟩ fun s' c' hm hc' hS' => ?_
      · have hi : i < ns.length := by rw [← size]; exact (Array.getElem?_eq_some_iff.mp hv).1
        obtain ⟨t, e⟩ := IntsAre.int_at hit i v (by rw [Array.getElem?_toList]; exact hv)
        exact ⟨ns[i], t, List.getElem?_eq_getElem hi, by rw [e, List.getD_eq_getElem?_getD, List.getElem?_eq_getElem hi] <;> rfl⟩
      · obtain ⟨h', g2, dr, tk', os'⟩ := s'
        obtain rfl : g2 = s.gens := hm.gens
        obtain rfl : dr = s.drawn := hm.drawn
        obtain rfl : os' = s.os := hm.os
        show wpAny _ _ _ _ _ _
        refine wpAny_pure ?_
        show wpAny _ _ (ret Value.none) _ _ _
        refine wpAny_pure ⟨rfl, h', tk', c', rfl, hS', by rw [← size]; exact hc', fun b o e => ?_⟩
        have b0 : b < s.heap.objs.size := Heap.lt_size e
        exact hm.heap b o (fun z => by
          simp only [List.mem_cons, List.not_mem_nil, or_false] at z
          rcases z with z | z
          · exact absurd z (Nat.ne_of_lt b0)
          · rw [sz] at z; exact absurd z (Nat.ne_of_lt (Nat.lt_succ_of_lt b0))) (Heap.get?_push_of_some _ (Heap.get?_push_of_some _ e))
    · match r₂, hr₂ with
      | .error e, hr₂ => exact hr₂
      | .ok (.ret v), hr₂ =>
        obtain ⟨rfl, h', tk, c, rfl, q1, q2, q3⟩ := hr₂
        repeat (any_goals (first | assumption | wp_step))
        exact fin _ _ _ q1 q2 q3
      | .ok .next, hr₂ => exact hr₂.elim
      | .ok .brk, hr₂ => exact hr₂.elim
      | .ok .cont, hr₂ => exact hr₂.elim
  | .ok .next, hr => exact hr.elim
  | .ok .brk, hr => exact hr.elim
  | .ok .cont, hr => exact hr.elim
end
end DL

/-! DL38: sorted(set(xs)), xs a list of ints: the rule. -/
namespace DL
open PySem PySem.Spec PyProof.Rows L2
def rSetOfI (K : PySem.W.Frag) (w : World) : List V → Hp → VK → Prop := fun vs H Q => ∃ (l : Addr) (ns : List Int), vs = [V.ref l] ∧ SqL K H l (ns.map V.int) ∧ ns.length < 64 ∧
  ∀ a n, H a = none → n ≤ ns.length → Q (.ref a) (upd H a (SetO w a (fun j => decide (j ∈ ns)) n))
theorem cr_setOfI {X : Cx} (hc : X.calm = true) : CallR X (.type "set") (rSetOfI X.K X.w) := by
  intro pins s σ H vs us Q I r h
  obtain ⟨l, ns, rfl, hs, h64, q⟩ := h
  rw [Vals.ref1 r]
  obtain ⟨its, rv, pl, hz⟩ := I.list hs
  have hn : H s.heap.objs.size = none := I.hok.fresh (Nat.le_refl _)
  refine setOfInts (P := X.prog) (w := X.w) ns (I.ok.hd hc) pl.isList (by simpa using rv.ints) (by unfold scanBound; omega) fun h' tk c R hc2 k => ?_
  exact ⟨.ref s.heap.objs.size, upd H s.heap.objs.size (SetO X.w s.heap.objs.size _ c), I.laid (t' := tk) k (Nat.le_refl _) (setO_new R), rfl, q _ c hn hc2⟩
def insI (x : Int) : List Int → List Int
  | [] => [x]
  | y :: r => if x < y then x :: y :: r else if x = y then y :: r else y :: insI x r
def ssetI (xs : List Int) : List Int := xs.foldr insI []
theorem mem_insI (x z : Int) : ∀ xs, z ∈ insI x xs ↔ z = x ∨ z ∈ xs
  | [] => by simp [insI]
  | y :: r => by
    unfold insI
    split
    · simp
    · split
      · rename_i h; subst h; simp
      · simp only [List.mem_cons, mem_insI x z r]
        constructor
        · rintro (h | h | h)
          · exact .inr (.inl h)
          · exact .inl h
          · exact .inr (.inr h)
        · rintro (h | h | h)
          · exact .inr (.inl h)
          · exact .inl h
          · exact .inr (.inr h)
theorem insI_up (x : Int) : ∀ {xs : List Int}, xs.Pairwise (· < ·) → (insI x xs).Pairwise (· < ·)
  | [], _ => List.pairwise_singleton _ _
  | y :: r, h => by
    obtain ⟨a, b⟩ := List.pairwise_cons.mp h
    unfold insI
    split
    · rename_i q
      refine List.pairwise_cons.mpr ⟨fun z hz => ?_, h⟩
      rcases List.mem_cons.mp hz with rfl | hz
      · exact q
      · have := a z hz; omega
    · split
      · exact h
      · refine List.pairwise_cons.mpr ⟨fun z hz => ?_, insI_up x b⟩
        rcases (mem_insI x z r).mp hz with rfl | hz
        · omega
        · exact a z hz
theorem mem_ssetI (z : Int) : ∀ xs, z ∈ ssetI xs ↔ z ∈ xs
  | [] => by simp [ssetI]
  | x :: r => by
    show z ∈ insI x (ssetI r) ↔ _
    rw [mem_insI, mem_ssetI z r, List.mem_cons]
theorem ssetI_up : ∀ xs, (ssetI xs).Pairwise (· < ·)
  | [] => List.Pairwise.nil
  | x :: r => insI_up x (ssetI_up r)
theorem up_uniq : ∀ {xs ys : List Int}, xs.Pairwise (· < ·) → ys.Pairwise (· < ·) → (∀ z, z ∈ xs ↔ z ∈ ys) → xs = ys
  | [], [], _, _, _ => rfl
  | [], y :: r, _, _, h => by have := (h y).mpr List.mem_cons_self; cases this
  | x :: r, [], _, _, h => by have := (h x).mp List.mem_cons_self; cases this
  | x :: r, y :: q, h1, h2, h => by
    obtain ⟨a1, a2⟩ := List.pairwise_cons.mp h1
    obtain ⟨b1, b2⟩ := List.pairwise_cons.mp h2
    have e : x = y := by
      rcases List.mem_cons.mp ((h x).mp List.mem_cons_self) with e | m
      · exact e
      · rcases List.mem_cons.mp ((h y).mpr List.mem_cons_self) with e | m2
        · exact e.symm
        · have := b1 x m; have := a1 y m2; omega
    subst e
    congr 1
    refine up_uniq a2 b2 fun z => ⟨fun hz => ?_, fun hz => ?_⟩
    · rcases List.mem_cons.mp ((h z).mp (List.mem_cons_of_mem _ hz)) with e | m
      · have := a1 z hz; omega
      · exact m
    · rcases List.mem_cons.mp ((h z).mpr (List.mem_cons_of_mem _ hz)) with e | m
      · have := b1 z hz; omega
      · exact m
def g_ssetI : D → Res D
  | .lst ds => (match intsOf ds with
    | some ns => if ns.length < 64 then .ok (.lst ((ssetI ns).map D.int)) else .no
    | none => .no)
  | _ => .no
theorem ints_repI {G : Hp} : ∀ {ns : List Int} {vs : List V}, Reps G (ns.map D.int) vs → vs = ns.map V.int
  | [], vs, h => h
  | n :: r, vs, ⟨v, s, e, h, q⟩ => by
    rw [e, show v = V.int n from h, ints_repI q]; rfl
section
variable {X : Cx} {W : WX} {e : Expr} {f : Env → Res D} {p p2 q pos : Pos}
theorem de_ssetI (hc : X.calm = true) (hg : L2.Gl X "sorted") (hm : X.mg "sorted" = none) (hg2 : L2.Gl X "set") (hm2 : X.mg "set" = none) (d : DE X W e f)
    (hs : starEach [e] X.env = (false, eval e X.env) :: starEach [] X.env := by rfl) (hpl : (backTo q (starEach [] X.env)).any (·.1) = false := by rfl)
    (hs2 : starEach [.Call (.Name "set" p2) [e] [] q] X.env = (false, eval (.Call (.Name "set" p2) [e] [] q) X.env) :: starEach [] X.env := by rfl) (hpl2 : (backTo pos (starEach [] X.env)).any (·.1) = false := by rfl) :
    DE X W (.Call (.Name "sorted" p) [.Call (.Name "set" p2) [e] [] q] [] pos) (v1 g_ssetI f) := by
  obtain ⟨t, pe, h⟩ := d
  refine ⟨_, pe_callB (cr_sortedSet hc) hg hm (by decide +kernel) (pa_cons (pe_callTy (cr_setOfI hc) hg2 hm2 (by decide +kernel) (pa_cons pe pa_nil hs) (by decide) (by decide) hs hpl) pa_nil hs2) (by decide) (by decide) hs2 hpl2, fun G H σ ρ Q s ee k => ?_⟩
  refine h G H σ ρ _ s ee (Gl.imp (fun x G1 H1 _ e1 k v rv => ?_) (Gl.bind k))
  show rSetOfI X.K X.w [v] H1 fun y H3 => rSortedSet X.w [y] H3 Q
  cases x with
  | lst ds =>
    simp only [g_ssetI] at k
    split at k
    · rename_i ns hns
      split at k
      · rename_i h64
        have ed := ints_inv hns
        subst ed
        obtain ⟨l, vs, ev, hl, q⟩ := rv
        subst ev
        rw [ints_repI q] at hl
        refine ⟨l, ns, rfl, e1.s.sqL hl, h64, fun a n ha hn => ?_⟩
        have x1 := Ext.hid (o := SetO X.w a (fun j => decide (j ∈ ns)) n) e1.s ha
        refine ⟨a, _, n, rfl, upd_same .., by omega, fun ns' p' up mem len hp' => ?_⟩
        have el : ns' = ssetI ns := up_uniq up (ssetI_up ns) fun z => by rw [mem z, mem_ssetI]; simp
        subst el
        exact Gl.newL x1.s hp' (reps_ints (G := G1) _) (k.mono x1)
      · exact k.elim
    · exact k.elim
  | _ => exact k.elim
end
end DL

/-! DL39: a, b = xs[i], xs an own list whose items stand in the region. -/
namespace DL
open PySem PySem.Spec PyProof.Rows L2
def unpSK (is : List Nat) (ks : D → Res (List D)) (ρ : Env) (d : D) : Out := match ks d with
  | .ok l => .nx (setE ρ is l)
  | _ => .no
def usK (own : Owns) (f : Env → Res D) (is : List Nat) (ks : D → Res (List D)) (ρ : Env) : Option (Option D) → Out
  | some (some (.lst ds)) => andThen (f (maskE own ρ)) ρ fun y => andThen (ixL ds y) ρ fun d => unpSK is ks ρ d
  | _ => .no
def sUnpS (own : Owns) (j : Nat) (f : Env → Res D) (is : List Nat) (ks : D → Res (List D)) : DSem := fun ρ => usK own f is ks ρ ρ[j]?
section
variable {X : Cx} {J : Jd} {own : Owns} {pos : Pos} {f : Env → Res D} {is : List Nat} {ks : D → Res (List D)}
theorem ds_unpS {tg : Expr} {xn : Str} {px pi : Pos} {ie : Expr} {j : Nat} (hu : X.A.units + 1 < cLine) (g : DG X tg is ks) (hj : own.lookup j = some .sh) (pj : PE X (.Name xn px) (tVar j)) (de : DE X J.W ie f) (hpi : PlainIx ie)
    (hi : ∀ i ∈ is, own.lookup i = none) (hx : oxSub J.ox own = true := by rfl) (hs : swapsWithSole [tg] (.Subscript (.Name xn px) ie pi) pos.line X.env = pure false := by rfl) (hw : swappedStores [tg] (.Subscript (.Name xn px) ie pi) X.env = pure none := by rfl)
    (h1 : (assignEach [tg] X.env).map (·.2) = [assign tg X.env] := by rfl) : DS X J own own (.Assign [tg] (.Subscript (.Name xn px) ie pi) pos) (sUnpS own j f is ks) := by
  obtain ⟨t, pe, h2⟩ := de
  obtain ⟨tg', pg, h3⟩ := g
  refine ⟨_, ps_asg (pe_ix (ix_any hu) pj pe hpi) pg hs hw h1, fun G0 H0 G H σ ρ Dn ⟨fp, I⟩ h => ?_⟩
  unfold sUnpS at h
  cases q : ρ[j]? with
  | none => rw [q] at h; exact h.elim
  | some z =>
  cases z with
  | none => rw [q] at h; exact h.elim
  | some d0 =>
  rw [q] at h
  obtain ⟨ds0, rfl⟩ : ∃ ds, d0 = .lst ds := by
    cases d0 with
    | lst ds => exact ⟨ds, rfl⟩
    | _ => exact h.elim
  obtain ⟨v0, hv, _⟩ := I.own j .sh _ hj q
  refine ⟨v0, hv, ?_⟩
  refine h2 G H σ (maskE own ρ) _ I.sub I.masked (toP hx I I.sub h fun y _ hky G' H' ex w rw' => ?_)
  have I1 := I.grow ex
  obtain ⟨v0', hv', o'⟩ := I1.own j .sh _ hj q
  rw [hv] at hv'; cases hv'
  obtain ⟨p0, ev0, _, vs0, hp0, rs0⟩ := o'
  obtain ⟨i0, rfl⟩ : ∃ i, y = .int i := by
    cases y with
    | int i => exact ⟨i, rfl⟩
    | _ => exact hky.elim
  simp only [ixL] at hky
  cases qa : atI ds0 i0 with
  | none => rw [qa] at hky; exact hky.elim
  | some d =>
  rw [qa] at hky
  have hk : GS X.mg J G0 H0 own Dn (unpSK is ks ρ d) := hky
  obtain ⟨v, e2, rv⟩ := rs0.atI qa
  refine .inl ⟨p0, vs0, i0, v, ev0, rw', Sub.sqL (G := H') (fun _ _ e => e) (.inl hp0), e2, ?_⟩
  unfold unpSK at hk
  split at hk
  · rename_i l ql
    exact h3 G' H' σ v d _ l I1.sub rv ql fun ws rws nws => hk G' H' _ ⟨fp, I1.sets hi rws⟩
  · exact hk.elim
end
end DL

/-! DL40: list(reversed(a list)); range(a, b, -1). -/
namespace DL
open PySem PySem.Spec PyProof.Rows L2
section
variable {prog : Program} {w : World} {A : Around} {E : Value → Shared → Prop} {s : Shared}
theorem wpAny_extend_rv {R : Result → Shared → Prop} (hh : A.handled = none) {it l : Addr} {items : Array Value} (hit : s.heap.IsRevIter it l ((items.size : Int) - 1)) (hl : s.heap.IsList l items) (hne : l ≠ it) (hn : items.size ≤ sizeLine) (S : Addr) (res : Value) (c₀ : Nat) (hS : s.heap.get? S = some { cls := .type "list", data := .seq #[] c₀ }) (hSi : S ≠ it) (hSl : S ≠ l)
    (hR : ∀ h' tk acc' c', (∀ b o, b ≠ S → b ≠ it → s.heap.get? b = some o → h'.get? b = some o) → h'.get? S = some { cls := .type "list", dict := none, data := .seq acc' c', slots := #[] } →
      ItemsOf (fun i v => items[items.size - 1 - i]? = some v) acc' items.size → R (.ok (.ret res)) { s with heap := h', toks := tk }) :
    wpAny (model prog w) A.in1 (Builtin.List.listExtendWith (.ref S) (.ref it) res)
      (fun fin s' => match fin with | .done f => R (.ok f) s' | .again c' => c'.quiet = true ∧ codeAny (model prog w) A c' R s') (fun e s' => R (.error e) s') s := by
  have W := (Walks.listRev (prog := prog) (w := w) (A := A.in1) hh it l hne items).toS
  have hSf : S ∉ [it, l] := by simp only [List.mem_cons, List.not_mem_nil, or_false, not_or]; exact ⟨hSi, hSl⟩
  have hT : s.TypeIs (.ref it) "list_reverseiterator" := hit.typeIs
  have h1 : Builtin.List.listSameRef (.ref S) (.ref it) = false := by simp [Builtin.List.listSameRef, hSi]
  unfold Builtin.List.listExtendWith
  refine wpAny_bind (wpAny_typeOf hT ?_)
  rw [if_neg (by rw [h1]; decide)]
  refine wpAny_bind (wpAny_pyIter_revIter hit ?_)
  refine wpAny_bind (wpAny_holding ?_)
  unfold Builtin.List.listLengthHint
  refine wpAny_bind (wpAny_specialOf hT RT.nolen_lri ?_)
  show wpAny _ A.in1 (specialOf (Value.ref it) (Str.ofString "__length_hint__") >>= _) _ _ _
  refine wpAny_bind (wpAny_specialOf hT RT.hint_lri ?_)
  generalize hid : ("list_reverseiterator.__length_hint__" : String) = id0
  wp_delta
  rw [show splitId id0 = some ("list_reverseiterator", "__length_hint__") from by subst hid; decide +kernel]
  subst hid
  refine wpAny_bind (wpAny_isInstance (b := true) hT (by rw [isSubtype_type]; kernel_rfl) ?_)
  refine wpAny_pure ?_
  rw [if_neg (by decide)]
  have e0 : ((items.size : Nat) : Int) - 1 - ((0 : Nat) : Int) = (items.size : Int) - 1 := by omega
  refine wpAny_pure ⟨plainId_quiet F.plain_extend_loop _, codeAny_extend_loopS W hn _ hSf _ items.size 0 _ _ _ rfl (Nat.zero_le _) ⟨Nat.zero_le _, by rw [e0]; exact hit, hl⟩ hS (ItemsOf.nil _) fun s' acc' c' hm hS' hacc => ?_⟩
  rw [Moved.eq_with hm]
  refine hR s'.heap s'.toks acc' c' (fun b o hb hb2 e => hm.heap b o (fun hmem => ?_) e) hS' hacc
  rcases List.mem_cons.mp hmem with e' | hmem
  · exact hb e'
  · exact hb2 (List.mem_singleton.mp hmem)
theorem list_init_rv {R : Result → Shared → Prop} (hh : A.handled = none) {it l : Addr} {items : Array Value} (hit : s.heap.IsRevIter it l ((items.size : Int) - 1)) (hl : s.heap.IsList l items) (hne : l ≠ it) (hn : items.size ≤ sizeLine) (S : Addr) (hS : s.heap.get? S = some { cls := .type "list", data := .seq #[] }) (hSi : S ≠ it) (hSl : S ≠ l)
    (hR : ∀ h' tk acc' c', (∀ b o, b ≠ S → b ≠ it → s.heap.get? b = some o → h'.get? b = some o) → h'.get? S = some { cls := .type "list", dict := none, data := .seq acc' c', slots := #[] } →
      ItemsOf (fun i v => items[items.size - 1 - i]? = some v) acc' items.size → R (.ok (.ret .none)) { s with heap := h', toks := tk }) :
    wpAny (model prog w) A.in1 (Builtin.«list.__init__» ⟨[.ref S, .ref it], []⟩)
      (fun fin s' => match fin with | .done f => R (.ok f) s' | .again c' => c'.quiet = true ∧ codeAny (model prog w) A c' R s') (fun e s' => R (.error e) s') s := by
  show wpAny _ _ (do let old ← Builtin.List.listItems (.ref S); Builtin.List.listUpdate (.ref S) (fun _ => #[]); letGo old.toList.reverse; Builtin.List.listExtendWith (.ref S) (.ref it) .none) _ _ s
  refine wpAny_bind ?_
  unfold Builtin.List.listItems
  refine wpAny_bind (wpAny_seqItems hS rfl (wpAny_pure ?_))
  show wpAny _ _ (updateSeq S (fun _ => #[]) >>= fun _ => letGo (#[] : Array Value).toList.reverse >>= fun _ => Builtin.List.listExtendWith (.ref S) (.ref it) .none) _ _ s
  refine wpAny_bind (wpAny_updateSeq hS rfl ?_)
  have hS₂ := Heap.get?_update_self (Obj.mapSeq (fun _ => (#[] : Array Value))) hS rfl
  have oth : ∀ b o, b ≠ S → s.heap.get? b = some o → (s.heap.update S (Obj.mapSeq (fun _ => (#[] : Array Value)))).get? b = some o :=
    fun b o hb e => (Heap.get?_update_other _ _ (Ne.symm hb)).trans e
  refine wpAny_bind (wpAny_letGo ?_)
  obtain ⟨ol, hol, rl⟩ := id hl
  refine wpAny_extend_rv (items := items) hh (hit.at fun o e => oth it o (Ne.symm hSi) e) ⟨ol, oth l ol (Ne.symm hSl) hol, rl⟩ hne hn S .none _ hS₂ hSi hSl fun h' tk acc' c' hk hS' hacc => ?_
  exact hR h' tk acc' c' (fun b o hb hb2 e => hk b o hb hb2 (oth b o hb e)) hS' hacc
theorem call_list_rv {it l : Addr} {items : Array Value} {Q : Value → Shared → Prop} (hh : A.handled = none) (hit : s.heap.IsRevIter it l ((items.size : Int) - 1)) (hl : s.heap.IsList l items) (hne : l ≠ it) (hn : items.size ≤ sizeLine)
    (hQ : ∀ h' tk acc' c', (∀ b o, b ≠ it → s.heap.get? b = some o → h'.get? b = some o) →
      h'.get? s.heap.objs.size = some { cls := .type "list", dict := none, data := .seq acc' c', slots := #[] } → ItemsOf (fun i v => items[items.size - 1 - i]? = some v) acc' items.size → Q (.ref s.heap.objs.size) { s with heap := h', toks := tk }) :
    wpAny (model prog w) A (call (.type "list") [.ref it]) Q E s := by
  refine callType_codes (Q₁ := fun obj s₁ => obj = .ref s.heap.objs.size ∧ s₁ = { s with heap := s.heap.push { cls := .type "list", data := .seq #[] } }) F.called_list (F.typeCall_list_1 _) F.entry_list_init
    (code_list_new _ ⟨rfl, rfl⟩) fun obj s₁ h₁ => ?_
  obtain ⟨rfl, rfl⟩ := h₁
  have hS : (s.heap.push { cls := .type "list", data := .seq #[] }).get? s.heap.objs.size = some { cls := .type "list", data := .seq #[] } := Heap.get?_push_size _ rfl
  obtain ⟨oi, hoi, _⟩ := id hit
  obtain ⟨ol, hol, _⟩ := id hl
  have hSi : s.heap.objs.size ≠ it := Nat.ne_of_gt (Heap.lt_size hoi)
  have hSl : s.heap.objs.size ≠ l := Nat.ne_of_gt (Heap.lt_size hol)
  refine ⟨⟨_, hS, rfl⟩, F.args_list_init_2 _ _, list_init_rv (A := A.in1) (s := { s with heap := s.heap.push { cls := .type "list", data := .seq #[] } }) (items := items) hh (hit.at fun o e => Heap.get?_push_of_some _ e) (hl.push _) hne hn _ hS hSi hSl fun h' tk acc' c' hk hS' hacc => ?_⟩
  exact ⟨rfl, hQ h' tk acc' c' (fun b o hb e => hk b o (Nat.ne_of_lt (Heap.lt_size e)) hb (Heap.get?_push_of_some _ e)) hS' hacc⟩
end
section
variable {X : Cx}
def tLstRev (K : PySem.W.Frag) (te : TE) : TE := fun σ H Q => te σ H fun v H1 => ∃ (a : Addr) (xs : List V), v = .ref a ∧ SqL K H1 a xs ∧ ∀ q, H1 q = none → Q (.ref q) (upd H1 q (.lst xs.reverse))
theorem pe_lstRev {e : Expr} {te : TE} {p p2 pos pos2 : Pos} (hc : X.calm = true) (hg : L2.Gl X "list") (hm : X.mg "list" = none) (hg2 : L2.Gl X "reversed") (hm2 : X.mg "reversed" = none) (he : PE X e te)
    (hs : starEach [e] X.env = (false, eval e X.env) :: starEach [] X.env := by rfl)
    (hs2 : starEach [.Call (.Name "reversed" p2) [e] [] pos2] X.env = (false, eval (.Call (.Name "reversed" p2) [e] [] pos2) X.env) :: starEach [] X.env := by rfl) :
    PE X (.Call (.Name "list" p) [.Call (.Name "reversed" p2) [e] [] pos2] [] pos) (tLstRev X.K te) := by
  refine ⟨fun pins s σ H Q I h => ?_⟩
  refine Call_ (ld_blt I hg hm boot_list (PyProof.Rows.callWith_type1 (args_cons (Call_ (ld_blt I hg2 hm2 PyProof.Rows.boot_reversed (PyProof.Rows.callWith_type1 (args_cons (thn (he.run pins s σ H _ I h) fun u s1 ⟨v, H1, I1, r1, q1⟩ => args_nil ?_) hs) hs rfl))) hs2) hs2 rfl))
  obtain ⟨a, xs, ev, hq, q⟩ := q1
  subst ev
  obtain rfl : u = Value.ref a := r1
  obtain ⟨its, rv, p', hz⟩ := I1.list hq
  refine call_reversed_list p'.isList (args_nil ?_)
  have k0 : ∀ b o, s1.heap.get? b = some o → (s1.heap.push (revObj a ((its.toArray.size : Int) - 1))).get? b = some o := fun b o e => Heap.get?_push_of_some _ e
  have hl := p'.isList
  obtain ⟨ol, hol, _⟩ := id hl
  have hne : a ≠ s1.heap.objs.size := Nat.ne_of_lt (Heap.lt_size hol)
  have hn : its.toArray.size ≤ sizeLine := by rw [List.size_toArray, ← rv.length]; exact hz
  refine call_list_rv (s := { s1 with heap := s1.heap.push (revObj a ((its.toArray.size : Int) - 1)) }) (I1.ok.hd hc) ⟨_, Heap.get?_push_size _ rfl, rfl, rfl⟩ (hl.push _) hne hn fun h' tk acc c' hk hS hi => ?_
  have hsz : (s1.heap.push (revObj a ((its.toArray.size : Int) - 1))).objs.size = s1.heap.objs.size + 1 := by simp [Heap.push]
  rw [hsz] at hS
  refine ⟨.ref (s1.heap.objs.size + 1), upd H1 (s1.heap.objs.size + 1) (.lst xs.reverse), ?_, ?_, q _ (I1.hok.fresh (Nat.le_succ _))⟩
  · exact I1.laid (t' := tk) (fun b o e => hk b o (Nat.ne_of_lt (Heap.lt_size e)) (k0 b o e)) (Nat.le_succ _) (show ObjOk X.prog X.w _ _ _ (.lst xs.reverse) from ⟨by rw [List.length_reverse]; exact hz, acc.toList, c', RT.vals_rev rv hi, by rw [Array.toArray_toList]; exact hS⟩)
  · show Value.ref _ = Value.ref _
    rw [hsz]
end
def nRev (f : Env → Res D) : Env → Res (List D) := fun ρ => f ρ >>= fun x => match x with
  | .lst xs => .ok xs.reverse
  | _ => .no
section
variable {X : Cx} {W : WX} {e : Expr} {pos : Pos}
theorem dn_rev {f : Env → Res D} {p p2 pos2 : Pos} (hc : X.calm = true) (hg : L2.Gl X "list") (hm : X.mg "list" = none) (hg2 : L2.Gl X "reversed") (hm2 : X.mg "reversed" = none) (d : DE X W e f)
    (hs : starEach [e] X.env = (false, eval e X.env) :: starEach [] X.env := by rfl)
    (hs2 : starEach [.Call (.Name "reversed" p2) [e] [] pos2] X.env = (false, eval (.Call (.Name "reversed" p2) [e] [] pos2) X.env) :: starEach [] X.env := by rfl) :
    DN X W (.Call (.Name "list" p) [.Call (.Name "reversed" p2) [e] [] pos2] [] pos) (nRev f) := by
  obtain ⟨t1, p1, h1⟩ := d
  refine ⟨_, pe_lstRev hc hg hm hg2 hm2 p1 hs hs2, fun G H σ ρ Q s e h => ?_⟩
  refine h1 G H σ ρ _ s e ?_
  unfold nRev at h
  cases q : f ρ with
  | ok x =>
    rw [q, Res.bind_ok] at h
    intro G1 H1 e1 v rv
    cases x with
    | lst xs =>
      obtain ⟨a, vs, rfl, ha, ra⟩ := rv
      exact ⟨a, vs, rfl, e1.s.sqL ha, fun p np => GlN.end e1 np (ra.reverse) h⟩
    | _ => exact h.elim
  | ex c => rw [q] at h; exact h
  | no => rw [q] at h; exact h
end
/-! ### range(a, b, -1) -/
def rangeDn (i : Int) (n : Nat) : List D := (List.range n).map fun (k : Nat) => D.int (i - (k : Int))
def iRangeN (f g h : Env → Res D) : Env → Res (List D) := fun ρ => f ρ >>= fun x => g ρ >>= fun y => h ρ >>= fun z => match x, y, z with
  | .int i, .int j, .int k => if k = -1 ∧ -(2 ^ 62) ≤ i ∧ i < 2 ^ 62 ∧ -(2 ^ 62) ≤ j ∧ j < 2 ^ 62 then .ok (rangeDn i (i - j).toNat) else .no
  | _, _, _ => .no
theorem itd_rngN {i : Int} {n : Nat} {G : Hp} : ItD (Itc i (-1) n) G (rangeDn i n) := by
  intro G2 H2 k g sb
  refine ⟨fun d e => ?_, fun e => by show n ≤ k; simpa [rangeDn] using e⟩
  have hi : k < n := by have := (List.getElem?_eq_some_iff.mp e).1; simpa [rangeDn] using this
  have e2 : (rangeDn i n)[k]? = some (.int (i - (k : Int))) := by simp [rangeDn, hi]
  rw [e2] at e; cases e
  refine ⟨hi, fun x H' y => ?_⟩
  obtain ⟨rfl, rfl⟩ := y
  refine ⟨G2, Ext.refl sb, ?_⟩
  show V.int (i + (k : Int) * (-1)) = V.int (i - (k : Int))
  congr 1
  omega
section
variable {X : Cx} {W : WX} {tg e e2 e3 : Expr} {f g h3 : Env → Res D} {p pos : Pos}
theorem di_rangeN (hg : L2.Gl X "range") (hm : X.mg "range" = none) (d : DE X W e f) (d2 : DE X W e2 g) (d3 : DE X W e3 h3) (hs : starEach [e, e2, e3] X.env = (false, eval e X.env) :: starEach [e2, e3] X.env := by rfl) (hs2 : starEach [e2, e3] X.env = (false, eval e2 X.env) :: starEach [e3] X.env := by rfl) (hs3 : starEach [e3] X.env = (false, eval e3 X.env) :: starEach [] X.env := by rfl)
    (hpl : (backTo pos (starEach [e2, e3] X.env)).any (·.1) = false := by rfl) :
    DI X W tg (.Call (.Name "range" p) [e, e2, e3] [] pos) (iRangeN f g h3) := by
  obtain ⟨t, pe, h1⟩ := d
  obtain ⟨t2, pe2, h2⟩ := d2
  obtain ⟨t3, pe3, h4⟩ := d3
  refine ⟨_, pi_range3 hg hm (pa_cons pe (pa_cons pe2 (pa_cons pe3 pa_nil hs3) hs2) hs) hs hpl, fun G H σ ρ R s e h => ?_⟩
  refine h1 G H σ ρ _ s e (Gl.imp (fun x G1 H1 _ e1 k v rv => ?_) (Gl.bind h))
  refine h2 G1 H1 σ ρ _ e1.s (e.le e1.le) (Gl.imp (fun y G2 H2 _ e2 k w rw' => ?_) (Gl.bind k))
  refine h4 G2 H2 σ ρ _ e2.s ((e.le e1.le).le e2.le) (Gl.imp (fun z G3 H3 _ e3 k u ru => ?_) (Gl.bind k))
  cases x with
  | int i =>
    cases y with
    | int j =>
      cases z with
      | int c =>
        have e4 : v = .int i := rv
        have e5 : w = .int j := rw'
        have e6 : u = .int c := ru
        subst e4 e5 e6
        simp only at k
        split at k
        · rename_i z
          obtain ⟨rfl, z⟩ := z
          exact ⟨i, j, -1, (i - j).toNat, rfl, RgC.neg z.1 z.2.1 z.2.2.1 z.2.2.2, k G3 H3 (Ext.refl e3.s) _ itd_rngN⟩
        · exact k.elim
      | _ => exact k.elim
    | _ => exact k.elim
  | _ => exact k.elim
end
end DL

/-! DL41: try with several clauses, each with a name (all in one slot). -/
namespace DL
open PySem PySem.Spec PyProof.Rows L2
def endsAs (i : Nat) (D : Ends) : Ends := { nx := fun σ' H' => D.nx (σ'.set i none) H', rt := D.rt, bk := fun σ' H' => D.bk (σ'.set i none) H', ct := fun σ' H' => D.ct (σ'.set i none) H' }
def wManyAs (K : PySem.W.Frag) (i : Nat) (Wout : WX) (D : Ends) : List (Value × (Addr → Value → Option Addr → TS)) → WX
  | [] => Wout
  | (c, ts) :: r => fun cls d σ H => ∃ b, PySem.W.exmOne K cls c = some b ∧ (b = true → ∀ a, H a = none → ts a cls d (endsAs i D) (σ.set i (some (.ref a))) H) ∧ (b = false → wManyAs K i Wout D r cls d σ H)
inductive HdsAs (X : Cx) (n : Str) : List ExceptHandler → List (Value × (Addr → Value → Option Addr → TS)) → Prop
  | nil : HdsAs X n [] []
  | cons {x : Str} {c : Value} {ts : Addr → Value → Option Addr → TS} {b₀ : Stmt} {suite : List Stmt} {np pos' : Pos} {hds : List ExceptHandler} {l : List (Value × (Addr → Value → Option Addr → TS))} (hc : Names X x c)
      (hsu : ∀ (a : Addr) (oe : Obj) (cls : Value) (d : Option Addr) (pn : List (Addr × Obj)), Zc cls d oe → (∃ vs, oe.data = .fields vs) → PSs (X.suite a ((a, oe) :: pn)) (b₀ :: suite) (ts a cls d)) (r : HdsAs X n hds l) :
      HdsAs X n (.ExceptHandler (some (.Name x np)) (some n) (b₀ :: suite) pos' :: hds) ((c, ts) :: l)
section
variable {X : Cx} {n : Str} {i : Nat} {body : List Stmt} {h₀ : ExceptHandler} {hds : List ExceptHandler} {l : List (Value × (Addr → Value → Option Addr → TS))} {pos : Pos} {tb : WX → TS} {Wout : WX}
theorem ps_try_manyAs (hs : X.stack = X.env :: X.outer) (hf : X.env.frame = some X.env.locals) (hN : X.N.Nodup) (hi : X.N[i]? = some n) (hln : X.env.kindOf n = some .local) (tk : Takes X Wout)
    (hb : ∀ (W : WX) (pn : List (Addr × Obj)) (xe : Value → Shared → Prop), Takes (X.tr pn xe) W → PassesOwn (model X.prog X.w) X.A X.env xe → PSs (X.tr pn xe) body (tb W))
    (hh : HdsAs X n (h₀ :: hds) l) : PS X (.Try body (h₀ :: hds) [] [] pos) (fun D σ H => tb (wManyAs X.K i Wout D l) D σ H) := by
  refine ⟨fun pins s σ H D I h => ?_⟩
  have ok := I.ok
  have hfr : X.A.frames = some (X.env :: X.outer) := by rw [ok.frames, hs]
  have hloc : Loc X.env.scope n := .inl hln
  refine wpAny_Try_except ?_
  refine wpAny_mono ((hb (wManyAs X.K i Wout D l) (X.pn ++ pins) (fun e s₁ => wpAny (model X.prog X.w) X.A (noteFrame e X.env) (fun _ s₂ => wpAny (model X.prog X.w) X.A (setFlight e none) (fun _ s₃ =>
    wpAny (model X.prog X.w) X.A (handleBy e X.env (h₀ :: hds)) (SP X pins D) X.xe s₃) X.xe s₂) X.xe s₁) (fun u s' xx => ?_) PassesOwn.looking).run [] s σ H D (I.toTry _) h) (fun f s1 hsp => ?_) (fun e s1 he => he)
  · -- the catch
    obtain ⟨a, B, sI, pins', σ', H', cls, d, rfl, J', nb, up, sky, na, os, ag, w⟩ := xx
    have J : Inv X pins σ' H' sI := J'.ofTry ok
    have sky' : Sky B (X.env :: X.outer) a (Zc cls d) X.env.locals s'.heap := by rw [← hs]; exact sky
    show wpAny (model X.prog X.w) X.A (noteFrame (.ref a) X.env) _ _ _
    refine Sky.land Zc.steady hfr hf sky' fun h3 fl3 up3 => ?_
    have J3 : Inv X pins σ' H' { s' with heap := h3 } := J.landed nb fl3.1 (up.trans up3) os ag
    obtain ⟨oe3, vs3, he3, hz3, hd3⟩ := fl3.there
    have notFr : ∀ {h : Heap} {o : Obj} {vs : Array Value}, h.FunFrames B (X.env :: X.outer) → h.get? a = some o → o.data = .fields vs → a ∉ frs (X.env :: X.outer) := fun {h o vs} ff e dd hm => by
      obtain ⟨_, o', e', hnf⟩ := ff.mem hm
      rw [e] at e'; cases e'
      exact hnf _ dd
    have nfr := notFr fl3.2.2.1 he3 hd3
    have nL : a ≠ X.env.locals := fun z => nfr (List.mem_filterMap.mpr ⟨X.env, List.mem_cons_self, by rw [hf, z]⟩)
    have nF : a ∉ X.fs := fun hm => by
      obtain ⟨e, he, q⟩ := List.mem_filterMap.mp hm
      exact nfr (List.mem_filterMap.mpr ⟨e, List.mem_cons_of_mem _ he, q⟩)
    have S3 := J3.suite he3 hd3 na nL nF
    have go : ∀ {hds' : List ExceptHandler} {l' : List (Value × (Addr → Value → Option Addr → TS))}, HdsAs X n hds' l' → wManyAs X.K i Wout D l' cls d σ' H' →
        wpAny (model X.prog X.w) X.A (handleBy (.ref a) X.env hds') (SP X pins D) X.xe { s' with heap := h3 } := by
      intro hds' l' hk
      induction hk with
      | nil =>
        intro w
        refine wpAny_handleBy_nil ?_
        obtain ⟨k1, k2, k3, oe, vs, T, oT, ts', he, hz, hd, h1, hr⟩ := id fl3
        unfold PySem.passOn
        refine wpAny_bind (wpAny_field he hd h1 ?_)
        rw [if_neg (show ¬ ((Value.ref T == Value.none) = true) from by simp)]
        have fin : wpAny (model X.prog X.w) X.A (setFlight (.ref a) X.env.frame) (fun _ s4 => wpAny (model X.prog X.w) X.A (throw (.ref a) : Sem Flow) (SP X pins D) X.xe s4) X.xe { s' with heap := h3 } := by
          rw [hf]
          refine HandSPX.setFlight_upZ fl3 fun h4 hh4 up4 => wpAny_throw (tk _ _ ?_)
          exact ⟨a, B, sI, pins, σ', H', cls, d, rfl, J, nb, (up.trans up3).trans up4, .inr (.inr (by rw [hs]; exact hh4)), na, os, ag, w⟩
        first
          | exact wpAny_bind (wpAny_pure (wpAny_bind fin))
          | exact wpAny_bind fin
      | @cons x c ts b₀ suite np pos' hds2 l2 hc hsu r ih =>
        intro w
        obtain ⟨b, hb1, hyes, hno⟩ := w
        refine wpAny_handleBy_cons (codeAny_handlers_test ?_) (by intro q; cases q)
        have LT : PySem.W.Looks (model X.prog X.w) h3 (typeOf (.ref a)) cls := fun A Q E s k q => wpAny_typeOf_ref (k _ _ he3) (by rw [hz3.1]; exact q)
        have LM := PySem.W.exm_one (M := model X.prog X.w) (J3.kIn) LT hb1
        have test : ∀ {Q : Value → Shared → Prop} {E : Value → Shared → Prop}, Q c { s' with heap := h3 } → wpAny (model X.prog X.w) (X.A.mark (some (.ref a))) (eval (.Name x np) X.env) Q E { s' with heap := h3 } := fun {Q E} q => by
          obtain ⟨hg, hdbg, hm | ⟨hm, hv, hnn⟩⟩ := hc
          · exact ld_glob (X := X.suite a ((a, oe3) :: (X.pn ++ pins))) S3 hg hm q hdbg
          · exact ld_blt (X := X.suite a ((a, oe3) :: (X.pn ++ pins))) S3 hg hm hv q hnn hdbg
        refine test (LM.here ?_)
        cases b with
        | true =>
          refine codeAny_handlers_suite_as ?_
          refine HandSPX.lands_againZ fl3 fun h4 fl4 up4 => ?_
          have J4 : Inv X pins σ' H' { s' with heap := h4 } := J.landed nb fl4.1 ((up.trans up3).trans up4) os ag
          obtain ⟨oe4, vs4, he4, hz4, hd4⟩ := fl4.there
          have S4 := J4.suite he4 hd4 na nL nF
          refine store_ok (X := X.suite a ((a, oe4) :: (X.pn ++ pins))) (v := .ref a) S4 hN hi hloc rfl (fun s5 S5 => ?_) (.inr hln)
          refine wpAny_mono ((hsu a oe4 cls d (X.pn ++ pins) hz4 ⟨_, hd4⟩).run [] s5 _ H' _ S5 (hyes rfl a na)) (fun f s6 hsp => ?_) (fun _ _ z => False.elim z)
          have end_ : ∀ {σ6 : L2.St} {H6 : Hp} {Q : Shared → Prop}, Inv (X.suite a ((a, oe4) :: (X.pn ++ pins))) [] σ6 H6 s6 → (∀ s7, Inv X pins (σ6.set i none) H6 s7 → Q s7) →
              wpAny (model X.prog X.w) X.A (do bindName X.env n .none; unbindBehindTheSuite X.env n pos') (fun _ s7 => Q s7) X.xe s6 := fun {σ6 H6 Q} S6 hq => gone_ok (S6.unsuite ok) hN hi hln hq
          cases f with
          | next =>
            obtain ⟨σ6, H6, S6, q6⟩ := hsp
            exact end_ S6 fun s7 J7 => ⟨_, _, J7, q6⟩
          | brk =>
            obtain ⟨σ6, H6, S6, q6⟩ := hsp
            exact end_ S6 fun s7 J7 => ⟨_, _, J7, q6⟩
          | cont =>
            obtain ⟨σ6, H6, S6, q6⟩ := hsp
            exact end_ S6 fun s7 J7 => ⟨_, _, J7, q6⟩
          | ret u =>
            obtain ⟨v6, σ6, H6, S6, r6, q6⟩ := hsp
            exact end_ S6 fun s7 J7 => ⟨_, _, _, J7, r6, q6⟩
        | false =>
          show wpAny _ X.A (handleBy (.ref a) X.env hds2) _ _ _
          exact ih (hno rfl)
    exact go hh w
  · cases f with
    | next =>
      obtain ⟨σ', H', J', q⟩ := hsp
      exact wpAny_execs_nil ⟨σ', H', J'.ofTry ok, q⟩
    | brk =>
      obtain ⟨σ', H', J', q⟩ := hsp
      exact ⟨σ', H', J'.ofTry ok, q⟩
    | cont =>
      obtain ⟨σ', H', J', q⟩ := hsp
      exact ⟨σ', H', J'.ofTry ok, q⟩
    | ret u =>
      obtain ⟨v, σ', H', J', r, q⟩ := hsp
      exact ⟨v, σ', H', J'.ofTry ok, r, q⟩
end
/-! ### the data side -/
/-- an assignment ahead of others in the suite -/
theorem dsp_cons {X : Cx} {J : Jd} {own own' : Owns} {i j : Nat} {a : Addr} {x : Str} {e : Expr} {f : Env → Res D} {pos pos' : Pos} {rest : List Stmt} {F : DSem} (hN : X.N.Nodup) (hi : X.N[j]? = some x) (hl : Loc X.env.scope x) (d : DEp X i a e f) (ho : own.lookup j = none) (hW : J.W = W0) (hij : i ≠ j)
    (r : DSp X J own own' i a rest F)
    (hs : swapsWith e (some (.Name x pos')) pos.line X.env = pure false := by rfl) (hf : X.fn x = true ∨ X.env.scope.names.lookup x = some .local := by first | exact .inl rfl | exact .inr rfl) (hx : oxSub J.ox own = true := by rfl) :
    DSp X J own own' i a (.Assign [.Name x pos'] e pos :: rest) (sSeq (sAsg own j f) F) := by
  obtain ⟨t, p, h1⟩ := d
  obtain ⟨t2, p2, h2⟩ := r
  refine ⟨_, pss_cons (ps_set hN hi hl p hs hf) p2, fun G0 H0 G H σ ρ Dn ⟨fp, I⟩ pn h => ?_⟩
  refine h1 G H σ (maskE own ρ) _ I.sub I.masked pn ?_
  have nx : ∀ (ds : D) (G' H' : Hp), Ext G H G' H' → GS X.mg J G0 H0 own' Dn (F (ρ.set j (some ds))) → ∀ v, Rep G' ds v → t2 Dn (σ.set j (some v)) H' := fun d G' H' e g v rv => by
    have I2 := (I.grow e).set (j := j) (d := d) (v := v) ho rv
    exact h2 G0 H0 G' H' _ _ Dn ⟨fp, I2⟩ (by rw [List.getElem?_set_ne (Ne.symm hij)]; exact pn) g
  unfold sSeq sAsg andThen at h
  cases q : f (maskE own ρ) with
  | ok d =>
    rw [q] at h
    exact fun G' H' e v rv => nx d G' H' e h v rv
  | ex c =>
    rw [q] at h
    rw [← hW]
    exact fun C G' H' m e => h C own G' H' σ hx m ⟨fp, I.grow e⟩
  | no => rw [q] at h; exact h.elim
def outAs (i : Nat) : Out → Out
  | .nx ρ => .nx (ρ.set i none)
  | _ => .no
def hdsAsF (i : Nat) (c : Str) (ρ : Env) : List (Str × List (Str × Bool) × DSem) → Out
  | [] => .ex c ρ
  | (c0, tbl, F) :: r => if c = c0 then (if i < ρ.length then outAs i (F (ρ.set i none)) else .no) else match tbl.lookup c with
    | some false => hdsAsF i c ρ r
    | _ => .no
def sTryAss (i : Nat) (F1 : DSem) (hs : List (Str × List (Str × Bool) × DSem)) : DSem := fun ρ => match F1 ρ with
  | .ex c ρ' => hdsAsF i c ρ' hs
  | o => o
inductive DHdsAs (X : Cx) (J : Jd) (own : Owns) (i : Nat) (n : Str) : List ExceptHandler → List (Str × List (Str × Bool) × DSem) → Prop
  | nil : DHdsAs X J own i n [] []
  | cons {x : Str} {hv : Value} {c0 : Str} {C0 : Addr} {tbl : List (Str × Bool)} {F : DSem} {b0 : Stmt} {suite : List Stmt} {np pos' : Pos} {hds : List ExceptHandler} {l : List (Str × List (Str × Bool) × DSem)} (hc : Names X x hv) (hm : X.mg c0 = some (.ref C0)) (he : PySem.W.exmOne X.K (.ref C0) hv = some true) (tb : TblOk X.mg X.K hv tbl)
      (hsu : ∀ (a : Addr) (oe : Obj) (pn : List (Addr × Obj)), Zc (.ref C0) none oe → (∃ vs, oe.data = .fields vs) → DSp (X.suite a ((a, oe) :: pn)) ⟨W0, J.L, [], J.rk⟩ own own i a (b0 :: suite) F) (r : DHdsAs X J own i n hds l) :
      DHdsAs X J own i n (.ExceptHandler (some (.Name x np)) (some n) (b0 :: suite) pos' :: hds) ((c0, tbl, F) :: l)
theorem hdsAs_ok {X : Cx} {J : Jd} {own : Owns} {i : Nat} {n : Str} {hds : List ExceptHandler} {l : List (Str × List (Str × Bool) × DSem)} (ho : own.lookup i = none) (d : DHdsAs X J own i n hds l) : ∃ l2 : List (Value × (Addr → Value → Option Addr → TS)), HdsAs X n hds l2 ∧
    ∀ (G0 H0 G H : Hp) (σ : L2.St) (ρ : Env) (Dn : Ends) (c : Str) (C : Addr) (own2 : Owns), oxSub J.ox own = true → X.mg c = some (.ref C) → oxSub own own2 = true → SI G0 H0 own2 G H σ ρ → GS X.mg J G0 H0 own Dn (hdsAsF i c ρ l) → wManyAs X.K i J.W Dn l2 (.ref C) none σ H := by
  induction d with
  | nil => exact ⟨[], .nil, fun G0 H0 G H σ ρ Dn c C own2 hx m hs I h => h C own2 G H σ (oxSub_trans hx hs) m I⟩
  | @cons x hv c0 C0 tbl F b0 suite np pos' hds l hc hm he tb hsu r ih =>
    obtain ⟨l2, h1, h2⟩ := ih
    let ts : Addr → Value → Option Addr → TS := fun a cls d Dn σ H => cls = .ref C0 ∧ d = none ∧ ∃ G0 H0 G ρ, SI G0 H0 own G H σ ρ ∧ σ[i]? = some (some (.ref a)) ∧ GS X.mg ⟨W0, J.L, [], J.rk⟩ G0 H0 own Dn (F ρ)
    have pts : ∀ (a : Addr) (oe : Obj) (cls : Value) (d : Option Addr) (pn : List (Addr × Obj)), Zc cls d oe → (∃ vs, oe.data = .fields vs) → PSs (X.suite a ((a, oe) :: pn)) (b0 :: suite) (ts a cls d) := fun a oe cls d pn hz hd => by
      refine ⟨fun pins s σ H Dn I ⟨e1, e2, G0, H0, G, ρ, si, hp, g⟩ => ?_⟩
      subst e1 e2
      obtain ⟨t, p, h⟩ := hsu a oe pn hz hd
      exact p.run pins s σ H Dn I (h G0 H0 G H σ ρ Dn si hp g)
    refine ⟨(hv, ts) :: l2, .cons hc pts h1, fun G0 H0 G H σ ρ Dn c C own2 hx m hs I h => ?_⟩
    unfold hdsAsF at h
    by_cases ec : c = c0
    · rw [if_pos ec] at h
      subst ec
      rw [hm] at m; cases m
      split at h
      rotate_left
      · exact h.elim
      rename_i hlr
      refine ⟨true, he, fun _ a na => ?_, fun z => by cases z⟩
      obtain ⟨G2, I2⟩ := I.toOwn hs
      obtain ⟨fp, I2⟩ := I2
      have I3 : SI G0 H0 own G2 H (σ.set i (some (.ref a))) (ρ.set i none) := ⟨fp, (I2.weak (ρ' := ρ.set i none) (by simp) fun k d e => by
        by_cases hk : i = k
        · subst hk; exact absurd e (set_none_no d)
        · rwa [List.getElem?_set_ne hk] at e).junk' set_none_no⟩
      have hlen : i < σ.length := by rw [← I2.len]; exact hlr
      refine ⟨rfl, rfl, G0, H0, G2, _, I3, List.getElem?_set_self hlen, ?_⟩
      cases q : F (ρ.set i none) with
      | nx ρ2 =>
        rw [q] at h
        intro G3 H3 σ3 ⟨fp3, I4⟩
        exact h G3 H3 _ ⟨fp3, (I4.weak (ρ' := ρ2.set i none) (by simp) fun k d e => by
          by_cases hk : i = k
          · subst hk; exact absurd e (set_none_no d)
          · rwa [List.getElem?_set_ne hk] at e).junk' set_none_no⟩
      | rt d => rw [q] at h; exact h.elim
      | bk d => rw [q] at h; exact h.elim
      | ct d => rw [q] at h; exact h.elim
      | ex c d => rw [q] at h; exact h.elim
      | no => rw [q] at h; exact h.elim
    · rw [if_neg ec] at h
      cases q : tbl.lookup c with
      | none => rw [q] at h; exact h.elim
      | some b =>
        cases b with
        | true => rw [q] at h; exact h.elim
        | false =>
          rw [q] at h
          refine ⟨false, tb c false q C m, fun e => (nomatch e), fun _ => h2 G0 H0 G H σ ρ Dn c C own2 hx m hs I h⟩
theorem ds_tryAss {X : Cx} {J : Jd} {own : Owns} {body : List Stmt} {n : Str} {i : Nat} {h0 : ExceptHandler} {hds : List ExceptHandler} {l : List (Str × List (Str × Bool) × DSem)} {F1 : DSem} {pos : Pos} (hs : X.stack = X.env :: X.outer) (hf : X.env.frame = some X.env.locals) (hN : X.N.Nodup) (hi : X.N[i]? = some n) (hln : X.env.kindOf n = some .local) (tk : Takes X J.W) (ho : own.lookup i = none)
    (hb : ∀ (W : WX) (pn : List (Addr × Obj)) (xe : Value → Shared → Prop), Takes (X.tr pn xe) W → PassesOwn (model X.prog X.w) X.A X.env xe → DSs (X.tr pn xe) ⟨W, J.L, own, J.rk⟩ own own body F1)
    (hh : DHdsAs X J own i n (h0 :: hds) l) (hx : oxSub J.ox own = true := by rfl) : DS X J own own (.Try body (h0 :: hds) [] [] pos) (sTryAss i F1 l) := by
  obtain ⟨l2, h1, h2⟩ := hdsAs_ok ho hh
  refine ⟨_, ps_try_manyAs (i := i) (tb := fun W => rdS X.mg ⟨W, J.L, own, J.rk⟩ own own F1) hs hf hN hi hln tk (fun W pn xe t p => (hb W pn xe t p).pss) h1, fun G0 H0 G H σ ρ Dn I h => ?_⟩
  refine ⟨G0, H0, G, ρ, I, ?_⟩
  unfold sTryAss at h
  cases q : F1 ρ with
  | ex c ρ' =>
    rw [q] at h
    exact fun C own2 G' H' σ' hx2 m I' => h2 G0 H0 G' H' σ' ρ' Dn c C own2 hx m hx2 I' h
  | nx ρ' => rw [q] at h; exact h
  | rt d => rw [q] at h; exact h
  | bk ρ' => rw [q] at h; exact h
  | ct ρ' => rw [q] at h; exact h
  | no => rw [q] at h; exact h
end DL

/-! DL42: == and != of dicts whose keys are tuples. -/
namespace DL
open PySem PySem.Calls PyProof.Rows PyProof.V PySem.Spec
section
variable {prog : Program} {w : World} {K : Type} [DecidableEq K] {knd : HeapKind prog w K} {A : Around} {E : Value → Shared → Prop} {s : Shared}
inductive HitsH {K : Type} (A : Around) (s : Shared) (kb : List (K × Addr × Value)) : List (K × Addr × Value) → Bool → Prop
  | nil : HitsH A s kb [] true
  | miss {k : K} {v : Addr × Value} {r : List (K × Addr × Value)} (h : ∀ (j : Nat) (p : Addr × Value), kb[j]? ≠ some (k, p)) : HitsH A s kb ((k, v) :: r) false
  | hit {k : K} {p q : Addr} {v y : Value} {r : List (K × Addr × Value)} {e b : Bool} {j : Nat} (h : kb[j]? = some (k, q, y)) (he : SeqAt.EqAt A s v y e) (hr : HitsH A s kb r b) : HitsH A s kb ((k, p, v) :: r) (e && b)
theorem HitsH.inv {kb : List (K × Addr × Value)} {k : K} {p : Addr} {v : Value} {r : List (K × Addr × Value)} {b : Bool} (h : HitsH A s kb ((k, p, v) :: r) b) :
    ((∀ (j : Nat) (p : Addr × Value), kb[j]? ≠ some (k, p)) ∧ b = false) ∨ ∃ (j : Nat) (q : Addr) (y : Value) (e b' : Bool), kb[j]? = some (k, q, y) ∧ SeqAt.EqAt A s v y e ∧ HitsH A s kb r b' ∧ b = (e && b') := by
  cases h with
  | miss hn => exact .inl ⟨hn, rfl⟩
  | hit hy he hr => exact .inr ⟨_, _, _, _, _, hy, he, hr, rfl⟩
theorem samePairsH {nm : String} {a b : Addr} {ka kb : List (K × Addr × Value)} {r : Bool} {Q : Bool → Shared → Prop} (hu : knd.room A) (ha : (a == sysModules) = false) (hb : (b == sysModules) = false)
    (da : s.heap.DictOfH knd a ka) (db : s.heap.DictOfH knd b kb) (hits : ka.length = kb.length → HitsH A s kb ka r) (h : Q (ka.length == kb.length && r) s) :
    wpAny (model prog w) A (Builtin.Dict.samePairs nm a b) Q E s := by
  obtain ⟨oa, es, ep, hoa, _, hda, hka, hia, _⟩ := da
  obtain ⟨ob, es', ep', hob, _, hdb, hkb, hib, hnb⟩ := db
  have hla : ka.length = es.size := (size_of_entries hka).symm
  have hlb : kb.length = es'.size := (size_of_entries hkb).symm
  rw [hla, hlb] at h
  unfold Builtin.Dict.samePairs Builtin.Dict.showsAll
  rw [if_neg (show ¬ (a == sysModules) = true by rw [ha]; exact Bool.false_ne_true), if_neg (show ¬ (b == sysModules) = true by rw [hb]; exact Bool.false_ne_true)]
  refine wpAny_bind (wpAny_pure (wpAny_bind (wpAny_pure ?_)))
  refine wpAny_bind (wpAny_dictEntries hoa hda ?_)
  dsimp only
  refine wpAny_bind (wpAny_dictEntries hob hdb ?_)
  by_cases hsz : es.size = es'.size
  case neg =>
    rw [if_pos (by simpa using hsz)]
    have hbf : (es.size == es'.size) = false := by simpa using hsz
    rw [hbf, Bool.false_and] at h
    exact wpAny_bind (wpAny_rule (wpAny_pure h))
  case pos =>
    have h' : Q r s := by simpa [hsz] using h
    have hits' := hits (by rw [hla, hlb]; exact hsz)
    rw [if_neg (by rw [hsz]; simp)]
    refine wpAny_bind (wpAny_dictEpoch hoa hda ?_)
    refine wpAny_bind ?_
    rw [Std.Legacy.Range.forIn_eq_forIn_range']
    simp only [Std.Legacy.Range.size, Nat.sub_zero, Nat.add_sub_cancel, Nat.div_one]
    refine wpAny_forIn_list _
      (fun rest q s' => s' = s ∧ q = (none, ()) ∧ ∃ i, rest = List.range' i (es.size - i) ∧ i ≤ es.size ∧ HitsH A s kb (ka.drop i) r)
      _ ?_ ?_ _ _ ⟨rfl, rfl, 0, by simp, Nat.zero_le _, hits'⟩
    · rintro x rest q s' ⟨rfl, rfl, i, hr, hi, hpre⟩
      have hlt : i < es.size := by
        rcases Nat.lt_or_ge i es.size with h | h
        · exact h
        · rw [Nat.sub_eq_zero_of_le h] at hr; simp at hr
      obtain ⟨rfl, hrest⟩ : x = i ∧ rest = List.range' (i + 1) (es.size - (i + 1)) := by
        have e : es.size - i = (es.size - (i + 1)) + 1 := by omega
        rw [e, List.range'_succ] at hr
        injection hr with h1 h2
        exact ⟨h1, h2⟩
      refine wpAny_bind (wpAny_dictEntries hoa hda ?_)
      rw [Array.getElem?_eq_getElem hlt]
      have hlt' : x < ka.length := by rw [hla]; exact hlt
      obtain ⟨k, p, v, hkv⟩ : ∃ k p v, ka[x] = (k, p, v) := ⟨_, _, _, rfl⟩
      have hdrop : ka.drop x = (k, p, v) :: ka.drop (x + 1) := by rw [← hkv]; exact List.drop_eq_getElem_cons hlt'
      have hex : es[x] = ⟨knd.hash k, .ref p, v⟩ := by
        have q1 := entry_at hka x
        rw [Array.getElem?_eq_getElem hlt, List.getElem?_eq_getElem hlt', hkv] at q1
        exact Option.some.inj q1
      have hkey : knd.is s'.heap k p := by
        have := hia (k, p, v) (by rw [← hkv]; exact List.getElem_mem _)
        exact this
      rw [hdrop] at hpre
      rw [hex]
      show wpAny _ _ (holding [Value.ref p, v] _ >>= _) _ _ _
      refine wpAny_bind (wpAny_holding (wpAny_bind (wpAny_dictFind_heap hu hkey hob hdb hkb hib hnb (fun hn => ?_) (fun j q hj => ?_))))
      · rcases hpre.inv with ⟨_, er⟩ | ⟨j, q, y, _, _, hy, _⟩
        · rw [er] at h'
          refine wpAny_pure ?_
          show wpAny _ _ (if (!false) = true then _ else _) _ _ _
          rw [if_pos (by decide)]
          exact wpAny_pure (wpAny_pure h')
        · exact absurd hy (hn j _)
      · have hjlt : j < es'.size := by rw [← hlb]; exact (List.getElem?_eq_some_iff.mp hj).1
        have hej : es'[j] = ⟨knd.hash k, .ref q.1, q.2⟩ := by
          have q1 := entry_at hkb j
          rw [Array.getElem?_eq_getElem hjlt, hj] at q1
          exact Option.some.inj q1
        refine wpAny_bind (wpAny_dictEntries hob hdb ?_)
        rw [Array.getElem?_eq_getElem hjlt]
        rcases hpre.inv with ⟨hn, _⟩ | ⟨j2, q2, y, e, b', hy, he, hrr, er⟩
        · exact absurd hj (hn j _)
        · have ejj : j2 = j := by
            have l1 := (List.getElem?_eq_some_iff.mp hj)
            have l2 := (List.getElem?_eq_some_iff.mp hy)
            obtain ⟨m1, e1⟩ := l1
            obtain ⟨m2, e2⟩ := l2
            have n1 : (kb.map (·.1))[j]? = some k := by rw [List.getElem?_map, hj]; rfl
            have n2 : (kb.map (·.1))[j2]? = some k := by rw [List.getElem?_map, hy]; rfl
            exact (List.getElem?_inj (by simpa using m2) hnb).mp (by rw [n1, n2])
          subst ejj
          rw [hy] at hj
          cases hj
          rw [hej]
          refine wpAny_holding (he prog w _ _ ?_)
          cases e with
          | false =>
            rw [er, Bool.false_and] at h'
            show wpAny _ _ (if (!false) = true then _ else _) _ _ _
            rw [if_pos (by decide)]
            exact wpAny_pure (wpAny_pure h')
          | true =>
            rw [Bool.true_and] at er
            rw [← er] at hrr
            show wpAny _ _ (if (!true) = true then _ else _) _ _ _
            rw [if_neg (by decide)]
            refine wpAny_bind (wpAny_dictEpoch hoa hda ?_)
            rw [if_neg (by simp)]
            exact wpAny_pure ⟨rfl, rfl, x + 1, hrest, hlt, hrr⟩
    · rintro q s' ⟨rfl, rfl, i, hr, hi, hpre⟩
      have hin : i = es.size := by
        rcases Nat.lt_or_ge i es.size with h | h
        · have e : es.size - i = (es.size - (i + 1)) + 1 := by omega
          rw [e, List.range'_succ] at hr; exact nomatch hr
        · exact Nat.le_antisymm hi h
      refine wpAny_pure ?_
      rw [hin, ← hla, List.drop_length] at hpre
      cases hpre
      exact h'
theorem eqH {a b : Addr} {ka kb : List (K × Addr × Value)} {r : Bool} {Q : Value → Shared → Prop} (hr : knd.room A.in1) (ha : (a == sysModules) = false) (hb : (b == sysModules) = false)
    (da : s.heap.DictOfH knd a ka) (db : s.heap.DictOfH knd b kb) (hu : A.units < cLine) (hits : ka.length = kb.length → HitsH A.in1 s kb ka r) (h : Q (.bool (ka.length == kb.length && r)) s) :
    wpAny (model prog w) A (compareOp .Eq (.ref a) (.ref b)) Q E s := by
  refine wpAny_richCompare_same_room (op := .Eq) da.typeIs db.typeIs PySem.F.slot_dict_eq (wpAny_call_entry PySem.F.slot_dict_eq da.typeIs PySem.F.entry_dict_eq ?_ (PySem.F.args_dict_eq_2 _ _)) hu
  show wpAny _ _ (Builtin.Dict.dictSlotArgs "__eq__" ⟨[.ref a, .ref b], []⟩ >>= _) _ _ s
  refine wpAny_bind ?_
  unfold Builtin.Dict.dictSlotArgs
  refine wpAny_bind (wpAny_notOrdered_dict da.typeIs ?_)
  show wpAny _ _ (pure (Value.ref a, Value.ref b)) _ _ s
  refine wpAny_pure ?_
  refine wpAny_bind (wpAny_isInstance (T := "dict") db.typeIs PySem.F.sub_dict_dict ?_)
  simp only [Bool.not_true, Bool.false_eq_true, if_false]
  refine wpAny_bind (wpAny_pure (wpAny_bind (wpAny_pure ?_)))
  refine wpAny_bind (samePairsH hr ha hb da db hits ?_)
  refine wpAny_pure ⟨_, rfl, ?_, ?_⟩
  · exact fun x => nomatch x
  · simpa using h
theorem neH {a b : Addr} {ka kb : List (K × Addr × Value)} {r : Bool} {Q : Value → Shared → Prop} (hr : knd.room A.in1) (ha : (a == sysModules) = false) (hb : (b == sysModules) = false)
    (da : s.heap.DictOfH knd a ka) (db : s.heap.DictOfH knd b kb) (hu : A.units < cLine) (hits : ka.length = kb.length → HitsH A.in1 s kb ka r) (h : Q (.bool (!(ka.length == kb.length && r))) s) :
    wpAny (model prog w) A (compareOp .NotEq (.ref a) (.ref b)) Q E s := by
  refine wpAny_richCompare_same_room (op := .NotEq) da.typeIs db.typeIs PySem.F.slot_dict_ne (wpAny_call_entry PySem.F.slot_dict_ne da.typeIs PySem.F.entry_dict_ne ?_ (PySem.F.args_dict_ne_2 _ _)) hu
  show wpAny _ _ (Builtin.Dict.dictSlotArgs "__ne__" ⟨[.ref a, .ref b], []⟩ >>= _) _ _ s
  refine wpAny_bind ?_
  unfold Builtin.Dict.dictSlotArgs
  refine wpAny_bind (wpAny_notOrdered_dict da.typeIs ?_)
  show wpAny _ _ (pure (Value.ref a, Value.ref b)) _ _ s
  refine wpAny_pure ?_
  refine wpAny_bind (wpAny_isInstance (T := "dict") db.typeIs PySem.F.sub_dict_dict ?_)
  simp only [Bool.not_true, Bool.false_eq_true, if_false]
  refine wpAny_bind (wpAny_pure (wpAny_bind (wpAny_pure ?_)))
  refine wpAny_bind (samePairsH hr ha hb da db hits ?_)
  refine wpAny_pure ⟨_, rfl, ?_, ?_⟩
  · exact fun x => nomatch x
  · simpa using h
end
end DL

/-! DL43: == and != of dicts by tuples: over plain data. -/
namespace DL
open PySem PySem.Spec PyProof.Rows L2
/-- two dicts by tuples: the same keys, their values equal -/
def eqvT (ks ls : List (List Key × D)) : Bool := ks.all fun p => match getA ls p.1 with
  | some u => PyData.eqv (py p.2) (py u)
  | none => false
def deqT : D → D → Res Bool
  | .dT ks, .dT ls => if (ks.all fun p => SeqAt.shaped (py p.2)) = true ∧ (ls.all fun p => SeqAt.shaped (py p.2)) = true then .ok (ks.length == ls.length && eqvT ks ls) else .no
  | _, _ => .no
def g_eqT (x y : D) : Res D := deqT x y >>= fun b => .ok (.bl b)
def g_neT (x y : D) : Res D := deqT x y >>= fun b => .ok (.bl (!b))
section
variable {X : Cx} {pins : List (Addr × Obj)} {σ : L2.St} {G H : Hp} {s : Shared}
theorem kt_len {H : Hp} {ws : List (List Key × V)} {xs : List (List Key × Addr × Value)} (h : KT H ws xs) : ws.length = xs.length := by
  induction h with
  | nil => rfl
  | cons _ _ ih => simp [ih]
theorem look_none {H : Hp} : ∀ {ls : List (List Key × D)} {ws : List (List Key × V)} {xs : List (List Key × Addr × Value)}, RepP G ls ws → KT H ws xs → ∀ {k : List Key}, getA ls k = none → ∀ (j : Nat) (p : Addr × Value), xs[j]? ≠ some (k, p)
  | [], _, _, h, kt, k, _, j, p => by
    rw [show _ = [] from h] at kt
    cases kt
    simp
  | (k0, d) :: r, _, _, ⟨v, t, e, h1, h2⟩, kt, k, hg, j, p => by
    subst e
    cases kt with
    | @cons a b as bs hd tl =>
      have hk : ¬ k0 = k := fun e => by
        unfold getA at hg
        rw [List.find?_cons_of_pos (by simpa using e)] at hg
        cases hg
      have hg2 : getA r k = none := by
        unfold getA at hg ⊢
        rw [List.find?_cons_of_neg (by simpa using hk)] at hg
        exact hg
      cases j with
      | zero =>
        intro q
        simp only [List.getElem?_cons_zero, Option.some.injEq] at q
        have := hd.1
        rw [q] at this
        exact hk this
      | succ j =>
        rw [List.getElem?_cons_succ]
        exact look_none h2 tl hg2 j p
theorem look_some {H : Hp} : ∀ {ls : List (List Key × D)} {ws : List (List Key × V)} {xs : List (List Key × Addr × Value)}, RepP G ls ws → KT H ws xs → ∀ {k : List Key} {u : D}, getA ls k = some u → ∃ (j : Nat) (q : Addr) (y : Value) (v : V), xs[j]? = some (k, q, y) ∧ Rep G u v ∧ RelV v y
  | [], _, _, h, kt, k, u, hg => by cases hg
  | (k0, d) :: r, _, _, ⟨v, t, e, h1, h2⟩, kt, k, u, hg => by
    subst e
    cases kt with
    | @cons a b as bs hd tl =>
      obtain ⟨b1, b2, b3⟩ := b
      by_cases hk : k0 = k
      · unfold getA at hg
        rw [List.find?_cons_of_pos (by simpa using hk)] at hg
        cases hg
        have := hd.1
        simp only at this
        exact ⟨0, b2, b3, v, by rw [List.getElem?_cons_zero, ← this, hk], h1, hd.2.2⟩
      · have hg2 : getA r k = some u := by
          unfold getA at hg ⊢
          rw [List.find?_cons_of_neg (by simpa using hk)] at hg
          exact hg
        obtain ⟨j, q, y, v', q1, q2, q3⟩ := look_some h2 tl hg2
        exact ⟨j + 1, q, y, v', by rw [List.getElem?_cons_succ]; exact q1, q2, q3⟩
theorem hits_of (I : Inv X pins σ H s) (sG : Sub G H) (hu : X.A.in1.in1.units + 64 < cLine) {ls : List (List Key × D)} {ws' : List (List Key × V)} {xs' : List (List Key × Addr × Value)} (rp' : RepP G ls ws') (kt' : KT H ws' xs') (sh' : ∀ p ∈ ls, SeqAt.shaped (py p.2) = true) :
    ∀ {ks : List (List Key × D)} {ws : List (List Key × V)} {xs : List (List Key × Addr × Value)}, RepP G ks ws → KT H ws xs → (∀ p ∈ ks, SeqAt.shaped (py p.2) = true) → HitsH X.A.in1 s xs' xs (eqvT ks ls)
  | [], _, _, h, kt, _ => by
    rw [show _ = [] from h] at kt
    cases kt
    exact .nil
  | (k, d) :: r, _, _, ⟨v, t, e, h1, h2⟩, kt, sh => by
    subst e
    cases kt with
    | @cons a b as bs hd tl =>
      obtain ⟨b1, b2, b3⟩ := b
      have e1 := hd.1
      simp only at e1
      subst e1
      have ih := hits_of I sG hu rp' kt' sh' h2 tl fun p hp => sh p (List.mem_cons_of_mem _ hp)
      cases hg : getA ls k with
      | none =>
        have : eqvT ((k, d) :: r) ls = false := by simp [eqvT, hg]
        rw [this]
        exact .miss (look_none rp' kt' hg)
      | some u =>
        obtain ⟨j, q, y, v', q1, q2, q3⟩ := look_some rp' kt' hg
        have sd := sh (k, d) List.mem_cons_self
        obtain ⟨p', hp', hpu⟩ : ∃ p ∈ ls, p.2 = u := by
          unfold getA at hg
          obtain ⟨p, hp, e⟩ := Option.map_eq_some_iff.mp hg
          exact ⟨p, List.mem_of_find?_eq_some hp, e⟩
        have su := sh' p' hp'
        rw [hpu] at su
        have dv : Dp X.K H v (py d) := dp_of sG (SeqAt.canLay_of_shaped sd) h1
        have du : Dp X.K H v' (py u) := dp_of sG (SeqAt.canLay_of_shaped su) q2
        obtain ⟨as1, r1⟩ := Dp.reads I _ _ _ dv hd.2.2
        obtain ⟨as2, r2⟩ := Dp.reads I _ _ _ du q3
        have ea : SeqAt.EqAt X.A.in1 s b3 y (PyData.eqv (py d) (py u)) := SeqAt.eqAt_reads (py d) (py u) X.A.in1 s b3 y as1 as2 r1 r2 (SeqAt.canLay_of_shaped sd) (SeqAt.canLay_of_shaped su) (SeqAt.room_of_shaped sd (by show X.A.in1.units + 64 < cLine; have : X.A.in1.in1.units = X.A.in1.units + 1 := rfl; omega))
        have : eqvT ((k, d) :: r) ls = (PyData.eqv (py d) (py u) && eqvT r ls) := by simp [eqvT, hg]
        rw [this]
        exact .hit q1 ea ih
end
section
variable {X : Cx} {W : WX}
def rEqT : R2 := fun x y H Q => ∃ G dx dy b, Sub G H ∧ Rep G dx x ∧ Rep G dy y ∧ deqT dx dy = .ok b ∧ Q (.bl b) H
def rNeT : R2 := fun x y H Q => ∃ G dx dy b, Sub G H ∧ Rep G dx x ∧ Rep G dy y ∧ deqT dx dy = .ok b ∧ Q (.bl (!b)) H
theorem deqT_dT {dx dy : D} {b : Bool} (h : deqT dx dy = .ok b) : ∃ ks ls, dx = .dT ks ∧ dy = .dT ls ∧ (∀ p ∈ ks, SeqAt.shaped (py p.2) = true) ∧ (∀ p ∈ ls, SeqAt.shaped (py p.2) = true) ∧ b = (ks.length == ls.length && eqvT ks ls) := by
  unfold deqT at h
  split at h
  · rename_i ks ls
    split at h
    · rename_i z
      cases h
      exact ⟨ks, ls, rfl, rfl, List.all_eq_true.mp z.1, List.all_eq_true.mp z.2, rfl⟩
    · cases h
  · cases h
theorem op_eqT (hu : X.A.units + 70 < cLine) : OpR X (compareOp .Eq) rEqT := by
  intro pins s σ H x y v u Q I rx ry h
  obtain ⟨G, dx, dy, b, sG, r1, r2, e, q⟩ := h
  obtain ⟨ks, ls, rfl, rfl, sh1, sh2, rfl⟩ := deqT_dT e
  obtain ⟨a, ws, rfl, h1, t1⟩ := r1
  obtain ⟨a', ws', rfl, h2, t2⟩ := r2
  cases (show v = Value.ref a from rx)
  cases (show u = Value.ref a' from ry)
  obtain ⟨_, y1, xs, kt, d1⟩ := dt_rd I.hok (sG.rd h1)
  obtain ⟨_, y2, xs', kt', d2⟩ := dt_rd I.hok (sG.rd h2)
  have p1 := repT_iff.mp t1
  have p2 := repT_iff.mp t2
  have l1 : ks.length = xs.length := by rw [← p1.length, kt_len kt]
  have l2 : ls.length = xs'.length := by rw [← p2.length, kt_len kt']
  refine eqH (knd := tupleKind (mixKind X.prog X.w)) (r := eqvT ks ls) (by show X.A.in1.units < cLine; show X.A.units + 1 < cLine; omega) y1 y2 d1 d2 (by omega) (fun _ => hits_of I sG (by show X.A.units + 1 + 1 + 64 < cLine; omega) p2 kt' sh2 p1 kt sh1) ?_
  rw [← l1, ← l2]
  exact ⟨.bl _, H, I, rfl, q⟩
theorem op_neT (hu : X.A.units + 70 < cLine) : OpR X (compareOp .NotEq) rNeT := by
  intro pins s σ H x y v u Q I rx ry h
  obtain ⟨G, dx, dy, b, sG, r1, r2, e, q⟩ := h
  obtain ⟨ks, ls, rfl, rfl, sh1, sh2, rfl⟩ := deqT_dT e
  obtain ⟨a, ws, rfl, h1, t1⟩ := r1
  obtain ⟨a', ws', rfl, h2, t2⟩ := r2
  cases (show v = Value.ref a from rx)
  cases (show u = Value.ref a' from ry)
  obtain ⟨_, y1, xs, kt, d1⟩ := dt_rd I.hok (sG.rd h1)
  obtain ⟨_, y2, xs', kt', d2⟩ := dt_rd I.hok (sG.rd h2)
  have p1 := repT_iff.mp t1
  have p2 := repT_iff.mp t2
  have l1 : ks.length = xs.length := by rw [← p1.length, kt_len kt]
  have l2 : ls.length = xs'.length := by rw [← p2.length, kt_len kt']
  refine neH (knd := tupleKind (mixKind X.prog X.w)) (r := eqvT ks ls) (by show X.A.in1.units < cLine; show X.A.units + 1 < cLine; omega) y1 y2 d1 d2 (by omega) (fun _ => hits_of I sG (by show X.A.units + 1 + 1 + 64 < cLine; omega) p2 kt' sh2 p1 kt sh1) ?_
  rw [← l1, ← l2]
  exact ⟨.bl _, H, I, rfl, q⟩
theorem say_eqT : Say2 X W rEqT g_eqT := by
  intro G H σ Q x y a b s r1 r2 h
  unfold g_eqT at h
  cases e : deqT x y with
  | ok b => rw [e] at h; exact ⟨G, x, y, b, s, r1, r2, e, h.bl s⟩
  | ex c => 
    unfold deqT at e
    split at e
    · split at e <;> cases e
    · cases e
  | no => rw [e] at h; exact h.elim
theorem say_neT : Say2 X W rNeT g_neT := by
  intro G H σ Q x y a b s r1 r2 h
  unfold g_neT at h
  cases e : deqT x y with
  | ok b => rw [e] at h; exact ⟨G, x, y, b, s, r1, r2, e, h.bl s⟩
  | ex c => 
    unfold deqT at e
    split at e
    · split at e <;> cases e
    · cases e
  | no => rw [e] at h; exact h.elim
theorem hu70 {A : Around} {k : Nat} (hr : Room k A) : A.units + 70 < cLine := by have := hr.un; omega
end
end DL

/-! DL44: len of dicts. -/
namespace DL
open PySem PySem.Spec PyProof.Rows L2
def rLenD : List V → Hp → VK → Prop := fun xs H Q => ∃ (p : Addr) (n : Nat), xs = [.ref p] ∧ ((∃ kvs, Rd H p (.dK kvs) ∧ n = kvs.length) ∨ ∃ kvs, Rd H p (.dT kvs) ∧ n = kvs.length) ∧ Q (.int (n : Int)) H
theorem call_lenD {X : Cx} : CallR X (.builtin "len") rLenD := by
  intro pins s σ H xs us Q I r h
  obtain ⟨p, n, rfl, hd, q⟩ := h
  obtain ⟨u, rfl, rx⟩ := vals1 r
  obtain rfl : u = .ref p := rx
  rcases hd with ⟨kvs, hk, rfl⟩ | ⟨kvs, hk, rfl⟩
  · exact d_len I hk fun t s' I' => ⟨.int ((kvs.length : Nat) : Int), H, I', ⟨_, rfl⟩, q⟩
  · obtain ⟨z, hd, ys, rel, dd⟩ := dt_rd I.hok hk
    have hl : kvs.length = ys.length := Paired.length rel
    refine call_len_dictH hd dd (by rw [← hl]; rw [sizeLine_eq] at z; omega) ?_
    rw [← hl]
    exact ⟨.int ((kvs.length : Nat) : Int), H, I.tok _, ⟨_, rfl⟩, q⟩
def c_lenD : List D → Res D
  | [.dK kvs] => .ok (.int kvs.length)
  | [.dT kvs] => .ok (.int kvs.length)
  | _ => .no
theorem say_lenD {X : Cx} {W : WX} : SayC X W rLenD c_lenD := by
  intro G H σ Q ds vs s r h
  unfold c_lenD at h
  split at h
  · rename_i kvs
    obtain ⟨v, _, e, ⟨p, ws, ep, h1, q1⟩, e2⟩ := r
    have e4 : _ = [] := e2
    subst ep e4
    exact ⟨p, kvs.length, e, .inl ⟨ws, s.rd h1, (repK_iff.mp q1).length.symm⟩, h.int s⟩
  · rename_i kvs
    obtain ⟨v, _, e, ⟨p, ws, ep, h1, q1⟩, e2⟩ := r
    have e4 : _ = [] := e2
    subst ep e4
    exact ⟨p, kvs.length, e, .inr ⟨ws, s.rd h1, (repT_iff.mp q1).length.symm⟩, h.int s⟩
  · exact h.elim
end DL

/-! DL45: P.remove(e) of data. -/
namespace DL
open PySem PySem.Spec PyProof.Rows L2
def rRemD (K : PySem.W.Frag) : V → List V → Hp → VK → Prop := fun x xs H Q => ∃ (a : Addr) (vs : List V) (y : V) (d : PyData) (ds : List PyData) (j : Nat), x = V.ref a ∧ xs = [y] ∧ H a = some (.lst vs) ∧ DpAll K H vs ds ∧ Dp K H y d ∧
  SeqAt.shaped (.list ds) = true ∧ SeqAt.shaped d = true ∧ ds.findIdx? (fun z => PyData.eqv z d) = some j ∧ Q .non (upd H a (.lst (vs.eraseIdx j)))
section
variable {X : Cx}
theorem mt_removeD (hu : X.A.units + 65 < cLine) : MtM X "list.remove" (rRemD X.K) := by
  intro pins s σ H x xs v us Q I rx rxs h
  obtain ⟨a, vs, y, d, ds, j, rfl, rfl, hH, ha, hy, sl, sd, hf, q⟩ := h
  cases rx
  obtain ⟨uy, rfl, ry⟩ := rxs.one
  obtain ⟨bs, r1⟩ := Dp.reads I d y uy hy ry
  have hxs : PyData.canLayAll0 ds = true := SeqAt.canLay_of_shaped sl
  have hroom : X.A.units + 1 + min (PyData.depthAll ds) d.depth < cLine := room_in_shaped sd hu
  obtain ⟨z, its, n, r, hl, e⟩ := I.lstM hH
  obtain ⟨as, h4⟩ := Dp.readsAll I ds _ its ha r
  have hn : its.length = ds.length := SeqAt.ReadsAll.length ds its as h4
  have hmap : its.map (SeqAt.readOf s.heap) = ds := SeqAt.readsAll_map ds its as hxs h4
  obtain ⟨hjd, hp, hno⟩ := List.findIdx?_eq_some_iff_getElem.mp hf
  have hvl := r.length
  have hsl := sizeLine_eq
  have hjl : j < its.length := by omega
  have hj : j < its.toArray.size := by simpa using hjl
  have at_ : ∀ (m : Nat) (hm : m < its.toArray.size) (hm2 : m < ds.length), SeqAt.readOf s.heap its.toArray[m] = ds[m] := by
    intro m hm hm2
    have hml : m < its.length := by simpa using hm
    have hz' : (its.map (SeqAt.readOf s.heap))[m]? = some ds[m] := by rw [hmap]; exact List.getElem?_eq_getElem hm2
    rw [List.getElem?_map, List.getElem?_eq_getElem hml] at hz'
    have e1 : SeqAt.readOf s.heap its[m] = ds[m] := Option.some.inj (show some (SeqAt.readOf s.heap its[m]) = some ds[m] from hz')
    simpa using e1
  refine call_meets PySem.F.slot_list_remove ⟨_, e, rfl⟩ PySem.F.entry_list_remove (PySem.F.args_list_remove_2 _ _)
    (SeqAt.list_removeAt a its.toArray n none #[] uy (fun u => PyData.eqv (SeqAt.readOf s.heap u) d) j hj ?_ ?_ (by rw [List.size_toArray]; omega)) ⟨e, SeqAt.items_eqAt (vs := its.toArray) (show ReadsAll s.heap its.toArray.toList ds as from h4) r1 hxs (SeqAt.canLay_of_shaped sd) hroom, ?_⟩
  · show PyData.eqv (SeqAt.readOf s.heap its.toArray[j]) d = true
    rw [at_ j hj hjd]
    exact hp
  · intro m hm hmj
    show PyData.eqv (SeqAt.readOf s.heap its.toArray[m]) d = false
    rw [at_ m hm (by omega)]
    simpa using hno m hmj
  · refine ⟨.non, _, I.lset (its' := its.eraseIdx j) (t' := s.toks) hH e ?_ (r.eraseIdx j) ?_, rfl, q⟩
    · show its.toArray.eraseIdxIfInBounds j = (its.eraseIdx j).toArray
      rw [List.eraseIdxIfInBounds_toArray]
    · have : (vs.eraseIdx j).length ≤ vs.length := by rw [List.length_eraseIdx]; split <;> omega
      omega
end
section
variable {X : Cx} {J : Jd} {own : Owns} {j : Nat} {e o : Expr} {sel : Sel} {f : Env → Res D} {pos apos cpos : Pos}
def remD (ds : List D) (d : D) : Option (List D) := if SeqAt.shaped (py (.lst ds)) = true ∧ SeqAt.shaped (py d) = true ∧ imms ds = true then ((pys ds).findIdx? (fun z => PyData.eqv z (py d))).map fun k => ds.eraseIdx k else none
def pRem (j : Nat) (ρ : Env) (d1 : D) (p : List Stp) (d : D) : Out := match getP d1 p with
  | some (.lst ds) => (match remD ds d with
    | some ds' => .nx (ρ.set j (some (setP d1 p (.lst ds'))))
    | none => .no)
  | _ => .no
def sPRemI (j : Nat) (sel : Sel) (f : Env → Res D) : DSem := fun ρ => atSel (sel ρ) fun d1 p => if isLstP d1 p = true then andThen (f (ρ.set j (some d1))) (ρ.set j (some d1)) fun d => if imm d = true then pRem j (ρ.set j (some d1)) d1 p d else .no else .no
theorem imms_erase : ∀ {ds : List D} {k : Nat}, imms ds = true → imms (ds.eraseIdx k) = true
  | [], _, _ => by simp [imms]
  | d :: r, 0, h => by simp only [imms, Bool.and_eq_true] at h; exact h.2
  | d :: r, k + 1, h => by
    simp only [imms, Bool.and_eq_true] at h
    simp only [List.eraseIdx_cons_succ, imms, Bool.and_eq_true]
    exact ⟨h.1, imms_erase h.2⟩
theorem RepOs.erase {H : Hp} : ∀ {ds : List D} {vs : List V} {k : Nat}, imms ds = true → RepOs H ds vs [] → RepOs H (ds.eraseIdx k) (vs.eraseIdx k) []
  | [], _, k, _, h => by
    obtain ⟨rfl, _⟩ := h
    exact ⟨by simp, rfl⟩
  | d :: r, _, 0, hi, ⟨v, s, f1, f2, e, ef, h, q⟩ => by
    subst e
    have : f2 = [] := (List.append_eq_nil_iff.mp ef.symm).2
    subst this
    exact q
  | d :: r, _, k + 1, hi, ⟨v, s, f1, f2, e, ef, h, q⟩ => by
    subst e
    simp only [imms, Bool.and_eq_true] at hi
    obtain ⟨e1, e2⟩ := List.append_eq_nil_iff.mp ef.symm
    subst e1 e2
    exact ⟨v, _, [], [], rfl, rfl, h, RepOs.erase hi.2 q⟩
theorem prem_end {fp} {G0 H0 G H : Hp} {σ : L2.St} {ρ : Env} {Dn : Ends} {v0 v' y : V} {d1 d : D} {p : List Stp} (I : SIf fp G0 H0 own G H σ (ρ.set j (some d1))) (hj : own.lookup j = some .dp) (hv : σ[j]? = some (some v0)) (ha : AtV H v0 p v')
    (ry : Rep H d y) (h : GS X.mg J G0 H0 own Dn (pRem j (ρ.set j (some d1)) d1 p d)) : rRemD X.K v' [y] H (fun _ H' => Dn.nx σ H') := by
  unfold pRem at h
  split at h
  · rename_i ds g
    split at h
    · rename_i ds' hr
      unfold remD at hr
      split at hr
      · rename_i z
        obtain ⟨k, hk, rfl⟩ := Option.map_eq_some_iff.mp hr
        obtain ⟨f1, fc, f2, ndj, ef, oc, upd'⟩ := I.place hj (hasJ I hv) hv ha g
        obtain ⟨a, vs, fq, ea, hH, efc, r⟩ := oc
        subst ea efc
        have f0 : fq = [] := RepOs.imm_nil z.2.2 r
        subst f0
        have rr := r.rep (G := H) ⟨fun _ _ => rfl, fun _ _ e => e⟩
        have at1 : ∀ {u : HO}, At H (upd H a u) [] := fun {u} => ⟨fun q hq => (by cases hq), fun b ws e => by rw [upd_ne (ne_of e hH (by intro z; cases z))]; exact e⟩
        have oc' : RepO (upd H a (.lst (vs.eraseIdx k))) (.lst (ds.eraseIdx k)) (.ref a) [a] := ⟨a, _, [], rfl, upd_same, rfl, (RepOs.erase z.2.2 r).at at1⟩
        have W := I.pathWriteS (H' := upd H a (.lst (vs.eraseIdx k))) hj hv ndj ef upd' oc' (by simp) (fun q hq => .inl (by rw [show q = a by simpa using hq]; exact List.mem_cons_self)) (fun b hb => .inl (upd_ne fun z => hb (by rw [z]; exact List.mem_cons_self)))
        have sH : Sub H H := fun a o h => h
        exact ⟨a, vs, y, py d, pys ds, k, rfl, rfl, hH, dps_of sH (SeqAt.canLay_of_shaped z.1) rr, dp_of sH (SeqAt.canLay_of_shaped z.2.1) ry, z.1, z.2.1, hk, h G _ σ W⟩
      · cases hr
    · exact h.elim
  · exact h.elim
theorem ds_premI (hu : X.A.units + 65 < cLine) (hj : own.lookup j = some .dp) (dp : DP X own j o sel) (d : DE X J.W e f) (hbase : attributeBase o "remove" X.env (eval o X.env) = eval o X.env := by rfl)
    (hfew : ((backTo cpos (starEach (e :: []) X.env)).all (fun x => !x.1) && (backToKw cpos (keywordEach [] X.env)).all (fun x => x.1.isSome)
      && decide ((e :: ([] : List Expr)).length + ([] : List Keyword).length + (if ([] : List Keyword).isEmpty then 0 else 1) < 30)) = true := by rfl)
    (hline : (apos.endLine == cpos.line) = true := by rfl) (hs1 : starEach (e :: []) X.env = (false, eval e X.env) :: starEach [] X.env := by rfl) (hplain : (backTo cpos (starEach [] X.env)).any (·.1) = false := by rfl)
    (hs : swapsWith (.Call (.Attribute o "remove" apos) [e] [] cpos) none pos.line X.env = pure false := by rfl) (hx : oxSub J.ox own = true := by rfl) : DS X J own own (.Expr (.Call (.Attribute o "remove" apos) [e] [] cpos) pos) (sPRemI j sel f) := by
  obtain ⟨t1, p1, h1⟩ := dp
  obtain ⟨t, p, h2⟩ := d
  refine ⟨_, ps_expr (pe_bm PySem.F.plainAttrs_list PySem.F.slot_list_remove PySem.F.type_list_remove (mt_removeD hu) p1 (pa_cons p pa_nil hs1) hbase hfew hline hs1 hplain) hs, fun G0 H0 G H σ ρ Dn ⟨fp, I⟩ h => ?_⟩
  unfold sPRemI atSel at h
  split at h <;> (try simp only at h)
  · rename_i d1 pp es
    split at h
    · rename_i hl
      refine h1 fp G0 H0 G H σ ρ _ I ⟨d1, pp, es, fun fp' G' H' v0 v' kp I' hv ha => ⟨lst_at I' hj hv ha hl, ?_⟩⟩
      refine onView hx h2 I' h fun d hk G2 H2 y ex I2 _ ry => ?_
      split at hk
      · rename_i hi
        exact prem_end I2 hj hv (ha.up ex.h) ((ry hi).le (Le.of I2.sub)) hk
      · exact hk.elim
    · exact h.elim
  · exact h.elim
end
end DL

/-! DL46: texts: split, join, str(x), int(text), a text of the module. -/
namespace DL
open PySem PySem.Spec PyProof.Rows L2
theorem reps_str {G : Hp} : ∀ ys : List Str, Reps G (ys.map D.str) (ys.map V.str)
  | [] => rfl
  | y :: r => ⟨_, _, rfl, rfl, reps_str r⟩
theorem strs_of_reps {G : Hp} : ∀ {ys : List Str} {vs : List V}, Reps G (ys.map D.str) vs → vs = ys.map V.str
  | [], _, h => h
  | y :: r, _, ⟨v, s, e, h1, h2⟩ => by
    subst e
    cases (show v = V.str y from h1)
    rw [strs_of_reps h2]; rfl
/-- a row of texts -/
def strsOf : List D → Option (List Str)
  | [] => some []
  | .str x :: r => (strsOf r).map (x :: ·)
  | _ => none
theorem strsOf_eq : ∀ {ds : List D} {ys : List Str}, strsOf ds = some ys → ds = ys.map D.str
  | [], ys, h => by simp only [strsOf, Option.some.injEq] at h; subst h; rfl
  | d :: r, ys, h => by
    cases d with
    | str x =>
      simp only [strsOf] at h
      obtain ⟨zs, h1, rfl⟩ := Option.map_eq_some_iff.mp h
      rw [strsOf_eq h1]; rfl
    | _ => simp [strsOf] at h
def splR (a : Str) : D → Res (List D)
  | .str b => if (b.length == 0) = false ∧ a.length + 2 ≤ sizeLine then .ok ((Txt.split a b).map D.str) else .no
  | _ => .no
def splK (g : Env → Res D) (ρ : Env) : D → Res (List D)
  | .str a => g ρ >>= splR a
  | _ => .no
def nSplit (f g : Env → Res D) : Env → Res (List D) := fun ρ => f ρ >>= splK g ρ
def joinR (a : Str) : D → Res D
  | .lst ds => (match strsOf ds with
    | some ys => if (ys.map (·.length)).sum + ys.length * a.length ≤ 16777216 then .ok (.str (Txt.join a ys)) else .no
    | none => .no)
  | _ => .no
def joinK (g : Env → Res D) (ρ : Env) : D → Res D
  | .str a => g ρ >>= joinR a
  | _ => .no
def vJoin (f g : Env → Res D) : Env → Res D := fun ρ => f ρ >>= joinK g ρ
def c_str : List D → Res D
  | [.int i] => if i.natAbs.log2 < 1920 then .ok (.str (toString i)) else .no
  | [.str a] => .ok (.str a)
  | _ => .no
def c_intS : List D → Res D
  | [.str a] => (match PySem.intText? a with
    | some n => if a.length ≤ 640 then .ok (.int n) else .no
    | none => .no)
  | _ => .no
section
variable {X : Cx} {W : WX} {o e : Expr} {f g : Env → Res D} {apos cpos pos p : Pos}
theorem dn_split (d1 : DE X W o f) (d2 : DE X W e g) (hbase : attributeBase o "split" X.env (eval o X.env) = eval o X.env := by rfl)
    (hfew : ((backTo cpos (starEach [e] X.env)).all (fun x => !x.1) && (backToKw cpos (keywordEach [] X.env)).all (fun x => x.1.isSome)
      && decide (([e] : List Expr).length + ([] : List Keyword).length + (if ([] : List Keyword).isEmpty then 0 else 1) < 30)) = true := by rfl)
    (hline : (apos.endLine == cpos.line) = true := by rfl) (hs : starEach [e] X.env = (false, eval e X.env) :: starEach [] X.env := by rfl) (hplain : (backTo cpos (starEach [] X.env)).any (·.1) = false := by rfl) :
    DN X W (.Call (.Attribute o "split" apos) [e] [] cpos) (nSplit f g) := by
  obtain ⟨t1, p1, h1⟩ := d1
  obtain ⟨t2, p2, h2⟩ := d2
  refine ⟨_, pe_bm PySem.F.plainAttrs_str PySem.F.slot_str_split PySem.F.type_str_split mt_split p1 (pa_cons p2 pa_nil hs) hbase hfew hline hs hplain, fun G H σ ρ Q s e h => ?_⟩
  refine h1 G H σ ρ _ s e ?_
  unfold nSplit at h
  cases q : f ρ with
  | ok x =>
    rw [q, Res.bind_ok] at h
    intro G1 H1 e1 v rv
    cases x with
    | str a =>
      cases (show v = V.str a from rv)
      refine ⟨rfl, ?_⟩
      refine h2 G1 H1 σ ρ _ e1.s (e.le e1.le) ?_
      have h : GlN X.mg W G H σ Q (g ρ >>= splR a) := h
      cases q2 : g ρ with
      | ok y =>
        rw [q2, Res.bind_ok] at h
        intro G2 H2 e2 w rw'
        cases y with
        | str b =>
          cases (show w = V.str b from rw')
          unfold splR at h
          simp only at h
          split at h
          · rename_i z
            exact ⟨a, b, rfl, rfl, z.1, z.2, fun p np => GlN.end (e1.trans e2) np (reps_str _) h⟩
          · exact h.elim
        | _ => exact h.elim
      | ex c => rw [q2] at h; exact fun C G' H' m x => h C G' H' m (e1.trans x)
      | no => rw [q2] at h; exact h
    | _ => exact h.elim
  | ex c => rw [q] at h; exact h
  | no => rw [q] at h; exact h
theorem de_join (d1 : DE X W o f) (d2 : DE X W e g) (hbase : attributeBase o "join" X.env (eval o X.env) = eval o X.env := by rfl)
    (hfew : ((backTo cpos (starEach [e] X.env)).all (fun x => !x.1) && (backToKw cpos (keywordEach [] X.env)).all (fun x => x.1.isSome)
      && decide (([e] : List Expr).length + ([] : List Keyword).length + (if ([] : List Keyword).isEmpty then 0 else 1) < 30)) = true := by rfl)
    (hline : (apos.endLine == cpos.line) = true := by rfl) (hs : starEach [e] X.env = (false, eval e X.env) :: starEach [] X.env := by rfl) (hplain : (backTo cpos (starEach [] X.env)).any (·.1) = false := by rfl) :
    DE X W (.Call (.Attribute o "join" apos) [e] [] cpos) (vJoin f g) := by
  obtain ⟨t1, p1, h1⟩ := d1
  obtain ⟨t2, p2, h2⟩ := d2
  refine ⟨_, pe_bm PySem.F.plainAttrs_str PySem.F.slot_str_join PySem.F.type_str_join mt_join p1 (pa_cons p2 pa_nil hs) hbase hfew hline hs hplain, fun G H σ ρ Q s e h => ?_⟩
  refine h1 G H σ ρ _ s e (Gl.imp (fun x G1 H1 _ e1 k v rv => ?_) (Gl.bind h))
  cases x with
  | str a =>
    cases (show v = V.str a from rv)
    refine ⟨rfl, ?_⟩
    refine h2 G1 H1 σ ρ _ e1.s (e.le e1.le) (Gl.imp (fun y G2 H2 _ e2 k2 w rw' => ?_) (Gl.bind (show Gl X.mg W G1 H1 σ _ (g ρ >>= joinR a) from k)))
    cases y with
    | lst ds =>
      obtain ⟨b, ws, rfl, hb, rb⟩ := rw'
      unfold joinR at k2
      simp only at k2
      split at k2
      · rename_i ys hys
        split at k2
        · rename_i z
          have := strsOf_eq hys
          subst this
          have ew := strs_of_reps rb
          subst ew
          exact ⟨a, b, ys, rfl, rfl, .inl (e2.s.sqL hb), z, k2.str e2.s⟩
        · exact k2.elim
      · exact k2.elim
    | _ => exact k2.elim
  | _ => exact k.elim
theorem call_strD {X : Cx} : CallR X (.type "str") (fun xs H Q => (∃ i, xs = [.int i] ∧ i.natAbs.log2 < 1920 ∧ Q (.str (toString i)) H) ∨ ∃ a, xs = [.str a] ∧ Q (.str a) H) := by
  intro pins s σ H xs us Q I r h
  rcases h with h | h
  · exact L2.call_str_int pins s σ H xs us Q I r h
  · exact SkE.call_str_str pins s σ H xs us Q I r h
theorem say_strD {X : Cx} {W : WX} : SayC X W (fun xs H Q => (∃ i, xs = [.int i] ∧ i.natAbs.log2 < 1920 ∧ Q (.str (toString i)) H) ∨ ∃ a, xs = [.str a] ∧ Q (.str a) H) c_str := by
  intro G H σ Q ds vs s r h
  unfold c_str at h
  split at h
  · rename_i i
    obtain ⟨v, _, e, r1, e2⟩ := r
    have e3 : v = .int i := r1
    have e4 : _ = [] := e2
    subst e3 e4
    split at h
    · rename_i z
      exact .inl ⟨i, e, z, h.str s⟩
    · exact h.elim
  · rename_i a
    obtain ⟨v, _, e, r1, e2⟩ := r
    have e3 : v = .str a := r1
    have e4 : _ = [] := e2
    subst e3 e4
    exact .inr ⟨a, e, h.str s⟩
  · exact h.elim
theorem say_intS {X : Cx} {W : WX} : SayC X W (fun xs H Q => ∃ a n, xs = [.str a] ∧ PySem.intText? a = some n ∧ a.length ≤ 640 ∧ Q (.int n) H) c_intS := by
  intro G H σ Q ds vs s r h
  unfold c_intS at h
  split at h
  · rename_i a
    obtain ⟨v, _, e, r1, e2⟩ := r
    have e3 : v = .str a := r1
    have e4 : _ = [] := e2
    subst e3 e4
    split at h
    · rename_i n hn
      split at h
      · rename_i z
        exact ⟨a, n, e, hn, z, h.int s⟩
      · exact h.elim
    · exact h.elim
  · exact h.elim
theorem de_globS {x : Str} {a : Str} {tk : Tok} (hg : L2.Gl X x) (hm : X.mg x = some (.str a tk)) (hd : (x == ("__debug__" : Str)) = false := by decide) : DE X W (.Name x pos) (vC (.str a)) :=
  ⟨_, pe_glob (v := .str a) hg hm ⟨tk, rfl⟩ hd, fun G H σ ρ Q s e h => h G H (Ext.refl s) _ rfl⟩
end
end DL

/-! DL47: len(set(texts)); zip of a tuple with a list. -/
namespace DL
open PySem PySem.Spec PyProof.Rows L2
/-- the texts, each once -/
def onceT (xs : List Str) : List Str := xs.foldl (fun acc x => if x ∈ acc then acc else acc ++ [x]) []
theorem onceT_snoc (xs : List Str) (x : Str) : onceT (xs ++ [x]) = if x ∈ onceT xs then onceT xs else onceT xs ++ [x] := by
  unfold onceT
  rw [List.foldl_append]
  rfl
theorem mem_onceT (y : Str) : ∀ (n : Nat) (xs : List Str), xs.length = n → (y ∈ onceT xs ↔ y ∈ xs)
  | 0, xs, h => by
    have := List.length_eq_zero_iff.mp h
    subst this
    simp [onceT]
  | n + 1, xs, h => by
    have hne : xs ≠ [] := fun e => by subst e; simp at h
    obtain ⟨ys, x, rfl⟩ : ∃ ys x, xs = ys ++ [x] := ⟨xs.dropLast, xs.getLast hne, (List.dropLast_concat_getLast hne).symm⟩
    have ih := mem_onceT y n ys (by simpa using h)
    have ix := mem_onceT x n ys (by simpa using h)
    rw [onceT_snoc]
    by_cases hx : x ∈ onceT ys
    · rw [if_pos hx, ih, List.mem_append, List.mem_singleton]
      exact ⟨.inl, fun q => q.elim id fun e => e ▸ ix.mp hx⟩
    · rw [if_neg hx, List.mem_append, List.mem_append, ih]
theorem onceT_take {xs : List Str} {i : Nat} (h : i < xs.length) :
    onceT (xs.take (i + 1)) = if xs.getD i Str.empty ∈ xs.take i then onceT (xs.take i) else onceT (xs.take i) ++ [xs.getD i Str.empty] := by
  have e : xs.take (i + 1) = xs.take i ++ [xs.getD i Str.empty] := by
    rw [List.take_succ, List.getElem?_eq_getElem h]
    simp [h]
  rw [e, onceT_snoc]
  by_cases q : xs.getD i Str.empty ∈ xs.take i
  · rw [if_pos q, if_pos ((mem_onceT _ _ _ rfl).mpr q)]
  · rw [if_neg q, if_neg fun z => q ((mem_onceT _ _ _ rfl).mp z)]
theorem mem_takeS {xs : List Str} {i : Nat} (h : i < xs.length) (y : Str) : y ∈ xs.take (i + 1) ↔ y ∈ xs.take i ∨ y = xs.getD i Str.empty := by
  have e : xs.take (i + 1) = xs.take i ++ [xs.getD i Str.empty] := by
    rw [List.take_succ, List.getElem?_eq_getElem h]
    simp [h]
  rw [e, List.mem_append, List.mem_singleton]
theorem onceT_le : ∀ (n : Nat) (xs : List Str), xs.length = n → (onceT xs).length ≤ n
  | 0, xs, h => by
    have := List.length_eq_zero_iff.mp h
    subst this
    simp [onceT]
  | n + 1, xs, h => by
    have hne : xs ≠ [] := fun e => by subst e; simp at h
    obtain ⟨ys, x, rfl⟩ : ∃ ys x, xs = ys ++ [x] := ⟨xs.dropLast, xs.getLast hne, (List.dropLast_concat_getLast hne).symm⟩
    have ih := onceT_le n ys (by simpa using h)
    rw [onceT_snoc]
    split
    · omega
    · simp; omega
section
variable {prog : Program} {w : World} {A : Around} {R : Result → Shared → Prop} {I : Addr} {fp wr : List Addr} {G : Array GenState → Array GenState → Prop} {n : Nat} {P : Nat → Value → Prop} {St : Nat → Shared → Prop}
/-- the walk of set(texts): behind i turns the set holds the first i texts -/
theorem texts_in (W : WalksS prog w A.in1 I fp wr G n P St) (S : Addr) (hSf : S ∉ fp) (xs : List Str) (hsz : xs.length = n) (hn : n ≤ 60) (hval : ∀ i v, P i v → ∃ t, v = .str (xs.getD i Str.empty) t)
    (left : Nat) : ∀ (i : Nat) (s : Shared), i + left = n → St i s → s.heap.SetOf (PySem.strKind prog w) S (fun y => decide (y ∈ xs.take i)) (onceT (xs.take i)).length →
      (∀ s', Moved (S :: wr) G s s' → s'.heap.SetOf (PySem.strKind prog w) S (fun y => decide (y ∈ xs)) (onceT xs).length → R (.ok (.ret .none)) s') →
      codeAny (model prog w) A (.builtin "set.update.loop" ⟨[.ref S, .ref I], []⟩) R s := by
  have hSw : S ∉ wr := fun h => hSf (W.sub _ h)
  have up : ∀ b ∈ wr, b ∈ S :: wr := fun b hb => List.mem_cons_of_mem _ hb
  induction left with
  | zero =>
    intro i s e hst hS hR
    have e' : i = xs.length := by omega
    subst e'
    rw [List.take_length] at hS
    refine codeAny_builtin PyProof.Rows.F.entry_set_update_loop ?_
    rw [Around.under_plainId PyProof.Rows.F.plain_set_update_loop _]
    show wpAny _ A.in1 (pyNext (.ref I) >>= _) _ _ s
    have e2 : n = xs.length := hsz.symm
    refine wpAny_bind (W.done s _ _ (by rw [e2]; exact hst) fun s' hm => ?_)
    show wpAny _ A.in1 (ret Value.none) _ _ s'
    refine wpAny_pure (hR s' (hm.mono up) ?_)
    obtain ⟨o, es, ep, t, ho, rest⟩ := hS
    exact ⟨o, es, ep, t, hm.heap S _ hSw ho, rest⟩
  | succ left ih =>
    intro i s e hst hS hR
    have lt : i < xs.length := by omega
    refine codeAny_builtin PyProof.Rows.F.entry_set_update_loop ?_
    rw [Around.under_plainId PyProof.Rows.F.plain_set_update_loop _]
    show wpAny _ A.in1 (pyNext (.ref I) >>= _) _ _ s
    refine wpAny_bind (W.item i s _ _ (by omega) hst fun v s1 hP hst1 hm => ?_)
    obtain ⟨t, rfl⟩ := hval i v hP
    have hS1 : s1.heap.SetOf (PySem.strKind prog w) S (fun y => decide (y ∈ xs.take i)) (onceT (xs.take i)).length := by
      obtain ⟨o, es, ep, tb, ho, rest⟩ := hS
      exact ⟨o, es, ep, tb, hm.heap S _ hSw ho, rest⟩
    show wpAny _ A.in1 (holding [Value.str (xs.getD i Str.empty) t] (setAdd S (.str (xs.getD i Str.empty) t)) >>= _) _ _ s1
    have few : (onceT (xs.take i)).length ≤ i := Nat.le_trans (onceT_le _ _ rfl) (List.length_take_le ..)
    unfold setAdd
    refine wpAny_bind (wpAny_holding (wpAny_holding (wpAny_bind ((PySem.strKind prog w).pyHash (k := xs.getD i Str.empty) (strKind_is _ _ _ _) ?_))))
    refine wpAny_setAddHashed_of (knd := PySem.strKind prog w) (s := { s1 with toks := s1.toks + 1 }) (strKind_is _ _ _ _) rfl hS1 (by unfold scanBound; omega) fun h' sb hS2 => ?_
    have hS3 : h'.SetOf (PySem.strKind prog w) S (fun y => decide (y ∈ xs.take (i + 1))) (onceT (xs.take (i + 1))).length := by
      refine SetOf_congr hS2 (fun y => ?_) ?_
      · rw [← Bool.decide_or]
        exact decide_eq_decide.mpr (mem_takeS lt y).symm
      · rw [onceT_take lt]
        by_cases q : xs.getD i Str.empty ∈ xs.take i
        · simp only [q, decide_true, if_true]
        · simp only [q, decide_false, if_false, Bool.false_eq_true, List.length_append, List.length_singleton]
    refine wpAny_pure ⟨plainId_quiet PyProof.Rows.F.plain_set_update_loop _, ih (i + 1) _ (by omega) (W.frame _ s1 _ _ hst1 (Nat.le_succ _) fun b hb o e => ?_) hS3 fun s2 hm2 hS4 => hR s2 (Moved.trans W.gtrans ((hm.mono up).then_heap (Nat.le_succ _) fun b o hb e => ?_) hm2) hS4⟩
    · exact (sb.2 b fun z => hSf (z ▸ hb)).trans e
    · exact (sb.2 b fun z => hb (z ▸ List.mem_cons_self)).trans e
end
section
variable {prog : Program} {w : World} {A : Around} {E : Value → Shared → Prop} {s : Shared}
/-- set(l), l a list of texts -/
theorem set_of_texts {l : Addr} {items : Array Value} {xs : List Str} {Q : Value → Shared → Prop}
    (hh : A.handled = none) (hl : s.heap.IsList l items) (hi : PyProof.Rows.StrsAre items.toList xs) (hn : xs.length ≤ 60)
    (h : ∀ (h' : Heap) (tk : Nat), h'.SetOf (PySem.strKind prog w) s.heap.objs.size (fun y => decide (y ∈ xs)) (onceT xs).length →
      (∀ b o, b < s.heap.objs.size → s.heap.get? b = some o → h'.get? b = some o) → Q (.ref s.heap.objs.size) { s with heap := h', toks := tk }) :
    wpAny (model prog w) A (call (.type "set") [.ref l]) Q E s := by
  obtain ⟨c, tl, hmro⟩ := PySem.F.called_set.mro
  have hmade := PySem.F.called_set.made
  have hsub := PySem.F.called_set.sub
  refine wpAny_call (codeAny_of_tree ?_)
  show wpAny _ _ (callAny (.type "set") _) _ _ _
  refine wpAny_pure ⟨Code.quiet_builtin _ (by decide +kernel), codeAny_builtin PySem.F.entry_type_call ?_⟩
  rw [Around.under_plain (weight_type_call_type "set" [.ref l] []) rfl]
  have h1 := PySem.F.called_set.notType
  have h2 := PySem.F.called_set.canCreate
  have hct := PySem.F.typeCall_set_1 (.ref l)
  repeat (any_goals (first | assumption | wp_step))
  refine codeAny_mono (code_set_new_1 (.ref l) (E := E) (Q₁ := fun obj s₁ => ∃ led : Bool, obj = .ref s.heap.objs.size ∧ s₁ = { s with heap := s.heap.push { cls := .type "set", dict := none, data := .set #[] 0 (.fresh 0 0 led) } }) fun led => ⟨led, rfl, rfl⟩) fun r s₁ hr => ?_
  cases r with
  | error e => exact hr
  | ok fl =>
    cases fl with
    | ret obj =>
      obtain ⟨led, rfl, rfl⟩ := hr
      have hS : (s.heap.push { cls := .type "set", dict := none, data := .set #[] 0 (.fresh 0 0 led) }).get? s.heap.objs.size = some { cls := .type "set", dict := none, data := .set #[] 0 (.fresh 0 0 led) } := Heap.get?_push_size _ rfl
      have hT : Shared.TypeIs { s with heap := s.heap.push { cls := .type "set", dict := none, data := .set #[] 0 (.fresh 0 0 led) } } (.ref s.heap.objs.size) "set" := ⟨_, hS, rfl⟩
      have hli := PySem.F.called_set.init.lookup
      have hbi := PySem.F.called_set.init.bind (.ref s.heap.objs.size)
      repeat (any_goals (first | assumption | wp_step))
      refine codeAny_mono (codeAny_call_builtin (R := wants (fun r s₂ => r = .none ∧ ∃ h' tk, s₂ = { s with heap := h', toks := tk } ∧
          h'.SetOf (PySem.strKind prog w) s.heap.objs.size (fun y => decide (y ∈ xs)) (onceT xs).length ∧
          (∀ b o, b < s.heap.objs.size → s.heap.get? b = some o → h'.get? b = some o)) E) PySem.F.called_set.init.plain PySem.F.entry_set_init (check_set_init_1 hT ?_)) fun r₂ s₂ hr₂ => ?_
      · obtain ⟨ol, hol, hcl, nl, hdl⟩ := hl
        obtain ⟨ocls, odict, odata, oslots⟩ := ol
        simp only at hcl hdl
        subst hcl; subst hdl
        have hol' : (s.heap.push { cls := .type "set", dict := none, data := .set #[] 0 (.fresh 0 0 led) }).get? l = some { cls := .type "list", dict := odict, data := .seq items nl, slots := oslots } := Heap.get?_push_of_some _ hol
        have hsls := PySem.F.sub_list_set
        have hslf := PySem.F.sub_list_frozenset
        have hne : (Value.type "list" == Value.type "dict") = false := by decide
        have hl1 : (s.heap.push { cls := .type "set", dict := none, data := .set #[] 0 (.fresh 0 0 led) }).IsList l items := ⟨_, hol', rfl, nl, rfl⟩
        unfold Builtin.«set.__init__» noKeywords Builtin.Frozenset.updateFrom
        generalize hPI : pyIter = PI
        wp_walk
        subst hPI
        refine wpAny_pyIter_list hl1 ?_
        refine wpAny_bind (wpAny_runValue ?_)
        have hlS : l < s.heap.objs.size := Heap.lt_size hol
        have hh3 : A.in1.in1.in1.handled = none := by simp [hh]
        have hneI : l ≠ (s.heap.push { cls := .type "set", dict := none, data := .set #[] 0 (.fresh 0 0 led) }).objs.size := by
          rw [Heap.size_push]; exact Nat.ne_of_lt (Nat.lt_succ_of_lt hlS)
        have hSf : s.heap.objs.size ∉ [(s.heap.push { cls := .type "set", dict := none, data := .set #[] 0 (.fresh 0 0 led) }).objs.size, l] := by
          rw [Heap.size_push]; simp only [List.mem_cons, List.mem_singleton, List.not_mem_nil, or_false, not_or]
          exact ⟨Nat.ne_of_lt (Nat.lt_succ_self _), Nat.ne_of_gt hlS⟩
        have hsz : xs.length = items.size := by rw [← StrsAre.len_eq hi, Array.length_toList]
        refine texts_in ((Walks.list hh3 _ l hneI items).toS) s.heap.objs.size hSf xs hsz (by rw [← hsz]; exact hn)
          (fun i v hv => SS.strs_at hi i v (by rw [Array.getElem?_toList]; exact hv)) items.size 0 _ (by omega) ⟨⟨_, Heap.get?_push_size _ rfl, rfl, rfl⟩, (hl1.push _)⟩ ?hS0 ?hR
        case hS0 =>
          have hget : ((s.heap.push { cls := .type "set", dict := none, data := .set #[] 0 (.fresh 0 0 led) }).push { cls := .type "list_iterator", data := .fields #[.ref l, .int 0 0] }).get? s.heap.objs.size
              = some { cls := .type "set", dict := none, data := .set #[] 0 (.fresh 0 0 led) } := Heap.get?_push_of_some _ hS
          exact PyProof.Rows.SetOf_congr ((PyProof.Rows.setObjOf_fresh (knd := PySem.strKind prog w) led).setOf hget (by unfold scanBound; omega)) (fun _ => by simp) rfl
        case hR =>
          intro s' hm hS'
          obtain ⟨h', g', d', tk', os'⟩ := s'
          have eg : g' = s.gens := hm.gens
          have ed : d' = s.drawn := hm.drawn
          have eo : os' = s.os := hm.os
          subst eg; subst ed; subst eo
          show wpAny _ _ _ _ _ _
          refine wpAny_pure ?_
          show wpAny _ _ (ret Value.none) _ _ _
          refine wpAny_pure ⟨rfl, h', tk', rfl, hS', fun b o hb e => ?_⟩
          have hb2 : b ≠ (s.heap.push { cls := .type "set", dict := none, data := .set #[] 0 (.fresh 0 0 led) }).objs.size := by
            rw [Heap.size_push]; exact Nat.ne_of_lt (Nat.lt_succ_of_lt hb)
          exact hm.heap b o (by simp only [List.mem_cons, List.mem_singleton, List.not_mem_nil, or_false, not_or]; exact ⟨Nat.ne_of_lt hb, hb2⟩) (Heap.get?_push_of_some _ (Heap.get?_push_of_some _ e))
      · cases r₂ with
        | error e => exact hr₂
        | ok fl₂ =>
          cases fl₂ with
          | ret r =>
            obtain ⟨rfl, h', tk, rfl, hS', hk'⟩ := hr₂
            repeat (any_goals (first | assumption | wp_step))
            exact h _ _ hS' hk'
          | _ => exact hr₂.elim
    | _ => exact hr.elim
end
/-- len(set(x)), x a list of texts -/
def tLenTexts (K : PySem.W.Frag) (ta : TE) : TE := fun σ H Q => ta σ H fun x H1 => ∃ l, ∃ xs : List Str, x = .ref l ∧ SqL K H1 l (xs.map V.str) ∧ xs.length ≤ 60 ∧ Q (.int (onceT xs).length) H1
theorem pe_lenTexts {X : Cx} {a : Expr} {ta : TE} {p p2 q pos : Pos} (hc : X.calm = true) (hg : L2.Gl X "len") (hm : X.mg "len" = none) (hg2 : L2.Gl X "set") (hm2 : X.mg "set" = none) (ha : PE X a ta)
    (na : starEach [a] X.env = (false, eval a X.env) :: starEach [] X.env := by rfl) : PE X (.Call (.Name "len" p) [.Call (.Name "set" p2) [a] [] q] [] pos) (tLenTexts X.K ta) := by
  refine ⟨fun pins s σ H Q I h => ?_⟩
  refine Call_ (ld_blt I hg hm boot_len ?_)
  refine PyProof.Rows.callWith_builtin1 (PyProof.Rows.args_cons ?_ rfl) rfl rfl
  refine Call_ (ld_blt I hg2 hm2 boot_set ?_)
  refine PyProof.Rows.callWith_type1 (PyProof.Rows.args_cons (thn (ha.run pins s σ H _ I h) fun v s1 ⟨x, H1, I1, r1, q1⟩ => PyProof.Rows.args_nil ?_) na) na rfl
  obtain ⟨l, xs, rfl, hq, h1, q1⟩ := q1
  cases r1
  obtain ⟨its, r, pl, hz⟩ := I1.list hq
  refine set_of_texts (I1.ok.hd hc) pl.isList (by simpa using strsAre_of r) h1 fun h' tk hS hk => PyProof.Rows.args_nil ?_
  obtain ⟨o, es, ep, t, ho, hex, hd, _, _, _, hf, hn⟩ := hS
  have I2 : Inv X pins σ H1 { s1 with heap := h', toks := tk } := I1.kept fun b o e => hk b o (Heap.lt_size e) e
  have := onceT_le _ xs rfl
  exact call_len_set ho hex hd hf (by rw [hn]; omega) ⟨.int (onceT xs).length, H1, I2.tok _, ⟨_, by rw [hn]⟩, q1⟩
def g_lenT : D → Res D
  | .lst ds => (match strsOf ds with
    | some ys => if ys.length ≤ 60 then .ok (.int (onceT ys).length) else .no
    | none => .no)
  | _ => .no
theorem de_lenT {X : Cx} {W : WX} {e : Expr} {f : Env → Res D} {p p2 q pos : Pos} (hc : X.calm = true) (hg : L2.Gl X "len") (hm : X.mg "len" = none) (hg2 : L2.Gl X "set") (hm2 : X.mg "set" = none) (d : DE X W e f)
    (na : starEach [e] X.env = (false, eval e X.env) :: starEach [] X.env := by rfl) : DE X W (.Call (.Name "len" p) [.Call (.Name "set" p2) [e] [] q] [] pos) (v1 g_lenT f) := by
  obtain ⟨t, pe, h1⟩ := d
  refine ⟨_, pe_lenTexts hc hg hm hg2 hm2 pe na, fun G H σ ρ Q s e h => ?_⟩
  refine h1 G H σ ρ _ s e (Gl.imp (fun x G1 H1 _ e1 k v rv => ?_) (Gl.bind h))
  cases x with
  | lst ds =>
    obtain ⟨b, ws, rfl, hb, rb⟩ := rv
    unfold g_lenT at k
    simp only at k
    split at k
    · rename_i ys hys
      split at k
      · rename_i z
        have := strsOf_eq hys
        subst this
        have ew := strs_of_reps rb
        subst ew
        exact ⟨b, ys, rfl, e1.s.sqL hb, z, k.int e1.s⟩
      · exact k.elim
    · exact k.elim
  | _ => exact k.elim
end DL

/-! DL48: zip of a tuple with a list. -/
namespace DL
open PySem PySem.Spec PyProof.Rows L2
/-- a tuple at a and a list at b, side by side -/
def ItzM (K : PySem.W.Frag) (a b : Addr) : It :=
  ⟨fun i H => ∃ (xs ys : List V) (x y : V), SqT K H a xs ∧ SqL K H b ys ∧ xs[i]? = some x ∧ ys[i]? = some y,
    fun i H v H' => ∃ T x y, v = .ref T ∧ H T = none ∧ H' = upd H T (.tup [x, y]) ∧ (∀ xs, SqT K H a xs → xs[i]? = some x) ∧ ∀ ys, SqL K H b ys → ys[i]? = some y,
    fun i H => ∃ xs ys : List V, SqT K H a xs ∧ SqL K H b ys ∧ (xs.length ≤ i ∨ ys.length ≤ i)⟩
theorem overT {prog : Program} {w : World} {A : Around} (hh : A.handled = none) (it l : Addr) (items : Array Value) (i : Nat) (hx : items[i]? = none) :
    Draws prog w A it [it, l] i (fun _ _ => True) (fun j h => j = i ∧ h.IsTupleIter it l i ∧ h.IsTuple l items) where
  live := fun _ _ st => let ⟨o, ho, _⟩ := st.2.1; ⟨o, ho⟩
  frame := fun _ _ _ st hk => ⟨st.1, st.2.1.at fun o e => hk it (by simp) o e, st.2.2.at fun o e => hk l (by simp) o e⟩
  item := fun j s Q E hj st hQ => absurd st.1 (Nat.ne_of_lt hj)
  done := fun s Q E st hE => wpAny_nextOf_tuple_end hh st.2.1 st.2.2 hx hE
theorem overL {prog : Program} {w : World} {A : Around} (hh : A.handled = none) (it l : Addr) (items : Array Value) (i : Nat) (hx : items[i]? = none) :
    Draws prog w A it [it, l] i (fun _ _ => True) (fun j h => j = i ∧ h.IsListIter it l i ∧ h.IsList l items) where
  live := fun _ _ st => let ⟨o, ho, _⟩ := st.2.1; ⟨o, ho⟩
  frame := fun _ _ _ st hk => ⟨st.1, st.2.1.at fun o e => hk it (by simp) o e, st.2.2.at fun o e => hk l (by simp) o e⟩
  item := fun j s Q E hj st hQ => absurd st.1 (Nat.ne_of_lt hj)
  done := fun s Q E st hE => wpAny_nextOf_list_end hh st.2.1 st.2.2 hx hE
theorem turn_zipM {P : Program} {w : World} {K : PySem.W.Frag} {elts : List Expr} {kk : Nat} {tpos : Pos} {a b z TI TO i1 i2 : Addr} (D : ZipSep2 z TI TO i1 i2 [i1, a] [i2, b]) (na : a ≠ i1) (nb : b ≠ i2) :
    Turn P w K (.Tuple elts kk tpos) (ItzM K a b) [z, TI, TO, i1, i2] z (fun i h => IsZip h z TI TO .none ∧ IsTupOf2 h TI (.ref i1) (.ref i2) ∧ (∃ x y, IsTupOf2 h TO x y) ∧ h.IsTupleIter i1 a i ∧ h.IsListIter i2 b i) where
  mem := by simp
  obj := fun i h st c hc => by
    obtain ⟨hz, hTI, ⟨x, y, hTO⟩, ⟨o1, e1, _, d1⟩, ⟨o2, e2, _, d2⟩⟩ := st
    simp only [List.mem_cons, List.not_mem_nil, or_false] at hc
    rcases hc with rfl | rfl | rfl | rfl | rfl
    · exact ⟨_, hz, fun v q => nomatch q⟩
    · exact ⟨_, hTI, fun v q => nomatch q⟩
    · exact ⟨_, hTO, fun v q => nomatch q⟩
    · exact ⟨o1, e1, fun v q => by rw [d1] at q; cases q⟩
    · exact ⟨o2, e2, fun v q => by rw [d2] at q; cases q⟩
  keep := fun i h h' st k => by
    obtain ⟨hz, hTI, ⟨x, y, hTO⟩, h1, h2⟩ := st
    exact ⟨k z (by simp) _ hz, k TI (by simp) _ hTI, ⟨x, y, k TO (by simp) _ hTO⟩, h1.at fun o q => k i1 (by simp) o q, h2.at fun o q => k i2 (by simp) o q⟩
  item := by
    intro X hP hw hK hc i pins s σ H E I hf st hg
    subst hP hw hK
    obtain ⟨hz, hTI, ⟨x0, y0, hTO⟩, h1, h2⟩ := st
    obtain ⟨xs, ys, x, y, hqx, hqy, hx, hy⟩ := hg
    obtain ⟨its, rv, p, _⟩ := I.tuple hqx
    obtain ⟨its2, rv2, p2, _⟩ := I.list hqy
    obtain ⟨u, hu, ru⟩ := rv.get hx
    obtain ⟨u2, hu2, ru2⟩ := rv2.get hy
    have hzl : z < s.heap.objs.size := Heap.lt_size hz
    have hd : X.A.in1.handled = none := by have := I.ok.hd hc; simpa using this
    have n1 : i < its.toArray.size := by have := (List.getElem?_eq_some_iff.mp hu).1; simpa using this
    have n2 : i < its2.toArray.size := by have := (List.getElem?_eq_some_iff.mp hu2).1; simpa using this
    refine wpAny_pyNext_zipD2_item D (Draws.tuple hd i1 a na its.toArray) (Draws.list hd i2 b nb its2.toArray) hz hTI hTO ⟨h1, show s.heap.IsTuple a its.toArray from p⟩ ⟨h2, p2.isList⟩ n1 n2 fun x1 x2 h' tk ex1 ex2 z' TO' st1 st2 hT hsz hk => ?_
    have q1 : x1 = u := by
      have : its.toArray[i]? = some u := by simpa using hu
      rw [this] at ex1; exact (Option.some.inj ex1).symm
    have q2 : x2 = u2 := by
      have : its2.toArray[i]? = some u2 := by simpa using hu2
      rw [this] at ex2; exact (Option.some.inj ex2).symm
    subst q1 q2
    refine ⟨_, rfl, wpAny_letOwnedTupleGo_zip (s := { s with heap := h', toks := tk }) z' fun h'' z'' sb => ?_⟩
    have hT2 : h''.get? s.heap.objs.size = some { cls := .type "tuple", data := .seq #[x1, x2] } := (sb.2 _ (Nat.ne_of_gt hzl)).trans hT
    have new : ObjOk X.prog X.w (upd H s.heap.objs.size (.tup [x, y])) h'' s.heap.objs.size (.tup [x, y]) :=
      ⟨by show 2 ≤ sizeLine; decide, [x1, x2], .cons ru (.cons ru2 .nil), ⟨_, hT2, rfl, _, rfl⟩⟩
    have I1 : Inv X pins σ (upd H s.heap.objs.size (.tup [x, y])) { s with heap := h'', toks := tk } :=
      I.turnedNew (t' := tk) (ch := [z, TI, TO, i1, i2]) (fun c o hb q => (sb.2 c (fun q' => hb (by simp [q']))).trans (hk c o (fun q' => hb (by simp [q'])) (fun q' => hb (by simp [q'])) (fun q' => hb (by simp [q'])) (fun q' => hb (by simp [q'])) q)) hf (Nat.le_refl _) new
    refine ⟨.ref s.heap.objs.size, _, I1, rfl, ⟨_, x, y, rfl, I.hok.fresh (Nat.le_refl _), rfl, fun l hl => by rw [I.tuple_inj hl hqx]; exact hx, fun l hl => by rw [I.list_inj hl hqy]; exact hy⟩, ⟨z'', ?_, ⟨x1, x2, ?_⟩, ?_, ?_⟩, fun c hcm => ?_⟩
    · exact (sb.2 _ D.TIz).trans (hk _ _ D.TIz D.TITO D.TIi1 D.TIi2 hTI)
    · exact (sb.2 _ D.TOz).trans TO'
    · exact st1.1.at fun o q => (sb.2 _ D.zi1.symm).trans q
    · exact st2.1.at fun o q => (sb.2 _ D.zi2.symm).trans q
    · have hlt : c < s.heap.objs.size := by
        simp only [List.mem_cons, List.not_mem_nil, or_false] at hcm
        rcases hcm with rfl | rfl | rfl | rfl | rfl
        · exact hzl
        · exact Heap.lt_size hTI
        · exact Heap.lt_size hTO
        · obtain ⟨_, e1, _⟩ := h1; exact Heap.lt_size e1
        · obtain ⟨_, e2, _⟩ := h2; exact Heap.lt_size e2
      rw [upd_ne (Nat.ne_of_lt hlt)]
      exact (hf c hcm).1
  done := by
    intro X hP hw hK hc i pins s σ H E I hf st hg
    subst hP hw hK
    obtain ⟨hz, hTI, ⟨x0, y0, hTO⟩, h1, h2⟩ := st
    obtain ⟨xs, ys, hqx, hqy, hend⟩ := hg
    obtain ⟨its, rv, p, _⟩ := I.tuple hqx
    obtain ⟨its2, rv2, p2, _⟩ := I.list hqy
    have l1 := rv.length
    have l2 := rv2.length
    have hd : X.A.in1.handled = none := by have := I.ok.hd hc; simpa using this
    have P1 : s.heap.IsTuple a its.toArray := p
    have P2 : s.heap.IsList b its2.toArray := p2.isList
    have fin : ∀ (h' : Heap) (tk : Nat), (∀ c o, c ≠ z → c ≠ TO → c ≠ i1 → c ≠ i2 → s.heap.get? c = some o → h'.get? c = some o) → (none : Option Value) = none ∧ Inv X pins σ H { s with heap := h', toks := tk } := fun h' tk hk => ⟨rfl, I.turnedL (t' := tk) (ch := [z, TI, TO, i1, i2]) (fun c o hb q =>
      hk c o (fun q' => hb (by simp [q'])) (fun q' => hb (by simp [q'])) (fun q' => hb (by simp [q'])) (fun q' => hb (by simp [q'])) q) hf⟩
    by_cases e1 : its.toArray[i]? = none
    · by_cases e2 : its2.toArray[i]? = none
      · exact wpAny_pyNext_zipD2_end D (overT hd i1 a its.toArray i e1) (overL hd i2 b its2.toArray i e2) hz hTI hTO ⟨rfl, h1, P1⟩ ⟨rfl, h2, P2⟩ (Nat.le_refl _) (Nat.le_refl _) (.inl rfl) fin
      · have : i < its2.toArray.size := by simpa using e2
        exact wpAny_pyNext_zipD2_end D (overT hd i1 a its.toArray i e1) (Draws.list hd i2 b nb its2.toArray) hz hTI hTO ⟨rfl, h1, P1⟩ ⟨h2, P2⟩ (Nat.le_refl _) (Nat.le_of_lt this) (.inl rfl) fin
    · have lt : i < its.toArray.size := by simpa using e1
      have e2 : its2.toArray[i]? = none := by
        have q : i < its.length := by simpa using lt
        have q2 : its2.length ≤ i := by rcases hend with h | h <;> omega
        simpa using q2
      exact wpAny_pyNext_zipD2_end D (Draws.tuple hd i1 a na its.toArray) (overL hd i2 b its2.toArray i e2) hz hTI hTO ⟨h1, P1⟩ ⟨rfl, h2, P2⟩ (Nat.le_of_lt lt) (Nat.le_refl _) (.inr rfl) fin
  self := fun A i s Q E st h => wpAny_pyIter_zip st.1 h
def iZipM (K : PySem.W.Frag) (ta : TA) : TI := fun σ H R => ta σ H fun vs H1 => ∃ a b xs ys, vs = [.ref a, .ref b] ∧ SqT K H1 a xs ∧ SqL K H1 b ys ∧ R (ItzM K a b) H1
theorem pi_zipM {X : Cx} {e e2 : Expr} {ta : TA} {p pos tpos : Pos} {elts : List Expr} {kk : Nat} (hg : L2.Gl X "zip") (hm : X.mg "zip" = none) (ha : PA X [e, e2] ta)
    (hs : starEach [e, e2] X.env = (false, eval e X.env) :: starEach [e2] X.env := by rfl) (hpl : (backTo pos (starEach [e2] X.env)).any (·.1) = false := by rfl) :
    PI X (.Tuple elts kk tpos) (.Call (.Name "zip" p) [e, e2] [] pos) (iZipM X.K ta) := by
  refine ⟨fun pins s σ H R I h => ?_⟩
  refine Call_ (ld_blt I hg hm PyProof.Rows.boot_zip (PyProof.Rows.callWith_type1 (thn (ha.run pos pins s σ H _ I h) fun us s1 ⟨vs, H1, I1, r1, q1⟩ => ?_) hs hpl))
  obtain ⟨a, b, xs, ys, ex, hqx, hqy, q⟩ := q1
  subst ex
  obtain ⟨u1, us, rfl, ra, rr⟩ : ∃ u1 us', us = u1 :: us' ∧ RelV (.ref a) u1 ∧ Vals [.ref b] us' := by cases r1 with | cons r rr => exact ⟨_, _, rfl, r, rr⟩
  obtain ⟨u2, rfl, rb⟩ := vals1 rr
  cases ra
  cases rb
  obtain ⟨its, rv, p1, _⟩ := I1.tuple hqx
  obtain ⟨its2, rv2, p2, _⟩ := I1.list hqy
  obtain ⟨o1, ho1, _⟩ := id p1
  have la : a < s1.heap.objs.size := Heap.lt_size ho1
  have lb : b < s1.heap.objs.size := p2.lt
  have P2 : s1.heap.IsList b its2.toArray := p2.isList
  have fresh5 : ∀ c, c ∈ [s1.heap.objs.size + 4, s1.heap.objs.size + 2, s1.heap.objs.size + 3, s1.heap.objs.size, s1.heap.objs.size + 1] → FpOk X pins H1 c := fun c hcm => by
    have hle : s1.heap.objs.size ≤ c := by
      simp only [List.mem_cons, List.not_mem_nil, or_false] at hcm
      rcases hcm with z | z | z | z | z
      · rw [z]; exact Nat.le_add_right _ _
      · rw [z]; exact Nat.le_add_right _ _
      · rw [z]; exact Nat.le_add_right _ _
      · rw [z]; exact Nat.le_refl _
      · rw [z]; exact Nat.le_add_right _ _
    exact I1.fpOk hle (I1.hok.fresh hle)
  refine zip_begins2 (begins_tuple a its.toArray) (begins_list b its2.toArray) (show s1.heap.IsTuple a its.toArray from p1) P2 fun h' hz hTI hTO g1 g2 hsz hk => wpAny_pyIter_zip hz ?_
  have I2 : Inv X pins σ H1 { s1 with heap := h' } := I1.kept (t' := s1.toks) hk
  have S : ZipSep2 (s1.heap.objs.size + 4) (s1.heap.objs.size + 2) (s1.heap.objs.size + 3) s1.heap.objs.size (s1.heap.objs.size + 1) [s1.heap.objs.size, a] [s1.heap.objs.size + 1, b] :=
    zip_sep2 (fun c hc => by rw [List.mem_singleton.mp hc]; exact la) (fun c hc => by rw [List.mem_singleton.mp hc]; exact lb)
  exact ⟨s1.heap.objs.size + 4, [s1.heap.objs.size + 4, s1.heap.objs.size + 2, s1.heap.objs.size + 3, s1.heap.objs.size, s1.heap.objs.size + 1], _, _, H1, rfl, I2, turn_zipM S (Nat.ne_of_lt la) (Nat.ne_of_lt (Nat.lt_succ_of_lt lb)), ⟨hz, hTI, ⟨_, _, hTO⟩, ⟨_, g1, rfl, rfl⟩, ⟨_, g2, rfl, rfl⟩⟩, fresh5, q⟩
def zipMR : D → D → Res (List D)
  | .tup xs, .lst ys => .ok (zipD xs ys)
  | _, _ => .no
def iZip2M (f g : Env → Res D) : Env → Res (List D) := fun ρ => f ρ >>= fun x => g ρ >>= fun y => zipMR x y
section
variable {K : PySem.W.Frag} {G : Hp} {a : Addr} {vs : List V} {ds : List D}
theorem itd_zipM {b : Addr} {ws : List V} {es : List D} (h : G a = some (.tup vs)) (r : Reps G ds vs) (hb : Rd G b (.lst ws)) (rb : Reps G es ws) : ItD (ItzM K a b) G (zipD ds es) := by
  intro G2 H2 i g sb
  have h2 := sb.sqT (K := K) (g _ _ h)
  have hb2 := sb.sqL (K := K) (rd_up g hb)
  have r2 := r.le (Le.of g)
  have rb2 := rb.le (Le.of g)
  refine ⟨fun d e => ?_, fun e => ⟨vs, ws, h2, hb2, ?_⟩⟩
  · obtain ⟨x, x', e1, e1', rfl⟩ := zipD_get e
    obtain ⟨v, e2, rv⟩ := r2.get e1
    obtain ⟨v', e2', rv'⟩ := rb2.get e1'
    refine ⟨⟨vs, ws, v, v', h2, hb2, e2, e2'⟩, fun w H' y => ?_⟩
    obtain ⟨T, z, z', rfl, nT, rfl, y, y'⟩ := y
    have y := y vs h2
    rw [e2] at y; cases y
    have y' := y' ws hb2
    rw [e2'] at y'; cases y'
    have ex : Ext G2 H2 (upd G2 T (.tup [v, v'])) (upd H2 T (.tup [v, v'])) := Ext.new sb nT
    exact ⟨_, ex, T, _, rfl, upd_same, v, [v'], rfl, rv.le ex.le, v', [], rfl, rv'.le ex.le, rfl⟩
  · rw [r.length, rb.length]; rw [zipD_len] at e; omega
end
section
variable {X : Cx} {W : WX} {e e2 : Expr} {f g : Env → Res D} {p pos : Pos}
theorem di_zip2M {elts : List Expr} {kk : Nat} {tpos : Pos} (hg : L2.Gl X "zip") (hm : X.mg "zip" = none) (d : DE X W e f) (d2 : DE X W e2 g) (hs : starEach [e, e2] X.env = (false, eval e X.env) :: starEach [e2] X.env := by rfl) (hs2 : starEach [e2] X.env = (false, eval e2 X.env) :: starEach [] X.env := by rfl)
    (hpl : (backTo pos (starEach [e2] X.env)).any (·.1) = false := by rfl) : DI X W (.Tuple elts kk tpos) (.Call (.Name "zip" p) [e, e2] [] pos) (iZip2M f g) := by
  obtain ⟨t, pe, h1⟩ := d
  obtain ⟨t2, pe2, h2⟩ := d2
  refine ⟨_, pi_zipM hg hm (pa_cons pe (pa_cons pe2 pa_nil hs2) hs) hs hpl, fun G H σ ρ R s e h => ?_⟩
  refine h1 G H σ ρ _ s e (Gl.imp (fun x G1 H1 _ e1 k v rv => ?_) (Gl.bind h))
  refine h2 G1 H1 σ ρ _ e1.s (e.le e1.le) (Gl.imp (fun y G2 H2 _ e2 k w rw' => ?_) (Gl.bind k))
  cases x with
  | tup xs =>
    cases y with
    | lst ys =>
      obtain ⟨a, vs, rfl, ha, ra⟩ := rv.le e2.le
      obtain ⟨b, ws, rfl, hb, rb⟩ := rw'
      exact ⟨a, b, vs, ws, rfl, e2.s.sqT ha, e2.s.sqL hb, k G2 H2 (Ext.refl e2.s) _ (itd_zipM ha ra hb rb)⟩
    | _ => exact k.elim
  | _ => exact k.elim
end
end DL

/-! DL49: x not in (a, b, ..); a text of the module, told by the globals. -/
namespace DL
open PySem PySem.Spec PyProof.Rows L2
def rNotInT (K : PySem.W.Frag) : R2 := fun x y H Q => ∃ d ds, Dp K H x d ∧ Dp K H y (.tuple ds) ∧ SeqAt.shaped d = true ∧ SeqAt.shaped (.tuple ds) = true ∧ Q (.bl (!(ds.any fun z => PyData.eqv z d))) H
theorem op_notInT {X : Cx} (hu : X.A.units + 65 < cLine) : OpR X (compareOp .NotIn) (rNotInT X.K) := by
  intro pins s σ H x y v u Q I rx ry h
  obtain ⟨d, ds, hd, he, sd, se, q⟩ := h
  obtain ⟨as, r1⟩ := Dp.reads I d x v hd rx
  obtain ⟨bs, r2⟩ := Dp.reads I (.tuple ds) y u he ry
  exact SeqAt.notIn_tuple_reads r2 r1 (SeqAt.canLay_of_shaped se) (SeqAt.canLay_of_shaped sd) (room_in_shaped sd hu) ⟨.bl _, H, I, rfl, q⟩
def g_notinT : D → D → Res D
  | x, .tup ys => if SeqAt.shaped (py x) = true ∧ SeqAt.shaped (py (.tup ys)) = true then .ok (.bl (!((pys ys).any fun z => PyData.eqv z (py x)))) else .no
  | _, _ => .no
theorem say_notinT {X : Cx} {W : WX} : Say2 X W (rNotInT X.K) g_notinT := by
  intro G H σ Q x y a b s r1 r2 h
  cases y with
  | tup ys =>
    simp only [g_notinT] at h
    split at h
    · rename_i z
      have d2 : Dp X.K H b (py (.tup ys)) := dp_of s (SeqAt.canLay_of_shaped z.2) r2
      exact ⟨_, pys ys, dp_of s (SeqAt.canLay_of_shaped z.1) r1, d2, z.1, z.2, h.bl s⟩
    · exact h.elim
  | _ => exact h.elim
theorem de_textG {X : Cx} {W : WX} {x : Str} {a : Str} {pos : Pos} (hg : L2.Gl X x) (hm : ∃ tk, X.mg x = some (.str a tk)) (hd : (x == ("__debug__" : Str)) = false := by decide) : DE X W (.Name x pos) (vC (.str a)) :=
  Exists.elim hm fun _ h => de_globS hg h hd
end DL

/-! DM4: isinstance. -/
namespace DL
open PySem L2
theorem kb_NoneType_int : kitB "NoneType" "int" = some false := by decide +kernel
@[simp] theorem isi_int_non  : g_isi "int" (.non ) = .ok (.bl false) := by show (match kitB "NoneType" "int" with | some b => Res.ok (D.bl b) | none => .no) = _; rw [kb_NoneType_int]
theorem kb_bool_int : kitB "bool" "int" = some true := by decide +kernel
@[simp] theorem isi_int_bl (b : Bool) : g_isi "int" (.bl b) = .ok (.bl true) := by show (match kitB "bool" "int" with | some b => Res.ok (D.bl b) | none => .no) = _; rw [kb_bool_int]
theorem kb_int_int : kitB "int" "int" = some true := by decide +kernel
@[simp] theorem isi_int_int (i : Int) : g_isi "int" (.int i) = .ok (.bl true) := by show (match kitB "int" "int" with | some b => Res.ok (D.bl b) | none => .no) = _; rw [kb_int_int]
theorem kb_str_int : kitB "str" "int" = some false := by decide +kernel
@[simp] theorem isi_int_str (x : Str) : g_isi "int" (.str x) = .ok (.bl false) := by show (match kitB "str" "int" with | some b => Res.ok (D.bl b) | none => .no) = _; rw [kb_str_int]
theorem kb_tuple_int : kitB "tuple" "int" = some false := by decide +kernel
@[simp] theorem isi_int_tup (xs : List D) : g_isi "int" (.tup xs) = .ok (.bl false) := by show (match kitB "tuple" "int" with | some b => Res.ok (D.bl b) | none => .no) = _; rw [kb_tuple_int]
theorem kb_list_int : kitB "list" "int" = some false := by decide +kernel
@[simp] theorem isi_int_lst (xs : List D) : g_isi "int" (.lst xs) = .ok (.bl false) := by show (match kitB "list" "int" with | some b => Res.ok (D.bl b) | none => .no) = _; rw [kb_list_int]
theorem kb_dict_int : kitB "dict" "int" = some false := by decide +kernel
@[simp] theorem isi_int_dK (xs : List (Key × D)) : g_isi "int" (.dK xs) = .ok (.bl false) := by show (match kitB "dict" "int" with | some b => Res.ok (D.bl b) | none => .no) = _; rw [kb_dict_int]
@[simp] theorem isi_int_dT (xs : List (List Key × D)) : g_isi "int" (.dT xs) = .ok (.bl false) := by show (match kitB "dict" "int" with | some b => Res.ok (D.bl b) | none => .no) = _; rw [kb_dict_int]
theorem kb_NoneType_bool : kitB "NoneType" "bool" = some false := by decide +kernel
@[simp] theorem isi_bool_non  : g_isi "bool" (.non ) = .ok (.bl false) := by show (match kitB "NoneType" "bool" with | some b => Res.ok (D.bl b) | none => .no) = _; rw [kb_NoneType_bool]
theorem kb_bool_bool : kitB "bool" "bool" = some true := by decide +kernel
@[simp] theorem isi_bool_bl (b : Bool) : g_isi "bool" (.bl b) = .ok (.bl true) := by show (match kitB "bool" "bool" with | some b => Res.ok (D.bl b) | none => .no) = _; rw [kb_bool_bool]
theorem kb_int_bool : kitB "int" "bool" = some false := by decide +kernel
@[simp] theorem isi_bool_int (i : Int) : g_isi "bool" (.int i) = .ok (.bl false) := by show (match kitB "int" "bool" with | some b => Res.ok (D.bl b) | none => .no) = _; rw [kb_int_bool]
theorem kb_str_bool : kitB "str" "bool" = some false := by decide +kernel
@[simp] theorem isi_bool_str (x : Str) : g_isi "bool" (.str x) = .ok (.bl false) := by show (match kitB "str" "bool" with | some b => Res.ok (D.bl b) | none => .no) = _; rw [kb_str_bool]
theorem kb_tuple_bool : kitB "tuple" "bool" = some false := by decide +kernel
@[simp] theorem isi_bool_tup (xs : List D) : g_isi "bool" (.tup xs) = .ok (.bl false) := by show (match kitB "tuple" "bool" with | some b => Res.ok (D.bl b) | none => .no) = _; rw [kb_tuple_bool]
theorem kb_list_bool : kitB "list" "bool" = some false := by decide +kernel
@[simp] theorem isi_bool_lst (xs : List D) : g_isi "bool" (.lst xs) = .ok (.bl false) := by show (match kitB "list" "bool" with | some b => Res.ok (D.bl b) | none => .no) = _; rw [kb_list_bool]
theorem kb_dict_bool : kitB "dict" "bool" = some false := by decide +kernel
@[simp] theorem isi_bool_dK (xs : List (Key × D)) : g_isi "bool" (.dK xs) = .ok (.bl false) := by show (match kitB "dict" "bool" with | some b => Res.ok (D.bl b) | none => .no) = _; rw [kb_dict_bool]
@[simp] theorem isi_bool_dT (xs : List (List Key × D)) : g_isi "bool" (.dT xs) = .ok (.bl false) := by show (match kitB "dict" "bool" with | some b => Res.ok (D.bl b) | none => .no) = _; rw [kb_dict_bool]
theorem kb_NoneType_str : kitB "NoneType" "str" = some false := by decide +kernel
@[simp] theorem isi_str_non  : g_isi "str" (.non ) = .ok (.bl false) := by show (match kitB "NoneType" "str" with | some b => Res.ok (D.bl b) | none => .no) = _; rw [kb_NoneType_str]
theorem kb_bool_str : kitB "bool" "str" = some false := by decide +kernel
@[simp] theorem isi_str_bl (b : Bool) : g_isi "str" (.bl b) = .ok (.bl false) := by show (match kitB "bool" "str" with | some b => Res.ok (D.bl b) | none => .no) = _; rw [kb_bool_str]
theorem kb_int_str : kitB "int" "str" = some false := by decide +kernel
@[simp] theorem isi_str_int (i : Int) : g_isi "str" (.int i) = .ok (.bl false) := by show (match kitB "int" "str" with | some b => Res.ok (D.bl b) | none => .no) = _; rw [kb_int_str]
theorem kb_str_str : kitB "str" "str" = some true := by decide +kernel
@[simp] theorem isi_str_str (x : Str) : g_isi "str" (.str x) = .ok (.bl true) := by show (match kitB "str" "str" with | some b => Res.ok (D.bl b) | none => .no) = _; rw [kb_str_str]
theorem kb_tuple_str : kitB "tuple" "str" = some false := by decide +kernel
@[simp] theorem isi_str_tup (xs : List D) : g_isi "str" (.tup xs) = .ok (.bl false) := by show (match kitB "tuple" "str" with | some b => Res.ok (D.bl b) | none => .no) = _; rw [kb_tuple_str]
theorem kb_list_str : kitB "list" "str" = some false := by decide +kernel
@[simp] theorem isi_str_lst (xs : List D) : g_isi "str" (.lst xs) = .ok (.bl false) := by show (match kitB "list" "str" with | some b => Res.ok (D.bl b) | none => .no) = _; rw [kb_list_str]
theorem kb_dict_str : kitB "dict" "str" = some false := by decide +kernel
@[simp] theorem isi_str_dK (xs : List (Key × D)) : g_isi "str" (.dK xs) = .ok (.bl false) := by show (match kitB "dict" "str" with | some b => Res.ok (D.bl b) | none => .no) = _; rw [kb_dict_str]
@[simp] theorem isi_str_dT (xs : List (List Key × D)) : g_isi "str" (.dT xs) = .ok (.bl false) := by show (match kitB "dict" "str" with | some b => Res.ok (D.bl b) | none => .no) = _; rw [kb_dict_str]
theorem kb_NoneType_list : kitB "NoneType" "list" = some false := by decide +kernel
@[simp] theorem isi_list_non  : g_isi "list" (.non ) = .ok (.bl false) := by show (match kitB "NoneType" "list" with | some b => Res.ok (D.bl b) | none => .no) = _; rw [kb_NoneType_list]
theorem kb_bool_list : kitB "bool" "list" = some false := by decide +kernel
@[simp] theorem isi_list_bl (b : Bool) : g_isi "list" (.bl b) = .ok (.bl false) := by show (match kitB "bool" "list" with | some b => Res.ok (D.bl b) | none => .no) = _; rw [kb_bool_list]
theorem kb_int_list : kitB "int" "list" = some false := by decide +kernel
@[simp] theorem isi_list_int (i : Int) : g_isi "list" (.int i) = .ok (.bl false) := by show (match kitB "int" "list" with | some b => Res.ok (D.bl b) | none => .no) = _; rw [kb_int_list]
theorem kb_str_list : kitB "str" "list" = some false := by decide +kernel
@[simp] theorem isi_list_str (x : Str) : g_isi "list" (.str x) = .ok (.bl false) := by show (match kitB "str" "list" with | some b => Res.ok (D.bl b) | none => .no) = _; rw [kb_str_list]
theorem kb_tuple_list : kitB "tuple" "list" = some false := by decide +kernel
@[simp] theorem isi_list_tup (xs : List D) : g_isi "list" (.tup xs) = .ok (.bl false) := by show (match kitB "tuple" "list" with | some b => Res.ok (D.bl b) | none => .no) = _; rw [kb_tuple_list]
theorem kb_list_list : kitB "list" "list" = some true := by decide +kernel
@[simp] theorem isi_list_lst (xs : List D) : g_isi "list" (.lst xs) = .ok (.bl true) := by show (match kitB "list" "list" with | some b => Res.ok (D.bl b) | none => .no) = _; rw [kb_list_list]
theorem kb_dict_list : kitB "dict" "list" = some false := by decide +kernel
@[simp] theorem isi_list_dK (xs : List (Key × D)) : g_isi "list" (.dK xs) = .ok (.bl false) := by show (match kitB "dict" "list" with | some b => Res.ok (D.bl b) | none => .no) = _; rw [kb_dict_list]
@[simp] theorem isi_list_dT (xs : List (List Key × D)) : g_isi "list" (.dT xs) = .ok (.bl false) := by show (match kitB "dict" "list" with | some b => Res.ok (D.bl b) | none => .no) = _; rw [kb_dict_list]
theorem kb_NoneType_tuple : kitB "NoneType" "tuple" = some false := by decide +kernel
@[simp] theorem isi_tuple_non  : g_isi "tuple" (.non ) = .ok (.bl false) := by show (match kitB "NoneType" "tuple" with | some b => Res.ok (D.bl b) | none => .no) = _; rw [kb_NoneType_tuple]
theorem kb_bool_tuple : kitB "bool" "tuple" = some false := by decide +kernel
@[simp] theorem isi_tuple_bl (b : Bool) : g_isi "tuple" (.bl b) = .ok (.bl false) := by show (match kitB "bool" "tuple" with | some b => Res.ok (D.bl b) | none => .no) = _; rw [kb_bool_tuple]
theorem kb_int_tuple : kitB "int" "tuple" = some false := by decide +kernel
@[simp] theorem isi_tuple_int (i : Int) : g_isi "tuple" (.int i) = .ok (.bl false) := by show (match kitB "int" "tuple" with | some b => Res.ok (D.bl b) | none => .no) = _; rw [kb_int_tuple]
theorem kb_str_tuple : kitB "str" "tuple" = some false := by decide +kernel
@[simp] theorem isi_tuple_str (x : Str) : g_isi "tuple" (.str x) = .ok (.bl false) := by show (match kitB "str" "tuple" with | some b => Res.ok (D.bl b) | none => .no) = _; rw [kb_str_tuple]
theorem kb_tuple_tuple : kitB "tuple" "tuple" = some true := by decide +kernel
@[simp] theorem isi_tuple_tup (xs : List D) : g_isi "tuple" (.tup xs) = .ok (.bl true) := by show (match kitB "tuple" "tuple" with | some b => Res.ok (D.bl b) | none => .no) = _; rw [kb_tuple_tuple]
theorem kb_list_tuple : kitB "list" "tuple" = some false := by decide +kernel
@[simp] theorem isi_tuple_lst (xs : List D) : g_isi "tuple" (.lst xs) = .ok (.bl false) := by show (match kitB "list" "tuple" with | some b => Res.ok (D.bl b) | none => .no) = _; rw [kb_list_tuple]
theorem kb_dict_tuple : kitB "dict" "tuple" = some false := by decide +kernel
@[simp] theorem isi_tuple_dK (xs : List (Key × D)) : g_isi "tuple" (.dK xs) = .ok (.bl false) := by show (match kitB "dict" "tuple" with | some b => Res.ok (D.bl b) | none => .no) = _; rw [kb_dict_tuple]
@[simp] theorem isi_tuple_dT (xs : List (List Key × D)) : g_isi "tuple" (.dT xs) = .ok (.bl false) := by show (match kitB "dict" "tuple" with | some b => Res.ok (D.bl b) | none => .no) = _; rw [kb_dict_tuple]
theorem kb_NoneType_dict : kitB "NoneType" "dict" = some false := by decide +kernel
@[simp] theorem isi_dict_non  : g_isi "dict" (.non ) = .ok (.bl false) := by show (match kitB "NoneType" "dict" with | some b => Res.ok (D.bl b) | none => .no) = _; rw [kb_NoneType_dict]
theorem kb_bool_dict : kitB "bool" "dict" = some false := by decide +kernel
@[simp] theorem isi_dict_bl (b : Bool) : g_isi "dict" (.bl b) = .ok (.bl false) := by show (match kitB "bool" "dict" with | some b => Res.ok (D.bl b) | none => .no) = _; rw [kb_bool_dict]
theorem kb_int_dict : kitB "int" "dict" = some false := by decide +kernel
@[simp] theorem isi_dict_int (i : Int) : g_isi "dict" (.int i) = .ok (.bl false) := by show (match kitB "int" "dict" with | some b => Res.ok (D.bl b) | none => .no) = _; rw [kb_int_dict]
theorem kb_str_dict : kitB "str" "dict" = some false := by decide +kernel
@[simp] theorem isi_dict_str (x : Str) : g_isi "dict" (.str x) = .ok (.bl false) := by show (match kitB "str" "dict" with | some b => Res.ok (D.bl b) | none => .no) = _; rw [kb_str_dict]
theorem kb_tuple_dict : kitB "tuple" "dict" = some false := by decide +kernel
@[simp] theorem isi_dict_tup (xs : List D) : g_isi "dict" (.tup xs) = .ok (.bl false) := by show (match kitB "tuple" "dict" with | some b => Res.ok (D.bl b) | none => .no) = _; rw [kb_tuple_dict]
theorem kb_list_dict : kitB "list" "dict" = some false := by decide +kernel
@[simp] theorem isi_dict_lst (xs : List D) : g_isi "dict" (.lst xs) = .ok (.bl false) := by show (match kitB "list" "dict" with | some b => Res.ok (D.bl b) | none => .no) = _; rw [kb_list_dict]
theorem kb_dict_dict : kitB "dict" "dict" = some true := by decide +kernel
@[simp] theorem isi_dict_dK (xs : List (Key × D)) : g_isi "dict" (.dK xs) = .ok (.bl true) := by show (match kitB "dict" "dict" with | some b => Res.ok (D.bl b) | none => .no) = _; rw [kb_dict_dict]
@[simp] theorem isi_dict_dT (xs : List (List Key × D)) : g_isi "dict" (.dT xs) = .ok (.bl true) := by show (match kitB "dict" "dict" with | some b => Res.ok (D.bl b) | none => .no) = _; rw [kb_dict_dict]
end DL

/-! DM3: more for simp. -/
namespace DL
open PySem L2
section
variable {ρ : Env}
@[simp] theorem forget_nil : forget ρ [] = ρ := rfl
@[simp] theorem forget_cons {i : Nat} {r : List Nat} : forget ρ (i :: r) = forget (ρ.set i none) r := rfl
@[simp] theorem wipeE_nil : wipeE ρ [] = ρ := rfl
@[simp] theorem wipeE_cons {v : Nat} {vs : List Nat} : wipeE ρ (v :: vs) = (wipeE ρ vs).set v none := rfl
@[simp] theorem setE_nil {ds : List D} : setE ρ [] ds = ρ := by unfold setE; rfl
@[simp] theorem setE_cons {i : Nat} {is : List Nat} {d : D} {ds : List D} : setE ρ (i :: is) (d :: ds) = setE (ρ.set i (some d)) is ds := rfl
@[simp] theorem startE_eq {n : Nat} {ds : List D} : startE n ds = ds.map some ++ List.replicate (n - ds.length) none := rfl
@[simp] theorem maskE_cons {i : Nat} {k : Kd} {own : Owns} : maskE ((i, k) :: own) ρ = maskE own (ρ.set i none) := rfl
@[simp] theorem ksNil_nil : ksNil [] = .ok [] := rfl
@[simp] theorem ksCons_cons {k : D → Res (List D)} {ks : List D → Res (List D)} {d : D} {r : List D} : ksCons k ks (d :: r) = (k d).thn fun l => (ks r).thn fun m => .ok (l ++ m) := rfl
@[simp] theorem kTup_tup {n : Nat} {ks : List D → Res (List D)} {ds : List D} : kTup n ks (.tup ds) = if ds.length = n then ks ds else .no := rfl
@[simp] theorem lenZ : sizeLine = 16777216 := rfl
@[simp] theorem imms_app (xs ys : List D) : imms (xs ++ ys) = (imms xs && imms ys) := imms_append xs ys
@[simp] theorem nbs_app (n : Nat) (xs ys : List D) : nbs n (xs ++ ys) = (nbs n xs && nbs n ys) := nbs_append n xs ys
theorem le_sz {n : Nat} (h : n ≤ 16777216) : n ≤ sizeLine := h
end
/-- an item of a row behind an index -/
@[simp] theorem appD_eq {ρ : Env} {j : Nat} {d : D} : appD ρ j d = (match ρ[j]? with | some (some (.lst ds)) => if ds.length < sizeLine then .nx (ρ.set j (some (.lst (ds ++ [d])))) else .no | _ => .no) := rfl
@[simp] theorem isLst_eq {ρ : Env} {j : Nat} : isLst ρ j = (match ρ[j]? with | some (some (.lst _)) => true | _ => false) := rfl
@[simp] theorem catR_lst {xs ys : List D} : catR (.lst xs) (.lst ys) = if xs.length + ys.length ≤ sizeLine then .ok (xs ++ ys) else .no := rfl
end DL
namespace DL
open PySem L2
noncomputable instance instDecD : DecidableEq D := fun a b => Classical.propDecidable (a = b)
@[simp] theorem deq_S {x y : D} (hx : nb 20 x = true) (hy : nb 20 y = true) : deq x y = .ok (decide (x = y)) := by
  rw [deq_nb hx hy (by omega) (by omega)]
@[simp] theorem g_eq_S {x y : D} (hx : nb 20 x = true) (hy : nb 20 y = true) : g_eq x y = .ok (.bl (decide (x = y))) := by
  unfold g_eq; rw [deq_S hx hy]; rfl
@[simp] theorem g_ne_S {x y : D} (hx : nb 20 x = true) (hy : nb 20 y = true) : g_ne x y = .ok (.bl (!decide (x = y))) := by
  unfold g_ne; rw [deq_S hx hy]; rfl
theorem nbs_S {n : Nat} {α : Type} {f : α → D} {xs : List α} (h : ∀ x ∈ xs, nb n (f x) = true) : nbs n (xs.map f) = true := nbs_map' h
@[simp] theorem nb_bl (n : Nat) (b : Bool) : nb n (.bl b) = false := by unfold nb; rfl
@[simp] theorem ixt0 (x : D) (r : List D) : g_ix (.tup (x :: r)) (.int 0) = .ok x := g_ix_t0 x r
@[simp] theorem ixt1 (x y : D) (r : List D) : g_ix (.tup (x :: y :: r)) (.int 1) = .ok y := g_ix_t1 x y r
@[simp] theorem ixt2 (x y z : D) (r : List D) : g_ix (.tup (x :: y :: z :: r)) (.int 2) = .ok z := g_ix_t2 x y z r
@[simp] theorem ixt3 (x y z u : D) (r : List D) : g_ix (.tup (x :: y :: z :: u :: r)) (.int 3) = .ok u := g_ix_t3 x y z u r
@[simp] theorem ixl0 (x : D) (r : List D) : g_ix (.lst (x :: r)) (.int 0) = .ok x := g_ix_cons0 x r
@[simp] theorem ixl1 (x y : D) (r : List D) : g_ix (.lst (x :: y :: r)) (.int 1) = .ok y := g_ix_nat (x :: y :: r) 1 (by simp)
theorem bind_thn {α β : Type} (r : Res α) (k : α → Res β) : (r >>= k) = r.thn k := rfl
example (xs : List Int) : nb 20 (.lst [.int 3, .tup [.lst (xs.map .int)]]) = true := by simp
end DL
namespace DL
open PySem L2
/-! ### loops, turn by turn -/
/-- one turn: the slots behind it, or how the loop ends -/
def turn (is : List Nat) (ks : D → Res (List D)) (F : DSem) (fg : List Nat) (d : D) (ρ : DL.Env) : Sum DL.Env Out := match ks d with
  | .ok l => (match F (setE ρ is l) with
    | .nx ρ' => .inl (forget ρ' fg)
    | .ct ρ' => .inl (forget ρ' fg)
    | .bk ρ' => .inr (.nx (forget ρ' fg))
    | .rt d => .inr (.rt d)
    | .ex c ρ' => .inr (.ex c ρ')
    | .no => .inr .no)
  | _ => .inr .no
def turnO (fg : List Nat) : Out → Sum DL.Env Out
  | .nx ρ' => .inl (forget ρ' fg)
  | .ct ρ' => .inl (forget ρ' fg)
  | .bk ρ' => .inr (.nx (forget ρ' fg))
  | .rt d => .inr (.rt d)
  | .ex c ρ' => .inr (.ex c ρ')
  | .no => .inr .no
section
variable {fg : List Nat} {ρ : DL.Env} {d : D} {c : Str}
@[simp] theorem turnO_nx : turnO fg (.nx ρ) = .inl (forget ρ fg) := rfl
@[simp] theorem turnO_ct : turnO fg (.ct ρ) = .inl (forget ρ fg) := rfl
@[simp] theorem turnO_bk : turnO fg (.bk ρ) = .inr (.nx (forget ρ fg)) := rfl
@[simp] theorem turnO_rt : turnO fg (.rt d) = .inr (.rt d) := rfl
@[simp] theorem turnO_ex : turnO fg (.ex c ρ) = .inr (.ex c ρ) := rfl
def turnK (is : List Nat) (F : DSem) (fg : List Nat) (ρ : DL.Env) : Res (List D) → Sum DL.Env Out
  | .ok l => turnO fg (F (setE ρ is l))
  | _ => .inr .no
@[simp] theorem turnK_ok {is : List Nat} {F : DSem} {l : List D} : turnK is F fg ρ (.ok l) = turnO fg (F (setE ρ is l)) := rfl
@[simp] theorem turn_eq {is : List Nat} {ks : D → Res (List D)} {F : DSem} : turn is ks F fg d ρ = turnK is F fg ρ (ks d) := by
  unfold turn turnK
  cases ks d with
  | ok l => simp only; cases F (setE ρ is l) <;> rfl
  | ex c => rfl
  | no => rfl
end
theorem forF_cons {is fg : List Nat} {ks : D → Res (List D)} {F : DSem} {d : D} {r : List D} {ρ : DL.Env} : forF is ks F fg (d :: r) ρ = (match turn is ks F fg d ρ with
    | .inl ρ' => forF is ks F fg r ρ'
    | .inr o => o) := by
  unfold turn
  conv => lhs; unfold forF
  cases ks d with
  | ok l => simp only; cases F (setE ρ is l) <;> rfl
  | ex c => rfl
  | no => rfl
def foldO {α S : Type} (φ : S → DL.Env) (step : S → α → Sum S Out) : List α → S → Out
  | [], s => .nx (φ s)
  | x :: r, s => match step s x with
    | .inl s' => foldO φ step r s'
    | .inr o => o
def mapL {S : Type} (φ : S → DL.Env) : Sum S Out → Sum DL.Env Out
  | .inl s => .inl (φ s)
  | .inr o => .inr o
@[simp] theorem mapL_l {S : Type} {φ : S → DL.Env} {s : S} : mapL φ (.inl s) = .inl (φ s) := rfl
@[simp] theorem mapL_r {S : Type} {φ : S → DL.Env} {o : Out} : mapL φ (.inr o) = .inr o := rfl
theorem mapL_if {S : Type} {φ : S → DL.Env} {c : Prop} [Decidable c] {a b : Sum S Out} : mapL φ (if c then a else b) = if c then mapL φ a else mapL φ b := by split <;> rfl
/-- a loop by its turns, an invariant by the number of turns -/
theorem forF_gen {α S : Type} {is fg : List Nat} {ks : D → Res (List D)} {F : DSem} {enc : α → D} {ρ : DL.Env} (φ : S → DL.Env) (step : S → α → Sum S Out) (Iv : Nat → S → Prop) : ∀ {xs : List α} {s : S} (n : Nat),
    (∀ i s x, xs[i]? = some x → Iv (n + i) s → turn is ks F fg (enc x) (φ s) = mapL φ (step s x) ∧ ∀ s', step s x = .inl s' → Iv (n + i + 1) s') → Iv n s → ρ = φ s →
      forF is ks F fg (xs.map enc) ρ = foldO φ step xs s
  | [], s, n, _, _, e => by rw [e]; rfl
  | x :: r, s, n, hs, h, e => by
    obtain ⟨h1, h2⟩ := hs 0 s x rfl h
    rw [List.map_cons, forF_cons, e, h1]
    unfold foldO
    cases q : step s x with
    | inr o => rfl
    | inl s' =>
      simp only [mapL]
      exact forF_gen φ step Iv (n + 1) (fun i s2 x2 e2 iv => by
        have := hs (i + 1) s2 x2 (by simpa using e2) (by rwa [show n + (i + 1) = n + 1 + i by omega])
        rwa [show n + (i + 1) = n + 1 + i by omega] at this) (h2 s' q) rfl
theorem foldO_inl {α S : Type} {φ : S → DL.Env} {step : S → α → S} : ∀ {xs : List α} {s : S}, foldO φ (fun s x => .inl (step s x)) xs s = .nx (φ (xs.foldl step s))
  | [], _ => rfl
  | x :: r, s => by unfold foldO; exact foldO_inl
/-- a loop that goes to its end -/
theorem forF_eq {α S : Type} {is fg : List Nat} {ks : D → Res (List D)} {F : DSem} {enc : α → D} {ρ : DL.Env} (φ : S → DL.Env) (step : S → α → S) (Iv : Nat → S → Prop) {xs : List α} {s : S}
    (hs : ∀ i s x, xs[i]? = some x → Iv i s → turn is ks F fg (enc x) (φ s) = .inl (φ (step s x)) ∧ Iv (i + 1) (step s x)) (h : Iv 0 s) (e : ρ = φ s) :
      forF is ks F fg (xs.map enc) ρ = .nx (φ (xs.foldl step s)) := by
  rw [forF_gen φ (fun s x => .inl (step s x)) Iv 0 (fun i s x e iv => ?_) h e, foldO_inl]
  have := hs i s x e (by simpa using iv)
  exact ⟨this.1, fun s' q => by cases q; simpa using this.2⟩
/-- a loop that only looks -/
theorem forF_skip {α : Type} {is fg : List Nat} {ks : D → Res (List D)} {F : DSem} {enc : α → D} {ρ : DL.Env} {xs : List α} (hs : ∀ x ∈ xs, turn is ks F fg (enc x) ρ = .inl ρ) : forF is ks F fg (xs.map enc) ρ = .nx ρ := by
  rw [forF_eq (S := Unit) (fun _ => ρ) (fun _ _ => ()) (fun _ _ => True) (s := ()) (fun i s x e _ => ⟨hs x (List.mem_of_getElem? e), trivial⟩) trivial rfl]
end DL
namespace DL
@[simp] theorem if_ok {α : Type} {P : Prop} [Decidable P] {a b : α} : (if P then Res.ok a else Res.ok b) = Res.ok (if P then a else b) := by split <;> rfl
@[simp] theorem dicOf_K {kvs} : dicOf (.dK kvs) = .ok (.dK kvs) := rfl
@[simp] theorem dicOf_T {kvs} : dicOf (.dT kvs) = .ok (.dT kvs) := rfl
theorem mem_getElem? {α : Type} {xs : List α} {i : Nat} {x : α} (h : xs[i]? = some x) : x ∈ xs := List.mem_of_getElem? h
theorem idx_lt {α : Type} {xs : List α} {i : Nat} {x : α} (h : xs[i]? = some x) : i < xs.length := (List.getElem?_eq_some_iff.mp h).1
theorem zipIdx_get {α : Type} {xs : List α} {i : Nat} {p : α × Nat} (h : xs.zipIdx[i]? = some p) : p.2 = i ∧ xs[i]? = some p.1 := by
  rw [List.getElem?_zipIdx, Option.map_eq_some_iff] at h
  obtain ⟨x, h1, rfl⟩ := h
  exact ⟨by simp, h1⟩
end DL
namespace DL
open PySem L2
/-- one item of a comprehension without a test -/
def elt1 (is : List Nat) (ks : D → Res (List D)) (fe : DL.Env → Res D) (ρ : DL.Env) (d : D) : Res D := (ks d).thn fun l => fe (setE ρ is l)
theorem compL_ex {α β : Type} {is : List Nat} {ks : D → Res (List D)} {fe : DL.Env → Res D} {ρ : DL.Env} {enc : α → D} (g : β → D) (P : α → β → Prop) : ∀ {xs : List α}, (∀ x ∈ xs, ∃ y, elt1 is ks fe ρ (enc x) = .ok (g y) ∧ P x y) →
    ∃ ys : List β, compL is ks tTrue fe ρ (xs.map enc) = .ok (ys.map g) ∧ ys.length = xs.length ∧ ∀ y ∈ ys, ∃ x ∈ xs, P x y
  | [], _ => ⟨[], rfl, rfl, fun y hy => by cases hy⟩
  | x :: r, h => by
    obtain ⟨y, h1, h2⟩ := h x List.mem_cons_self
    obtain ⟨ys, i1, i2, i3⟩ := compL_ex g P fun z hz => h z (List.mem_cons_of_mem _ hz)
    unfold elt1 at h1
    cases q : ks (enc x) with
    | ok l =>
      rw [q, thn_ok] at h1
      refine ⟨y :: ys, ?_, by simp [i2], fun z hz => ?_⟩
      · simp only [List.map_cons, compL, q, Res.bind_ok, tTrue, noEx, if_pos, h1, i1]
      · rcases List.mem_cons.mp hz with e | hz
        · exact ⟨x, List.mem_cons_self, by rw [e]; exact h2⟩
        · obtain ⟨w, h3, h4⟩ := i3 z hz; exact ⟨w, List.mem_cons_of_mem _ h3, h4⟩
    | ex c => rw [q] at h1; cases h1
    | no => rw [q] at h1; cases h1
@[simp] theorem elt1_eq {is : List Nat} {ks : D → Res (List D)} {fe : DL.Env → Res D} {ρ : DL.Env} {d : D} : elt1 is ks fe ρ d = (ks d).thn fun l => fe (setE ρ is l) := rfl
@[simp] theorem noEx_ok' {α : Type} {a : α} : noEx (.ok a) = .ok a := rfl
@[simp high] theorem cutA_map' {α β : Type} (f : α → β) (xs : List α) (l u : Option Int) : cutA (xs.map f) l u = (cutA xs l u).map f := cutA_map f xs l u
theorem cutA_mem {α : Type} {xs : List α} {l u : Option Int} {x : α} (h : x ∈ cutA xs l u) : x ∈ xs := List.mem_of_mem_drop (List.mem_of_mem_take h)
theorem cutA_len {α : Type} {xs : List α} {l u : Option Int} : (cutA xs l u).length ≤ xs.length := by unfold cutA; simp; omega
theorem emod_rng (a : Int) {m : Int} (h : 0 < m) : 0 ≤ a % m ∧ a % m < m := ⟨Int.emod_nonneg _ (by omega), Int.emod_lt_of_pos _ h⟩
theorem compL_eq {α : Type} {is : List Nat} {ks : D → Res (List D)} {fe : DL.Env → Res D} {ρ : DL.Env} {enc : α → D} (g : α → D) {xs : List α} (h : ∀ x ∈ xs, elt1 is ks fe ρ (enc x) = .ok (g x)) : compL is ks tTrue fe ρ (xs.map enc) = .ok (xs.map g) := by
  refine compL_map enc g fun x hx => ?_
  have := h x hx
  unfold elt1 at this
  cases q : ks (enc x) with
  | ok l => rw [q, thn_ok] at this; exact ⟨l, rfl, rfl, this⟩
  | ex c => rw [q] at this; cases this
  | no => rw [q] at this; cases this
/-- with a test: what is kept -/
def test1 (is : List Nat) (ks : D → Res (List D)) (ft : DL.Env → Res Bool) (ρ : DL.Env) (d : D) : Res Bool := (ks d).thn fun l => ft (setE ρ is l)
@[simp] theorem test1_eq {is : List Nat} {ks : D → Res (List D)} {ft : DL.Env → Res Bool} {ρ : DL.Env} {d : D} : test1 is ks ft ρ d = (ks d).thn fun l => ft (setE ρ is l) := rfl
theorem compL_if {α : Type} {is : List Nat} {ks : D → Res (List D)} {ft : DL.Env → Res Bool} {fe : DL.Env → Res D} {ρ : DL.Env} {enc : α → D} (p : α → Bool) (g : α → D) {xs : List α} (h : ∀ x ∈ xs, test1 is ks ft ρ (enc x) = .ok (p x)) (h2 : ∀ x ∈ xs, p x = true → elt1 is ks fe ρ (enc x) = .ok (g x)) :
    compL is ks ft fe ρ (xs.map enc) = .ok ((xs.filter p).map g) := by
  refine compL_filter enc g p fun x hx => ?_
  have h1 := h x hx
  have h2 := h2 x hx
  unfold test1 at h1
  unfold elt1 at h2
  cases q : ks (enc x) with
  | ok l => rw [q, thn_ok] at h1 h2; exact ⟨l, rfl, h1, h2⟩
  | ex c => rw [q] at h1; cases h1
  | no => rw [q] at h1; cases h1
theorem boolsOf_map {α : Type} (f : α → Bool) : ∀ xs : List α, boolsOf (xs.map fun x => D.bl (f x)) = some (xs.map f)
  | [] => rfl
  | x :: r => by simp [boolsOf, boolsOf_map f r]
@[simp] theorem c_all_map {α : Type} (f : α → Bool) (xs : List α) : c_all [.lst (xs.map fun x => D.bl (f x))] = .ok (.bl ((xs.map f).all id)) := by simp [c_all, boolsOf_map]
@[simp] theorem c_any_map {α : Type} (f : α → Bool) (xs : List α) : c_any [.lst (xs.map fun x => D.bl (f x))] = .ok (.bl ((xs.map f).any id)) := by simp [c_any, boolsOf_map]
end DL
namespace DL
open PySem L2
theorem forF_exh {α S : Type} {is fg : List Nat} {ks : D → Res (List D)} {F : DSem} {enc : α → D} {ρ : DL.Env} {o : Out} (φ : S → DL.Env) (Iv : Nat → S → Prop) : ∀ {xs : List α}, forF is ks F fg (xs.map enc) ρ = o → ∀ (s : S) (n : Nat), Iv n s → ρ = φ s →
    (∀ i s x, xs[i]? = some x → Iv (n + i) s → ∃ s2, turn is ks F fg (enc x) (φ s) = .inl (φ s2) ∧ Iv (n + i + 1) s2) → ∃ s', o = .nx (φ s') ∧ Iv (n + xs.length) s'
  | [], hF, s, n, h, e, _ => ⟨s, by rw [← hF, e]; rfl, h⟩
  | x :: r, hF, s, n, h, e, hs => by
    obtain ⟨s2, h1, h2⟩ := hs 0 s x rfl h
    rw [List.map_cons, forF_cons, e, h1] at hF
    obtain ⟨s', h3, h4⟩ := forF_exh φ Iv hF s2 (n + 1) h2 rfl (fun i s2 x2 e2 iv => by
        have := hs (i + 1) s2 x2 (by simpa using e2) (by rwa [show n + (i + 1) = n + 1 + i by omega])
        rwa [show n + (i + 1) = n + 1 + i by omega] at this)
    exact ⟨s', h3, by rw [List.length_cons, show n + (r.length + 1) = n + 1 + r.length by omega]; exact h4⟩
theorem forF_inv {α S : Type} {is fg : List Nat} {ks : D → Res (List D)} {F : DSem} {enc : α → D} {ρ : DL.Env} {o : Out} {xs : List α} (hF : forF is ks F fg (xs.map enc) ρ = o) (φ : S → DL.Env) (Iv : Nat → S → Prop) (s : S) (h : Iv 0 s) (e : ρ = φ s)
    (hs : ∀ i s x, xs[i]? = some x → Iv i s → ∃ s2, turn is ks F fg (enc x) (φ s) = .inl (φ s2) ∧ Iv (i + 1) s2) : ∃ s', o = .nx (φ s') ∧ Iv xs.length s' := by
  have := forF_exh φ Iv hF s 0 h e (fun i s x hx iv => by simpa using hs i s x hx (by simpa using iv))
  simpa using this
theorem compL_exh {α β : Type} {is : List Nat} {ks : D → Res (List D)} {fe : DL.Env → Res D} {ρ : DL.Env} {enc : α → D} {o : Res (List D)} {xs : List α} (hC : compL is ks tTrue fe ρ (xs.map enc) = o) (g : β → D) (P : α → β → Prop) (h : ∀ x ∈ xs, ∃ y, elt1 is ks fe ρ (enc x) = .ok (g y) ∧ P x y) :
    ∃ ys : List β, o = .ok (ys.map g) ∧ ys.length = xs.length ∧ ∀ y ∈ ys, ∃ x ∈ xs, P x y := by
  rw [← hC]; exact compL_ex g P h
end DL
namespace DL
open PySem L2
@[simp] theorem g_add_lst (xs ys : List D) : g_add (.lst xs) (.lst ys) = if xs.length + ys.length ≤ sizeLine then .ok (.lst (xs ++ ys)) else .no := rfl
@[simp] theorem g_add_tup (xs ys : List D) : g_add (.tup xs) (.tup ys) = if xs.length + ys.length ≤ sizeLine then .ok (.tup (xs ++ ys)) else .no := rfl
@[simp] theorem g_add_str (xs ys : Str) : g_add (.str xs) (.str ys) = if xs.length + ys.length ≤ sizeLine then .ok (.str (xs ++ ys)) else .no := rfl
theorem foldl_cong {α S : Type} {f g : S → α → S} : ∀ {xs : List α} {s : S}, (∀ x ∈ xs, ∀ s, f s x = g s x) → xs.foldl f s = xs.foldl g s
  | [], _, _ => rfl
  | x :: r, s, h => by
    rw [List.foldl_cons, List.foldl_cons, h x List.mem_cons_self]
    exact foldl_cong fun y hy => h y (List.mem_cons_of_mem _ hy)
theorem foldl_range {α S : Type} (f : S → α × Nat → S) (xs : List α) (s : S) : (List.range xs.length).foldl (fun s k => (xs[k]?).elim s fun r => f s (r, k)) s = xs.zipIdx.foldl f s := by
  have : List.range xs.length = xs.zipIdx.map Prod.snd := by simp [List.zipIdx_map_snd, List.range_eq_range']
  rw [this, List.foldl_map]
  refine foldl_cong fun p hp s => ?_
  obtain ⟨i, hi⟩ := List.getElem?_of_mem hp
  obtain ⟨e1, e2⟩ := zipIdx_get hi
  rw [e1, e2, ← e1]
  rfl
theorem range_get {n i x : Nat} (h : (List.range n)[i]? = some x) : x = i ∧ i < n := by
  have hi := idx_lt h
  simp at hi
  rw [List.getElem?_range (by simpa using hi)] at h
  exact ⟨(Option.some.inj h).symm, hi⟩
end DL
namespace DL
@[simp] theorem all_tt {α : Type} (xs : List α) : (xs.all fun _ => true) = true := by simp
@[simp] theorem any_ff {α : Type} (xs : List α) : (xs.any fun _ => false) = false := by simp
end DL
namespace DL
open PySem L2
@[simp] theorem ixN_0 (n : Nat) : ixN (n + 1) 0 = some 0 := by unfold ixN; simp
theorem ixN_ok {n : Nat} {i : Int} (h0 : 0 ≤ i) (h : i < n) : ixN n i = some i.toNat := by unfold ixN; rw [if_pos h0, if_pos h]
end DL

/-! DM5: dicts, membership. -/
namespace DL
open PySem L2
section
variable {κ α : Type} [DecidableEq κ]
theorem getA_nil (k : κ) : getA ([] : List (κ × α)) k = none := rfl
theorem getA_cons (k' k : κ) (v : α) (r : List (κ × α)) : getA ((k', v) :: r) k = if k' = k then some v else getA r k := by
  unfold getA
  by_cases h : k' = k <;> simp [List.find?_cons, h]
theorem getA_append (a b : List (κ × α)) (k : κ) : getA (a ++ b) k = (getA a k).or (getA b k) := by
  induction a with
  | nil => simp [getA_nil]
  | cons p r ih =>
    obtain ⟨k', v⟩ := p
    rw [List.cons_append, getA_cons, getA_cons, ih]
    by_cases h : k' = k <;> simp [h]
theorem getA_isSome (kvs : List (κ × α)) (k : κ) : (getA kvs k).isSome = (kvs.any fun kv => decide (kv.1 = k)) := by
  induction kvs with
  | nil => rfl
  | cons p r ih =>
    obtain ⟨k', v⟩ := p
    rw [getA_cons, List.any_cons]
    by_cases h : k' = k <;> simp [h, ih]
theorem getA_map (kvs : List (κ × α)) (k j : κ) (v : α) : getA (kvs.map fun kv => if kv.1 = k then (kv.1, v) else kv) j = if j = k then (if (getA kvs k).isSome = true then some v else none) else getA kvs j := by
  induction kvs with
  | nil => simp [getA_nil]
  | cons p r ih =>
    obtain ⟨k', x⟩ := p
    rw [List.map_cons, getA_cons]
    by_cases h : k' = k
    · subst h
      rw [if_pos rfl]
      rw [getA_cons]
      by_cases hj : k' = j
      · subst hj; simp
      · rw [if_neg hj, ih, if_neg (Ne.symm hj), if_neg (Ne.symm hj)]
        rw [getA_cons, if_neg hj]
    · rw [if_neg h, getA_cons, ih]
      by_cases hj : j = k
      · subst hj; rw [if_neg h]; simp [getA_cons, h]
      · rw [if_neg hj, if_neg hj]; simp [getA_cons]
theorem getA_put (kvs : List (κ × α)) (k j : κ) (v : α) : getA (putA kvs k v) j = if j = k then some v else getA kvs j := by
  unfold putA
  rw [← getA_isSome]
  by_cases h : (getA kvs k).isSome = true
  · rw [if_pos h, getA_map, if_pos h]
  · rw [if_neg h, getA_append, getA_cons]
    have hn : getA kvs k = none := by simpa using h
    by_cases hj : j = k
    · subst hj; rw [hn]; simp
    · rw [if_neg hj, if_neg (Ne.symm hj), getA_nil]; simp
theorem length_putA (kvs : List (κ × α)) (k : κ) (v : α) : (putA kvs k v).length ≤ kvs.length + 1 := by
  unfold putA
  split <;> simp
theorem getA_foldl {β : Type} (key : β → κ) (val : β → α) : ∀ (xs : List β) (m : List (κ × α)) (k : κ), (getA (xs.foldl (fun m x => putA m (key x) (val x)) m) k).isSome = ((getA m k).isSome || xs.any fun x => decide (key x = k))
  | [], m, k => by simp
  | x :: r, m, k => by
    rw [List.foldl_cons, getA_foldl key val r, getA_put, List.any_cons]
    by_cases h : k = key x
    · subst h; simp
    · rw [if_neg h]; simp [Ne.symm h]
theorem length_foldl {β : Type} (key : β → κ) (val : β → α) : ∀ (xs : List β) (m : List (κ × α)), (xs.foldl (fun m x => putA m (key x) (val x)) m).length ≤ m.length + xs.length
  | [], m => by simp
  | x :: r, m => by
    rw [List.foldl_cons]
    have := length_foldl key val r (putA m (key x) (val x))
    have := length_putA m (key x) (val x)
    simp; omega
end
theorem any_py {x : D} : ∀ {ys : List D}, nb 19 x = true → nbs 19 ys = true → ((pys ys).any fun z => PyData.eqv z (py x)) = decide (x ∈ ys)
  | [], _, _ => by simp [pys]
  | y :: r, hx, hy => by
    have h2 : nb 19 y = true ∧ nbs 19 r = true := by simpa [nbs] using hy
    have := nb_eqv y x 19 19 h2.1 hx
    rw [pys, List.any_cons, any_py hx h2.2]
    by_cases e : y = x
    · subst e; rw [this.mpr rfl]; simp
    · have e2 : PyData.eqv (py y) (py x) = false := by
        cases q : PyData.eqv (py y) (py x) with
        | true => exact absurd (this.mp q) e
        | false => rfl
      rw [e2]
      simp [Ne.symm e]
theorem shaped_of {x : D} {n : Nat} (h : nb n x = true) (hn : n ≤ 64) : SeqAt.shaped (py x) = true := by
  have q := nb_lay x n h
  unfold SeqAt.shaped; rw [q.1]; simp; omega
@[simp] theorem inD_lst {x : D} {ys : List D} (hx : nb 19 x = true) (hy : nbs 19 ys = true) : inD x (.lst ys) = .ok (decide (x ∈ ys)) := by
  show (if SeqAt.shaped (py x) = true ∧ SeqAt.shaped (py (.lst ys)) = true then Res.ok ((pys ys).any fun z => PyData.eqv z (py x)) else .no) = _
  rw [if_pos ⟨shaped_of hx (by omega), shaped_of (n := 20) (by simpa using hy) (by omega)⟩, any_py hx hy]
@[simp] theorem inD_dT {ks : List D} {kk : List Key} {kvs : List (List Key × D)} (h : keysD ks = some kk) : inD (.tup ks) (.dT kvs) = .ok (getA kvs kk).isSome := by
  show (match keysD ks with | some ks => Res.ok (getA kvs ks).isSome | none => .no) = _
  rw [h]
@[simp] theorem inD_dK {x : D} {kk : Key} {kvs : List (Key × D)} (h : keyD x = some kk) : inD x (.dK kvs) = .ok (getA kvs kk).isSome := by
  show (match keyD x with | some k => Res.ok (getA kvs k).isSome | none => .no) = _
  rw [h]
@[simp] theorem g_in_eq (x y : D) : g_in x y = (inD x y).thn fun b => .ok (.bl b) := rfl
@[simp] theorem g_notin_eq (x y : D) : g_notin x y = (inD x y).thn fun b => .ok (.bl (!b)) := rfl
@[simp] theorem keyD_int (i : Int) : keyD (.int i) = some (.inl i) := rfl
@[simp] theorem keyD_str (i : Str) : keyD (.str i) = some (.inr i) := rfl
@[simp] theorem keysD_nil : keysD [] = some [] := rfl
@[simp] theorem keysD_int (i : Int) (r : List D) : keysD (.int i :: r) = (keysD r).map fun ks => .inl i :: ks := by
  show (match keyD (.int i), keysD r with | some k, some ks => some (k :: ks) | _, _ => none) = _
  cases keysD r <;> rfl
@[simp] theorem putD_dT {ks : List D} {kk : List Key} {kvs : List (List Key × D)} {v : D} (h : keysD ks = some kk) : putD (.dT kvs) (.tup ks) v = if kvs.length < sizeLine then .ok (.dT (putA kvs kk v)) else .no := by
  show (match keysD ks with | some ks => if kvs.length < sizeLine then Res.ok (D.dT (putA kvs ks v)) else .no | none => .no) = _
  rw [h]
theorem putD_dK' {k v : D} {kvs : List (Key × D)} : putD (.dK kvs) k v = (match keyD k with | some k => if kvs.length < sizeLine then Res.ok (D.dK (putA kvs k v)) else .no | none => .no) := by cases k <;> rfl
@[simp] theorem putD_dK {k : D} {kk : Key} {kvs : List (Key × D)} {v : D} (h : keyD k = some kk) : putD (.dK kvs) k v = if kvs.length < sizeLine then .ok (.dK (putA kvs kk v)) else .no := by rw [putD_dK', h]
@[simp] theorem getD_dT {ks : List D} {kk : List Key} {kvs : List (List Key × D)} (h : keysD ks = some kk) : getD? (.dT kvs) (.tup ks) = .ok (getA kvs kk) := by
  show (match keysD ks with | some ks => Res.ok (getA kvs ks) | none => .no) = _
  rw [h]
@[simp] theorem getD_dK {k : D} {kk : Key} {kvs : List (Key × D)} (h : keyD k = some kk) : getD? (.dK kvs) k = .ok (getA kvs kk) := by
  have : getD? (.dK kvs) k = (match keyD k with | some k => .ok (getA kvs k) | none => .no) := by cases k <;> rfl
  rw [this, h]
@[simp] theorem hasE_eq {ρ : DL.Env} {j : Nat} : hasE ρ j = (match ρ[j]? with | some (some _) => true | _ => false) := rfl
@[simp] theorem putO_eq {ρ : DL.Env} {j : Nat} {k d : D} : putO ρ j k d = (match ρ[j]? with | some (some c) => (match putD c k d with | .ok c' => .nx (ρ.set j (some c')) | _ => .no) | _ => .no) := rfl
@[simp] theorem setO_eq {ρ : DL.Env} {j : Nat} {k d : D} : setO ρ j k d = (match ρ[j]? with | some (some c) => (match setD c k d with | .ok c' => .nx (ρ.set j (some c')) | _ => .no) | _ => .no) := rfl
/-! ### raise, try, places -/
end DL

/-! DM6: raise, try, places: equations. -/
namespace DL
open PySem L2
section
variable {ρ : DL.Env} {j : Nat} {F : DSem} {sel : Sel} {f g : DL.Env → Res D}
@[simp] theorem s_raise {c : Str} : sRaise c ρ = .ex c ρ := rfl
def tryK (hs : List (List (Str × Bool) × DSem)) : Out → Out
  | .ex c ρ' => hdsF c ρ' hs
  | o => o
@[simp] theorem tryK_nx {hs : List (List (Str × Bool) × DSem)} : tryK hs (.nx ρ) = .nx ρ := rfl
@[simp] theorem tryK_rt {hs : List (List (Str × Bool) × DSem)} {d : D} : tryK hs (.rt d) = .rt d := rfl
@[simp] theorem tryK_ex {hs : List (List (Str × Bool) × DSem)} {c : Str} : tryK hs (.ex c ρ) = hdsF c ρ hs := rfl
@[simp] theorem s_try {hs : List (List (Str × Bool) × DSem)} : sTry F hs ρ = tryK hs (F ρ) := by unfold sTry tryK; rfl
@[simp] theorem hdsF_nil {c : Str} : hdsF c ρ [] = .ex c ρ := rfl
def hdB (c : Str) (ρ : DL.Env) (F : DSem) (r : List (List (Str × Bool) × DSem)) : Option Bool → Out
  | some true => noExO (F ρ)
  | some false => hdsF c ρ r
  | none => .no
@[simp] theorem hdsF_cons {c : Str} {tbl : List (Str × Bool)} {r : List (List (Str × Bool) × DSem)} : hdsF c ρ ((tbl, F) :: r) = hdB c ρ F r (tbl.lookup c) := by
  show (match tbl.lookup c with | some true => noExO (F ρ) | some false => hdsF c ρ r | none => .no) = _
  unfold hdB; rfl
@[simp] theorem hdB_t {c : Str} {r : List (List (Str × Bool) × DSem)} : hdB c ρ F r (some true) = noExO (F ρ) := rfl
@[simp] theorem hdB_f {c : Str} {r : List (List (Str × Bool) × DSem)} : hdB c ρ F r (some false) = hdsF c ρ r := rfl
@[simp] theorem noExO_nx : noExO (.nx ρ) = .nx ρ := rfl
@[simp] theorem noExO_rt {d : D} : noExO (.rt d) = .rt d := rfl
@[simp] theorem pName_eq : pName j ρ = (match ρ[j]? with | some (some d) => .ok (d, []) | _ => .no) := rfl
@[simp] theorem pIx_eq : pIx j sel f ρ = (noEx (sel ρ)).thn fun x => (noEx (f (ρ.set j (some x.1)))).thn fun k => stepTo x.1 x.2 k := rfl
@[simp] theorem pSetd_eq : pSetd j sel f g ρ = (noEx (sel ρ)).thn fun x => if isDicP x.1 x.2 = true then (noEx (f (ρ.set j (some x.1)))).thn fun k => (noEx (g (ρ.set j (some x.1)))).thn fun y => setdTo x.1 x.2 k y else .no := rfl
@[simp] theorem atSel_ok {d : D} {p : List Stp} {k : D → List Stp → Out} : atSel (.ok (d, p)) k = k d p := rfl
@[simp] theorem s_pappI : sPAppI j sel f ρ = atSel (sel ρ) fun d1 p => if isLstP d1 p = true then andThen (f (ρ.set j (some d1))) (ρ.set j (some d1)) fun d => if imm d = true then pApp j (ρ.set j (some d1)) d1 p d else .no else .no := rfl
@[simp] theorem s_pappF : sPAppF j sel f ρ = atSel (sel ρ) fun d1 p => if isLstP d1 p = true then andThen (f (ρ.set j (some d1))) (ρ.set j (some d1)) fun d => pApp j (ρ.set j (some d1)) d1 p d else .no := rfl
@[simp] theorem s_pclear : sPClear j sel ρ = atSel (sel ρ) fun d1 p => if isLstP d1 p = true then .nx (ρ.set j (some (setP d1 p (.lst [])))) else .no := rfl
@[simp] theorem s_pputI : sPPutI j sel f g ρ = andThen (g ρ) ρ fun d => if imm d = true then atSel (sel ρ) fun d1 p => if isDicP d1 p = true then andThen (f (ρ.set j (some d1))) (ρ.set j (some d1)) fun k => pPut j (ρ.set j (some d1)) d1 p k d else .no else .no := rfl
@[simp] theorem s_pputF : sPPutF j sel f g ρ = andThen (g ρ) ρ fun d => atSel (sel ρ) fun d1 p => if isDicP d1 p = true then andThen (f (ρ.set j (some d1))) (ρ.set j (some d1)) fun k => pPut j (ρ.set j (some d1)) d1 p k d else .no := rfl
@[simp] theorem getP_nil {d : D} : getP d [] = some d := rfl
@[simp] theorem getP_cons {d : D} {s : Stp} {p : List Stp} : getP d (s :: p) = (getS d s).bind fun e => getP e p := rfl
@[simp] theorem setP_nil {d x : D} : setP d [] x = x := rfl
@[simp] theorem setP_cons {d x : D} {s : Stp} {p : List Stp} : setP d (s :: p) x = (match getS d s with | some e => setSt d s (setP e p x) | none => d) := rfl
@[simp] theorem getS_tup {xs : List D} {n : Nat} : getS (.tup xs) (.ix n) = xs[n]? := rfl
@[simp] theorem getS_lst {xs : List D} {n : Nat} : getS (.lst xs) (.ix n) = xs[n]? := rfl
@[simp] theorem getS_dT {xs : List (List Key × D)} {k : List Key} : getS (.dT xs) (.kT k) = getA xs k := rfl
@[simp] theorem getS_dK {xs : List (Key × D)} {k : Key} : getS (.dK xs) (.kK k) = getA xs k := rfl
@[simp] theorem setSt_tup {xs : List D} {n : Nat} {x : D} : setSt (.tup xs) (.ix n) x = .tup (xs.set n x) := rfl
@[simp] theorem setSt_lst {xs : List D} {n : Nat} {x : D} : setSt (.lst xs) (.ix n) x = .lst (xs.set n x) := rfl
@[simp] theorem setSt_dT {xs : List (List Key × D)} {k : List Key} {x : D} : setSt (.dT xs) (.kT k) x = .dT (setA xs k x) := rfl
@[simp] theorem setSt_dK {xs : List (Key × D)} {k : Key} {x : D} : setSt (.dK xs) (.kK k) x = .dK (setA xs k x) := rfl
@[simp] theorem stpOf_lst {xs : List D} {i : Int} : stpOf (.lst xs) (.int i) = (ixN xs.length i).map .ix := rfl
@[simp] theorem stpOf_tup {xs : List D} {i : Int} : stpOf (.tup xs) (.int i) = (ixN xs.length i).map .ix := rfl
@[simp] theorem s_asgM {h : DL.Env → Res (DL.Env × D)} : sAsgM j h ρ = (match h ρ with | .ok (ρ', d) => .nx (ρ'.set j (some d)) | _ => .no) := rfl
@[simp] theorem s_unpM {h : DL.Env → Res (DL.Env × D)} {is : List Nat} {ks : D → Res (List D)} : sUnpM is ks h ρ = (match h ρ with | .ok (ρ', d) => (match ks d with | .ok l => .nx (setE ρ' is l) | _ => .no) | _ => .no) := rfl
@[simp] theorem s_putM {own : Owns} {h : DL.Env → Res (DL.Env × D)} : sPutM own j h g ρ = if hasE ρ j = true then andThen (g (maskE own ρ)) ρ fun d => (match h ρ with | .ok (ρ', k) => if hasE ρ' j = true then putO ρ' j k d else .no | _ => .no) else .no := rfl
@[simp] theorem fPop_eq {own : Owns} : fPop own j ρ = (match ρ[j]? with | some (some (.lst ds)) => (match ds.getLast? with | some d => if own.lookup j = some .sh ∨ imm d = true then .ok (ρ.set j (some (.lst ds.dropLast)), d) else .no | none => .no) | _ => .no) := rfl
@[simp] theorem e_aoOwn {h : DL.Env → Res (List D)} : aoOwn j h ρ = (match ρ[j]? with | some (some d) => (noEx (h ρ)).thn fun xs => .ok (d :: xs) | _ => .no) := rfl
@[simp] theorem e_aoImm {h : DL.Env → Res (List D)} : aoImm f h ρ = (noEx (f ρ)).thn fun x => if imm x = true then (noEx (h ρ)).thn fun xs => .ok (x :: xs) else .no := rfl
@[simp] theorem s_retTO {h : DL.Env → Res (List D)} : sRetTO h ρ = (match h ρ with | .ok xs => if xs.length ≤ sizeLine then .rt (.tup xs) else .no | _ => .no) := rfl
@[simp] theorem cutA_to1 {α : Type} (xs : List α) : cutA xs none (some 1) = xs.take 1 := cutA_to xs 1
@[simp] theorem cutA_to2 {α : Type} (xs : List α) : cutA xs none (some 2) = xs.take 2 := cutA_to xs 2
@[simp] theorem cutA_to3 {α : Type} (xs : List α) : cutA xs none (some 3) = xs.take 3 := cutA_to xs 3
@[simp] theorem cutA_to4 {α : Type} (xs : List α) : cutA xs none (some 4) = xs.take 4 := cutA_to xs 4
@[simp] theorem cutA_to5 {α : Type} (xs : List α) : cutA xs none (some 5) = xs.take 5 := cutA_to xs 5
@[simp] theorem cutA_to6 {α : Type} (xs : List α) : cutA xs none (some 6) = xs.take 6 := cutA_to xs 6
@[simp] theorem cutA_to60 {α : Type} (xs : List α) : cutA xs none (some 60) = xs.take 60 := cutA_to xs 60
@[simp] theorem cutA_from1 {α : Type} (xs : List α) : cutA xs (some 1) none = xs.drop 1 := cutA_from xs 1
@[simp] theorem cutA_from2 {α : Type} (xs : List α) : cutA xs (some 2) none = xs.drop 2 := cutA_from xs 2
@[simp] theorem cutA_from3 {α : Type} (xs : List α) : cutA xs (some 3) none = xs.drop 3 := cutA_from xs 3
@[simp] theorem cutA_from4 {α : Type} (xs : List α) : cutA xs (some 4) none = xs.drop 4 := cutA_from xs 4
@[simp] theorem cutA_mid4_64 {α : Type} (xs : List α) : cutA xs (some 4) (some 64) = (xs.drop 4).take 60 := cutA_mid xs 4 64
@[simp] theorem cutA_mid2_26 {α : Type} (xs : List α) : cutA xs (some 2) (some 26) = (xs.drop 2).take 24 := cutA_mid xs 2 26
@[simp] theorem cutA_mid2_102 {α : Type} (xs : List α) : cutA xs (some 2) (some 102) = (xs.drop 2).take 100 := cutA_mid xs 2 102
@[simp] theorem cutA_mid2_62 {α : Type} (xs : List α) : cutA xs (some 2) (some 62) = (xs.drop 2).take 60 := cutA_mid xs 2 62
@[simp] theorem c_all_nil : c_all [.lst []] = .ok (.bl true) := rfl
@[simp] theorem c_all_cons (b : Bool) (xs : List D) : c_all [.lst (.bl b :: xs)] = (c_all [.lst xs]).thn fun r => (bOf r).thn fun c => .ok (.bl (b && c)) := by
  unfold c_all
  simp only [boolsOf]
  cases boolsOf xs with
  | none => rfl
  | some bs => rfl
def stepR (d1 : D) (p : List Stp) (c : D) : Option Stp → Res (D × List Stp)
  | some s => if (getS c s).isSome = true then .ok (d1, p ++ [s]) else .no
  | none => .no
@[simp] theorem stepR_some {d1 c : D} {p : List Stp} {s : Stp} : stepR d1 p c (some s) = if (getS c s).isSome = true then .ok (d1, p ++ [s]) else .no := rfl
def stepC (d1 : D) (p : List Stp) (k : D) : Option D → Res (D × List Stp)
  | some c => stepR d1 p c (stpOf c k)
  | none => .no
@[simp] theorem stepC_some {d1 c k : D} {p : List Stp} : stepC d1 p k (some c) = stepR d1 p c (stpOf c k) := rfl
@[simp] theorem stepTo_eq {d1 k : D} {p : List Stp} : stepTo d1 p k = stepC d1 p k (getP d1 p) := by
  unfold stepTo stepC stepR
  cases getP d1 p with
  | none => rfl
  | some c => rfl
@[simp] theorem isLstP_eq {d1 : D} {p : List Stp} : isLstP d1 p = (match getP d1 p with | some (.lst _) => true | _ => false) := rfl
@[simp] theorem isDicP_eq {d1 : D} {p : List Stp} : isDicP d1 p = (match getP d1 p with | some d => isDic d | none => false) := rfl
@[simp] theorem isDic_K {kvs} : isDic (.dK kvs) = true := rfl
@[simp] theorem isDic_T {kvs} : isDic (.dT kvs) = true := rfl
@[simp] theorem pApp_eq {j : Nat} {ρ : DL.Env} {d1 d : D} {p : List Stp} : pApp j ρ d1 p d = (match getP d1 p with | some (.lst ds) => if ds.length < sizeLine then .nx (ρ.set j (some (setP d1 p (.lst (ds ++ [d]))))) else .no | _ => .no) := rfl
@[simp] theorem pPut_eq {j : Nat} {ρ : DL.Env} {d1 k d : D} {p : List Stp} : pPut j ρ d1 p k d = (match getP d1 p with | some c => (match putAt c k d with | some c' => .nx (ρ.set j (some (setP d1 p c'))) | none => .no) | none => .no) := rfl
@[simp] theorem g_neg_int (i : Int) : g_neg (.int i) = .ok (.int (-i)) := rfl
@[simp] theorem g_and_int (i j : Int) : g_and (.int i) (.int j) = .ok (.int (Builtin.bitAnd i j)) := rfl
theorem g_shr_int {i j : Int} (h : 0 ≤ j) : g_shr (.int i) (.int j) = .ok (.int (i / 2 ^ j.toNat)) := by simp [g_shr, h]
theorem g_pow_int {i j : Int} (h : 0 ≤ j) (h2 : j ≤ 1000000) (h3 : i.natAbs < 18446744073709551616) : g_pow (.int i) (.int j) = .ok (.int (i ^ j.toNat)) := by
  have : CPow i j := ⟨h, h2, h3⟩
  simp [g_pow, this]
theorem g_mulW_int {i j : Int} (a b : Nat) (ha : i.natAbs < 2 ^ a) (hb : j.natAbs < 2 ^ b) (h0 : 0 < a) (h1 : 0 < b) (h : a + b ≤ 1000000) : g_mulW (.int i) (.int j) = .ok (.int (i * j)) := by
  have := wide_mul ha hb h0 h1 h
  simp [g_mulW, this]
@[simp] theorem ixN_lit0 (n : Nat) : ixN (n + 1) 0 = some 0 := ixN_0 n
@[simp] theorem ixN_lit1 (n : Nat) : ixN (n + 2) 1 = some 1 := by unfold ixN; simp; omega
@[simp] theorem ixN_lit2 (n : Nat) : ixN (n + 3) 2 = some 2 := by unfold ixN; simp; omega
end
end DL

/-! DM7: loops that are left early. -/
namespace DL
open PySem L2
theorem forF_stopx {α S : Type} {is fg : List Nat} {ks : D → Res (List D)} {F : DSem} {enc : α → D} {ρ : DL.Env} {o : Out} (φ : S → DL.Env) (Iv : Nat → S → Prop) (P : Out → Prop) : ∀ {xs : List α}, forF is ks F fg (xs.map enc) ρ = o → ∀ (j : Nat) (s : S) (n : Nat), Iv n s → ρ = φ s → j < xs.length →
    (∀ i s x, i < j → xs[i]? = some x → Iv (n + i) s → ∃ s2, turn is ks F fg (enc x) (φ s) = .inl (φ s2) ∧ Iv (n + i + 1) s2) → (∀ s x, xs[j]? = some x → Iv (n + j) s → ∃ o', turn is ks F fg (enc x) (φ s) = .inr o' ∧ P o') → P o
  | [], _, j, _, _, _, _, hj, _, _ => by simp at hj
  | x :: r, hF, 0, s, n, h, e, hj, hs, ht => by
    obtain ⟨o', h1, h2⟩ := ht s x rfl h
    rw [List.map_cons, forF_cons, e, h1] at hF
    simp only at hF
    rw [← hF]; exact h2
  | x :: r, hF, j + 1, s, n, h, e, hj, hs, ht => by
    obtain ⟨s2, h1, h2⟩ := hs 0 s x (by omega) rfl h
    rw [List.map_cons, forF_cons, e, h1] at hF
    exact forF_stopx φ Iv P hF j s2 (n + 1) h2 rfl (by simpa using hj) (fun i s2 x2 hi e2 iv => by
        have := hs (i + 1) s2 x2 (by omega) (by simpa using e2) (by rwa [show n + (i + 1) = n + 1 + i by omega])
        rwa [show n + (i + 1) = n + 1 + i by omega] at this) (fun s x e iv => ht s x (by simpa using e) (by rwa [show n + (j + 1) = n + 1 + j by omega]))
theorem forF_stop {α S : Type} {is fg : List Nat} {ks : D → Res (List D)} {F : DSem} {enc : α → D} {ρ : DL.Env} {o : Out} {xs : List α} (hF : forF is ks F fg (xs.map enc) ρ = o) (φ : S → DL.Env) (Iv : Nat → S → Prop) (P : Out → Prop) (j : Nat) (s : S) (h : Iv 0 s) (e : ρ = φ s) (hj : j < xs.length)
    (hs : ∀ i s x, i < j → xs[i]? = some x → Iv i s → ∃ s2, turn is ks F fg (enc x) (φ s) = .inl (φ s2) ∧ Iv (i + 1) s2) (ht : ∀ s x, xs[j]? = some x → Iv j s → ∃ o', turn is ks F fg (enc x) (φ s) = .inr o' ∧ P o') : P o :=
  forF_stopx φ Iv P hF j s 0 h e hj (fun i s x hi hx iv => by simpa using hs i s x hi hx (by simpa using iv)) (fun s x hx iv => ht s x hx (by simpa using iv))
/-- a loop that looks for the first x with p, and hands something back there -/
theorem forF_find {α : Type} {is fg : List Nat} {ks : D → Res (List D)} {F : DSem} {enc : α → D} {ρ : DL.Env} (p : α → Bool) (g : α → Out) {xs : List α} (hs : ∀ x ∈ xs, turn is ks F fg (enc x) ρ = if p x then .inr (g x) else .inl ρ) :
    forF is ks F fg (xs.map enc) ρ = match xs.find? p with | some x => g x | none => .nx ρ := by
  induction xs with
  | nil => rfl
  | cons x r ih =>
    rw [List.map_cons, forF_cons, hs x List.mem_cons_self]
    cases q : p x with
    | true => simp [List.find?_cons, q]
    | false => simp [List.find?_cons, q]; exact ih fun y hy => hs y (List.mem_cons_of_mem _ hy)
@[simp] theorem nbs_rev (n : Nat) : ∀ xs : List D, nbs n xs.reverse = nbs n xs
  | [] => rfl
  | x :: r => by rw [List.reverse_cons, nbs_app, nbs_rev n r]; simp [Bool.and_comm]
@[simp] theorem imms_rev : ∀ xs : List D, imms xs.reverse = imms xs
  | [] => rfl
  | x :: r => by rw [List.reverse_cons, imms_app, imms_rev r]; simp [Bool.and_comm]
@[simp] theorem nbs_nats (n : Nat) (xs : List Nat) : nbs n (xs.map fun (k : Nat) => D.int (k : Int)) = true := nbs_map (fun x => nb_int n _) xs
@[simp] theorem imms_nats (xs : List Nat) : imms (xs.map fun (k : Nat) => D.int (k : Int)) = true := imms_map (fun x => imm_int _) xs
@[simp] theorem gm_int {i j : Int} (h : 0 < j) : g_mod (.int i) (.int j) = .ok (.int (i % j)) := g_mod_int h
@[simp] theorem gd_int {i j : Int} (h : 0 < j) (h2 : j < 18446744073709551616) : g_fdiv (.int i) (.int j) = .ok (.int (i / j)) := g_fdiv_int h h2
@[simp] theorem gx_int {i j : Int} (h : (-18446744073709551616 < i ∧ i < 18446744073709551616) ∨ (-18446744073709551616 < j ∧ j < 18446744073709551616)) : g_mul (.int i) (.int j) = .ok (.int (i * j)) := g_mul_int h
@[simp] theorem g_isN_eq (x : D) : g_isN x .non = .ok (.bl (nonD x)) := by cases x <;> rfl
@[simp] theorem g_notN_eq (x : D) : g_notN x .non = .ok (.bl (!nonD x)) := by cases x <;> rfl
@[simp] theorem nonD_non : nonD .non = true := rfl
@[simp] theorem nonD_int (i : Int) : nonD (.int i) = false := rfl
@[simp] theorem nonD_tup (i : List D) : nonD (.tup i) = false := rfl
@[simp] theorem nonD_lst (i : List D) : nonD (.lst i) = false := rfl
@[simp] theorem nonD_str (i : Str) : nonD (.str i) = false := rfl
@[simp] theorem nonD_bl (i : Bool) : nonD (.bl i) = false := rfl
theorem rng2_ok {i j : Int} (h0 : -4611686018427387904 ≤ i) (h : i < 4611686018427387904) (h1 : -4611686018427387904 ≤ j) (h2 : j < 4611686018427387904) : rng2 (.int i) (.int j) = .ok (rangeD i (j - i).toNat) := by
  show (if -(2 ^ 62) ≤ i ∧ i < 2 ^ 62 ∧ -(2 ^ 62) ≤ j ∧ j < 2 ^ 62 then Res.ok (rangeD i (j - i).toNat) else Res.no) = _
  rw [if_pos ⟨by omega, by omega, by omega, by omega⟩]
/-- range(a, b) of numbers from nought on -/
theorem rng2_nat {a b : Nat} (ha : a < 1000000) (hb : b < 1000000) : rng2 (.int (a : Int)) (.int (b : Int)) = .ok ((List.range' a (b - a)).map fun (j : Nat) => D.int (j : Int)) := by
  rw [rng2_ok (by omega) (by omega) (by omega) (by omega)]
  congr 1
  unfold rangeD
  rw [show ((b : Int) - (a : Int)).toNat = b - a by omega, List.range'_eq_map_range, List.map_map]
  apply List.map_congr_left
  intro x _
  simp
end DL

/-! DM8: texts; try with a name. -/
namespace DL
open PySem L2
@[simp] theorem nb_str (n : Nat) (s : Str) : nb n (.str s) = PyData.strOk s := by unfold nb; rfl
theorem str_inj {a b : Str} : D.str a = D.str b ↔ a = b := ⟨fun h => by injection h, fun h => by rw [h]⟩
theorem g_eq_lit {a b : Str} (h : PyData.strOk a = true) (h2 : PyData.strOk b = true) : g_eq (.str a) (.str b) = .ok (.bl (decide (a = b))) := by
  rw [g_eq_S (by rw [nb_str]; exact h) (by rw [nb_str]; exact h2)]
  by_cases e : a = b
  · subst e; simp
  · have : ¬ D.str a = D.str b := fun q => e (str_inj.mp q)
    simp [e, this]
def asK (i : Nat) (l : List (Str × DSem)) : Out → Out
  | .ex c ρ' => (match l.lookup c with
    | some F2 => if i < ρ'.length then noExO (match F2 (ρ'.set i none) with | .nx ρ'' => .nx (ρ''.set i none) | o => o) else .no
    | none => .no)
  | o => o
@[simp] theorem s_tryAs {i : Nat} {F : DSem} {l : List (Str × DSem)} {ρ : DL.Env} : sTryAs i F l ρ = asK i l (F ρ) := by unfold sTryAs asK; rfl
@[simp] theorem asK_nx {i : Nat} {l : List (Str × DSem)} {ρ : DL.Env} : asK i l (.nx ρ) = .nx ρ := rfl
@[simp] theorem asK_rt {i : Nat} {l : List (Str × DSem)} {d : D} : asK i l (.rt d) = .rt d := rfl
def asB (i : Nat) (ρ' : DL.Env) : Option DSem → Out
  | some F2 => if i < ρ'.length then noExO (match F2 (ρ'.set i none) with | .nx ρ'' => .nx (ρ''.set i none) | o => o) else .no
  | none => .no
@[simp] theorem asK_ex {i : Nat} {l : List (Str × DSem)} {c : Str} {ρ : DL.Env} : asK i l (.ex c ρ) = asB i ρ (l.lookup c) := by unfold asK asB; rfl
@[simp] theorem asB_some {i : Nat} {F2 : DSem} {ρ' : DL.Env} : asB i ρ' (some F2) = if i < ρ'.length then noExO (match F2 (ρ'.set i none) with | .nx ρ'' => .nx (ρ''.set i none) | o => o) else .no := rfl
@[simp] theorem c_int_int (i : Int) : c_int [.int i] = .ok (.int i) := rfl
@[simp] theorem c_int_bl (b : Bool) : c_int [.bl b] = .ok (.int (if b then 1 else 0)) := rfl
theorem bools_true : ∀ {α : Type} (xs : List α), boolsOf (xs.map fun _ => D.bl true) = some (xs.map fun _ => true)
  | _, [] => rfl
  | _, x :: r => by rw [List.map_cons]; unfold boolsOf; rw [bools_true r]; rfl
theorem all_true {α : Type} : ∀ (xs : List α), (xs.map fun _ => true).all id = true
  | [] => rfl
  | x :: r => by simp
@[simp] theorem c_all_trues {α : Type} (xs : List α) : c_all [.lst (xs.map fun _ => D.bl true)] = .ok (.bl true) := by
  unfold c_all; simp only [bools_true, all_true]
end DL

/-! DM9: sorted(set(xs)), list(d), dicts: equations. -/
namespace DL
open PySem L2
theorem intsOf_map : ∀ xs : List Int, intsOf (xs.map D.int) = some xs
  | [] => rfl
  | x :: r => by rw [List.map_cons]; unfold intsOf; rw [intsOf_map r]
theorem tupsOf_map {α : Type} (f : α → List Int) : ∀ xs : List α, tupsOf (xs.map fun x => tupD (f x)) = some (xs.map f)
  | [] => rfl
  | x :: r => by
    rw [List.map_cons]
    unfold tupsOf tupD
    simp only [intsOf_map]
    have := tupsOf_map f r
    unfold tupD at this
    rw [this]
    rfl
theorem g_sset_ok {ks : List (List Int)} (h : ks.length < 64) (d : Nat) (hd : 1 ≤ d) (h2 : ∀ k ∈ ks, k.length = d ∧ ∀ i ∈ k, 0 ≤ i) : g_sset (.lst (ks.map tupD)) = .ok (.lst ((sset ks).map tupD)) := by
  unfold g_sset
  have e := tupsOf_map (fun k => k) ks
  rw [List.map_id'] at e
  simp only [e]
  have : tupOk ks = true := by
    unfold tupOk
    simp only [Bool.and_eq_true, decide_eq_true_eq, List.all_eq_true]
    refine ⟨h, fun k hk => ⟨⟨by rw [(h2 k hk).1]; exact hd, ?_⟩, fun i hi => (h2 k hk).2 i hi⟩⟩
    cases ks with
    | nil => cases hk
    | cons k0 r => rw [(h2 k hk).1]; exact (h2 k0 List.mem_cons_self).1.symm
  rw [if_pos this]
@[simp] theorem e_nListK {f : DL.Env → Res D} {ρ : DL.Env} : nListK f ρ = (f ρ).thn keysK := rfl
@[simp] theorem e_nListT {f : DL.Env → Res D} {ρ : DL.Env} : nListT f ρ = (f ρ).thn keysT := rfl
@[simp] theorem keysK_eq {kvs} : keysK (.dK kvs) = .ok ((kvs.map (·.1)).map kD) := rfl
@[simp] theorem keysT_eq {kvs} : keysT (.dT kvs) = .ok ((kvs.map (·.1)).map fun k => .tup (k.map kD)) := rfl
theorem g_ne_bl (a b : Bool) : g_ne (.bl a) (.bl b) = .ok (.bl (a != b)) := by cases a <;> cases b <;> rfl
theorem g_eq_bl (a b : Bool) : g_eq (.bl a) (.bl b) = .ok (.bl (a == b)) := by cases a <;> cases b <;> rfl
theorem sset_len (xs : List (List Int)) : (sset xs).length ≤ xs.length := by
  have ins : ∀ (x : List Int) (ys : List (List Int)), (insL x ys).length ≤ ys.length + 1 := fun x ys => by
    induction ys with
    | nil => simp [insL]
    | cons y r ih =>
      unfold insL
      split
      · simp
      · split
        · simp
        · simp; omega
  induction xs with
  | nil => simp [sset]
  | cons x r ih =>
    show (insL x (sset r)).length ≤ _
    have := ins x (sset r)
    simp; omega
end DL

/-! DM10: d.setdefault(k, []).append(x). -/
namespace DL
open PySem L2
section
variable {κ : Type} [DecidableEq κ]
theorem getA_set (kvs : List (κ × D)) (k j : κ) (v : D) : getA (setA kvs k v) j = if j = k then (getA kvs k).map (fun _ => v) else getA kvs j := by
  induction kvs with
  | nil => by_cases h : j = k <;> simp [setA, getA_nil, h]
  | cons kv r ih =>
    obtain ⟨k', x⟩ := kv
    unfold setA
    by_cases h : k' = k
    · subst h
      rw [if_pos rfl, getA_cons, getA_cons, getA_cons, if_pos rfl]
      by_cases hj : j = k'
      · subst hj; simp
      · rw [if_neg (Ne.symm hj), if_neg hj, if_neg (Ne.symm hj)]
    · rw [if_neg h, getA_cons, getA_cons, ih, getA_cons, if_neg h]
      by_cases hj : j = k
      · subst hj; rw [if_neg h, if_pos rfl]; simp
      · rw [if_neg hj]; simp [hj]
theorem setA_len (kvs : List (κ × D)) (k : κ) (v : D) : (setA kvs k v).length = kvs.length := by
  induction kvs with
  | nil => rfl
  | cons kv r ih => obtain ⟨k', x⟩ := kv; unfold setA; split <;> simp [ih]
theorem putA_len (kvs : List (κ × D)) (k : κ) (v : D) : (putA kvs k v).length ≤ kvs.length + 1 := by
  unfold putA; split <;> simp
def appA (kvs : List (κ × D)) (k : κ) (d : D) : List (κ × D) := match getA kvs k with
  | some (.lst ds) => setA kvs k (.lst (ds ++ [d]))
  | some _ => kvs
  | none => setA (putA kvs k (.lst [])) k (.lst ([] ++ [d]))
theorem appA_len (kvs : List (κ × D)) (k : κ) (d : D) : (appA kvs k d).length ≤ kvs.length + 1 := by
  unfold appA
  split
  · rw [setA_len]; omega
  · omega
  · rw [setA_len]; exact putA_len _ _ _
/-- what the lists hold, told of each key -/
def Lists (kvs : List (κ × D)) (L : κ → List D) : Prop := ∀ k, getA kvs k = if L k = [] then none else some (.lst (L k))
theorem lists_nil : Lists ([] : List (κ × D)) fun _ => [] := fun k => by simp [getA_nil]
theorem Lists.app {kvs : List (κ × D)} {L : κ → List D} (h : Lists kvs L) (k : κ) (d : D) : Lists (appA kvs k d) fun j => if j = k then L k ++ [d] else L j := fun j => by
  unfold appA
  have hk := h k
  by_cases e : L k = []
  · rw [if_pos e] at hk
    simp only [hk]
    rw [getA_set, getA_put]
    by_cases hj : j = k
    · subst hj
      rw [getA_put]; simp [e]
    · have := h j
      simp [hj, this, getA_put]
  · rw [if_neg e] at hk
    simp only [hk]
    rw [getA_set]
    by_cases hj : j = k
    · subst hj; rw [if_pos rfl, hk]; simp
    · have := h j
      simp [hj, this]
end
def sdR (d1 y : D) (p : List Stp) (s : Stp) : Option D → Res (D × List Stp)
  | some _ => .ok (d1, p ++ [s])
  | none => .ok (y, p ++ [s])
@[simp] theorem sdR_some {d1 y x : D} {p : List Stp} {s : Stp} : sdR d1 y p s (some x) = .ok (d1, p ++ [s]) := rfl
@[simp] theorem sdR_none {d1 y : D} {p : List Stp} {s : Stp} : sdR d1 y p s none = .ok (y, p ++ [s]) := rfl
theorem setdTo_T {d1 : D} {p : List Stp} {ks : List D} {kk : List Key} {x : D} {kvs : List (List Key × D)} (h : getP d1 p = some (.dT kvs)) (hk : keysD ks = some kk) : setdTo d1 p (.tup ks) x =
    if kvs.length < sizeLine then sdR d1 (setP d1 p (.dT (putA kvs kk x))) p (.kT kk) (getA kvs kk) else .no := by
  unfold setdTo sdR; simp only [h, hk] <;> rfl
theorem setdTo_K {d1 : D} {p : List Stp} {k : D} {kk : Key} {x : D} {kvs : List (Key × D)} (h : getP d1 p = some (.dK kvs)) (hk : keyD k = some kk) : setdTo d1 p k x =
    if kvs.length < sizeLine then sdR d1 (setP d1 p (.dK (putA kvs kk x))) p (.kK kk) (getA kvs kk) else .no := by
  unfold setdTo sdR; simp only [h, hk] <;> rfl
theorem s_sdapp {ρ : DL.Env} {j : Nat} {f g : DL.Env → Res D} {kvs : List (List Key × D)} {ks : List D} {kk : List Key} {d : D} {L : List Key → List D} (hL : Lists kvs L) (hj : ρ[j]? = some (some (.dT kvs))) (hf : f (ρ.set j (some (.dT kvs))) = .ok (.tup ks)) (hk : keysD ks = some kk)
    (hg : ∀ k2, g (ρ.set j (some (.dT k2))) = .ok d) (hi : imm d = true) (hl : kvs.length < 16777216) (hl2 : (L kk).length < 16777216) :
    sPAppI j (pSetd j (pName j) f (vLstI (nLst aNil))) g ρ = .nx (ρ.set j (some (.dT (appA kvs kk d)))) := by
  have hs : ∀ x, (ρ.set j x)[j]? = some x := fun x => List.getElem?_set_self (List.getElem?_eq_some_iff.mp hj).1
  have h := hL kk
  unfold appA
  by_cases e : L kk = []
  · rw [if_pos e] at h
    simp -implicitDefEqProofs [hj, noEx, hf, setdTo_T (d1 := .dT kvs) (p := []) (x := .lst []) rfl hk, hl, h, hg, hi, getA_put]
  · rw [if_neg e] at h
    simp -implicitDefEqProofs [hj, noEx, hf, setdTo_T (d1 := .dT kvs) (p := []) (x := .lst []) rfl hk, hl, h, hg, hi, hl2]
end DL

/-! DM11: dicts of truths as lists of keys. -/
namespace DL
open PySem L2
theorem turn_nx {is fg : List Nat} {ks : D → Res (List D)} {F : DSem} {d : D} {l : List D} {ρ ρ' : DL.Env} (h1 : ks d = .ok l) (h2 : F (setE ρ is l) = .nx ρ') : turn is ks F fg d ρ = .inl (forget ρ' fg) := by
  unfold turn; rw [h1]; simp only [h2]
theorem nodup_len {α : Type} [DecidableEq α] : ∀ {l m : List α}, l.Nodup → (∀ x ∈ l, x ∈ m) → l.length ≤ m.length
  | [], _, _, _ => Nat.zero_le _
  | x :: l, m, hn, hs => by
    obtain ⟨h1, h2⟩ := List.nodup_cons.mp hn
    have hx : x ∈ m := hs x List.mem_cons_self
    have ih := nodup_len (l := l) (m := m.erase x) h2 fun y hy => by
      have hne : y ≠ x := fun e => h1 (e ▸ hy)
      exact (List.mem_erase_of_ne hne).2 (hs y (List.mem_cons_of_mem _ hy))
    have e := List.length_erase_of_mem hx
    have hp : 0 < m.length := List.length_pos_of_mem hx
    simp only [List.length_cons]
    omega
section
variable {α : Type} [DecidableEq α]
def addK (ks : List α) (k : α) : List α := if k ∈ ks then ks else ks ++ [k]
theorem mem_addK {ks : List α} {k x : α} : x ∈ addK ks k ↔ x ∈ ks ∨ x = k := by
  unfold addK
  split
  · rename_i h
    constructor
    · exact .inl
    · rintro (h2 | rfl)
      · exact h2
      · exact h
  · simp
theorem nodup_addK {ks : List α} {k : α} (h : ks.Nodup) : (addK ks k).Nodup := by
  unfold addK
  split
  · exact h
  · rename_i hk
    rw [List.nodup_append]
    exact ⟨h, by simp, fun a ha b hb => by simp at hb; subst hb; exact fun e => hk (e ▸ ha)⟩
end
/-- a dict from the keys to one value -/
def dicA {κ α : Type} (f : α → κ) (v : D) (ks : List α) : List (κ × D) := ks.map fun k => (f k, v)
section
variable {κ α : Type} [DecidableEq κ] [DecidableEq α] {f : α → κ} {v : D}
theorem any_dicA (hf : ∀ a b, f a = f b → a = b) (ks : List α) (k : α) : ((dicA f v ks).any fun kv => decide (kv.1 = f k)) = decide (k ∈ ks) := by
  induction ks with
  | nil => simp [dicA]
  | cons x r ih =>
    unfold dicA at ih ⊢
    rw [List.map_cons, List.any_cons, ih]
    by_cases h : x = k
    · subst h; simp
    · have : ¬ f x = f k := fun e => h (hf _ _ e)
      simp [this, Ne.symm h]
theorem getA_dicA (hf : ∀ a b, f a = f b → a = b) (ks : List α) (k : α) : (getA (dicA f v ks) (f k)).isSome = decide (k ∈ ks) := by
  rw [getA_isSome, any_dicA hf]
theorem putA_dicA (hf : ∀ a b, f a = f b → a = b) (ks : List α) (k : α) : putA (dicA f v ks) (f k) v = dicA f v (addK ks k) := by
  unfold putA addK
  rw [any_dicA hf]
  by_cases h : k ∈ ks
  · rw [if_pos (by simpa using h), if_pos h]
    unfold dicA
    rw [List.map_map]
    apply List.map_congr_left
    intro x _
    simp only [Function.comp]
    split <;> rfl
  · rw [if_neg (by simpa using h), if_neg h]
    simp [dicA]
end
theorem dicA_len {κ α : Type} (f : α → κ) (v : D) (ks : List α) : (dicA f v ks).length = ks.length := by simp [dicA]
theorem inl_inj : ∀ a b : Int, (Sum.inl a : Key) = Sum.inl b → a = b := fun _ _ e => by injection e
def k2 (p : Int × Int) : List Key := [.inl p.1, .inl p.2]
theorem k2_inj : ∀ a b : Int × Int, k2 a = k2 b → a = b := fun a b e => by
  unfold k2 at e
  injection e with e1 e2
  injection e2 with e2 _
  injection e1 with e1
  injection e2 with e2
  exact Prod.ext e1 e2
def k3 (p : Int × Int × Int) : List Key := [.inl p.1, .inl p.2.1, .inl p.2.2]
theorem k3_inj : ∀ a b : Int × Int × Int, k3 a = k3 b → a = b := fun a b e => by
  unfold k3 at e
  injection e with e1 e2
  injection e2 with e2 e3
  injection e3 with e3 _
  injection e1 with e1
  injection e2 with e2
  injection e3 with e3
  exact Prod.ext e1 (Prod.ext e2 e3)
/-- {i: True, ..} -/
def eKS (ks : List Int) : D := .dK (dicA (Sum.inl : Int → Key) (.bl true) ks)
theorem eKS_nil : D.dK [] = eKS [] := rfl
theorem eKS_put {ks : List Int} {k : Int} (h : ks.length < 16777216) : putD (eKS ks) (.int k) (.bl true) = .ok (eKS (addK ks k)) := by
  unfold eKS
  rw [putD_dK (kk := .inl k) rfl, if_pos (by rw [dicA_len]; exact h), putA_dicA inl_inj]
@[simp] theorem eKS_in (ks : List Int) (k : Int) : inD (.int k) (eKS ks) = .ok (decide (k ∈ ks)) := by
  unfold eKS
  rw [inD_dK (kk := .inl k) rfl, getA_dicA inl_inj]
@[simp] theorem eKS_keys (ks : List Int) : keysK (eKS ks) = .ok (ks.map D.int) := by
  unfold eKS
  rw [keysK_eq]
  unfold dicA
  rw [List.map_map, List.map_map]
  rfl
end DL

/-! DM12: sorted(set(..)) of a list of encodings. -/
namespace DL
open PySem L2
theorem unmap {α β : Type} (f : α → β) : ∀ {ys : List β}, (∀ y ∈ ys, ∃ x, f x = y) → ∃ xs : List α, ys = xs.map f
  | [], _ => ⟨[], rfl⟩
  | y :: r, h => by
    obtain ⟨x, e⟩ := h y List.mem_cons_self
    obtain ⟨xs, e2⟩ := unmap f (ys := r) fun z hz => h z (List.mem_cons_of_mem _ hz)
    exact ⟨x :: xs, by rw [List.map_cons, e, ← e2]⟩
theorem sset_enc {α : Type} (l : α → List Int) (enc : α → D) (he : ∀ a, enc a = tupD (l a)) (hi : ∀ a b, l a = l b → a = b) {xs : List α} (h : xs.length < 64) (d : Nat) (hd : 1 ≤ d) (h2 : ∀ a ∈ xs, (l a).length = d ∧ ∀ i ∈ l a, 0 ≤ i) :
    ∃ ys : List α, g_sset (.lst (xs.map enc)) = .ok (.lst (ys.map enc)) ∧ ys.length ≤ xs.length ∧ (∀ a, a ∈ ys ↔ a ∈ xs) ∧ LexS (ys.map l) := by
  have e1 : xs.map enc = (xs.map l).map tupD := by
    rw [List.map_map]; exact List.map_congr_left fun a _ => he a
  obtain ⟨ys, hy⟩ := unmap l (ys := sset (xs.map l)) fun y hy => by
    obtain ⟨x, _, e⟩ := List.mem_map.mp (mem_sset.mp hy)
    exact ⟨x, e⟩
  refine ⟨ys, ?_, ?_, fun a => ?_, ?_⟩
  · rw [e1, g_sset_ok (by simpa using h) d hd (fun k hk => by
      obtain ⟨x, hx, e⟩ := List.mem_map.mp hk
      rw [← e]; exact h2 x hx), hy, List.map_map]
    congr 2
    exact List.map_congr_left fun a _ => (he a).symm
  · have := sset_len (xs.map l)
    rw [hy] at this
    simpa using this
  · have := mem_sset (z := l a) (xs := xs.map l)
    rw [hy, List.mem_map, List.mem_map] at this
    constructor
    · intro h
      obtain ⟨x, hx, e⟩ := this.mp ⟨a, h, rfl⟩
      rwa [← hi _ _ e]
    · intro h
      obtain ⟨x, hx, e⟩ := this.mpr ⟨a, h, rfl⟩
      rwa [← hi _ _ e]
  · rw [← hy]; exact lexS_sset _
end DL

/-! DM13: chains, += : equations. -/
namespace DL
open PySem L2
section
variable {ρ : DL.Env} {f g h : DL.Env → Res D} {p p' : Int → Int → Bool} {j : Nat}
def chK (p' : Int → Int → Bool) (h : DL.Env → Res D) (ρ : DL.Env) (y : D) (b : Bool) : Res D := if b = true then (h ρ).thn fun w => gI p' y w else .ok (.bl false)
@[simp] theorem chK_t {y : D} : chK p' h ρ y true = (h ρ).thn fun w => gI p' y w := rfl
@[simp] theorem chK_f {y : D} : chK p' h ρ y false = .ok (.bl false) := rfl
@[simp] theorem e_chain : vChain (gI p) (gI p') f g h ρ = (f ρ).thn fun x => (g ρ).thn fun y => (gI p x y).thn fun z => (bOf z).thn fun b => chK p' h ρ y b := rfl
@[simp] theorem chK_dec {c : Prop} [Decidable c] {k : Int} {y : Int} (hh : h ρ = .ok (.int k)) : chK p' h ρ (.int y) (decide c) = .ok (.bl (decide c && p' y k)) := by
  by_cases q : c
  · simp [q, hh]
  · simp [q]
@[simp] theorem augR_int {i : Int} : augR j f ρ (some (some (.int i))) = andThen (f ρ) ρ (augK i ρ j) := rfl
@[simp] theorem augK_int {i k : Int} : augK i ρ j (.int k) = .nx (ρ.set j (some (.int (i + k)))) := rfl
@[simp] theorem s_aug : sAug j f ρ = augR j f ρ ρ[j]? := rfl
end
end DL
namespace DL
@[simp] theorem e_zip2 {ρ : DL.Env} {f g : DL.Env → Res D} : iZip2 f g ρ = (f ρ).thn fun x => (g ρ).thn fun y => zipR x y := rfl
@[simp] theorem zipR_l (xs ys : List D) : zipR (.lst xs) (.lst ys) = .ok (zipD xs ys) := rfl
@[simp] theorem zipR_t (xs ys : List D) : zipR (.tup xs) (.tup ys) = .ok (zipD xs ys) := rfl
end DL

/-! DM14: texts as lists of code points. -/
namespace DL
open PySem L2
@[simp] theorem ixl2 (x y z : D) (r : List D) : g_ix (.lst (x :: y :: z :: r)) (.int 2) = .ok z := g_ix_nat (x :: y :: z :: r) 2 (by simp)
def tx (l : List Nat) : D := .str ⟨l.toArray⟩
theorem tx_lit {s : Str} (l : List Nat) (h : s = ⟨l.toArray⟩) : D.str s = tx l := by rw [h]; rfl
theorem tx_inj {a b : List Nat} : tx a = tx b ↔ a = b := by
  unfold tx
  constructor
  · intro h
    injection h with h
    injection h with h
    simpa using h
  · intro h; rw [h]
def asc (l : List Nat) : Prop := ∀ c ∈ l, c < 128
theorem tx_nb {l : List Nat} (n : Nat) (h : asc l) : nb n (tx l) = true := by
  unfold tx
  rw [nb_str]
  unfold PyData.strOk
  rw [Array.all_eq_true']
  intro c hc
  have := h c (by simpa using hc)
  simp; omega
@[simp] theorem imm_tx (l : List Nat) : imm (tx l) = true := rfl
theorem g_add_tx {a b : List Nat} (h : a.length + b.length ≤ 16777216) : g_add (tx a) (tx b) = .ok (tx (a ++ b)) := by
  unfold tx
  rw [g_add_str, if_pos (by simpa [Str.length] using h)]
  have : (⟨a.toArray⟩ : Str) ++ ⟨b.toArray⟩ = ⟨(a ++ b).toArray⟩ := by
    show Str.append _ _ = _
    unfold Str.append
    simp
  rw [this]
theorem g_sl_tx {a : List Nat} (h : a.length ≤ 16777216) (lo hi : Option Int) : g_sl (tx a) lo hi = .ok (tx (cutA a lo hi)) := by
  unfold tx
  show (if (⟨a.toArray⟩ : Str).length ≤ sizeLine then Res.ok (D.str (cutS ⟨a.toArray⟩ lo hi)) else .no) = _
  rw [if_pos (by simpa [Str.length] using h)]
  unfold cutS cutA
  simp [Str.length]
theorem g_ix_tx {a : List Nat} (h : a.length ≤ 16777216) {i : Int} (h0 : 0 ≤ i) (h1 : i < a.length) : g_ix (tx a) (.int i) = .ok (tx [a[i.toNat]'(by omega)]) := by
  obtain ⟨k, rfl⟩ := Int.eq_ofNat_of_zero_le h0
  unfold tx
  show (if (⟨a.toArray⟩ : Str).length ≤ sizeLine then (match atI (a.toArray).toList (k : Int) with | some c => Res.ok (D.str ⟨#[c]⟩) | none => .no) else .no) = _
  rw [if_pos (by simpa [Str.length] using h)]
  have : atI (a.toArray).toList (k : Int) = some (a[k]'(by omega)) := atI_nat (by simp)
  rw [this]
  rfl
theorem g_eq_tx {a b : List Nat} (h : asc a) (h2 : asc b) : g_eq (tx a) (tx b) = .ok (.bl (decide (a = b))) := by
  rw [g_eq_S (tx_nb 20 h) (tx_nb 20 h2)]
  have : (tx a = tx b) = (a = b) := propext tx_inj
  simp only [this]
theorem nbs_tx (n : Nat) {ls : List (List Nat)} (h : ∀ l ∈ ls, asc l) : nbs n (ls.map tx) = true := nbs_map' fun l hl => tx_nb n (h l hl)
theorem mem_tx {a : List Nat} {ls : List (List Nat)} : tx a ∈ ls.map tx ↔ a ∈ ls := by
  rw [List.mem_map]
  constructor
  · rintro ⟨b, h, e⟩; rwa [← tx_inj.mp e]
  · intro h; exact ⟨a, h, rfl⟩
theorem g_in_tx {a : List Nat} {ls : List (List Nat)} (h : asc a) (h2 : ∀ l ∈ ls, asc l) : g_in (tx a) (.lst (ls.map tx)) = .ok (.bl (decide (a ∈ ls))) := by
  rw [g_in_eq, inD_lst (tx_nb 19 h) (nbs_tx 19 h2), thn_ok]
  have : (tx a ∈ ls.map tx) = (a ∈ ls) := propext mem_tx
  simp only [this]
theorem g_notin_tx {a : List Nat} {ls : List (List Nat)} (h : asc a) (h2 : ∀ l ∈ ls, asc l) : g_notin (tx a) (.lst (ls.map tx)) = .ok (.bl (!decide (a ∈ ls))) := by
  rw [g_notin_eq, inD_lst (tx_nb 19 h) (nbs_tx 19 h2), thn_ok]
  have : (tx a ∈ ls.map tx) = (a ∈ ls) := propext mem_tx
  simp only [this]
@[simp] theorem isi_str_tx (l : List Nat) : g_isi "str" (tx l) = .ok (.bl true) := isi_str_str _
@[simp] theorem isi_int_tx (l : List Nat) : g_isi "int" (tx l) = .ok (.bl false) := isi_int_str _
end DL

/-! DM15: walks over items, in-out defs: equations. -/
namespace DL
open PySem L2
section
variable {ρ : DL.Env} {own : Owns} {f : DL.Env → Res D} {is fg : List Nat} {ks : D → Res (List D)} {F F1 F2 : DSem} {i j n r : Nat} {fa : DL.Env → Res (List D)} {d0 d1 d c : D} {p : List Stp} {A1 A2 : ASem}
@[simp] theorem itemsOf_dK (kvs : List (Key × D)) : itemsOf (.dK kvs) = .ok (kvs.map fun kv => .tup [kD kv.1, kv.2]) := rfl
@[simp] theorem itemsOf_dT (kvs : List (List Key × D)) : itemsOf (.dT kvs) = .ok (kvs.map fun kv => .tup [.tup (kv.1.map kD), kv.2]) := rfl
@[simp] theorem itemsK_ok {ds : List D} : itemsK is fg ks F ρ (.ok ds) = nrO (forF is ks F fg ds (forget ρ fg)) := rfl
@[simp] theorem nrO_nx : nrO (.nx ρ) = .nx ρ := rfl
@[simp] theorem nrO_rt : nrO (.rt d) = .rt d := rfl
@[simp] theorem s_forI : sForI own f is ks F fg ρ = andThen (f (maskE own ρ)) ρ fun d => itemsK is fg ks F ρ (itemsOf d) := rfl
@[simp] theorem s_forF : sForF f is ks F fg ρ = andThen (f ρ) ρ (forFK is fg ks F ρ) := rfl
@[simp] theorem forFK_lst {ds : List D} : forFK is fg ks F ρ (.lst ds) = forF is ks F fg ds (forget ρ fg) := rfl
@[simp] theorem s_par : sPar own i j fa ρ = andThen (fa (maskE own ρ)) ρ (parO ρ i j) := rfl
@[simp] theorem parO_ok {x y : D} : parO ρ i j [x, y] = .nx ((ρ.set i (some x)).set j (some y)) := rfl
def ioM (k : D → D → Out) : Res (D × D) → Out
  | .ok (r, d1) => if imm r = true then k r d1 else .no
  | _ => .no
@[simp] theorem ioM_ok {k : D → D → Out} {x y : D} : ioM k (.ok (x, y)) = if imm x = true then k x y else .no := rfl
@[simp] theorem ioK_eq {m : List D → Res (D × D)} {k : D → D → Out} {ds : List D} : ioK n m d0 k ds = if imms ds = true ∧ ds.length + 1 = n then ioM k (m (d0 :: ds)) else .no := by
  unfold ioK ioM
  split
  · cases m (d0 :: ds) <;> rfl
  · rfl
@[simp] theorem ioR_some {m : List D → Res (D × D)} {k : D → DL.Env → Out} : ioR j n m fa k ρ (some (some d0)) = andThen (fa ρ) ρ (ioK n m d0 fun r d1 => k r (ρ.set j (some d1))) := rfl
@[simp] theorem s_ifIO {m : List D → Res (D × D)} : sIfIO j n m fa F1 F2 ρ = ioR j n m fa (ifIO F1 F2) ρ ρ[j]? := rfl
@[simp] theorem s_exIO {m : List D → Res (D × D)} : sExIO j n m fa ρ = ioR j n m fa (fun _ ρ => .nx ρ) ρ ρ[j]? := rfl
@[simp] theorem ifIO_bl {b : Bool} : ifIO F1 F2 (.bl b) ρ = if b = true then F1 ρ else F2 ρ := rfl
def mvM : Res D → Out
  | .ok d => .rt d
  | _ => .no
@[simp] theorem mvM_ok : mvM (.ok d) = .rt d := rfl
@[simp] theorem mvK_eq {m : List D → Res D} {ds : List D} : mvK n m d0 ds = if ds.length + 1 = n then mvM (m (d0 :: ds)) else .no := by
  unfold mvK mvM
  split
  · cases m (d0 :: ds) <;> rfl
  · rfl
@[simp] theorem mvR_some {m : List D → Res D} : mvR own n m fa ρ (some (some d0)) = andThen (fa (maskE own ρ)) ρ (mvK n m d0) := rfl
@[simp] theorem s_retMv {m : List D → Res D} : sRetMv own j n m fa ρ = mvR own n m fa ρ ρ[j]? := rfl
@[simp] theorem aThen_ok {α : Type} {a : α} {k : α → AOut} : aThen (.ok a) k = k a := rfl
def AOut.thn (o : AOut) (F : DL.Env → AOut) : AOut := match o with
  | .nx ρ => F ρ
  | o => o
@[simp] theorem athn_nx {G : DL.Env → AOut} : AOut.thn (.nx ρ) G = G ρ := rfl
@[simp] theorem athn_rt {G : DL.Env → AOut} : AOut.thn (.rt d ρ) G = .rt d ρ := rfl
@[simp] theorem a_next : aNext p ρ = .nx ρ := rfl
@[simp] theorem a_seq : aSeq A1 A2 p ρ = (A1 p ρ).thn (A2 p) := by unfold aSeq AOut.thn; cases A1 p ρ <;> rfl
@[simp] theorem a_if {fc : DL.Env → Res Bool} : aIf fc j r A1 A2 p ρ = aThen (fc (rdA j r p ρ)) fun b => if b = true then A1 p ρ else A2 p ρ := rfl
@[simp] theorem a_ret : aRet j r f p ρ = aThen (f (rdA j r p ρ)) fun d => if imm d = true then .rt d ρ else .no := rfl
@[simp] theorem a_put {fk : DL.Env → Res D} : aPut j r fk f p ρ = aThen (f (rdA j r p ρ)) fun d => if imm d = true then aThen (fk (rdA j r p ρ)) fun k => aPutK j p ρ k d else .no := rfl
theorem rdA_ok (h : ρ[j]? = some (some d1)) (h2 : getP d1 p = some c) : rdA j r p ρ = ρ.set r (some c) := by unfold rdA; rw [h]; simp only; rw [h2]
theorem aPutK_ok {k : D} {kvs : List (Key × D)} {kk : Key} (h : ρ[j]? = some (some d1)) (h2 : getP d1 p = some (.dK kvs)) (hk : keyD k = some kk) (hl : kvs.length < 16777216) : aPutK j p ρ k d = .nx (ρ.set j (some (setP d1 p (.dK (putA kvs kk d))))) := by
  unfold aPutK; rw [h]; simp only; rw [h2]; simp only; rw [hk]; simp only; exact if_pos hl
def ioRes : AOut → Res (D × D)
  | .rt d ρ => (match ρ[0]? with
    | some (some d1) => .ok (d, d1)
    | _ => .no)
  | .nx ρ => (match ρ[0]? with
    | some (some d1) => .ok (.non, d1)
    | _ => .no)
  | .no => .no
@[simp] theorem ioRes_rt {ρ : DL.Env} : ioRes (.rt d (some d1 :: ρ)) = .ok (d, d1) := rfl
@[simp] theorem runIO_eq {N : Nat} {G : DL.Env → AOut} {ds : List D} : runIO N G ds = ioRes (G (startE N ds)) := by unfold runIO ioRes; rfl
def ioSt (j r : Nat) (A : ASem) (ρ : DL.Env) : Res (D × List Stp) → AOut
  | .ok (d1, p) => if (getP d1 p).isSome = true then A p ((ρ.set j (some d1)).set r none) else .no
  | _ => .no
@[simp] theorem ioSt_ok : ioSt j r A1 ρ (.ok (d1, p)) = if (getP d1 p).isSome = true then A1 p ((ρ.set j (some d1)).set r none) else .no := rfl
@[simp] theorem ioF_eq {sel : Sel} : ioF j r sel A1 ρ = ioSt j r A1 ρ (sel ρ) := by unfold ioF ioSt; rfl
@[simp] theorem e_nListR : nListR f ρ = (f ρ).thn rgl1 := rfl
theorem rgl1_ok {i : Int} (h0 : 0 ≤ i) (h : i ≤ 16777216) : rgl1 (.int i) = .ok (rangeD 0 i.toNat) := by
  unfold rgl1
  exact if_pos ⟨by omega, by omega, by omega⟩
theorem whileF_eq {cc : DL.Env → Res Bool} {n : Nat} : whileF cc F fg (n + 1) ρ = andThen (cc ρ) ρ fun b => if b = true then (match F ρ with
      | .nx ρ' => whileF cc F fg n (forget ρ' fg)
      | .ct ρ' => whileF cc F fg n (forget ρ' fg)
      | .bk ρ' => .nx (forget ρ' fg)
      | o => o) else .nx ρ := rfl
theorem whileF_succ {cc : DL.Env → Res Bool} {n : Nat} (h : cc ρ = .ok true) {ρ' : DL.Env} (h2 : F ρ = .nx ρ') : whileF cc F fg (n + 1) ρ = whileF cc F fg n (forget ρ' fg) := by
  rw [whileF_eq, h, h2]; rfl
theorem whileF_end {cc : DL.Env → Res Bool} {n : Nat} (h : cc ρ = .ok false) : whileF cc F fg (n + 1) ρ = .nx ρ := by
  rw [whileF_eq, h]; rfl
@[simp] theorem e_callD {fn : List D → Res D} {k : Int} : vCallD n k fn fa ρ = (fa ρ).thn fun xs => if xs.length + 1 = n then fn (xs ++ [.int k]) else .no := rfl
@[simp] theorem s_contX : sCont ρ = .ct ρ := rfl
@[simp] theorem s_breakX : sBreak ρ = .bk ρ := rfl
@[simp] theorem s_while {cc : DL.Env → Res Bool} {fuel : Nat} : sWhile fuel cc F fg ρ = whileF cc F fg fuel (forget ρ fg) := rfl
end
end DL

/-! DM16: index: equations. -/
namespace DL
open PySem L2
def ixT (g : DL.Env → Res D) (ρ : DL.Env) : D → Res D
  | .lst ds => (g ρ).thn (gIdx ds)
  | _ => .no
@[simp] theorem ixT_lst {g : DL.Env → Res D} {ρ : DL.Env} {ds : List D} : ixT g ρ (.lst ds) = (g ρ).thn (gIdx ds) := rfl
@[simp] theorem e_index {f g : DL.Env → Res D} {ρ : DL.Env} : vIndex f g ρ = (f ρ).thn (ixT g ρ) := by
  unfold vIndex Res.thn
  cases f ρ with
  | ok x => cases x <;> rfl
  | ex c => rfl
  | no => rfl
end DL

/-! DM18: min with default, {k: v}, items of an own list's dict: equations. -/
namespace DL
open PySem L2
section
variable {ρ : DL.Env} {f g : DL.Env → Res D} {own : Owns} {is fg : List Nat} {ks : D → Res (List D)} {F : DSem} {j : Nat}
@[simp] theorem e_disp1 : vDisp1 f g ρ = (noEx (f ρ)).thn fun x => (noEx (g ρ)).thn fun y => dispR x y := rfl
@[simp] theorem dispR_int {i : Int} {y : D} : dispR (.int i) y = .ok (.dK [(.inl i, y)]) := rfl
@[simp] theorem s_forIS : sForIS own j f is ks F fg ρ = isK own f is ks F fg ρ ρ[j]? := rfl
@[simp] theorem isK_lst {ds : List D} : isK own f is ks F fg ρ (some (some (.lst ds))) = andThen (f (maskE own ρ)) ρ fun y => andThen (ixL ds y) ρ fun d => itemsK is fg ks F ρ (itemsOf d) := rfl
theorem ixL_last {xs : List D} {d : D} : ixL (xs ++ [d]) (.int (-1)) = .ok d := by
  show (match atI (xs ++ [d]) (-1) with | some d => Res.ok d | none => .no) = _
  have : atI (xs ++ [d]) (-1) = some d := by
    unfold atI
    have e : ixN (xs ++ [d]).length (-1) = some xs.length := by
      unfold ixN
      simp
      omega
    rw [e]
    simp
  rw [this]
theorem gMinD_tups {α : Type} (f : α → List Int) (k : Nat) {xs : List α} (h : ∀ x ∈ xs, (f x).length = k) (d : D) : gMinD (.lst (xs.map fun x => tupD (f x))) d = .ok (minO d (xs.map f)) := by
  simp only [gMinD]
  rw [tupsOf_map]
  simp only
  rw [if_pos]
  rw [List.all_eq_true]
  intro y hy
  obtain ⟨x, hx, rfl⟩ := List.mem_map.mp hy
  cases xs with
  | nil => cases hx
  | cons z r =>
    simp only [List.map_cons, List.headD_cons, decide_eq_true_eq]
    rw [h x hx, h z List.mem_cons_self]
theorem gMinD_ints {ns : List Int} (h : ns ≠ []) (d : D) : gMinD (.lst (ns.map D.int)) d = .ok (minI d ns) := by
  simp only [gMinD]
  cases ns with
  | nil => exact absurd rfl h
  | cons n r =>
    rw [show tupsOf ((n :: r).map D.int) = none from rfl]
    simp only
    rw [intsOf_map]
theorem gMinD_nil (d : D) : gMinD (.lst []) d = .ok d := rfl
end
end DL

/-! DM19: a, b = xs[i] of an own list: equations. -/
namespace DL
open PySem L2
@[simp] theorem s_unpS {ρ : DL.Env} {own : Owns} {j : Nat} {f : DL.Env → Res D} {is : List Nat} {ks : D → Res (List D)} : sUnpS own j f is ks ρ = usK own f is ks ρ ρ[j]? := rfl
@[simp] theorem usK_lst {ρ : DL.Env} {own : Owns} {f : DL.Env → Res D} {is : List Nat} {ks : D → Res (List D)} {ds : List D} : usK own f is ks ρ (some (some (.lst ds))) = andThen (f (maskE own ρ)) ρ fun y => andThen (ixL ds y) ρ fun d => unpSK is ks ρ d := rfl
theorem unpSK_ok {ρ : DL.Env} {is : List Nat} {ks : D → Res (List D)} {d : D} {l : List D} (h : ks d = .ok l) : unpSK is ks ρ d = .nx (setE ρ is l) := by unfold unpSK; rw [h]
end DL

/-! DM20: equations of DL40, DL41. -/
namespace DL
open PySem L2
def rngN : D → D → D → Res (List D)
  | .int i, .int j, .int k => if k = -1 ∧ -(2 ^ 62) ≤ i ∧ i < 2 ^ 62 ∧ -(2 ^ 62) ≤ j ∧ j < 2 ^ 62 then .ok (rangeDn i (i - j).toNat) else .no
  | _, _, _ => .no
@[simp] theorem e_rangeN {f g h : DL.Env → Res D} {ρ : DL.Env} : iRangeN f g h ρ = (f ρ).thn fun x => (g ρ).thn fun y => (h ρ).thn fun z => rngN x y z := by unfold iRangeN Res.thn; congr 1
theorem rngN_ok {i j : Int} (h0 : -4611686018427387904 ≤ i) (h : i < 4611686018427387904) (h1 : -4611686018427387904 ≤ j) (h2 : j < 4611686018427387904) : rngN (.int i) (.int j) (.int (-1)) = .ok (rangeDn i (i - j).toNat) := by
  show (if (-1 : Int) = -1 ∧ -(2 ^ 62) ≤ i ∧ i < 2 ^ 62 ∧ -(2 ^ 62) ≤ j ∧ j < 2 ^ 62 then Res.ok (rangeDn i (i - j).toNat) else Res.no) = _
  rw [if_pos ⟨rfl, by omega, by omega, by omega, by omega⟩]
def lrev : D → Res (List D)
  | .lst xs => .ok xs.reverse
  | _ => .no
@[simp] theorem lrev_lst {xs : List D} : lrev (.lst xs) = .ok xs.reverse := rfl
@[simp] theorem e_nRev {f : DL.Env → Res D} {ρ : DL.Env} : nRev f ρ = (f ρ).thn lrev := by unfold nRev Res.thn; congr 1
def assK (i : Nat) (hs : List (Str × List (Str × Bool) × DSem)) : Out → Out
  | .ex c ρ' => hdsAsF i c ρ' hs
  | o => o
@[simp] theorem assK_ex {i : Nat} {hs : List (Str × List (Str × Bool) × DSem)} {c : Str} {ρ : DL.Env} : assK i hs (.ex c ρ) = hdsAsF i c ρ hs := rfl
@[simp] theorem assK_nx {i : Nat} {hs : List (Str × List (Str × Bool) × DSem)} {ρ : DL.Env} : assK i hs (.nx ρ) = .nx ρ := rfl
@[simp] theorem s_tryAss {i : Nat} {F : DSem} {hs : List (Str × List (Str × Bool) × DSem)} {ρ : DL.Env} : sTryAss i F hs ρ = assK i hs (F ρ) := by unfold sTryAss assK; rfl
def hdA (i : Nat) (c : Str) (ρ : DL.Env) (r : List (Str × List (Str × Bool) × DSem)) : Option Bool → Out
  | some false => hdsAsF i c ρ r
  | _ => .no
@[simp] theorem hdA_f {i : Nat} {c : Str} {ρ : DL.Env} {r : List (Str × List (Str × Bool) × DSem)} : hdA i c ρ r (some false) = hdsAsF i c ρ r := rfl
@[simp] theorem hdsAsF_nil {i : Nat} {c : Str} {ρ : DL.Env} : hdsAsF i c ρ [] = .ex c ρ := rfl
@[simp] theorem hdsAsF_cons {i : Nat} {c c0 : Str} {ρ : DL.Env} {tbl : List (Str × Bool)} {F : DSem} {r : List (Str × List (Str × Bool) × DSem)} : hdsAsF i c ρ ((c0, tbl, F) :: r) = if c = c0 then (if i < ρ.length then outAs i (F (ρ.set i none)) else .no) else hdA i c ρ r (tbl.lookup c) := by
  show (if c = c0 then _ else match tbl.lookup c with | some false => hdsAsF i c ρ r | _ => .no) = _
  congr 1
@[simp] theorem outAs_nx {i : Nat} {ρ : DL.Env} : outAs i (.nx ρ) = .nx (ρ.set i none) := rfl
theorem rangeDn_eq {i : Int} {n : Nat} : rangeDn i n = (List.range n).map fun (k : Nat) => D.int (i - (k : Int)) := rfl
end DL

/-! DM21: == of dicts by tuples: equations. -/
namespace DL
open PySem L2
theorem nb_sh {d : D} (h : nb 20 d = true) : SeqAt.shaped (py d) = true ∧ PyData.eqv (py d) (py d) = true := by
  have e := deq_S h h
  unfold deq at e
  split at e
  · rename_i z
    refine ⟨z.1, ?_⟩
    injection e with e
    rw [e]
    simp
  · cases e
theorem deqT_same {ks ls : List (List Key × D)} (h1 : ∀ p ∈ ks, nb 20 p.2 = true) (h2 : ∀ p ∈ ls, nb 20 p.2 = true) (hl : ks.length = ls.length) (h : ∀ p ∈ ks, getA ls p.1 = some p.2) : deqT (.dT ks) (.dT ls) = .ok true := by
  show (if _ ∧ _ then Res.ok _ else Res.no) = _
  rw [if_pos ⟨List.all_eq_true.mpr fun p hp => (nb_sh (h1 p hp)).1, List.all_eq_true.mpr fun p hp => (nb_sh (h2 p hp)).1⟩]
  congr 1
  rw [Bool.and_eq_true]
  refine ⟨by simpa using hl, List.all_eq_true.mpr fun p hp => ?_⟩
  rw [h p hp]
  exact (nb_sh (h1 p hp)).2
theorem g_eqT_same {ks ls : List (List Key × D)} (h1 : ∀ p ∈ ks, nb 20 p.2 = true) (h2 : ∀ p ∈ ls, nb 20 p.2 = true) (hl : ks.length = ls.length) (h : ∀ p ∈ ks, getA ls p.1 = some p.2) : g_eqT (.dT ks) (.dT ls) = .ok (.bl true) := by
  unfold g_eqT; rw [deqT_same h1 h2 hl h]; rfl
theorem g_neT_same {ks ls : List (List Key × D)} (h1 : ∀ p ∈ ks, nb 20 p.2 = true) (h2 : ∀ p ∈ ls, nb 20 p.2 = true) (hl : ks.length = ls.length) (h : ∀ p ∈ ks, getA ls p.1 = some p.2) : g_neT (.dT ks) (.dT ls) = .ok (.bl false) := by
  unfold g_neT; rw [deqT_same h1 h2 hl h]; rfl
end DL

/-! DM22: remove: equations. -/
namespace DL
open PySem L2
section
variable {ρ : DL.Env} {j : Nat} {sel : Sel} {f : DL.Env → Res D} {d1 d : D} {p : List Stp}
def remK (ρ : DL.Env) (j : Nat) (d1 : D) (p : List Stp) : Option (List D) → Out
  | some ds' => .nx (ρ.set j (some (setP d1 p (.lst ds'))))
  | none => .no
@[simp] theorem remK_some {ds : List D} : remK ρ j d1 p (some ds) = .nx (ρ.set j (some (setP d1 p (.lst ds)))) := rfl
def remG (ρ : DL.Env) (j : Nat) (d1 : D) (p : List Stp) (d : D) : Option D → Out
  | some (.lst ds) => remK ρ j d1 p (remD ds d)
  | _ => .no
@[simp] theorem remG_lst {ds : List D} : remG ρ j d1 p d (some (.lst ds)) = remK ρ j d1 p (remD ds d) := rfl
@[simp] theorem pRem_eq : pRem j ρ d1 p d = remG ρ j d1 p d (getP d1 p) := by
  unfold pRem remG remK
  rfl
@[simp] theorem s_premI : sPRemI j sel f ρ = atSel (sel ρ) fun d1 p => if isLstP d1 p = true then andThen (f (ρ.set j (some d1))) (ρ.set j (some d1)) fun d => if imm d = true then pRem j (ρ.set j (some d1)) d1 p d else .no else .no := rfl
end
/-- what is there is taken out at its first place -/
theorem remD_ok {ds : List D} {d : D} (h : nbs 19 ds = true) (hmono : ∀ x ∈ ds, nb 20 x = true) (hi : imms ds = true) (hd : nb 20 d = true) (hm : d ∈ ds) : ∃ k, remD ds d = some (ds.eraseIdx k) ∧ ds[k]? = some d := by
  have h20 : nb 20 (.lst ds) = true := by simpa [nb] using h
  have ev : ∀ x ∈ ds, PyData.eqv (py x) (py d) = decide (x = d) := fun x hx => by
    have e := deq_S (hmono x hx) hd
    unfold deq at e
    split at e
    · injection e
    · cases e
  unfold remD
  rw [if_pos ⟨(nb_sh h20).1, (nb_sh hd).1, hi⟩, pys_map]
  have hx : ((ds.map py).findIdx? fun z => PyData.eqv z (py d)) = ds.findIdx? fun x => decide (x = d) := by
    rw [List.findIdx?_map]
    clear h hi hm h20 hmono
    induction ds with
    | nil => rfl
    | cons x r ih =>
      rw [List.findIdx?_cons, List.findIdx?_cons, ih fun y hy => ev y (List.mem_cons_of_mem _ hy)]
      simp only [Function.comp]
      simp only [ev x List.mem_cons_self]
  rw [hx]
  cases q : ds.findIdx? fun x => decide (x = d) with
  | none =>
    have := List.findIdx?_eq_none_iff.mp q d hm
    simp at this
  | some k =>
    obtain ⟨h1, h2, _⟩ := List.findIdx?_eq_some_iff_getElem.mp q
    refine ⟨k, rfl, ?_⟩
    rw [List.getElem?_eq_getElem h1]
    simpa using h2
end DL

/-! DM23: texts: split, join, str, int, the signs of a text, words in a row. -/
namespace DL
open PySem L2
@[simp] theorem e_split {f g : DL.Env → Res D} {ρ : DL.Env} : nSplit f g ρ = (f ρ).thn (splK g ρ) := rfl
@[simp] theorem e_join {f g : DL.Env → Res D} {ρ : DL.Env} : vJoin f g ρ = (f ρ).thn (joinK g ρ) := rfl
@[simp] theorem splK_tx {g : DL.Env → Res D} {ρ : DL.Env} {a : List Nat} : splK g ρ (tx a) = (g ρ).thn (splR ⟨a.toArray⟩) := rfl
@[simp] theorem joinK_tx {g : DL.Env → Res D} {ρ : DL.Env} {a : List Nat} : joinK g ρ (tx a) = (g ρ).thn (joinR ⟨a.toArray⟩) := rfl
theorem splR_tx {a b : List Nat} (hb : b ≠ []) (hk : b.all (· < 256) = true) (hl : a.length + 2 ≤ 16777216) : splR ⟨a.toArray⟩ (tx b) = .ok ((TL.spl b 0 [] a).map tx) := by
  have h0 : ((⟨b.toArray⟩ : Str).length == 0) = false := by
    cases b with
    | nil => exact absurd rfl hb
    | cons c r => simp [Str.length]
  show (if ((⟨b.toArray⟩ : Str).length == 0) = false ∧ (⟨a.toArray⟩ : Str).length + 2 ≤ sizeLine then Res.ok ((Txt.split ⟨a.toArray⟩ ⟨b.toArray⟩).map D.str) else .no) = _
  rw [if_pos ⟨h0, by simpa [Str.length, sizeLine_eq] using hl⟩]
  have := SX.split_S hb hk (a := a)
  rw [show Txt.split ⟨a.toArray⟩ ⟨b.toArray⟩ = (TL.spl b 0 [] a).map SX.S from this, List.map_map]
  rfl
theorem strsOf_tx : ∀ ys : List (List Nat), strsOf (ys.map tx) = some (ys.map SX.S)
  | [] => rfl
  | y :: r => by
    show (strsOf (r.map tx)).map _ = _
    rw [strsOf_tx r]; rfl
theorem joinR_tx {a : List Nat} {ys : List (List Nat)} (h : (ys.map (·.length)).sum + ys.length * a.length ≤ 16777216) : joinR ⟨a.toArray⟩ (.lst (ys.map tx)) = .ok (tx (TL.joinL a ys)) := by
  show (match strsOf (ys.map tx) with | some zs => if (zs.map (fun z : Str => z.length)).sum + zs.length * (⟨a.toArray⟩ : Str).length ≤ 16777216 then Res.ok (D.str (Txt.join ⟨a.toArray⟩ zs)) else .no | none => .no) = _
  rw [strsOf_tx]
  simp only
  rw [if_pos (by rw [SX.lens, List.length_map]; simpa [Str.length] using h)]
  rw [show Txt.join ⟨a.toArray⟩ (ys.map SX.S) = SX.S (TL.joinL a ys) from SX.join_S a ys]
  rfl
@[simp] theorem c_str_tx (a : List Nat) : c_str [tx a] = .ok (tx a) := rfl
theorem log2_small {n : Nat} (h : n < 10 ^ 60) : n.log2 < 1920 := by
  by_cases z : n = 0
  · subst z; decide
  · exact (Nat.log2_lt z).mpr (Nat.lt_of_lt_of_le h (by decide +kernel))
theorem c_str_num {n : Nat} (h : n < 10 ^ 60) : c_str [.int (n : Int)] = .ok (tx (TL.numL n)) := by
  show (if (n : Int).natAbs.log2 < 1920 then Res.ok (D.str (Str.ofString (toString (n : Int)))) else .no) = _
  rw [if_pos (by simpa using log2_small h), SX.num_S]
  rfl
theorem numL_all (n : Nat) : (TL.numL n).all (fun c => decide (48 ≤ c) && decide (c ≤ 57)) = true := by
  rw [List.all_eq_true]
  intro c hc
  have h1 := TL.numL_free (n := n) (s := c)
  by_cases q : c < 48 ∨ 57 < c
  · exact absurd hc (h1 q)
  · simp only [Bool.and_eq_true, decide_eq_true_eq]; omega
theorem c_intS_num {n : Nat} (h : n < 10 ^ 60) : c_intS [tx (TL.numL n)] = .ok (.int (n : Int)) := by
  have hl := TL.numL_len (k := 60) (by decide) h
  show (match PySem.intText? (SX.S (TL.numL n)) with | some m => if (SX.S (TL.numL n)).length ≤ 640 then Res.ok (D.int m) else .no | none => .no) = _
  rw [SX.int_S (numL_all n) (TL.numL_ne n) (by omega), TL.numL_val]
  simp only
  rw [if_pos (by rw [SX.S_len]; omega)]
def signsOf (d : D) : Res (List D) := (strOf d).thn fun x => .ok (x.cps.toList.map fun c => D.str ⟨#[c]⟩)
@[simp] theorem e_iStr {f : DL.Env → Res D} {ρ : DL.Env} : iStrD f ρ = (f ρ).thn signsOf := by
  unfold iStrD Res.thn signsOf; cases f ρ <;> rfl
@[simp] theorem signs_tx (a : List Nat) : signsOf (tx a) = .ok (a.map fun c => tx [c]) := rfl
theorem g_in_sign (a : List Nat) (c : Nat) : g_in (tx [c]) (tx a) = .ok (.bl (decide (c ∈ a))) := by
  show (Res.ok (!(Builtin.Str.occurrences (SX.S a) (SX.S [c]) 0 (SX.S a).length 1).isEmpty)).thn (fun b => .ok (D.bl b)) = _
  rw [thn_ok]
  exact congrArg Res.ok (congrArg D.bl (SX.in_one a c))
theorem inT_tx {a : List Nat} {ls : List (List Nat)} (h : asc a) (h2 : ∀ l ∈ ls, asc l) : SeqAt.shaped (py (tx a)) = true ∧ SeqAt.shaped (py (.tup (ls.map tx))) = true := by
  have q1 : nb 19 (tx a) = true := tx_nb 19 h
  have q2 : nb 20 (.tup (ls.map tx)) = true := by simpa using nbs_tx 19 h2
  exact ⟨shaped_of q1 (by omega), shaped_of q2 (by omega)⟩
theorem g_inT_tx {a : List Nat} {ls : List (List Nat)} (h : asc a) (h2 : ∀ l ∈ ls, asc l) : g_inT (tx a) (.tup (ls.map tx)) = .ok (.bl (decide (a ∈ ls))) := by
  show (if SeqAt.shaped (py (tx a)) = true ∧ SeqAt.shaped (py (.tup (ls.map tx))) = true then Res.ok (D.bl ((pys (ls.map tx)).any fun z => PyData.eqv z (py (tx a)))) else .no) = _
  rw [if_pos (inT_tx h h2), any_py (tx_nb 19 h) (nbs_tx 19 h2)]
  have : (tx a ∈ ls.map tx) = (a ∈ ls) := propext mem_tx
  simp only [this]
theorem g_notinT_tx {a : List Nat} {ls : List (List Nat)} (h : asc a) (h2 : ∀ l ∈ ls, asc l) : g_notinT (tx a) (.tup (ls.map tx)) = .ok (.bl (!decide (a ∈ ls))) := by
  show (if SeqAt.shaped (py (tx a)) = true ∧ SeqAt.shaped (py (.tup (ls.map tx))) = true then Res.ok (D.bl (!((pys (ls.map tx)).any fun z => PyData.eqv z (py (tx a))))) else .no) = _
  rw [if_pos (inT_tx h h2), any_py (tx_nb 19 h) (nbs_tx 19 h2)]
  have : (tx a ∈ ls.map tx) = (a ∈ ls) := propext mem_tx
  simp only [this]
theorem g_ne_tx {a b : List Nat} (h : asc a) (h2 : asc b) : g_ne (tx a) (tx b) = .ok (.bl (!decide (a = b))) := by
  rw [g_ne_S (tx_nb 20 h) (tx_nb 20 h2)]
  have : (tx a = tx b) = (a = b) := propext tx_inj
  simp only [this]
@[simp] theorem c_len_tx {a : List Nat} (h : a.length ≤ 16777216) : c_len [tx a] = .ok (.int a.length) := by
  show (if (⟨a.toArray⟩ : Str).length ≤ sizeLine then Res.ok (D.int (⟨a.toArray⟩ : Str).length) else .no) = _
  rw [if_pos (by simpa [Str.length, sizeLine_eq] using h)]
  simp [Str.length]
@[simp] theorem e_zip2M {ρ : DL.Env} {f g : DL.Env → Res D} : iZip2M f g ρ = (f ρ).thn fun x => (g ρ).thn fun y => zipMR x y := rfl
@[simp] theorem zipMR_ok (xs ys : List D) : zipMR (.tup xs) (.lst ys) = .ok (zipD xs ys) := rfl
theorem onceT_nodup : ∀ {xs : List Str}, xs.Nodup → onceT xs = xs := by
  have key : ∀ (n : Nat) (xs : List Str), xs.length = n → xs.Nodup → onceT xs = xs := fun n => by
    induction n with
    | zero => intro xs h _; rw [List.length_eq_zero_iff.mp h]; rfl
    | succ n ih =>
      intro xs h nd
      have hne : xs ≠ [] := fun e => by subst e; simp at h
      obtain ⟨ys, x, rfl⟩ : ∃ ys x, xs = ys ++ [x] := ⟨xs.dropLast, xs.getLast hne, (List.dropLast_concat_getLast hne).symm⟩
      have nd2 := List.nodup_append.mp nd
      have e := ih ys (by simpa using h) nd2.1
      rw [onceT_snoc, e, if_neg fun q => nd2.2.2 x q x (by simp) rfl]
  exact fun {xs} nd => key xs.length xs rfl nd
theorem g_lenT_nodup {ls : List (List Nat)} (h : ls.Nodup) (hl : ls.length ≤ 60) : g_lenT (.lst (ls.map tx)) = .ok (.int ls.length) := by
  show (match strsOf (ls.map tx) with | some ys => if ys.length ≤ 60 then Res.ok (D.int (onceT ys).length) else .no | none => .no) = _
  rw [strsOf_tx]
  simp only
  have nd : (ls.map SX.S).Nodup := List.Pairwise.map _ (fun a b ne e => ne (SX.S_inj e)) h
  rw [if_pos (by simpa using hl), onceT_nodup nd, List.length_map]
end DL

/-! G1: what laws 01 to 35 draw their houses by. -/
namespace G1
open PySem L2 DL
def b_cell_at : DSem :=
  (sSeq (sIf (vB (v2 (gI (fun i j => decide (i < j))) (vVar 1) (vCall c_len (aCons (vVar 0) aNil))))
  (sRet (v2 g_mod (v2 g_mul (v2 g_add (v2 g_add (v2 g_mod (v2 g_ix (vVar 0) (vVar 1)) (vC (.int 2147483647))) (vC (.int 11))) (v2 g_mul (vVar 1) (vVar 1))) (vC (.int 48271))) (vC (.int 2147483647))))
  sNext)
  (sRet (vC (.int 0))))
def m_cell_at : List D → Res D := runF 2 (b_cell_at)
def b_whole : DSem :=
  (sRet (vAnd (v1 (g_isi "int") (vVar 0)) (vNot (v1 (g_isi "bool") (vVar 0)))))
def m_whole : List D → Res D := runF 1 (b_whole)
def b_rule : DSem :=
  (sSeq (sAsg [] 0 (v2 g_mod (v2 g_mul (v2 g_add (v2 g_mod (vVar 0) (vC (.int 2147483629))) (vC (.int 5))) (vC (.int 69621))) (vC (.int 2147483629))))
  (sSeq (sAsg [] 3 (v2 g_mod (vVar 0) (vVar 1)))
  (sSeq (sAsg [] 0 (v2 g_fdiv (vVar 0) (vVar 1)))
  (sSeq (sAsg [] 4 (v2 g_mod (vVar 0) (vVar 2)))
  (sSeq (sAsg [] 0 (v2 g_fdiv (vVar 0) (vVar 2)))
  (sSeq (sAsg [] 5 (v2 g_mod (vVar 0) (vVar 1)))
  (sSeq (sAsg [] 0 (v2 g_fdiv (vVar 0) (vVar 1)))
  (sSeq (sAsg [] 6 (v2 g_mod (vVar 0) (vC (.int 3))))
  (sSeq (sAsg [] 0 (v2 g_fdiv (vVar 0) (vC (.int 3))))
  (sRet (vTup (aCons (vVar 3) (aCons (vVar 4) (aCons (vVar 5) (aCons (vSl (vTup (aCons (v2 g_mod (vVar 0) (vVar 2)) (aCons (v2 g_mod (v2 g_fdiv (vVar 0) (vVar 2)) (vVar 2)) aNil))) oNone (oSome (vVar 6))) aNil)))))))))))))))
def m_rule : List D → Res D := runF 7 (b_rule)
structure Rule where
  r : Int
  s : Int
  t : Int
  p : List Int
def eR (x : Rule) : D := .tup [.int x.r, .int x.s, .int x.t, .tup (x.p.map D.int)]
def ROk (R S : Int) (r : Rule) : Prop := (0 ≤ r.r ∧ r.r < R) ∧ (0 ≤ r.s ∧ r.s < S) ∧ (0 ≤ r.t ∧ r.t < R) ∧ r.p.length ≤ 2 ∧ ∀ x ∈ r.p, 0 ≤ x ∧ x < S
theorem rule_ok {c R S : Int} (hR : 0 < R) (hR2 : R < 1000) (hS : 0 < S) (hS2 : S < 1000) : ∃ r, m_rule [.int c, .int R, .int S] = .ok (eR r) ∧ ROk R S r := by
  have e1 : ∀ x y : Int, ∀ u, cutA [D.int x, D.int y] none u = (cutA [x, y] none u).map D.int := fun x y u => (cutA_map D.int [x, y] none u).symm ▸ rfl
  have key : ∃ a s t x y z, m_rule [.int c, .int R, .int S] = .ok (eR ⟨a % R, s % S, t % R, cutA [x % S, y % S] none (some z)⟩) := ⟨_, _, _, _, _, _, by
    simp -implicitDefEqProofs [m_rule, b_rule, eR, g_mod_int, g_mul_int, g_fdiv_int, hR, hS, show R < 18446744073709551616 by omega, show S < 18446744073709551616 by omega, e1]
    exact ⟨rfl, rfl, rfl, rfl⟩⟩
  obtain ⟨a, s, t, x, y, z, h⟩ := key
  refine ⟨_, h, emod_rng _ hR, emod_rng _ hS, emod_rng _ hR, Nat.le_trans cutA_len (by simp), fun x hx => ?_⟩
  have := cutA_mem hx
  simp at this
  rcases this with h | h <;> rw [h] <;> exact emod_rng _ hS
theorem cell_at (ns : List Int) (k : Int) (h0 : 0 ≤ k) (hk : k < 1000) : ∃ c, m_cell_at [.lst (ns.map D.int), .int k] = .ok (.int c) ∧ 0 ≤ c ∧ c < 2147483647 := by
  by_cases h : k < ns.length
  · have h2 : g_mul (D.int k) (D.int k) = .ok (D.int (k * k)) := g_mul_int (.inl ⟨by omega, by omega⟩)
    exact ⟨_, by simp -implicitDefEqProofs [m_cell_at, b_cell_at, h, g_ix_lst' D.int ns k h0 h, h2, g_mod_int, g_mul_int]; rfl, emod_rng _ (by decide)⟩
  · exact ⟨0, by simp -implicitDefEqProofs [m_cell_at, b_cell_at, h], by decide, by decide⟩
theorem whole_ok (i : Int) : m_whole [.int i] = .ok (.bl true) := by simp -implicitDefEqProofs [m_whole, b_whole]
/-- rules drawn by a comprehension over slots of which some hold the numbers of rooms and signs -/
theorem rules_ok {is : List Nat} {fe : DL.Env → Res D} {ρ : DL.Env} {R S : Int} {xs : List Int} {o : Res (List D)} (hC : compL is kName tTrue fe ρ (xs.map D.int) = o)
    (hfe : ∀ c, elt1 is kName fe ρ (.int c) = m_rule [.int c, .int R, .int S]) (h1 : 0 < R) (h2 : R < 1000) (h3 : 0 < S) (h4 : S < 1000) : ∃ rs : List Rule, o = .ok (rs.map eR) ∧ rs.length = xs.length ∧ ∀ r ∈ rs, ROk R S r := by
  obtain ⟨rs, h, e2, e3⟩ := compL_exh hC eR (fun _ r => ROk R S r) (fun x hx => by
      obtain ⟨r, hr, ok⟩ := rule_ok (c := x) (R := R) (S := S) h1 h2 h3 h4
      exact ⟨r, by rw [hfe]; exact hr, ok⟩)
  exact ⟨rs, h, e2, fun r hr => let ⟨_, _, h⟩ := e3 r hr; h⟩
theorem nb_eR (n : Nat) (r : Rule) : nb (n + 2) (eR r) = true := by simp [eR]
theorem eR_nbs (n : Nat) (xs : List Rule) : nbs (n + 2) (xs.map eR) = true := nbs_map (fun x => nb_eR n x) xs
@[simp] theorem nb_eR20 (r : Rule) : nb 17 (eR r) = true := nb_eR 15 r
theorem imm_eR (r : Rule) : imm (eR r) = true := by simp [eR]
@[simp] theorem imms_eR (xs : List Rule) : imms (xs.map eR) = true := imms_map imm_eR xs
@[simp] theorem all_whole : ∀ xs : List Int, True := fun _ => trivial
theorem eR_inj {a b : Rule} : eR a = eR b ↔ a = b := by
  constructor
  · intro h
    obtain ⟨a1, a2, a3, a4⟩ := a
    obtain ⟨b1, b2, b3, b4⟩ := b
    simp [eR, int_inj] at h
    simp [h]
  · intro h; rw [h]
end G1

/-! G4: programs drawn (laws 51 to 69): digits, names, rows, sameness, points. -/
namespace G4
open PySem L2 DL G1
def w_point_of_0 : DSem :=
  (sSeq (sIf (vB (v2 g_eq (vVar 4) (vVar 1)))
  (sSeq (sIf (tNotD (vB (vChain (gI (fun i j => decide (i ≤ j))) (gI (fun i j => decide (i < j))) (vC (.int 0)) (vVar 2) (vCall c_len (aCons (vVar 5) aNil)))))
  (sRaise "NoRow")
  sNext)
  (sRet (v2 g_add (vVar 3) (vVar 2))))
  sNext)
  (sAug 3 (vCall c_len (aCons (vVar 5) aNil))))
def b_point_of : DSem :=
  (sSeq (sAsg [] 3 (vC (.int 0)))
  (sSeq (sFor [] (iSeq (v2 g_ix (vVar 0) (vC (.int 2)))) [4, 5] (kTup 2 (ksCons kName (ksCons kName ksNil)))
  w_point_of_0
  [4, 5])
  (sRaise "NoName")))
def m_point_of : List D → Res D := runF 6 (b_point_of)
def b_cell_at : DSem :=
  (sSeq (sIf (vB (v2 (gI (fun i j => decide (i < j))) (vVar 1) (vCall c_len (aCons (vVar 0) aNil))))
  (sRet (v2 g_mod (v2 g_ix (vVar 0) (vVar 1)) (v2 g_pow (vC (.int 10)) (vC (.int 60)))))
  sNext)
  (sRet (vC (.int 0))))
def m_cell_at : List D → Res D := runF 2 (b_cell_at)
def b_digit : DSem :=
  (sRet (v2 g_mod (v2 g_mod (v2 g_add (v2 g_mul (v2 g_mod (vVar 0) (v2 g_pow (vC (.int 10)) (vC (.int 60)))) (vC (.int 48271))) (vC (.int 11))) (vVar 1)) (vVar 2)))
def m_digit : List D → Res D := runF 3 (b_digit)
def w_names_0 : DSem :=
  (sAsg [(1, .dp)] 3 (v2 g_add (vVar 3) (v2 g_ix (vC (.str "abcdefghijklmnopqrstuvwxyz")) (vCallN 3 G4.m_digit (aCons (v2 g_add (vVar 0) (v2 g_mul (v2 g_mul (vC (.int 5)) (vVar 4)) (vVar 4))) (aCons (vC (.int 1093)) (aCons (vC (.int 26)) aNil)))))))
def w_names_1 : DSem :=
  (sSeq (sAsg [(1, .dp)] 7 (v2 g_ix (vC (.str "bcdefghjklopqrstuvwxyz")) (v2 g_mod (v2 g_add (vVar 0) (v2 g_mul (vVar 4) (v2 g_add (vC (.int 1)) (v2 g_mod (v2 g_fdiv (vVar 0) (vC (.int 22))) (vC (.int 7)))))) (vC (.int 22)))))
  (sSeq (sAsg [(1, .dp)] 8 (v2 g_add (v2 g_add (vSl (vVar 3) oNone (oSome (vVar 5))) (vVar 7)) (vSl (vVar 3) (oSome (v2 g_add (vVar 5) (vC (.int 1)))) oNone)))
  (sSeq (sIf (vB (v2 g_eq (vVar 6) (vC (.int 2))))
  (sAsg [(1, .dp)] 8 (v2 g_add (vC (.str "main")) (vVar 7)))
  sNext)
  (sSeq (sIf (vB (v2 g_eq (vVar 6) (vC (.int 3))))
  (sAsg [(1, .dp)] 8 (vSl (vC (.str "main")) oNone (oSome (v2 g_add (vC (.int 1)) (vVar 4)))))
  sNext)
  (sAppI 1 (vVar 8))))))
def r_names_8 : DSem :=
  (sRet (vLstI (nCat (v2 g_add (vSl (vVar 1) oNone (oSome (vVar 9))) (vLstOf (nLst (aCons (vC (.str "main")) aNil)))) (vSl (vVar 1) (oSome (vVar 9)) oNone))))
def r_names_7 : DSem :=
  (sSeq (sAsgI 9 (vCallN 3 G4.m_digit (aCons (vVar 0) (aCons (vC (.int 1091)) (aCons (v2 g_add (vCall c_len (aCons (vVar 1) aNil)) (vC (.int 1))) aNil)))))
  r_names_8)
def r_names_6 : DSem :=
  (sSeq (sFor [(1, .dp)] (iRange1 (vCallN 3 G4.m_digit (aCons (vVar 0) (aCons (vC (.int 1061)) (aCons (vC (.int 4)) aNil))))) [4] kName
  w_names_1
  [4, 7, 8])
  r_names_7)
def r_names_5 : DSem :=
  (sSeq (sAsg [(1, .dp)] 6 (vCallN 3 G4.m_digit (aCons (vVar 0) (aCons (vC (.int 1087)) (aCons (vC (.int 4)) aNil)))))
  r_names_6)
def r_names_4 : DSem :=
  (sSeq (sAsg [(1, .dp)] 5 (vCallN 3 G4.m_digit (aCons (vVar 0) (aCons (vC (.int 1069)) (aCons (vVar 2) aNil)))))
  r_names_5)
def r_names_3 : DSem :=
  (sSeq (sFor [(1, .dp)] (iRange1 (vVar 2)) [4] kName
  w_names_0
  [4])
  r_names_4)
def r_names_2 : DSem :=
  (sSeq (sAsg [(1, .dp)] 3 (vC (.str "")))
  r_names_3)
def r_names_1 : DSem :=
  (sSeq (sAsg [(1, .dp)] 2 (v2 g_add (vC (.int 1)) (vCallN 3 G4.m_digit (aCons (vVar 0) (aCons (vC (.int 1063)) (aCons (vC (.int 8)) aNil))))))
  r_names_2)
def r_names_0 : DSem :=
  (sSeq (sAsgV 1 (vLstI (nLst aNil)))
  r_names_1)
def b_names : DSem :=
  r_names_0
def m_names : List D → Res D := runF 10 (b_names)
def r_row_12 : DSem :=
  (sRet (vTup (aCons (vC (.str "skip")) aNil)))
def r_row_11 : DSem :=
  (sSeq (sIf (vB (v2 (gI (fun i j => decide (j ≤ i))) (vVar 5) (vC (.int 10))))
  (sRet (vTup (aCons (v2 g_ix (vLstOf (nLst (aCons (vC (.str "back")) (aCons (vC (.str "stop")) aNil)))) (v2 g_sub (vVar 5) (vC (.int 10)))) aNil)))
  sNext)
  r_row_12)
def r_row_10 : DSem :=
  (sSeq (sIf (tAndD (vB (v2 (gI (fun i j => decide (j ≤ i))) (vVar 5) (vC (.int 7)))) (vB (v2 (gI (fun i j => decide (i ≤ j))) (vVar 5) (vC (.int 9)))))
  (sRet (vTup (aCons (v2 g_ix (vLstOf (nLst (aCons (vC (.str "go")) (aCons (vC (.str "fork")) (aCons (vC (.str "fork")) aNil))))) (v2 g_sub (vVar 5) (vC (.int 7)))) (aCons (vVar 9) aNil))))
  sNext)
  r_row_11)
def r_row_9 : DSem :=
  (sSeq (sIf (tOrD (vB (v2 g_eq (vVar 5) (vC (.int 5)))) (vB (v2 g_eq (vVar 5) (vC (.int 6)))))
  (sRet (vTup (aCons (vC (.str "if")) (aCons (vVar 7) (aCons (vVar 8) (aCons (vVar 9) aNil))))))
  sNext)
  r_row_10)
def r_row_8 : DSem :=
  (sSeq (sIf (tOrD (vB (v2 g_eq (vVar 5) (vC (.int 3)))) (vB (v2 g_eq (vVar 5) (vC (.int 4)))))
  (sRet (vTup (aCons (v2 g_ix (vLstOf (nLst (aCons (vC (.str "any")) (aCons (vC (.str "turn")) aNil)))) (v2 g_sub (vVar 5) (vC (.int 3)))) (aCons (vVar 7) aNil))))
  sNext)
  r_row_9)
def r_row_7 : DSem :=
  (sSeq (sIf (tOrD (vB (v2 g_eq (vVar 5) (vC (.int 1)))) (vB (v2 g_eq (vVar 5) (vC (.int 2)))))
  (sRet (vTup (aCons (vC (.str "set")) (aCons (vVar 7) (aCons (vVar 8) aNil)))))
  sNext)
  r_row_8)
def r_row_6 : DSem :=
  (sSeq (sIf (vB (v2 (gI (fun i j => decide (j ≤ i))) (vVar 5) (vC (.int 12))))
  (sRet (vTup (aCons (vC (.str "call")) (aCons (v2 g_ix (vVar 3) (vCallN 3 G4.m_digit (aCons (vVar 0) (aCons (vC (.int 1031)) (aCons (vCall c_len (aCons (vVar 3) aNil)) aNil))))) aNil))))
  sNext)
  r_row_7)
def r_row_5 : DSem :=
  (sSeq (sAsg [] 9 (vCallN 3 G4.m_digit (aCons (vVar 0) (aCons (vC (.int 1021)) (aCons (vVar 2) aNil)))))
  r_row_6)
def r_row_4 : DSem :=
  (sSeq (sAsg [] 8 (vCallN 3 G4.m_digit (aCons (vVar 0) (aCons (vC (.int 1019)) (aCons (v2 g_ix (vVar 1) (vVar 6)) aNil)))))
  r_row_5)
def r_row_3 : DSem :=
  (sSeq (sAsg [] 7 (v2 g_ix (vLstOf (nLst (aCons (vC (.str "shared")) (aCons (vC (.str "own")) aNil)))) (vVar 6)))
  r_row_4)
def r_row_2 : DSem :=
  (sSeq (sAsg [] 6 (vCallN 3 G4.m_digit (aCons (vVar 0) (aCons (vC (.int 1013)) (aCons (vC (.int 2)) aNil)))))
  r_row_3)
def r_row_1 : DSem :=
  (sSeq (sIf (vB (vVar 4))
  (sAsg [] 5 (v2 g_ix (vLstOf (nLst (aCons (vC (.int 7)) (aCons (vC (.int 10)) (aCons (vC (.int 11)) aNil))))) (vCallN 3 G4.m_digit (aCons (vVar 0) (aCons (vC (.int 1009)) (aCons (vC (.int 3)) aNil))))))
  sNext)
  r_row_2)
def r_row_0 : DSem :=
  (sSeq (sAsg [] 5 (vCallN 3 G4.m_digit (aCons (vVar 0) (aCons (vC (.int 1009)) (aCons (vC (.int 14)) aNil)))))
  r_row_1)
def b_row : DSem :=
  r_row_0
def m_row : List D → Res D := runF 10 (b_row)
def w_row_same_0 : DSem :=
  (sSeq (sIf (tAndD (vB (v1 (g_isi "str") (vVar 3))) (tNotD (vB (v1 (g_isi "str") (vVar 2)))))
  (sRet (vC (.bl false)))
  sNext)
  (sIf (tAndD (vB (v1 (g_isi "int") (vVar 3))) (tNotD (vB (vCallN 1 G1.m_whole (aCons (vVar 2) aNil)))))
  (sRet (vC (.bl false)))
  sNext))
def b_row_same : DSem :=
  (sSeq (sIf (tOrD (tNotD (vB (v1 (g_isi "tuple") (vVar 0)))) (vB (v2 g_ne (vCall c_len (aCons (vVar 0) aNil)) (vCall c_len (aCons (vVar 1) aNil)))))
  (sRet (vC (.bl false)))
  sNext)
  (sSeq (sFor [] (iZip2 (vVar 0) (vVar 1)) [2, 3] (kTup 2 (ksCons kName (ksCons kName ksNil)))
  w_row_same_0
  [2, 3])
  (sRet (v2 g_eq (vVar 0) (vVar 1)))))
def m_row_same : List D → Res D := runF 4 (b_row_same)
def b_rows_same : DSem :=
  (sSeq (sIf (tOrD (tNotD (vB (v1 (g_isi "tuple") (vVar 0)))) (tOrD (vB (v2 g_ne (vCall c_len (aCons (vVar 0) aNil)) (vC (.int 2)))) (tNotD (vB (v1 (g_isi "str") (v2 g_ix (vVar 0) (vC (.int 0))))))))
  (sRet (vC (.bl false)))
  sNext)
  (sSeq (sIf (tOrD (vB (v2 g_ne (v2 g_ix (vVar 0) (vC (.int 0))) (v2 g_ix (vVar 1) (vC (.int 0))))) (tOrD (tNotD (vB (v1 (g_isi "list") (v2 g_ix (vVar 0) (vC (.int 1)))))) (vB (v2 g_ne (vCall c_len (aCons (v2 g_ix (vVar 0) (vC (.int 1))) aNil)) (vCall c_len (aCons (v2 g_ix (vVar 1) (vC (.int 1))) aNil))))))
  (sRet (vC (.bl false)))
  sNext)
  (sRet (vCall c_all (aCons (vLstOf (nComp (iZip2 (v2 g_ix (vVar 0) (vC (.int 1))) (v2 g_ix (vVar 1) (vC (.int 1)))) [2, 3] (kTup 2 (ksCons kName (ksCons kName ksNil))) tTrue (vCallN 2 G4.m_row_same (aCons (vVar 2) (aCons (vVar 3) aNil))) [2, 3])) aNil)))))
def m_rows_same : List D → Res D := runF 4 (b_rows_same)
def b_same : DSem :=
  (sSeq (sIf (tOrD (tNotD (vB (v1 (g_isi "tuple") (vVar 0)))) (vB (v2 g_ne (vCall c_len (aCons (vVar 0) aNil)) (vC (.int 3)))))
  (sRet (vC (.bl false)))
  sNext)
  (sSeq (sIf (tOrD (tNotD (vB (vCallN 1 G1.m_whole (aCons (v2 g_ix (vVar 0) (vC (.int 0))) aNil)))) (tOrD (tNotD (vB (vCallN 1 G1.m_whole (aCons (v2 g_ix (vVar 0) (vC (.int 1))) aNil)))) (vB (v2 g_ne (vSl (vVar 0) oNone (oSome (vC (.int 2)))) (vSl (vVar 1) oNone (oSome (vC (.int 2))))))))
  (sRet (vC (.bl false)))
  sNext)
  (sSeq (sIf (tOrD (tNotD (vB (v1 (g_isi "list") (v2 g_ix (vVar 0) (vC (.int 2)))))) (vB (v2 g_ne (vCall c_len (aCons (v2 g_ix (vVar 0) (vC (.int 2))) aNil)) (vCall c_len (aCons (v2 g_ix (vVar 1) (vC (.int 2))) aNil)))))
  (sRet (vC (.bl false)))
  sNext)
  (sRet (vCall c_all (aCons (vLstOf (nComp (iZip2 (v2 g_ix (vVar 0) (vC (.int 2))) (v2 g_ix (vVar 1) (vC (.int 2)))) [2, 3] (kTup 2 (ksCons kName (ksCons kName ksNil))) tTrue (vCallN 2 G4.m_rows_same (aCons (vVar 2) (aCons (vVar 3) aNil))) [2, 3])) aNil))))))
def m_same : List D → Res D := runF 4 (b_same)
def T60 : Int := 1000000000000000000000000000000000000000000000000000000000000
def dg (c p m : Int) : Int := (c % T60 * 48271 + 11) % p % m
theorem pow60 : g_pow (.int 10) (.int 60) = .ok (.int T60) := by
  rw [g_pow_int (by decide) (by decide) (by decide)]
  rfl
theorem digit_ok {c p m : Int} (hp : 0 < p) (hm : 0 < m) : m_digit [.int c, .int p, .int m] = .ok (.int (dg c p m)) := by
  have h1 : g_mul (.int (c % T60)) (.int 48271) = .ok (.int (c % T60 * 48271)) := g_mul_int (.inr ⟨by omega, by omega⟩)
  simp -implicitDefEqProofs [m_digit, b_digit, pow60, show (0 : Int) < T60 by decide, h1, hp, hm, dg]
theorem dg_rng (c p : Int) {m : Int} (h : 0 < m) : 0 ≤ dg c p m ∧ dg c p m < m := emod_rng _ h
theorem cell_ok (ns : List Int) (k : Int) (h0 : 0 ≤ k) : ∃ c, m_cell_at [.lst (ns.map D.int), .int k] = .ok (.int c) ∧ 0 ≤ c ∧ c < T60 := by
  by_cases h : k < ns.length
  · exact ⟨ns[k.toNat]'(by omega) % T60, by simp -implicitDefEqProofs [m_cell_at, b_cell_at, h, g_ix_lst' D.int ns k h0 h, pow60, show (0 : Int) < T60 by decide], emod_rng _ (by decide)⟩
  · exact ⟨0, by simp -implicitDefEqProofs [m_cell_at, b_cell_at, h], by decide, by decide⟩
/-! names -/
def abc : List Nat := [97, 98, 99, 100, 101, 102, 103, 104, 105, 106, 107, 108, 109, 110, 111, 112, 113, 114, 115, 116, 117, 118, 119, 120, 121, 122]
def odd22 : List Nat := [98, 99, 100, 101, 102, 103, 104, 106, 107, 108, 111, 112, 113, 114, 115, 116, 117, 118, 119, 120, 121, 122]
def mainL : List Nat := [109, 97, 105, 110]
theorem lit_abc : D.str (Str.ofString "abcdefghijklmnopqrstuvwxyz") = tx abc := tx_lit abc (by decide +kernel)
theorem lit_odd : D.str (Str.ofString "bcdefghjklopqrstuvwxyz") = tx odd22 := tx_lit odd22 (by decide +kernel)
theorem lit_main : D.str (Str.ofString "main") = tx mainL := tx_lit mainL (by decide +kernel)
theorem lit_nil : D.str (Str.ofString "") = tx [] := tx_lit [] (by decide +kernel)
def low (l : List Nat) : Prop := ∀ c ∈ l, 97 ≤ c ∧ c ≤ 122
theorem low.asc {l : List Nat} (h : low l) : asc l := fun c hc => by have := h c hc; omega
theorem low_abc : low abc := by unfold low abc; decide
theorem low_odd : low odd22 := by unfold low odd22; decide
theorem low_main : low mainL := by unfold low mainL; decide
theorem low.app {a b : List Nat} (h : low a) (h2 : low b) : low (a ++ b) := fun c hc => by
  rcases List.mem_append.mp hc with q | q
  · exact h c q
  · exact h2 c q
theorem low.cut {a : List Nat} (h : low a) (l u : Option Int) : low (cutA a l u) := fun c hc => h c (cutA_mem hc)
theorem low.one {a : List Nat} (h : low a) {i : Nat} (hi : i < a.length) : low [a[i]] := fun c hc => by
  have : c = a[i] := by simpa using hc
  rw [this]; exact h _ (List.getElem_mem hi)
def isName (l : List Nat) : Prop := low l ∧ 1 ≤ l.length ∧ l.length ≤ 8
/-- the odd sign of the k-th name -/
def oddI (c : Int) (k : Nat) : Int := (c + (k : Int) * (1 + c / 22 % 7)) % 22
theorem oddI_rng (c : Int) (k : Nat) : 0 ≤ oddI c k ∧ oddI c k < 22 := emod_rng _ (by decide)
theorem oddI_inj (c : Int) {k j : Nat} (hk : k < 3) (hj : j < 3) (h : oddI c k = oddI c j) : k = j := by
  unfold oddI at h
  have := emod_rng (c / 22) (m := 7) (by decide)
  generalize c / 22 % 7 = s at *
  obtain rfl | rfl | rfl : k = 0 ∨ k = 1 ∨ k = 2 := by omega
  all_goals obtain rfl | rfl | rfl : j = 0 ∨ j = 1 ∨ j = 2 := by omega
  all_goals first | rfl | (exfalso; simp at h; omega)
def oddS (c : Int) (k : Nat) : Nat := odd22[(oddI c k).toNat]'(by have := oddI_rng c k; simp [odd22]; omega)
theorem odd_inj : ∀ i j : Fin 22, odd22[i.1]'(by simp [odd22]) = odd22[j.1]'(by simp [odd22]) → i = j := by decide
theorem oddS_inj (c : Int) {k j : Nat} (hk : k < 3) (hj : j < 3) (h : oddS c k = oddS c j) : k = j := by
  unfold oddS at h
  have a := oddI_rng c k
  have b := oddI_rng c j
  have := odd_inj ⟨(oddI c k).toNat, by omega⟩ ⟨(oddI c j).toNat, by omega⟩ h
  injection this with this
  exact oddI_inj c hk hj (by omega)
theorem oddS_mem (c : Int) (k : Nat) : oddS c k ∈ odd22 := List.getElem_mem _
def nameK (c lot : Int) (base : List Nat) (sp : Nat) (k : Nat) : List Nat :=
  if lot = 3 then mainL.take (1 + k) else if lot = 2 then mainL ++ [oddS c k] else base.take sp ++ [oddS c k] ++ base.drop (sp + 1)
theorem nameK_ok {c lot : Int} {base : List Nat} {sp k : Nat} (hb : isName base) (hs : sp < base.length) (hk : k < 3) : isName (nameK c lot base sp k) := by
  have lo : low [oddS c k] := fun x hx => by
    have : x = oddS c k := by simpa using hx
    rw [this]; exact low_odd _ (oddS_mem c k)
  unfold nameK
  split
  · exact ⟨fun x hx => low_main x (List.mem_of_mem_take hx), by simp [mainL]; omega, by simp [mainL]; omega⟩
  · split
    · exact ⟨low_main.app lo, by simp [mainL], by simp [mainL]⟩
    · have := hb.2
      exact ⟨low.app (low.app (a := base.take sp) (fun x hx => hb.1 x (List.mem_of_mem_take hx)) lo) (fun x hx => hb.1 x (List.mem_of_mem_drop hx)), by simp; omega, by simp; omega⟩
theorem nameK_inj {c lot : Int} {base : List Nat} {sp k j : Nat} (hs : sp < base.length) (hk : k < 3) (hj : j < 3) (h : nameK c lot base sp k = nameK c lot base sp j) : k = j := by
  unfold nameK at h
  split at h
  · have := congrArg List.length h
    simp [mainL] at this
    omega
  · split at h
    · simp at h; exact oddS_inj c hk hj h
    · simp at h; exact oddS_inj c hk hj h
theorem nameK_main {c lot : Int} {base : List Nat} {sp k : Nat} (hs : sp < base.length) (hk : k < 3) : nameK c lot base sp k ≠ mainL := by
  intro h
  unfold nameK at h
  split at h
  · have := congrArg List.length h
    simp [mainL] at this
    omega
  · split at h
    · have := congrArg List.length h
      simp [mainL] at this
    · have l := congrArg List.length h
      have e : (base.take sp ++ [oddS c k] ++ base.drop (sp + 1))[sp]? = some (oddS c k) := by
        rw [List.append_assoc, List.getElem?_append_right (by simp; omega)]
        simp [show min sp base.length = sp by omega]
      rw [h] at e
      have m := List.mem_of_getElem? e
      have o := oddS_mem c k
      have : ∀ x ∈ mainL, x ∉ odd22 := by decide
      exact this _ m o
theorem names_ok {c : Int} (c0 : 0 ≤ c) : ∃ nl : List (List Nat), m_names [.int c] = .ok (.lst (nl.map tx)) ∧ nl.Nodup ∧ mainL ∈ nl ∧ nl.length ≤ 4 ∧ ∀ l ∈ nl, isName l := by
  have hsz := dg_rng c 1063 (m := 8) (by decide)
  have hot := dg_rng c 1061 (m := 4) (by decide)
  generalize hS : 1 + dg c 1063 8 = sz at *
  obtain ⟨szn, rfl⟩ := Int.eq_ofNat_of_zero_le (show 0 ≤ sz by omega)
  have hsp := dg_rng c 1069 (m := (szn : Int)) (by omega)
  generalize hLt : dg c 1087 4 = lot at *
  generalize hSp : dg c 1069 (szn : Int) = spi at *
  obtain ⟨sp, rfl⟩ := Int.eq_ofNat_of_zero_le hsp.1
  generalize hO : dg c 1061 4 = ot at *
  obtain ⟨n, rfl⟩ := Int.eq_ofNat_of_zero_le hot.1
  have loop0 : ∀ (e1 e2 e5 e6 e7 e8 e9 : Option D) o, forF [4] kName w_names_0 [4] ((List.range szn).map fun (k : Nat) => D.int (k : Int)) [some (.int c), some (.lst []), e2, some (tx []), none, e5, e6, e7, e8, e9] = o →
      ∃ base : List Nat, o = .nx [some (.int c), some (.lst []), e2, some (tx base), none, e5, e6, e7, e8, e9] ∧ low base ∧ base.length = szn := fun e1 e2 e5 e6 e7 e8 e9 o hF => by
    obtain ⟨base, rfl, iv⟩ := forF_inv (S := List Nat) hF (fun b => [some (.int c), some (.lst []), e2, some (tx b), none, e5, e6, e7, e8, e9]) (fun i b => low b ∧ b.length = i) [] ⟨(by intro x hx; cases hx), rfl⟩ rfl (fun i b x hx iv => by
      obtain ⟨rfl, hi⟩ := range_get hx
      have d1 := dg_rng (c + 5 * (x : Int) * x) 1093 (m := 26) (by decide)
      have g0 : g_mul (D.int 5) (D.int x) = .ok (D.int (5 * (x : Int))) := g_mul_int (.inr ⟨by omega, by omega⟩)
      have g1 : g_mul (D.int (5 * (x : Int))) (D.int x) = .ok (D.int (5 * (x : Int) * x)) := g_mul_int (.inr ⟨by omega, by omega⟩)
      have la : abc.length = 26 := rfl
      have gi := g_ix_tx (a := abc) (i := dg (c + 5 * (x : Int) * x) 1093 26) (by decide) d1.1 (by rw [la]; exact d1.2)
      refine ⟨b ++ [abc[(dg (c + 5 * (x : Int) * x) 1093 26).toNat]'(by rw [la]; omega)], ?_, iv.1.app (low_abc.one _), by simp [iv.2]⟩
      simp -implicitDefEqProofs [w_names_0, g0, g1, digit_ok, lit_abc, gi]
      rw [g_add_tx (by simp; omega)]
      simp -implicitDefEqProofs)
    exact ⟨base, rfl, iv.1, by simpa using iv.2⟩
  have loop1 : ∀ (base : List Nat) (e2 e9 : Option D), isName base → sp < base.length → forF [4] kName w_names_1 [4, 7, 8] ((List.range n).map fun (k : Nat) => D.int (k : Int)) [some (.int c), some (.lst []), e2, some (tx base), none, some (.int (sp : Int)), some (.int lot), none, none, e9] =
      .nx [some (.int c), some (.lst (((List.range n).map (nameK c lot base sp)).map tx)), e2, some (tx base), none, some (.int (sp : Int)), some (.int lot), none, none, e9] := fun base e2 e9 hb hspb => by
    refine Eq.trans (forF_eq (fun (q : List (List Nat)) => [some (.int c), some (.lst (q.map tx)), e2, some (tx base), none, some (.int (sp : Int)), some (.int lot), none, none, e9]) (fun q (k : Nat) => q ++ [nameK c lot base sp k]) (fun i q => q.length = i) (s := []) (fun i q x hx iv => ?_) rfl rfl) ?_
    · obtain ⟨rfl, hi⟩ := range_get hx
      refine ⟨?_, by simp [iv]⟩
      have q7 := emod_rng (c / 22) (m := 7) (by decide)
      have g0 : g_mul (D.int x) (D.int (1 + c / 22 % 7)) = .ok (D.int ((x : Int) * (1 + c / 22 % 7))) := g_mul_int (.inr ⟨by omega, by omega⟩)
      have lo : odd22.length = 22 := rfl
      have oi := oddI_rng c x
      have gi := g_ix_tx (a := odd22) (i := oddI c x) (by decide) oi.1 (by rw [lo]; exact oi.2)
      have ge : ∀ d : D, (.ok (tx [odd22[(oddI c x).toNat]'(by rw [lo]; omega)]) : Res D) = .ok (tx [oddS c x]) := fun _ => rfl
      have hl := hb.2
      have c1 : cutA base none (some (sp : Int)) = base.take sp := cutA_to base sp
      have c2 : cutA base (some ((sp : Int) + 1)) none = base.drop (sp + 1) := cutA_from base (sp + 1)
      have c3 : cutA mainL none (some (1 + (x : Int))) = mainL.take (1 + x) := by
        have := cutA_to mainL (1 + x)
        rw [← this]; congr 2
      have ql : q.length < 16777216 := by rw [iv]; omega
      rw [ge (.non)] at gi
      unfold oddI at gi
      simp -implicitDefEqProofs [w_names_1, g0, lit_odd, gi]
      rw [g_sl_tx (by omega), g_sl_tx (by omega)]
      simp -implicitDefEqProofs [c1, c2]
      rw [g_add_tx (by simp; omega)]
      simp -implicitDefEqProofs
      rw [g_add_tx (by simp; omega)]
      by_cases l2 : lot = 2
      · have l3 : ¬ lot = 3 := by omega
        simp -implicitDefEqProofs [l2, l3, lit_main]
        rw [g_add_tx (by simp [mainL])]
        simp -implicitDefEqProofs [ql, nameK, l2]
      · by_cases l3 : lot = 3
        · simp -implicitDefEqProofs [l3, lit_main]
          rw [g_sl_tx (by simp [mainL])]
          simp -implicitDefEqProofs [ql, nameK, l3, c3]
        · simp -implicitDefEqProofs [l2, l3, ql, nameK]
    · congr 1
      have : ∀ (xs : List Nat) (s : List (List Nat)), xs.foldl (fun q k => q ++ [nameK c lot base sp k]) s = s ++ xs.map (nameK c lot base sp) := fun xs => by
        induction xs with
        | nil => intro s; simp
        | cons y r ih => intro s; rw [List.foldl_cons, ih]; simp
      rw [this]; rfl
  simp -implicitDefEqProofs [m_names, b_names, r_names_0, r_names_1, r_names_2, digit_ok, hS, lit_nil]
  rw [show r_names_3 = (sSeq (sFor [(1, .dp)] (iRange1 (vVar 2)) [4] kName w_names_0 [4]) r_names_4) from rfl]
  simp -implicitDefEqProofs
  rw [rng1_ok (by omega) (by omega)]
  simp -implicitDefEqProofs
  generalize hF : forF _ _ _ _ _ _ = o
  obtain ⟨base, rfl, lb, bl⟩ := loop0 none _ _ _ _ _ _ o hF
  have hb : isName base := ⟨lb, by omega, by omega⟩
  simp -implicitDefEqProofs [r_names_4, r_names_5, digit_ok, hSp, hLt, r_names_6, hO, show 0 < (szn : Int) by omega, show 0 < szn by omega]
  rw [rng1_ok (by omega) (by omega)]
  simp -implicitDefEqProofs [loop1 base _ _ hb (by omega), -List.map_map]
  generalize hon : (List.range n).map (nameK c lot base sp) = others
  have ol : others.length = n := by rw [← hon]; simp
  have hat := dg_rng c 1091 (m := (n : Int) + 1) (by omega)
  obtain ⟨at', hat'⟩ := Int.eq_ofNat_of_zero_le hat.1
  rw [hat'] at hat
  have cA : cutA (others.map tx) none (some (at' : Int)) = (others.take at').map tx := by rw [cutA_map, cutA_to]
  have cB : cutA (others.map tx) (some (at' : Int)) none = (others.drop at').map tx := by rw [cutA_map, cutA_from]
  have im : ∀ ls : List (List Nat), imms (ls.map tx) = true := fun ls => imms_map (fun l => imm_tx l) ls
  simp -implicitDefEqProofs [r_names_7, digit_ok, ol, show 0 < (n : Int) + 1 by omega, hat', r_names_8, cutA_to, cutA_from, lit_main, -List.map_map, ← List.map_take, ← List.map_drop, -List.map_take, -List.map_drop, show min at' n + 1 ≤ 16777216 by omega, show min at' n ≤ 16777215 by omega, show min at' n + 1 + (n - at') ≤ 16777216 by omega, im]
  refine ⟨others.take at' ++ mainL :: others.drop at', by simp, ?_, by simp, by simp; omega, ?_⟩
  · have nd : (mainL :: others).Nodup := by
      refine List.nodup_cons.mpr ⟨fun h => ?_, ?_⟩
      · rw [← hon] at h
        obtain ⟨k, hk, e⟩ := List.mem_map.mp h
        exact nameK_main (by omega) (by simp at hk; omega) e
      · rw [← hon]
        refine List.pairwise_map.mpr (List.Pairwise.imp_of_mem ?_ List.nodup_range)
        intro a b ha hb' hne e
        simp at ha hb'
        exact hne (nameK_inj (by omega) (by omega) (by omega) e)
    have pm : (others.take at' ++ mainL :: others.drop at').Perm (mainL :: others) := by
      refine List.perm_middle.trans ?_
      rw [List.take_append_drop]
    exact pm.nodup_iff.mpr nd
  · intro l hl
    have : l = mainL ∨ l ∈ others := by
      rcases List.mem_append.mp hl with q | q
      · exact .inr (List.mem_of_mem_take q)
      · rcases List.mem_cons.mp q with q | q
        · exact .inl q
        · exact .inr (List.mem_of_mem_drop q)
    rcases this with rfl | h
    · exact ⟨low_main, by decide, by decide⟩
    · rw [← hon] at h
      obtain ⟨k, hk, rfl⟩ := List.mem_map.mp h
      exact nameK_ok hb (by omega) (by simp at hk; omega)
/-! rows -/
inductive Rw where
  | skip | set (sh : Bool) (v : Int) | any (sh : Bool) | turn (sh : Bool) | iff (sh : Bool) (v k : Int) | go (k : Int) | fork (k : Int) | call (f : List Nat) | back | stop
def eSide : Bool → D
  | true => .str "shared"
  | false => .str "own"
def wordsOf : Rw → List D
  | .skip => [.str "skip"]
  | .set sh v => [.str "set", eSide sh, .int v]
  | .any sh => [.str "any", eSide sh]
  | .turn sh => [.str "turn", eSide sh]
  | .iff sh v k => [.str "if", eSide sh, .int v, .int k]
  | .go k => [.str "go", .int k]
  | .fork k => [.str "fork", .int k]
  | .call f => [.str "call", tx f]
  | .back => [.str "back"]
  | .stop => [.str "stop"]
def eRw (r : Rw) : D := .tup (wordsOf r)
def Rw.ends : Rw → Prop
  | .go _ => True
  | .back => True
  | .stop => True
  | _ => False
def vOf (v0 v1 : Int) : Bool → Int
  | true => v0
  | false => v1
def RwOk (v0 v1 many : Int) (nl : List (List Nat)) : Rw → Prop
  | .set sh v => 0 ≤ v ∧ v < vOf v0 v1 sh
  | .iff sh v k => (0 ≤ v ∧ v < vOf v0 v1 sh) ∧ 0 ≤ k ∧ k < many
  | .go k => 0 ≤ k ∧ k < many
  | .fork k => 0 ≤ k ∧ k < many
  | .call f => f ∈ nl
  | _ => True
theorem row_tail {c v0 v1 many lot : Int} {nl : List (List Nat)} {e4 : Option D} (h0 : 0 < v0) (h1 : 0 < v1) (hm : 0 < many) (hn : 0 < nl.length) (hn2 : nl.length ≤ 1000) (l0 : 0 ≤ lot) (l1 : lot < 14) :
    ∃ r, r_row_2 [some (.int c), some (.lst [.int v0, .int v1]), some (.int many), some (.lst (nl.map tx)), e4, some (.int lot), none, none, none, none] = .rt (eRw r) ∧ RwOk v0 v1 many nl r ∧ (lot = 7 ∨ lot = 10 ∨ lot = 11 → r.ends) := by
  have s := dg_rng c 1013 (m := 2) (by decide)
  have g := dg_rng c 1021 (m := many) hm
  have n0 := dg_rng c 1019 (m := v0) h0
  have n1 := dg_rng c 1019 (m := v1) h1
  have q := dg_rng c 1031 (m := (nl.length : Int)) (by omega)
  have gx := g_ix_lst' tx nl (dg c 1031 nl.length) q.1 q.2
  have hmem : nl[(dg c 1031 nl.length).toNat]'(by omega) ∈ nl := List.getElem_mem _
  generalize hS : dg c 1013 2 = sd at *
  obtain rfl | rfl : sd = 0 ∨ sd = 1 := by omega
  · have pre : ∀ e6 e7 e8 e9, r_row_2 [some (.int c), some (.lst [.int v0, .int v1]), some (.int many), some (.lst (nl.map tx)), e4, some (.int lot), e6, e7, e8, e9] = r_row_6 [some (.int c), some (.lst [.int v0, .int v1]), some (.int many), some (.lst (nl.map tx)), e4, some (.int lot), some (.int 0), some (eSide true), some (.int (dg c 1019 v0)), some (.int (dg c 1021 many))] := fun e6 e7 e8 e9 => by
      simp -implicitDefEqProofs [r_row_2, r_row_3, r_row_4, r_row_5, digit_ok, hS, h0, hm, eSide]
    rw [pre]
    obtain rfl | rfl | rfl | rfl | rfl | rfl | rfl | rfl | rfl | rfl | rfl | rfl | rfl | rfl : lot = 0 ∨ lot = 1 ∨ lot = 2 ∨ lot = 3 ∨ lot = 4 ∨ lot = 5 ∨ lot = 6 ∨ lot = 7 ∨ lot = 8 ∨ lot = 9 ∨ lot = 10 ∨ lot = 11 ∨ lot = 12 ∨ lot = 13 := by omega
    · exact ⟨.skip, by simp -implicitDefEqProofs [r_row_6, r_row_7, r_row_8, r_row_9, r_row_10, r_row_11, r_row_12, eRw, wordsOf], trivial, by simp⟩
    · exact ⟨.set true (dg c 1019 v0), by simp -implicitDefEqProofs [r_row_6, r_row_7, eRw, wordsOf], n0, by simp⟩
    · exact ⟨.set true (dg c 1019 v0), by simp -implicitDefEqProofs [r_row_6, r_row_7, eRw, wordsOf], n0, by simp⟩
    · exact ⟨.any true, by simp -implicitDefEqProofs [r_row_6, r_row_7, r_row_8, eRw, wordsOf], trivial, by simp⟩
    · exact ⟨.turn true, by simp -implicitDefEqProofs [r_row_6, r_row_7, r_row_8, eRw, wordsOf], trivial, by simp⟩
    · exact ⟨.iff true (dg c 1019 v0) (dg c 1021 many), by simp -implicitDefEqProofs [r_row_6, r_row_7, r_row_8, r_row_9, eRw, wordsOf], ⟨n0, g⟩, by simp⟩
    · exact ⟨.iff true (dg c 1019 v0) (dg c 1021 many), by simp -implicitDefEqProofs [r_row_6, r_row_7, r_row_8, r_row_9, eRw, wordsOf], ⟨n0, g⟩, by simp⟩
    · exact ⟨.go (dg c 1021 many), by simp -implicitDefEqProofs [r_row_6, r_row_7, r_row_8, r_row_9, r_row_10, eRw, wordsOf], g, by simp [Rw.ends]⟩
    · exact ⟨.fork (dg c 1021 many), by simp -implicitDefEqProofs [r_row_6, r_row_7, r_row_8, r_row_9, r_row_10, eRw, wordsOf], g, by simp⟩
    · exact ⟨.fork (dg c 1021 many), by simp -implicitDefEqProofs [r_row_6, r_row_7, r_row_8, r_row_9, r_row_10, ixl2, eRw, wordsOf], g, by simp⟩
    · exact ⟨.back, by simp -implicitDefEqProofs [r_row_6, r_row_7, r_row_8, r_row_9, r_row_10, r_row_11, eRw, wordsOf], trivial, by simp [Rw.ends]⟩
    · exact ⟨.stop, by simp -implicitDefEqProofs [r_row_6, r_row_7, r_row_8, r_row_9, r_row_10, r_row_11, eRw, wordsOf], trivial, by simp [Rw.ends]⟩
    · exact ⟨.call _, by simp -implicitDefEqProofs [r_row_6, digit_ok, hn, gx, eRw, wordsOf], hmem, by simp⟩
    · exact ⟨.call _, by simp -implicitDefEqProofs [r_row_6, digit_ok, hn, gx, eRw, wordsOf], hmem, by simp⟩
  · have pre : ∀ e6 e7 e8 e9, r_row_2 [some (.int c), some (.lst [.int v0, .int v1]), some (.int many), some (.lst (nl.map tx)), e4, some (.int lot), e6, e7, e8, e9] = r_row_6 [some (.int c), some (.lst [.int v0, .int v1]), some (.int many), some (.lst (nl.map tx)), e4, some (.int lot), some (.int 1), some (eSide false), some (.int (dg c 1019 v1)), some (.int (dg c 1021 many))] := fun e6 e7 e8 e9 => by
      simp -implicitDefEqProofs [r_row_2, r_row_3, r_row_4, r_row_5, digit_ok, hS, h1, hm, eSide]
    rw [pre]
    obtain rfl | rfl | rfl | rfl | rfl | rfl | rfl | rfl | rfl | rfl | rfl | rfl | rfl | rfl : lot = 0 ∨ lot = 1 ∨ lot = 2 ∨ lot = 3 ∨ lot = 4 ∨ lot = 5 ∨ lot = 6 ∨ lot = 7 ∨ lot = 8 ∨ lot = 9 ∨ lot = 10 ∨ lot = 11 ∨ lot = 12 ∨ lot = 13 := by omega
    · exact ⟨.skip, by simp -implicitDefEqProofs [r_row_6, r_row_7, r_row_8, r_row_9, r_row_10, r_row_11, r_row_12, eRw, wordsOf], trivial, by simp⟩
    · exact ⟨.set false (dg c 1019 v1), by simp -implicitDefEqProofs [r_row_6, r_row_7, eRw, wordsOf], n1, by simp⟩
    · exact ⟨.set false (dg c 1019 v1), by simp -implicitDefEqProofs [r_row_6, r_row_7, eRw, wordsOf], n1, by simp⟩
    · exact ⟨.any false, by simp -implicitDefEqProofs [r_row_6, r_row_7, r_row_8, eRw, wordsOf], trivial, by simp⟩
    · exact ⟨.turn false, by simp -implicitDefEqProofs [r_row_6, r_row_7, r_row_8, eRw, wordsOf], trivial, by simp⟩
    · exact ⟨.iff false (dg c 1019 v1) (dg c 1021 many), by simp -implicitDefEqProofs [r_row_6, r_row_7, r_row_8, r_row_9, eRw, wordsOf], ⟨n1, g⟩, by simp⟩
    · exact ⟨.iff false (dg c 1019 v1) (dg c 1021 many), by simp -implicitDefEqProofs [r_row_6, r_row_7, r_row_8, r_row_9, eRw, wordsOf], ⟨n1, g⟩, by simp⟩
    · exact ⟨.go (dg c 1021 many), by simp -implicitDefEqProofs [r_row_6, r_row_7, r_row_8, r_row_9, r_row_10, eRw, wordsOf], g, by simp [Rw.ends]⟩
    · exact ⟨.fork (dg c 1021 many), by simp -implicitDefEqProofs [r_row_6, r_row_7, r_row_8, r_row_9, r_row_10, eRw, wordsOf], g, by simp⟩
    · exact ⟨.fork (dg c 1021 many), by simp -implicitDefEqProofs [r_row_6, r_row_7, r_row_8, r_row_9, r_row_10, ixl2, eRw, wordsOf], g, by simp⟩
    · exact ⟨.back, by simp -implicitDefEqProofs [r_row_6, r_row_7, r_row_8, r_row_9, r_row_10, r_row_11, eRw, wordsOf], trivial, by simp [Rw.ends]⟩
    · exact ⟨.stop, by simp -implicitDefEqProofs [r_row_6, r_row_7, r_row_8, r_row_9, r_row_10, r_row_11, eRw, wordsOf], trivial, by simp [Rw.ends]⟩
    · exact ⟨.call _, by simp -implicitDefEqProofs [r_row_6, digit_ok, hn, gx, eRw, wordsOf], hmem, by simp⟩
    · exact ⟨.call _, by simp -implicitDefEqProofs [r_row_6, digit_ok, hn, gx, eRw, wordsOf], hmem, by simp⟩
theorem row_ok {c v0 v1 many : Int} {nl : List (List Nat)} {last : Bool} (h0 : 0 < v0) (h1 : 0 < v1) (hm : 0 < many) (hn : 0 < nl.length) (hn2 : nl.length ≤ 1000) :
    ∃ r, m_row [.int c, .lst [.int v0, .int v1], .int many, .lst (nl.map tx), .bl last] = .ok (eRw r) ∧ RwOk v0 v1 many nl r ∧ (last = true → r.ends) := by
  have a := dg_rng c 1009 (m := 14) (by decide)
  have b := dg_rng c 1009 (m := 3) (by decide)
  cases last with
  | false =>
    obtain ⟨r, h, ok, _⟩ := row_tail (c := c) (e4 := some (.bl false)) h0 h1 hm hn hn2 a.1 a.2
    exact ⟨r, by simp -implicitDefEqProofs [m_row, b_row, r_row_0, r_row_1, digit_ok, h], ok, by simp⟩
  | true =>
    generalize hl : dg c 1009 3 = l at *
    obtain rfl | rfl | rfl : l = 0 ∨ l = 1 ∨ l = 2 := by omega
    · obtain ⟨r, h, ok, e⟩ := row_tail (c := c) (lot := 7) (e4 := some (.bl true)) h0 h1 hm hn hn2 (by decide) (by decide)
      exact ⟨r, by simp -implicitDefEqProofs [m_row, b_row, r_row_0, r_row_1, digit_ok, hl, h], ok, fun _ => e (by simp)⟩
    · obtain ⟨r, h, ok, e⟩ := row_tail (c := c) (lot := 10) (e4 := some (.bl true)) h0 h1 hm hn hn2 (by decide) (by decide)
      exact ⟨r, by simp -implicitDefEqProofs [m_row, b_row, r_row_0, r_row_1, digit_ok, hl, h], ok, fun _ => e (by simp)⟩
    · obtain ⟨r, h, ok, e⟩ := row_tail (c := c) (lot := 11) (e4 := some (.bl true)) h0 h1 hm hn hn2 (by decide) (by decide)
      exact ⟨r, by simp -implicitDefEqProofs [m_row, b_row, r_row_0, r_row_1, digit_ok, hl, ixl2, h], ok, fun _ => e (by simp)⟩
/-! sameness -/
def wOk : D → Prop
  | .str s => PyData.strOk s = true
  | .int _ => True
  | _ => False
theorem wOk_nb {d : D} (n : Nat) (h : wOk d) : nb n d = true := by
  cases d with
  | str s => rw [nb_str]; exact h
  | int i => exact nb_int n i
  | _ => exact h.elim
theorem zip_self : ∀ ws : List D, zipD ws ws = ws.map fun w => D.tup [w, w]
  | [] => rfl
  | w :: r => by show D.tup [w, w] :: zipD r r = _; rw [zip_self r]; rfl
theorem wOk_imm {d : D} (h : wOk d) : imm d = true := by
  cases d with
  | str s => rfl
  | int i => rfl
  | _ => exact h.elim
theorem row_same_ok {ws : List D} (h : ∀ w ∈ ws, wOk w) : m_row_same [.tup ws, .tup ws] = .ok (.bl true) := by
  have lp : forF [2, 3] (kTup 2 (ksCons kName (ksCons kName ksNil))) w_row_same_0 [2, 3] (ws.map fun w => D.tup [w, w]) [some (.tup ws), some (.tup ws), none, none] = .nx [some (.tup ws), some (.tup ws), none, none] := forF_skip fun w hw => by
    have := h w hw
    cases w with
    | str s => simp -implicitDefEqProofs [w_row_same_0]
    | int i => simp -implicitDefEqProofs [w_row_same_0, whole_ok]
    | _ => exact this.elim
  have nbw : nb 20 (.tup ws) = true := by
    rw [nb_tup]
    have := nbs_map' (n := 19) (f := fun d : D => d) (xs := ws) (fun w hw => wOk_nb 19 (h w hw))
    simpa using this
  have zz : forF [2, 3] (kTup 2 (ksCons kName (ksCons kName ksNil))) w_row_same_0 [2, 3] (zipD ws ws) [some (.tup ws), some (.tup ws), none, none] = .nx [some (.tup ws), some (.tup ws), none, none] := by rw [zip_self, lp]
  simp -implicitDefEqProofs [m_row_same, b_row_same, zz, g_eq_S nbw nbw]
def wds_ok (r : Rw) (h : ∀ f, r = .call f → isName f) : ∀ w ∈ wordsOf r, wOk w := by
  have sd : ∀ sh, wOk (eSide sh) := fun sh => by cases sh <;> (show PyData.strOk _ = true; decide +kernel)
  have lt : ∀ s : Str, PyData.strOk s = true → wOk (.str s) := fun s h => h
  intro w hw
  cases r <;> simp only [wordsOf, List.mem_cons, List.not_mem_nil, or_false] at hw
  case skip => subst hw; exact lt _ (by decide +kernel)
  case set => rcases hw with rfl | rfl | rfl; exact lt _ (by decide +kernel); exact sd _; trivial
  case any => rcases hw with rfl | rfl; exact lt _ (by decide +kernel); exact sd _
  case turn => rcases hw with rfl | rfl; exact lt _ (by decide +kernel); exact sd _
  case iff => rcases hw with rfl | rfl | rfl | rfl; exact lt _ (by decide +kernel); exact sd _; trivial; trivial
  case go => rcases hw with rfl | rfl; exact lt _ (by decide +kernel); trivial
  case fork => rcases hw with rfl | rfl; exact lt _ (by decide +kernel); trivial
  case call f => rcases hw with rfl | rfl; exact lt _ (by decide +kernel); (have := tx_nb 0 (h f rfl).1.asc; unfold tx at *; rw [nb_str] at this; exact this)
  case back => subst hw; exact lt _ (by decide +kernel)
  case stop => subst hw; exact lt _ (by decide +kernel)
abbrev Proc := List Nat × List Rw
def eProc (p : Proc) : D := .tup [tx p.1, .lst (p.2.map eRw)]
def eP (a b : Int) (ps : List Proc) : D := .tup [.int a, .int b, .lst (ps.map eProc)]
def ProcOk (v0 v1 : Int) (nl : List (List Nat)) (p : Proc) : Prop := isName p.1 ∧ (∀ r ∈ p.2, RwOk v0 v1 p.2.length nl r) ∧ 0 < p.2.length ∧ p.2.length ≤ 1000 ∧ ∀ r, p.2[p.2.length - 1]? = some r → r.ends
theorem nb_eRw {r : Rw} (n : Nat) (h : ∀ f, r = .call f → isName f) : nb (n + 1) (eRw r) = true := by
  unfold eRw
  rw [nb_tup]
  have := nbs_map' (n := n) (f := fun d : D => d) (xs := wordsOf r) (fun w hw => wOk_nb n (wds_ok r h w hw))
  simpa using this
theorem imm_side (sh : Bool) : imm (eSide sh) = true := by cases sh <;> rfl
theorem imm_eRw (r : Rw) : imm (eRw r) = true := by
  cases r <;> simp [eRw, wordsOf, imm_side]
theorem call_name {v0 v1 many : Int} {nl : List (List Nat)} {r : Rw} (hn : ∀ l ∈ nl, isName l) (h : RwOk v0 v1 many nl r) : ∀ f, r = .call f → isName f := fun f e => by subst e; exact hn f h
theorem rows_same_ok {v0 v1 : Int} {nl : List (List Nat)} {p : Proc} (hn : ∀ l ∈ nl, isName l) (h : ProcOk v0 v1 nl p) : m_rows_same [eProc p, eProc p] = .ok (.bl true) := by
  have hl := h.2.2.2.1
  have hc : ∀ e0 e1 : Option D, compL [2, 3] (kTup 2 (ksCons kName (ksCons kName ksNil))) tTrue (vCallN 2 m_row_same (aCons (vVar 2) (aCons (vVar 3) aNil))) [e0, e1, none, none] (zipD (p.2.map eRw) (p.2.map eRw)) = .ok (p.2.map fun _ => D.bl true) := fun e0 e1 => by
    rw [zip_self, List.map_map]
    exact compL_eq (enc := (fun w => D.tup [w, w]) ∘ eRw) (fun _ => D.bl true) fun r hr => by
      have := row_same_ok (wds_ok r (call_name hn (h.2.1 r hr)))
      simp -implicitDefEqProofs [eRw, this]
  have e := g_eq_tx h.1.1.asc h.1.1.asc
  have ne : g_ne (tx p.1) (tx p.1) = .ok (.bl false) := by rw [g_ne_S (tx_nb 20 h.1.1.asc) (tx_nb 20 h.1.1.asc)]; simp
  simp -implicitDefEqProofs [m_rows_same, b_rows_same, eProc, ne, hc, show p.2.length ≤ 16777216 by omega]
theorem same_ok {a b v0 v1 : Int} {nl : List (List Nat)} {ps : List Proc} (hn : ∀ l ∈ nl, isName l) (h : ∀ p ∈ ps, ProcOk v0 v1 nl p) (hl : ps.length ≤ 1000) : m_same [eP a b ps, eP a b ps] = .ok (.bl true) := by
  have hc : ∀ e0 e1 : Option D, compL [2, 3] (kTup 2 (ksCons kName (ksCons kName ksNil))) tTrue (vCallN 2 m_rows_same (aCons (vVar 2) (aCons (vVar 3) aNil))) [e0, e1, none, none] (zipD (ps.map eProc) (ps.map eProc)) = .ok (ps.map fun _ => D.bl true) := fun e0 e1 => by
    rw [zip_self, List.map_map]
    exact compL_eq (enc := (fun w => D.tup [w, w]) ∘ eProc) (fun _ => D.bl true) fun r hr => by
      have := rows_same_ok hn (h r hr)
      simp -implicitDefEqProofs [this]
  simp -implicitDefEqProofs [m_same, b_same, eP, whole_ok, hc, show ps.length ≤ 16777216 by omega]
/-! the point of a row -/
def firstOf : List Proc → List Nat → Option (Nat × Nat)
  | [], _ => none
  | p :: r, t => if p.1 = t then some (0, p.2.length) else (firstOf r t).map fun x => (x.1 + p.2.length, x.2)
theorem point_loop {P : D} {t : List Nat} {i : Int} (ht : asc t) : ∀ (ps : List Proc) (first : Int), (∀ p ∈ ps, asc p.1) →
    (firstOf ps t = none → ∃ f', forF [4, 5] (kTup 2 (ksCons kName (ksCons kName ksNil))) w_point_of_0 [4, 5] (ps.map eProc) [some P, some (tx t), some (.int i), some (.int first), none, none] = .nx [some P, some (tx t), some (.int i), some (.int f'), none, none]) ∧
    ∀ b l, firstOf ps t = some (b, l) → (0 ≤ i ∧ i < l → forF [4, 5] (kTup 2 (ksCons kName (ksCons kName ksNil))) w_point_of_0 [4, 5] (ps.map eProc) [some P, some (tx t), some (.int i), some (.int first), none, none] = .rt (.int (first + b + i))) ∧
      (¬ (0 ≤ i ∧ i < l) → ∃ ρ, forF [4, 5] (kTup 2 (ksCons kName (ksCons kName ksNil))) w_point_of_0 [4, 5] (ps.map eProc) [some P, some (tx t), some (.int i), some (.int first), none, none] = .ex "NoRow" ρ)
  | [], first, _ => ⟨fun _ => ⟨first, rfl⟩, fun b l h => by simp [firstOf] at h⟩
  | p :: r, first, ha => by
    have hp := ha p List.mem_cons_self
    have ih := point_loop (P := P) (i := i) ht r (first + p.2.length) fun q hq => ha q (List.mem_cons_of_mem _ hq)
    have e := g_eq_tx hp ht
    rw [List.map_cons, forF_cons]
    by_cases q : p.1 = t
    · rw [decide_eq_true q] at e
      refine ⟨fun h => by simp [firstOf, q] at h, fun b l h => ?_⟩
      have h' : b = 0 ∧ l = p.2.length := by simp [firstOf, q] at h; omega
      obtain ⟨rfl, rfl⟩ := h'
      constructor
      · rintro ⟨i0, i1⟩
        simp -implicitDefEqProofs [w_point_of_0, eProc, e, i0, i1]
      · intro hn
        by_cases i0 : 0 ≤ i
        · have i1 : ¬ i < p.2.length := fun z => hn ⟨i0, z⟩
          exact ⟨_, by simp -implicitDefEqProofs [w_point_of_0, eProc, e, i0, i1]; rfl⟩
        · exact ⟨_, by simp -implicitDefEqProofs [w_point_of_0, eProc, e, i0]; rfl⟩
    · rw [decide_eq_false q] at e
      have st : turn [4, 5] (kTup 2 (ksCons kName (ksCons kName ksNil))) w_point_of_0 [4, 5] (eProc p) [some P, some (tx t), some (.int i), some (.int first), none, none] = .inl [some P, some (tx t), some (.int i), some (.int (first + p.2.length)), none, none] := by
        simp -implicitDefEqProofs [w_point_of_0, eProc, e]
      rw [st]
      refine ⟨fun h => ih.1 (by simpa [firstOf, q] using h), fun b l h => ?_⟩
      simp [firstOf, q] at h
      obtain ⟨b', h1, h2⟩ := h
      have ih2 := ih.2 b' l h1
      refine ⟨fun hi => ?_, fun hi => ih2.2 hi⟩
      have := ih2.1 hi
      simp only
      rw [this, show first + (b : Int) + i = first + p.2.length + b' + i by omega]
theorem point_of_ok {a b : Int} {ps : List Proc} {t : List Nat} {i : Int} (ht : asc t) (ha : ∀ p ∈ ps, asc p.1) :
    m_point_of [eP a b ps, tx t, .int i] = match firstOf ps t with
      | none => .ex "NoName"
      | some (f, l) => if 0 ≤ i ∧ i < l then .ok (.int (f + i)) else .ex "NoRow" := by
  have lp := point_loop (P := eP a b ps) (i := i) ht ps 0 ha
  unfold eP at *
  cases h : firstOf ps t with
  | none =>
    obtain ⟨f', e⟩ := lp.1 h
    simp -implicitDefEqProofs [m_point_of, b_point_of, e]
  | some x =>
    obtain ⟨f, l⟩ := x
    have lp2 := lp.2 f l h
    by_cases hi : 0 ≤ i ∧ i < l
    · have e := lp2.1 hi
      simp -implicitDefEqProofs [m_point_of, b_point_of, e, hi]
    · obtain ⟨ρ, e⟩ := lp2.2 hi
      simp -implicitDefEqProofs [m_point_of, b_point_of, e, hi]
end G4

/-! G16: programs read from texts. -/
namespace G16
open PySem L2 DL
def b_is_name : DSem :=
  (sRet (vAnd (vChain (gI (fun i j => decide (i ≤ j))) (gI (fun i j => decide (i ≤ j))) (vC (.int 1)) (vCall c_len (aCons (vVar 0) aNil)) (vC (.int 8))) (vCall c_all (aCons (vLstOf (nComp (iStrD (vVar 0)) [1] kName tTrue (v2 g_in (vVar 1) (vC (.str "abcdefghijklmnopqrstuvwxyz"))) [1])) aNil))))
def m_is_name : List D → Res D := runF 2 (b_is_name)
def b_is_count : DSem :=
  (sSeq (sIf (tOrD (tNotD (vB (vChain (gI (fun i j => decide (i ≤ j))) (gI (fun i j => decide (i ≤ j))) (vC (.int 1)) (vCall c_len (aCons (vVar 0) aNil)) (vC (.int 3))))) (tNotD (vB (vCall c_all (aCons (vLstOf (nComp (iStrD (vVar 0)) [1] kName tTrue (v2 g_in (vVar 1) (vC (.str "0123456789"))) [1])) aNil)))))
  (sRet (vC (.bl false)))
  sNext)
  (sRet (vOr (v2 g_eq (vVar 0) (vC (.str "0"))) (v2 g_ne (v2 g_ix (vVar 0) (vC (.int 0))) (vC (.str "0"))))))
def m_is_count : List D → Res D := runF 2 (b_is_count)
def b_read_word : DSem :=
  (sSeq (sIf (tAndD (vB (v2 g_eq (vVar 0) (vC (.str "name")))) (vB (vCallN 1 G16.m_is_name (aCons (vVar 1) aNil))))
  (sRet (vVar 1))
  sNext)
  (sSeq (sIf (tAndD (vB (v2 g_eq (vVar 0) (vC (.str "which")))) (vB (v2 g_inT (vVar 1) (vTup (aCons (vC (.str "shared")) (aCons (vC (.str "own")) aNil))))))
  (sRet (vVar 1))
  sNext)
  (sSeq (sIf (tAndD (vB (v2 g_eq (vVar 0) (vC (.str "count")))) (vB (vCallN 1 G16.m_is_count (aCons (vVar 1) aNil))))
  (sRet (vCall c_intS (aCons (vVar 1) aNil)))
  sNext)
  (sRaise "NoText"))))
def m_read_word : List D → Res D := runF 2 (b_read_word)
def r_shape_of_6 : DSem :=
  (sRet (vC .non))
def r_shape_of_5 : DSem :=
  (sSeq (sIf (vB (v2 g_eq (vVar 0) (vC (.str "call"))))
  (sRet (vTup (aCons (vC (.str "name")) aNil)))
  sNext)
  r_shape_of_6)
def r_shape_of_4 : DSem :=
  (sSeq (sIf (vB (v2 g_eq (vVar 0) (vC (.str "if"))))
  (sRet (vTup (aCons (vC (.str "which")) (aCons (vC (.str "count")) (aCons (vC (.str "count")) aNil)))))
  sNext)
  r_shape_of_5)
def r_shape_of_3 : DSem :=
  (sSeq (sIf (vB (v2 g_eq (vVar 0) (vC (.str "set"))))
  (sRet (vTup (aCons (vC (.str "which")) (aCons (vC (.str "count")) aNil))))
  sNext)
  r_shape_of_4)
def r_shape_of_2 : DSem :=
  (sSeq (sIf (vB (v2 g_inT (vVar 0) (vTup (aCons (vC (.str "go")) (aCons (vC (.str "fork")) aNil)))))
  (sRet (vTup (aCons (vC (.str "count")) aNil)))
  sNext)
  r_shape_of_3)
def r_shape_of_1 : DSem :=
  (sSeq (sIf (vB (v2 g_inT (vVar 0) (vTup (aCons (vC (.str "any")) (aCons (vC (.str "turn")) aNil)))))
  (sRet (vTup (aCons (vC (.str "which")) aNil)))
  sNext)
  r_shape_of_2)
def r_shape_of_0 : DSem :=
  (sSeq (sIf (vB (v2 g_inT (vVar 0) (vTup (aCons (vC (.str "skip")) (aCons (vC (.str "back")) (aCons (vC (.str "stop")) aNil))))))
  (sRet (vTup aNil))
  sNext)
  r_shape_of_1)
def b_shape_of : DSem :=
  r_shape_of_0
def m_shape_of : List D → Res D := runF 1 (b_shape_of)
def w_read_row_0 : DSem :=
  (sApp [(3, .sh)] 3 (vCallN 2 G16.m_read_word (aCons (vVar 4) (aCons (vVar 5) aNil))))
def b_read_row : DSem :=
  (sSeq (sAsg [] 1 (vLstOf (nSplit (vVar 0) (vC (.str " ")))))
  (sSeq (sAsg [] 2 (vCallN 1 G16.m_shape_of (aCons (v2 g_ix (vVar 1) (vC (.int 0))) aNil)))
  (sSeq (sIf (tOrD (vB (v2 g_isN (vVar 2) (vC .non))) (vB (v2 g_ne (vCall c_len (aCons (vVar 1) aNil)) (v2 g_add (vCall c_len (aCons (vVar 2) aNil)) (vC (.int 1))))))
  (sRaise "NoText")
  sNext)
  (sSeq (sAsg [] 3 (vLstOf (nLst (aCons (v2 g_ix (vVar 1) (vC (.int 0))) aNil))))
  (sSeq (sFor [(3, .sh)] (iZip2M (vVar 2) (vSl (vVar 1) (oSome (vC (.int 1))) oNone)) [4, 5] (kTup 2 (ksCons kName (ksCons kName ksNil)))
  w_read_row_0
  [4, 5])
  (sRet (vCall c_tuple (aCons (vVar 3) aNil))))))))
def m_read_row : List D → Res D := runF 6 (b_read_row)
def b_read_procedure : DSem :=
  (sSeq (sAsg [] 1 (vLstOf (nSplit (vVar 0) (vC (.str ": ")))))
  (sSeq (sIf (tOrD (vB (v2 g_ne (vCall c_len (aCons (vVar 1) aNil)) (vC (.int 2)))) (tNotD (vB (vCallN 1 G16.m_is_name (aCons (v2 g_ix (vVar 1) (vC (.int 0))) aNil)))))
  (sRaise "NoText")
  sNext)
  (sRet (vTup (aCons (v2 g_ix (vVar 1) (vC (.int 0))) (aCons (vLstOf (nComp (iSeq (vLstOf (nSplit (v2 g_ix (vVar 1) (vC (.int 1))) (vC (.str ", "))))) [2] kName tTrue (vCallN 1 G16.m_read_row (aCons (vVar 2) aNil)) [2])) aNil))))))
def m_read_procedure : List D → Res D := runF 3 (b_read_procedure)
def w_read_values_0 : DSem :=
  (sIf (vB (v2 g_notinT (vVar 2) (vTup (aCons (vC (.str "1")) (aCons (vC (.str "2")) (aCons (vC (.str "3")) (aCons (vC (.str "4")) aNil)))))))
  (sRaise "NoText")
  sNext)
def b_read_values : DSem :=
  (sSeq (sAsg [] 1 (vLstOf (nSplit (vVar 0) (vC (.str " ")))))
  (sSeq (sIf (tOrD (vB (v2 g_ne (vCall c_len (aCons (vVar 1) aNil)) (vC (.int 3)))) (vB (v2 g_ne (v2 g_ix (vVar 1) (vC (.int 0))) (vC (.str "values")))))
  (sRaise "NoText")
  sNext)
  (sSeq (sFor [] (iSeq (vSl (vVar 1) (oSome (vC (.int 1))) oNone)) [2] kName
  w_read_values_0
  [2])
  (sRet (vTup (aCons (vCall c_intS (aCons (v2 g_ix (vVar 1) (vC (.int 1))) aNil)) (aCons (vCall c_intS (aCons (v2 g_ix (vVar 1) (vC (.int 2))) aNil)) aNil)))))))
def m_read_values : List D → Res D := runF 3 (b_read_values)
def b_values_of : DSem :=
  (sSeq (sIf (vB (v2 g_eq (vVar 1) (vC (.str "shared"))))
  (sRet (v2 g_ix (vVar 0) (vC (.int 0))))
  sNext)
  (sRet (v2 g_ix (vVar 0) (vC (.int 1)))))
def m_values_of : List D → Res D := runF 2 (b_values_of)
def b_look_at : DSem :=
  (sSeq (sAsg [] 4 (v2 g_ix (vVar 2) (vVar 3)))
  (sSeq (sIf (tAndD (vB (v2 g_eq (v2 g_ix (vVar 4) (vC (.int 0))) (vC (.str "call")))) (vB (v2 g_notin (v2 g_ix (vVar 4) (vC (.int 1))) (vVar 1))))
  (sRaise "NoName")
  sNext)
  (sSeq (sIf (tAndD (vB (v2 g_inT (v2 g_ix (vVar 4) (vC (.int 0))) (vTup (aCons (vC (.str "set")) (aCons (vC (.str "if")) aNil))))) (vB (v2 (gI (fun i j => decide (j ≤ i))) (v2 g_ix (vVar 4) (vC (.int 2))) (vCallN 2 G16.m_values_of (aCons (vVar 0) (aCons (v2 g_ix (vVar 4) (vC (.int 1))) aNil))))))
  (sRaise "NoValue")
  sNext)
  (sSeq (sIf (tAndD (vB (v2 g_inT (v2 g_ix (vVar 4) (vC (.int 0))) (vTup (aCons (vC (.str "go")) (aCons (vC (.str "fork")) (aCons (vC (.str "if")) aNil)))))) (vB (v2 (gI (fun i j => decide (j ≤ i))) (v2 g_ix (vVar 4) (v1 g_neg (vC (.int 1)))) (vCall c_len (aCons (vVar 2) aNil)))))
  (sRaise "NoRow")
  sNext)
  (sIf (tAndD (vB (v2 g_eq (vVar 3) (v2 g_sub (vCall c_len (aCons (vVar 2) aNil)) (vC (.int 1))))) (vB (v2 g_notinT (v2 g_ix (vVar 4) (vC (.int 0))) (vTup (aCons (vC (.str "go")) (aCons (vC (.str "back")) (aCons (vC (.str "stop")) aNil)))))))
  (sRaise "NoRow")
  sNext)))))
def m_look_at : List D → Res D := runF 5 (b_look_at)
def w_look_over_0 : DSem :=
  (sDrop (vCallN 4 G16.m_look_at (aCons (vVar 0) (aCons (vVar 1) (aCons (vVar 3) (aCons (vVar 4) aNil))))))
def w_look_over_1 : DSem :=
  (sFor [] (iRange1 (vCall c_len (aCons (vVar 3) aNil))) [4] kName
  w_look_over_0
  [4])
def b_look_over : DSem :=
  (sSeq (sAsg [] 1 (vLstOf (nComp (iSeq (v2 g_ix (vVar 0) (vC (.int 2)))) [5] kName tTrue (v2 g_ix (vVar 5) (vC (.int 0))) [5])))
  (sSeq (sIf (vB (v2 g_ne (v1 g_lenT (vVar 1)) (vCall c_len (aCons (vVar 1) aNil))))
  (sRaise "Twice")
  sNext)
  (sSeq (sIf (vB (v2 g_notin (vC (.str "main")) (vVar 1)))
  (sRaise "NoName")
  sNext)
  (sFor [] (iSeq (v2 g_ix (vVar 0) (vC (.int 2)))) [2, 3] (kTup 2 (ksCons kName (ksCons kName ksNil)))
  w_look_over_1
  [2, 3, 4]))))
def m_look_over : List D → Res D := runF 6 (b_look_over)
def r_read_6 : DSem :=
  (sRet (vVar 3))
def r_read_5 : DSem :=
  (sSeq (sDrop (vCallN 1 G16.m_look_over (aCons (vVar 3) aNil)))
  r_read_6)
def r_read_4 : DSem :=
  (sSeq (sAsg [] 3 (vTup (aCons (v2 g_ix (vVar 2) (vC (.int 0))) (aCons (v2 g_ix (vVar 2) (vC (.int 1))) (aCons (vLstOf (nComp (iSeq (vSl (vVar 1) (oSome (vC (.int 1))) oNone)) [4] kName tTrue (vCallN 1 G16.m_read_procedure (aCons (vVar 4) aNil)) [4])) aNil)))))
  r_read_5)
def r_read_3 : DSem :=
  (sSeq (sIf (vB (v2 (gI (fun i j => decide (i < j))) (vCall c_len (aCons (vVar 1) aNil)) (vC (.int 2))))
  (sRaise "NoText")
  sNext)
  r_read_4)
def r_read_2 : DSem :=
  (sSeq (sAsg [] 2 (vCallN 1 G16.m_read_values (aCons (v2 g_ix (vVar 1) (vC (.int 0))) aNil)))
  r_read_3)
def r_read_1 : DSem :=
  (sSeq (sAsg [] 1 (vLstOf (nSplit (vVar 0) (vC (.str "; ")))))
  r_read_2)
def r_read_0 : DSem :=
  (sSeq (sIf (tNotD (vB (v1 (g_isi "str") (vVar 0))))
  (sRaise "NoText")
  sNext)
  r_read_1)
def b_read : DSem :=
  r_read_0
def m_read : List D → Res D := runF 5 (b_read)
def w_cells_0 : DSem :=
  (sAppI 2 (v2 g_add (vVar 1) (v2 g_mul (v2 g_mul (vC (.int 1051)) (vVar 3)) (vVar 3))))
def b_cells : DSem :=
  (sSeq (sAsgV 2 (vLstI (nSl (vVar 0) (oSome (vC (.int 2))) (oSome (vC (.int 102))))))
  (sSeq (sIf (vB (v2 g_eq (vCallN 3 G4.m_digit (aCons (vVar 1) (aCons (vC (.int 1049)) (aCons (vC (.int 8)) aNil)))) (vC (.int 3))))
  (sFor [(2, .dp)] (iRange1 (v2 g_add (vC (.int 40)) (vCallN 3 G4.m_digit (aCons (vVar 1) (aCons (vC (.int 1103)) (aCons (vC (.int 61)) aNil)))))) [3] kName
  w_cells_0
  [3])
  sNext)
  (sRet (vVar 2))))
def m_cells : List D → Res D := runF 4 (b_cells)
def w_program_0 : DSem :=
  (sPAppI 4 (pIx 4 (pName 4) (vCallN 3 G4.m_digit (aCons (vVar 5) (aCons (vC (.int 1051)) (aCons (vCall c_len (aCons (vVar 2) aNil)) aNil))))) (vVar 5))
def w_program_1 : DSem :=
  (sAppI 10 (vCallN 5 G4.m_row (aCons (vVar 5) (aCons (vVar 1) (aCons (vCall c_len (aCons (vVar 9) aNil)) (aCons (vVar 2) (aCons (v2 g_eq (vVar 11) (v2 g_sub (vCall c_len (aCons (vVar 9) aNil)) (vC (.int 1)))) aNil)))))))
def w_program_2 : DSem :=
  (sSeq (sAsgV 9 (vLstI (nCat (v2 g_ix (vVar 4) (vVar 7)) (vLstOf (nLst (aCons (v2 g_add (vVar 3) (v2 g_mul (v2 g_mul (vC (.int 7)) (vVar 7)) (vVar 7))) aNil))))))
  (sSeq (sAsgV 10 (vLstI (nLst aNil)))
  (sSeq (sFor [(10, .dp), (6, .sh), (4, .dp)] (iEnumD (vVar 9)) [11, 5] (kTup 2 (ksCons kName (ksCons kName ksNil)))
  w_program_1
  [5, 11])
  (sApp [(6, .sh), (4, .dp)] 6 (vTup (aCons (vVar 8) (aCons (vVar 10) aNil)))))))
def b_program : DSem :=
  (sSeq (sAsgV 4 (vLstOf (nComp (iSeq (vVar 2)) [8] kName tTrue (vLstI (nLst aNil)) [8])))
  (sSeq (sFor [(4, .dp)] (iSeq (vVar 0)) [5] kName
  w_program_0
  [5])
  (sSeq (sAsg [(4, .dp)] 6 (vLstOf (nLst aNil)))
  (sSeq (sFor [(6, .sh), (4, .dp)] (iEnumD (vVar 2)) [7, 8] (kTup 2 (ksCons kName (ksCons kName ksNil)))
  w_program_2
  [5, 7, 8, 9, 10, 11])
  (sRet (vTup (aCons (v2 g_ix (vVar 1) (vC (.int 0))) (aCons (v2 g_ix (vVar 1) (vC (.int 1))) (aCons (vVar 6) aNil)))))))))
def m_program : List D → Res D := runF 12 (b_program)
def w_text_0 : DSem :=
  (sApp [(1, .sh)] 1 (v2 g_add (v2 g_add (vVar 2) (vC (.str ": "))) (vJoin (vC (.str ", ")) (vLstOf (nComp (iSeq (vVar 3)) [4] kName tTrue (vJoin (vC (.str " ")) (vLstOf (nComp (iSeq (vVar 4)) [5] kName tTrue (vCall c_str (aCons (vVar 5) aNil)) [5]))) [4])))))
def b_text : DSem :=
  (sSeq (sAsg [] 1 (vLstOf (nLst (aCons (v2 g_add (v2 g_add (v2 g_add (vC (.str "values ")) (vCall c_str (aCons (v2 g_ix (vVar 0) (vC (.int 0))) aNil))) (vC (.str " "))) (vCall c_str (aCons (v2 g_ix (vVar 0) (vC (.int 1))) aNil))) aNil))))
  (sSeq (sFor [(1, .sh)] (iSeq (v2 g_ix (vVar 0) (vC (.int 2)))) [2, 3] (kTup 2 (ksCons kName (ksCons kName ksNil)))
  w_text_0
  [2, 3])
  (sRet (vJoin (vC (.str "; ")) (vVar 1)))))
def m_text : List D → Res D := runF 6 (b_text)
open G4
def w_skip : List Nat := [115, 107, 105, 112]
theorem lit_skip : D.str (Str.ofString "skip") = tx w_skip := tx_lit w_skip (by decide +kernel)
theorem as_skip : asc w_skip := by unfold asc w_skip; decide
def w_back : List Nat := [98, 97, 99, 107]
theorem lit_back : D.str (Str.ofString "back") = tx w_back := tx_lit w_back (by decide +kernel)
theorem as_back : asc w_back := by unfold asc w_back; decide
def w_stop : List Nat := [115, 116, 111, 112]
theorem lit_stop : D.str (Str.ofString "stop") = tx w_stop := tx_lit w_stop (by decide +kernel)
theorem as_stop : asc w_stop := by unfold asc w_stop; decide
def w_any : List Nat := [97, 110, 121]
theorem lit_any : D.str (Str.ofString "any") = tx w_any := tx_lit w_any (by decide +kernel)
theorem as_any : asc w_any := by unfold asc w_any; decide
def w_turn : List Nat := [116, 117, 114, 110]
theorem lit_turn : D.str (Str.ofString "turn") = tx w_turn := tx_lit w_turn (by decide +kernel)
theorem as_turn : asc w_turn := by unfold asc w_turn; decide
def w_go : List Nat := [103, 111]
theorem lit_go : D.str (Str.ofString "go") = tx w_go := tx_lit w_go (by decide +kernel)
theorem as_go : asc w_go := by unfold asc w_go; decide
def w_fork : List Nat := [102, 111, 114, 107]
theorem lit_fork : D.str (Str.ofString "fork") = tx w_fork := tx_lit w_fork (by decide +kernel)
theorem as_fork : asc w_fork := by unfold asc w_fork; decide
def w_set : List Nat := [115, 101, 116]
theorem lit_set : D.str (Str.ofString "set") = tx w_set := tx_lit w_set (by decide +kernel)
theorem as_set : asc w_set := by unfold asc w_set; decide
def w_if : List Nat := [105, 102]
theorem lit_if : D.str (Str.ofString "if") = tx w_if := tx_lit w_if (by decide +kernel)
theorem as_if : asc w_if := by unfold asc w_if; decide
def w_call : List Nat := [99, 97, 108, 108]
theorem lit_call : D.str (Str.ofString "call") = tx w_call := tx_lit w_call (by decide +kernel)
theorem as_call : asc w_call := by unfold asc w_call; decide
def w_shared : List Nat := [115, 104, 97, 114, 101, 100]
theorem lit_shared : D.str (Str.ofString "shared") = tx w_shared := tx_lit w_shared (by decide +kernel)
theorem as_shared : asc w_shared := by unfold asc w_shared; decide
def w_own : List Nat := [111, 119, 110]
theorem lit_own : D.str (Str.ofString "own") = tx w_own := tx_lit w_own (by decide +kernel)
theorem as_own : asc w_own := by unfold asc w_own; decide
def w_name : List Nat := [110, 97, 109, 101]
theorem lit_name : D.str (Str.ofString "name") = tx w_name := tx_lit w_name (by decide +kernel)
theorem as_name : asc w_name := by unfold asc w_name; decide
def w_which : List Nat := [119, 104, 105, 99, 104]
theorem lit_which : D.str (Str.ofString "which") = tx w_which := tx_lit w_which (by decide +kernel)
theorem as_which : asc w_which := by unfold asc w_which; decide
def w_count : List Nat := [99, 111, 117, 110, 116]
theorem lit_count : D.str (Str.ofString "count") = tx w_count := tx_lit w_count (by decide +kernel)
theorem as_count : asc w_count := by unfold asc w_count; decide
def w_values : List Nat := [118, 97, 108, 117, 101, 115]
theorem lit_values : D.str (Str.ofString "values") = tx w_values := tx_lit w_values (by decide +kernel)
theorem as_values : asc w_values := by unfold asc w_values; decide
theorem lit_sp : D.str (Str.ofString " ") = tx [32] := tx_lit [32] (by decide +kernel)
theorem lit_cs : D.str (Str.ofString ", ") = tx [44, 32] := tx_lit [44, 32] (by decide +kernel)
theorem lit_ds : D.str (Str.ofString ": ") = tx [58, 32] := tx_lit [58, 32] (by decide +kernel)
theorem lit_ss : D.str (Str.ofString "; ") = tx [59, 32] := tx_lit [59, 32] (by decide +kernel)
theorem lit_n0 : D.str (Str.ofString "0") = tx [48] := tx_lit [48] (by decide +kernel)
theorem lit_n1 : D.str (Str.ofString "1") = tx [49] := tx_lit [49] (by decide +kernel)
theorem lit_n2 : D.str (Str.ofString "2") = tx [50] := tx_lit [50] (by decide +kernel)
theorem lit_n3 : D.str (Str.ofString "3") = tx [51] := tx_lit [51] (by decide +kernel)
theorem lit_n4 : D.str (Str.ofString "4") = tx [52] := tx_lit [52] (by decide +kernel)
def figs : List Nat := [48, 49, 50, 51, 52, 53, 54, 55, 56, 57]
theorem lit_figs : D.str (Str.ofString "0123456789") = tx figs := tx_lit figs (by decide +kernel)
theorem numL_head : ∀ (k n : Nat), n < k → 0 < n → ∃ c r, TL.numL n = c :: r ∧ c ≠ 48
  | 0, n, h, _ => by omega
  | k + 1, n, h, h0 => by
    by_cases q : n < 10
    · exact ⟨48 + n, [], TL.numL_lt q, by omega⟩
    · obtain ⟨c, r, e, ne⟩ := numL_head k (n / 10) (by omega) (by omega)
      exact ⟨c, r ++ [48 + n % 10], by rw [TL.numL_step (by omega), e]; rfl, ne⟩
theorem numL_mem {n c : Nat} (h : c ∈ TL.numL n) : 48 ≤ c ∧ c ≤ 57 := by
  by_cases q : c < 48 ∨ 57 < c
  · exact absurd h (TL.numL_free q)
  · omega
theorem numL_asc (n : Nat) : asc (TL.numL n) := fun c h => by have := numL_mem h; omega
theorem mem_figs {c : Nat} (h : 48 ≤ c ∧ c ≤ 57) : c ∈ figs := by
  have : ∀ d : Fin 10, (48 + d.1) ∈ figs := by decide
  have q := this ⟨c - 48, by omega⟩
  simpa [show 48 + (c - 48) = c by omega] using q
theorem mem_abc {c : Nat} (h : 97 ≤ c ∧ c ≤ 122) : c ∈ abc := by
  have : ∀ d : Fin 26, (97 + d.1) ∈ abc := by decide
  have q := this ⟨c - 97, by omega⟩
  simpa [show 97 + (c - 97) = c by omega] using q
theorem all_signs {t : Str} {ls : List Nat} (ht : D.str t = tx ls) {a : List Nat} (h : ∀ c ∈ a, c ∈ ls) (x : Option D) : compL [1] kName tTrue (v2 g_in (vVar 1) (vC (.str t))) [x, none] (a.map fun c => tx [c]) = .ok (a.map fun _ => D.bl true) :=
  compL_eq (fun _ => D.bl true) fun c hc => by
    simp -implicitDefEqProofs [ht, g_in_sign, -g_in_eq, h c hc]
theorem is_name_ok {l : List Nat} (h : isName l) : m_is_name [tx l] = .ok (.bl true) := by
  have hc := all_signs lit_abc (a := l) (fun c hc => mem_abc (h.1 c hc)) (some (tx l))
  have h1 := h.2.1
  have h2 := h.2.2
  have e1 : ((1 : Int) ≤ l.length) := by omega
  have e2 : ((l.length : Int) ≤ 8) := by omega
  simp -implicitDefEqProofs [m_is_name, b_is_name, show l.length ≤ 16777216 by omega, signs_tx, hc, e1, e2]
theorem is_count_ok {n : Nat} (h : n < 1000) : m_is_count [tx (TL.numL n)] = .ok (.bl true) := by
  have hc := all_signs lit_figs (a := TL.numL n) (fun c hc => mem_figs (numL_mem hc)) (some (tx (TL.numL n)))
  have h1 := TL.numL_len (k := 3) (by decide) h
  have h2 : 0 < (TL.numL n).length := Nat.pos_of_ne_zero fun z => TL.numL_ne n (List.length_eq_zero_iff.mp z)
  have e1 : ((1 : Int) ≤ (TL.numL n).length) := by omega
  have e2 : ((TL.numL n).length : Int) ≤ 3 := by omega
  have a0 : asc [48] := by unfold asc; decide
  have fin : ∀ a : List Nat, TL.numL n = a → (g_eq (tx a) (tx [48]) = .ok (.bl true) ∨ (g_eq (tx a) (tx [48]) = .ok (.bl false) ∧ ∃ c, g_ix (tx a) (.int 0) = .ok (tx [c]) ∧ g_ne (tx [c]) (tx [48]) = .ok (.bl true))) → m_is_count [tx a] = .ok (.bl true) := fun a ea q => by
    rw [ea] at hc h1 h2 e1 e2
    rcases q with q | ⟨q, c, q1, q2⟩
    · simp -implicitDefEqProofs [m_is_count, b_is_count, show a.length ≤ 16777216 by omega, hc, lit_n0, -g_eq_S, -g_ne_S, q, e1, e2]
    · simp -implicitDefEqProofs [m_is_count, b_is_count, show a.length ≤ 16777216 by omega, hc, lit_n0, -g_eq_S, -g_ne_S, q, q1, q2, e1, e2]
  refine fin _ rfl ?_
  by_cases z : n = 0
  · subst z
    rw [TL.numL_lt (n := 0) (by decide), g_eq_tx a0 a0]
    exact .inl (by simp)
  · obtain ⟨c, r, e, ne⟩ := numL_head (n + 1) n (by omega) (by omega)
    have ar := numL_asc n
    rw [e] at ar h1 ⊢
    have ac : asc [c] := fun d hd => ar d (by simp at hd; subst hd; simp)
    refine .inr ⟨by rw [g_eq_tx ar a0]; simp [ne], c, g_ix_tx (by omega) (by omega) (by simp), by rw [g_ne_tx ac a0]; simp [ne]⟩
def wside : Bool → List Nat
  | true => w_shared
  | false => w_own
theorem eSide_tx (sh : Bool) : eSide sh = tx (wside sh) := by cases sh; exact lit_own; exact lit_shared
theorem as_side (sh : Bool) : asc (wside sh) := by cases sh; exact as_own; exact as_shared
theorem read_name {l : List Nat} (h : isName l) : m_read_word [tx w_name, tx l] = .ok (tx l) := by
  have hn := is_name_ok h
  have q : g_eq (tx w_name) (tx w_name) = .ok (.bl true) := by rw [g_eq_tx as_name as_name]; simp
  simp -implicitDefEqProofs [m_read_word, b_read_word, lit_name, -g_eq_S, q, hn]
theorem read_which (sh : Bool) : m_read_word [tx w_which, tx (wside sh)] = .ok (tx (wside sh)) := by
  have q1 : g_eq (tx w_which) (tx w_name) = .ok (.bl false) := by rw [g_eq_tx as_which as_name]; simp [w_which, w_name]
  have q2 : g_eq (tx w_which) (tx w_which) = .ok (.bl true) := by rw [g_eq_tx as_which as_which]; simp
  have q3 : g_inT (tx (wside sh)) (.tup [tx w_shared, tx w_own]) = .ok (.bl true) := by
    have := g_inT_tx (a := wside sh) (ls := [w_shared, w_own]) (as_side sh) (by simp [as_shared, as_own])
    simp only [List.map_cons, List.map_nil] at this
    rw [this]
    cases sh <;> simp [wside]
  simp -implicitDefEqProofs [m_read_word, b_read_word, lit_name, lit_which, lit_shared, lit_own, -g_eq_S, q1, q2, q3]
theorem read_count {n : Nat} (h : n < 1000) : m_read_word [tx w_count, tx (TL.numL n)] = .ok (.int (n : Int)) := by
  have q1 : g_eq (tx w_count) (tx w_name) = .ok (.bl false) := by rw [g_eq_tx as_count as_name]; simp [w_count, w_name]
  have q2 : g_eq (tx w_count) (tx w_which) = .ok (.bl false) := by rw [g_eq_tx as_count as_which]; simp [w_count, w_which]
  have q3 : g_eq (tx w_count) (tx w_count) = .ok (.bl true) := by rw [g_eq_tx as_count as_count]; simp
  have hc := is_count_ok h
  have hi : c_intS [tx (TL.numL n)] = .ok (.int (n : Int)) := c_intS_num (Nat.lt_of_lt_of_le h (by decide))
  simp -implicitDefEqProofs [m_read_word, b_read_word, lit_name, lit_which, lit_count, -g_eq_S, q1, q2, q3, hc, hi]
def shapeOf (l : List Nat) : Option (List (List Nat)) :=
  if l ∈ [w_skip, w_back, w_stop] then some [] else if l ∈ [w_any, w_turn] then some [w_which] else if l ∈ [w_go, w_fork] then some [w_count]
  else if l = w_set then some [w_which, w_count] else if l = w_if then some [w_which, w_count, w_count] else if l = w_call then some [w_name] else none
theorem shape_ok {l : List Nat} (h : asc l) : m_shape_of [tx l] = .ok (match shapeOf l with | some s => .tup (s.map tx) | none => .non) := by
  have i3 : ∀ a b c : List Nat, asc a → asc b → asc c → g_inT (tx l) (.tup [tx a, tx b, tx c]) = .ok (.bl (decide (l ∈ [a, b, c]))) := fun a b c ha hb hc => g_inT_tx (ls := [a, b, c]) h (by simp [ha, hb, hc])
  have i2 : ∀ a b : List Nat, asc a → asc b → g_inT (tx l) (.tup [tx a, tx b]) = .ok (.bl (decide (l ∈ [a, b]))) := fun a b ha hb => g_inT_tx (ls := [a, b]) h (by simp [ha, hb])
  have e1 := i3 _ _ _ as_skip as_back as_stop
  have e2 := i2 _ _ as_any as_turn
  have e3 := i2 _ _ as_go as_fork
  have e4 := g_eq_tx h as_set
  have e5 := g_eq_tx h as_if
  have e6 := g_eq_tx h as_call
  unfold shapeOf
  by_cases c1 : l ∈ [w_skip, w_back, w_stop]
  · rw [if_pos c1]; simp only [c1, decide_true] at e1
    simp -implicitDefEqProofs [m_shape_of, b_shape_of, r_shape_of_0, lit_skip, lit_back, lit_stop, e1]
  · rw [if_neg c1]; simp only [c1, decide_false] at e1
    by_cases c2 : l ∈ [w_any, w_turn]
    · rw [if_pos c2]; simp only [c2, decide_true] at e2
      simp -implicitDefEqProofs [m_shape_of, b_shape_of, r_shape_of_0, r_shape_of_1, lit_skip, lit_back, lit_stop, lit_any, lit_turn, lit_which, e1, e2]
    · rw [if_neg c2]; simp only [c2, decide_false] at e2
      by_cases c3 : l ∈ [w_go, w_fork]
      · rw [if_pos c3]; simp only [c3, decide_true] at e3
        simp -implicitDefEqProofs [m_shape_of, b_shape_of, r_shape_of_0, r_shape_of_1, r_shape_of_2, lit_skip, lit_back, lit_stop, lit_any, lit_turn, lit_go, lit_fork, lit_count, e1, e2, e3]
      · rw [if_neg c3]; simp only [c3, decide_false] at e3
        by_cases c4 : l = w_set
        · rw [if_pos c4]; simp only [c4, decide_true] at e1 e2 e3 e4
          subst c4
          simp -implicitDefEqProofs [m_shape_of, b_shape_of, r_shape_of_0, r_shape_of_1, r_shape_of_2, r_shape_of_3, lit_skip, lit_back, lit_stop, lit_any, lit_turn, lit_go, lit_fork, lit_set, lit_which, lit_count, e1, e2, e3, e4, -g_eq_S]
        · rw [if_neg c4]; simp only [c4, decide_false] at e4
          by_cases c5 : l = w_if
          · rw [if_pos c5]; simp only [c5, decide_true] at e1 e2 e3 e4 e5
            subst c5
            simp -implicitDefEqProofs [m_shape_of, b_shape_of, r_shape_of_0, r_shape_of_1, r_shape_of_2, r_shape_of_3, r_shape_of_4, lit_skip, lit_back, lit_stop, lit_any, lit_turn, lit_go, lit_fork, lit_set, lit_if, lit_which, lit_count, e1, e2, e3, e4, e5, -g_eq_S]
          · rw [if_neg c5]; simp only [c5, decide_false] at e5
            by_cases c6 : l = w_call
            · rw [if_pos c6]; simp only [c6, decide_true] at e1 e2 e3 e4 e5 e6
              subst c6
              simp -implicitDefEqProofs [m_shape_of, b_shape_of, r_shape_of_0, r_shape_of_1, r_shape_of_2, r_shape_of_3, r_shape_of_4, r_shape_of_5, lit_skip, lit_back, lit_stop, lit_any, lit_turn, lit_go, lit_fork, lit_set, lit_if, lit_call, lit_name, e1, e2, e3, e4, e5, e6, -g_eq_S]
            · rw [if_neg c6]; simp only [c6, decide_false] at e6
              simp -implicitDefEqProofs [m_shape_of, b_shape_of, r_shape_of_0, r_shape_of_1, r_shape_of_2, r_shape_of_3, r_shape_of_4, r_shape_of_5, r_shape_of_6, lit_skip, lit_back, lit_stop, lit_any, lit_turn, lit_go, lit_fork, lit_set, lit_if, lit_call, e1, e2, e3, e4, e5, e6, -g_eq_S]
/-! rows -/
def hd : Rw → List Nat
  | .skip => w_skip
  | .set _ _ => w_set
  | .any _ => w_any
  | .turn _ => w_turn
  | .iff _ _ _ => w_if
  | .go _ => w_go
  | .fork _ => w_fork
  | .call _ => w_call
  | .back => w_back
  | .stop => w_stop
def tW (sh : Bool) : List Nat × List Nat × D := (w_which, wside sh, tx (wside sh))
def tN (v : Int) : List Nat × List Nat × D := (w_count, TL.numL v.toNat, .int v)
def ts : Rw → List (List Nat × List Nat × D)
  | .set sh v => [tW sh, tN v]
  | .any sh => [tW sh]
  | .turn sh => [tW sh]
  | .iff sh v k => [tW sh, tN v, tN k]
  | .go k => [tN k]
  | .fork k => [tN k]
  | .call f => [(w_name, f, tx f)]
  | _ => []
/-- the words of a row, as texts -/
def sw (r : Rw) : List (List Nat) := hd r :: (ts r).map (·.2.1)
theorem words_eq (r : Rw) : G4.wordsOf r = tx (hd r) :: (ts r).map (·.2.2) := by
  cases r <;> simp only [G4.wordsOf, hd, ts, tW, tN, List.map_cons, List.map_nil, eSide_tx, lit_skip, lit_set, lit_any, lit_turn, lit_if, lit_go, lit_fork, lit_call, lit_back, lit_stop]
theorem shape_eq (r : Rw) : shapeOf (hd r) = some ((ts r).map (·.1)) := by
  cases r <;> simp only [hd, ts, tW, tN, List.map_cons, List.map_nil] <;> decide
theorem as_hd (r : Rw) : asc (hd r) := by
  cases r <;> simp only [hd]
  · exact as_skip
  · exact as_set
  · exact as_any
  · exact as_turn
  · exact as_if
  · exact as_go
  · exact as_fork
  · exact as_call
  · exact as_back
  · exact as_stop
/-- the numbers of a row are counts, the name it calls is a name -/
def NumOk (v : Int) : Prop := 0 ≤ v ∧ v < 1000
def RwSm : Rw → Prop
  | .set _ v => NumOk v
  | .iff _ v k => NumOk v ∧ NumOk k
  | .go k => NumOk k
  | .fork k => NumOk k
  | .call f => isName f
  | _ => True
theorem rwSm {v0 v1 many : Int} {nl : List (List Nat)} {r : Rw} (h : RwOk v0 v1 many nl r) (h0 : v0 ≤ 4) (h1 : v1 ≤ 4) (hm : many ≤ 1000) (hn : ∀ l ∈ nl, isName l) : RwSm r := by
  have hv : ∀ sh, vOf v0 v1 sh ≤ 4 := fun sh => by cases sh <;> simp [vOf, h0, h1]
  cases r <;> simp only [RwOk, RwSm, NumOk] at * <;> try trivial
  · rename_i sh v; have := hv sh; omega
  · rename_i sh v k; have := hv sh; omega
  · omega
  · omega
  · exact hn _ h
theorem tN_ok {v : Int} (h : NumOk v) : m_read_word [tx (tN v).1, tx (tN v).2.1] = .ok (tN v).2.2 := by
  obtain ⟨n, rfl⟩ := Int.eq_ofNat_of_zero_le h.1
  exact read_count (n := n) (by have := h.2; omega)
theorem ts_ok {r : Rw} (h : RwSm r) : ∀ t ∈ ts r, m_read_word [tx t.1, tx t.2.1] = .ok t.2.2 := by
  intro t ht
  cases r <;> simp only [ts, List.mem_cons, List.not_mem_nil, or_false] at ht
  · rcases ht with rfl | rfl
    · exact read_which _
    · exact tN_ok h
  · subst ht; exact read_which _
  · subst ht; exact read_which _
  · rcases ht with rfl | rfl | rfl
    · exact read_which _
    · exact tN_ok h.1
    · exact tN_ok h.2
  · subst ht; exact tN_ok h
  · subst ht; exact tN_ok h
  · subst ht; exact read_name h
theorem zipD_three : ∀ l : List (List Nat × List Nat × D), zipD (l.map fun t => tx t.1) (l.map fun t => tx t.2.1) = l.map fun t => D.tup [tx t.1, tx t.2.1]
  | [] => rfl
  | t :: r => by rw [List.map_cons, List.map_cons, List.map_cons, ← zipD_three r]; rfl
/-- the signs of words: figures and small letters -/
def pl (l : List Nat) : Prop := ∀ c ∈ l, (48 ≤ c ∧ c ≤ 57) ∨ (97 ≤ c ∧ c ≤ 122)
theorem pl_hd (r : Rw) : pl (hd r) := by unfold pl; cases r <;> simp only [hd] <;> decide
theorem pl_num (n : Nat) : pl (TL.numL n) := fun c h => .inl (numL_mem h)
theorem pl_side (sh : Bool) : pl (wside sh) := by unfold pl; cases sh <;> decide
theorem pl_name {l : List Nat} (h : isName l) : pl l := fun c hc => .inr (h.1 c hc)
theorem pl_sw {r : Rw} (h : RwSm r) : ∀ p ∈ sw r, pl p := by
  intro p hp
  unfold sw at hp
  rcases List.mem_cons.mp hp with rfl | hp
  · exact pl_hd r
  · cases r <;> simp only [ts, tW, tN, List.map_cons, List.map_nil, List.mem_cons, List.not_mem_nil, or_false] at hp
    · rcases hp with rfl | rfl
      · exact pl_side _
      · exact pl_num _
    · subst hp; exact pl_side _
    · subst hp; exact pl_side _
    · rcases hp with rfl | rfl | rfl
      · exact pl_side _
      · exact pl_num _
      · exact pl_num _
    · subst hp; exact pl_num _
    · subst hp; exact pl_num _
    · subst hp; exact pl_name h
theorem pl.no {l : List Nat} (h : pl l) {c : Nat} (hc : c < 48 ∨ (57 < c ∧ c < 97)) : c ∉ l := fun m => by have := h c m; omega
theorem joinL_mem {s : List Nat} {c : Nat} : ∀ {ps : List (List Nat)}, c ∈ TL.joinL s ps → c ∈ s ∨ ∃ p ∈ ps, c ∈ p
  | [], h => by cases h
  | [p], h => .inr ⟨p, by simp, h⟩
  | p :: q :: r, h => by
    have h : c ∈ p ++ (s ++ TL.joinL s (q :: r)) := h
    rcases List.mem_append.mp h with h | h
    · exact .inr ⟨p, by simp, h⟩
    · rcases List.mem_append.mp h with h | h
      · exact .inl h
      · rcases joinL_mem h with h | ⟨x, hx, h⟩
        · exact .inl h
        · exact .inr ⟨x, List.mem_cons_of_mem _ hx, h⟩
theorem joinL_len {s : List Nat} {k : Nat} : ∀ {ps : List (List Nat)}, (∀ p ∈ ps, p.length ≤ k) → (TL.joinL s ps).length ≤ ps.length * (k + s.length)
  | [], _ => by simp [TL.joinL]
  | [p], h => by
    have := h p (by simp)
    show p.length ≤ 1 * _
    omega
  | p :: q :: r, h => by
    have h1 := h p (by simp)
    have h2 := joinL_len (s := s) (k := k) (ps := q :: r) fun x hx => h x (List.mem_cons_of_mem _ hx)
    show (p ++ (s ++ TL.joinL s (q :: r))).length ≤ _
    rw [List.length_append, List.length_append, List.length_cons (as := q :: r), Nat.succ_mul]
    omega
/-- the text of a row -/
def rowT (r : Rw) : List Nat := TL.joinL [32] (sw r)
theorem len_num {v : Int} (h : NumOk v) : (TL.numL v.toNat).length ≤ 8 := by
  have := TL.numL_len (k := 3) (by decide) (n := v.toNat) (by have := h.1; have := h.2; omega)
  omega
theorem sw_len {r : Rw} (h : RwSm r) : (∀ p ∈ sw r, p.length ≤ 8) ∧ (sw r).length ≤ 4 := by
  refine ⟨fun p hp => ?_, by cases r <;> simp [sw, ts]⟩
  unfold sw at hp
  rcases List.mem_cons.mp hp with rfl | hp
  · cases r <;> simp only [hd] <;> decide
  · have hs : ∀ sh, (wside sh).length ≤ 8 := fun sh => by cases sh <;> decide
    cases r <;> simp only [ts, tW, tN, List.map_cons, List.map_nil, List.mem_cons, List.not_mem_nil, or_false] at hp
    · rcases hp with rfl | rfl
      · exact hs _
      · exact len_num h
    · subst hp; exact hs _
    · subst hp; exact hs _
    · rcases hp with rfl | rfl | rfl
      · exact hs _
      · exact len_num h.1
      · exact len_num h.2
    · subst hp; exact len_num h
    · subst hp; exact len_num h
    · subst hp; exact h.2.2
theorem rowT_len {r : Rw} (h : RwSm r) : (rowT r).length ≤ 36 := by
  have h1 := joinL_len (s := [32]) (k := 8) (sw_len h).1
  have h2 := (sw_len h).2
  have : (sw r).length * (8 + 1) ≤ 4 * 9 := Nat.mul_le_mul_right 9 h2
  unfold rowT
  simp only [List.length_cons, List.length_nil] at h1
  omega
theorem rowT_no {r : Rw} (h : RwSm r) {c : Nat} (hc : c < 48 ∨ (57 < c ∧ c < 97)) (h32 : c ≠ 32) : c ∉ rowT r := fun m => by
  rcases joinL_mem m with m | ⟨p, hp, m⟩
  · simp at m; exact h32 m
  · exact (pl_sw h p hp).no hc m
theorem read_row_ok {r : Rw} (h : RwSm r) : m_read_row [tx (rowT r)] = .ok (eRw r) := by
  have hl := rowT_len h
  have e1 : TL.spl [32] 0 [] (rowT r) = sw r := SX.spl_join (c := 32) (sep := []) (by simp [sw]) fun p hp => (pl_sw h p hp).no (by omega)
  have e2 := splR_tx (a := rowT r) (b := [32]) (by simp) (by decide) (by omega)
  rw [e1] at e2
  have e3 := shape_ok (as_hd r)
  rw [shape_eq] at e3
  have hts := ts_ok h
  have hn : (ts r).length ≤ 3 := by cases r <;> simp [ts]
  unfold sw at e2
  unfold eRw
  rw [words_eq]
  generalize rowT r = T at *
  generalize hd r = H at *
  generalize ts r = L at *
  simp only [List.map_map, List.map_cons] at e2 e3
  have lp : ∀ o, forF [4, 5] (kTup 2 (ksCons kName (ksCons kName ksNil))) w_read_row_0 [4, 5] (L.map fun t => D.tup [tx t.1, tx t.2.1]) [some (tx T), some (.lst (tx H :: L.map fun t => tx t.2.1)), some (.tup (L.map fun t => tx t.1)), some (.lst [tx H]), none, none] = o →
      o = .nx [some (tx T), some (.lst (tx H :: L.map fun t => tx t.2.1)), some (.tup (L.map fun t => tx t.1)), some (.lst (tx H :: L.map (·.2.2))), none, none] := fun o hF => by
    obtain ⟨ds, rfl, iv⟩ := forF_inv (S := List D) hF (fun ds => [some (tx T), some (.lst (tx H :: L.map fun t => tx t.2.1)), some (.tup (L.map fun t => tx t.1)), some (.lst ds), none, none]) (fun i ds => ds = tx H :: (L.take i).map (·.2.2)) [tx H] (by simp) rfl (fun i ds t hx iv => by
      have hm := hts t (mem_getElem? hx)
      have hi := idx_lt hx
      refine ⟨ds ++ [t.2.2], ?_, ?_⟩
      · have : ds.length < 16777216 := by rw [iv]; simp; omega
        simp -implicitDefEqProofs [w_read_row_0, hm, this]
      · rw [iv, List.take_add_one, hx]; simp)
    rw [iv]; simp
  have z := zipD_three L
  have e3' : m_shape_of [tx H] = .ok (.tup (L.map fun t => tx t.1)) := e3
  have e2' : splR ⟨T.toArray⟩ (tx [32]) = .ok (tx H :: L.map fun t => tx t.2.1) := e2
  have sl : g_sl (.lst (tx H :: L.map fun t => tx t.2.1)) (some 1) none = .ok (.lst (L.map fun t => tx t.2.1)) := by
    simp
  simp -implicitDefEqProofs [m_read_row, b_read_row, lit_sp, e2', e3', z, sl]
  generalize hF : forF _ _ _ _ _ _ = o
  rw [lp o hF]
  simp -implicitDefEqProofs [c_tuple]
/-! procedures and values -/
theorem forF_nil0 {is fg : List Nat} {ks : D → Res (List D)} {F : DSem} {ρ : DL.Env} : forF is ks F fg [] ρ = .nx ρ := rfl
theorem sum_le {α : Type} (f : α → Nat) (k : Nat) : ∀ {l : List α}, (∀ x ∈ l, f x ≤ k) → (l.map f).sum ≤ l.length * k
  | [], _ => by simp
  | x :: r, h => by
    have h1 := h x (by simp)
    have h2 := sum_le f k (l := r) fun y hy => h y (List.mem_cons_of_mem _ hy)
    rw [List.map_cons, List.sum_cons, List.length_cons, Nat.succ_mul]
    omega
def rowsT (rs : List Rw) : List Nat := TL.joinL [44, 32] (rs.map rowT)
theorem rowsT_len {rs : List Rw} (h : ∀ r ∈ rs, RwSm r) : (rowsT rs).length ≤ rs.length * 38 := by
  have := joinL_len (s := [44, 32]) (k := 36) (ps := rs.map rowT) fun p hp => by
    obtain ⟨r, hr, rfl⟩ := List.mem_map.mp hp
    exact rowT_len (h r hr)
  simpa [rowsT] using this
theorem rowsT_no {rs : List Rw} (h : ∀ r ∈ rs, RwSm r) {c : Nat} (hc : 57 < c ∧ c < 97) : c ∉ rowsT rs := fun m => by
  rcases joinL_mem m with m | ⟨p, hp, m⟩
  · simp at m; omega
  · obtain ⟨r, hr, rfl⟩ := List.mem_map.mp hp
    exact rowT_no (h r hr) (.inr hc) (by omega) m
theorem rowsT_spl {rs : List Rw} (h : ∀ r ∈ rs, RwSm r) (hne : rs ≠ []) : TL.spl [44, 32] 0 [] (rowsT rs) = rs.map rowT :=
  SX.spl_join (c := 44) (sep := [32]) (by simpa using hne) fun p hp => by
    obtain ⟨r, hr, rfl⟩ := List.mem_map.mp hp
    exact rowT_no (h r hr) (.inl (by omega)) (by omega)
/-- the text of a procedure -/
def procT (p : Proc) : List Nat := p.1 ++ ([58, 32] ++ rowsT p.2)
structure PSm (p : Proc) : Prop where
  nm : isName p.1
  rw : ∀ r ∈ p.2, RwSm r
  ne : p.2 ≠ []
  few : p.2.length ≤ 1000
theorem procT_len {p : Proc} (h : PSm p) : (procT p).length ≤ 40000 := by
  have h1 := rowsT_len h.rw
  have h2 := h.few
  have h3 := h.nm.2.2
  unfold procT
  simp only [List.length_append, List.length_cons, List.length_nil]
  omega
theorem procT_no {p : Proc} (h : PSm p) : 59 ∉ procT p := fun m => by
  unfold procT at m
  rcases List.mem_append.mp m with m | m
  · exact (pl_name h.nm).no (by omega) m
  · rcases List.mem_append.mp m with m | m
    · simp at m
    · exact rowsT_no h.rw (by omega) m
theorem procT_spl {p : Proc} (h : PSm p) : TL.spl [58, 32] 0 [] (procT p) = [p.1, rowsT p.2] := by
  have := SX.spl_join (c := 58) (sep := [32]) (parts := [p.1, rowsT p.2]) (by simp) fun q hq => by
    simp only [List.mem_cons, List.not_mem_nil, or_false] at hq
    rcases hq with rfl | rfl
    · exact (pl_name h.nm).no (by omega)
    · exact rowsT_no h.rw (by omega)
  exact this
theorem read_procedure_ok {p : Proc} (h : PSm p) : m_read_procedure [tx (procT p)] = .ok (eProc p) := by
  have e1 := splR_tx (a := procT p) (b := [58, 32]) (by simp) (by decide) (by have := procT_len h; omega)
  rw [procT_spl h] at e1
  have e2 := splR_tx (a := rowsT p.2) (b := [44, 32]) (by simp) (by decide) (by have := rowsT_len h.rw; have := h.few; omega)
  rw [rowsT_spl h.rw h.ne, List.map_map] at e2
  have hn := is_name_ok h.nm
  have hc : ∀ x y, compL [2] kName tTrue (vCallN 1 m_read_row (aCons (vVar 2) aNil)) [x, y, none] (p.2.map (tx ∘ rowT)) = .ok (p.2.map eRw) := fun x y =>
    compL_eq (enc := tx ∘ rowT) eRw fun r hr => by
      simp -implicitDefEqProofs [read_row_ok (h.rw r hr)]
  have hf := h.few
  generalize procT p = T at e1
  generalize rowsT p.2 = R at e1 e2
  simp only [List.map_cons, List.map_nil] at e1
  simp -implicitDefEqProofs [m_read_procedure, b_read_procedure, lit_ds, lit_cs, e1, e2, hn, hc, show p.2.length ≤ 16777216 by omega, eProc, -List.map_map]
def valT (a b : Int) : List Nat := TL.joinL [32] [w_values, TL.numL a.toNat, TL.numL b.toNat]
def V4 (a : Int) : Prop := 1 ≤ a ∧ a ≤ 4
theorem v4_num {a : Int} (h : V4 a) : TL.numL a.toNat ∈ [[49], [50], [51], [52]] := by
  obtain ⟨n, rfl⟩ := Int.eq_ofNat_of_zero_le (show 0 ≤ a by have := h.1; omega)
  have h1 := h.1
  have h2 := h.2
  rw [Int.toNat_natCast, TL.numL_lt (by omega)]
  have : n = 1 ∨ n = 2 ∨ n = 3 ∨ n = 4 := by omega
  rcases this with rfl | rfl | rfl | rfl <;> simp
theorem v4_len {a : Int} (h : V4 a) : (TL.numL a.toNat).length = 1 := by
  have := v4_num h
  simp only [List.mem_cons, List.not_mem_nil, or_false] at this
  rcases this with e | e | e | e <;> rw [e] <;> rfl
theorem valT_len {a b : Int} (ha : V4 a) (hb : V4 b) : (valT a b).length = 10 := by
  have h1 := v4_len ha
  have h2 := v4_len hb
  show (w_values ++ ([32] ++ (TL.numL a.toNat ++ ([32] ++ TL.numL b.toNat)))).length = 10
  simp only [List.length_append, h1, h2, List.length_cons, List.length_nil]
  rfl
theorem valT_no {a b : Int} : 59 ∉ valT a b := fun m => by
  rcases joinL_mem m with m | ⟨p, hp, m⟩
  · simp at m
  · simp only [List.mem_cons, List.not_mem_nil, or_false] at hp
    rcases hp with rfl | rfl | rfl
    · revert m; decide
    · exact TL.numL_free (by omega) m
    · exact TL.numL_free (by omega) m
theorem read_values_ok {a b : Int} (ha : V4 a) (hb : V4 b) : m_read_values [tx (valT a b)] = .ok (.tup [.int a, .int b]) := by
  have e1 := splR_tx (a := valT a b) (b := [32]) (by simp) (by decide) (by have := valT_len ha hb; omega)
  rw [show TL.spl [32] 0 [] (valT a b) = _ from SX.spl_join (c := 32) (sep := []) (by simp) fun p hp => by
    simp only [List.mem_cons, List.not_mem_nil, or_false] at hp
    rcases hp with rfl | rfl | rfl
    · decide
    · exact TL.numL_free (by omega)
    · exact TL.numL_free (by omega)] at e1
  simp only [List.map_cons, List.map_nil] at e1
  have q0 : g_ne (tx w_values) (tx w_values) = .ok (.bl false) := by rw [g_ne_tx as_values as_values]; simp
  have qn : ∀ {a : Int}, V4 a → g_notinT (tx (TL.numL a.toNat)) (.tup [tx [49], tx [50], tx [51], tx [52]]) = .ok (.bl false) := fun {a} h => by
    have := g_notinT_tx (a := TL.numL a.toNat) (ls := [[49], [50], [51], [52]]) (numL_asc _) (by unfold asc; decide)
    simp only [List.map_cons, List.map_nil] at this
    rw [this]
    simp [v4_num h]
  have qa := qn ha
  have qb := qn hb
  have ia : ∀ {a : Int}, V4 a → c_intS [tx (TL.numL a.toNat)] = .ok (.int a) := fun {a} h => by
    obtain ⟨n, rfl⟩ := Int.eq_ofNat_of_zero_le (show 0 ≤ a by have := h.1; omega)
    exact c_intS_num (Nat.lt_of_le_of_lt (show n ≤ 4 by have := h.2; omega) (by decide))
  have i1 := ia ha
  have i2 := ia hb
  generalize valT a b = T at *
  generalize TL.numL a.toNat = A at *
  generalize TL.numL b.toNat = B at *
  simp -implicitDefEqProofs [m_read_values, b_read_values, w_read_values_0, lit_sp, lit_values, lit_n1, lit_n2, lit_n3, lit_n4, e1, q0, -g_ne_S, g_ne_int, qa, qb, i1, i2, forF_cons, forF_nil0]
/-! looking over -/
theorem values_of_ok {v0 v1 : Int} {ps : List Proc} (sh : Bool) : m_values_of [eP v0 v1 ps, tx (wside sh)] = .ok (.int (vOf v0 v1 sh)) := by
  have q := g_eq_tx (as_side sh) as_shared
  cases sh
  · have q : g_eq (tx (wside false)) (tx w_shared) = .ok (.bl false) := by rw [q]; rfl
    simp -implicitDefEqProofs [m_values_of, b_values_of, lit_shared, -g_eq_S, q, vOf, eP]
  · have q : g_eq (tx (wside true)) (tx w_shared) = .ok (.bl true) := by rw [q]; rfl
    simp -implicitDefEqProofs [m_values_of, b_values_of, lit_shared, -g_eq_S, q, vOf, eP]
def k1 : Rw → Bool
  | .call _ => true
  | _ => false
def k2 : Rw → Bool
  | .set _ _ => true
  | .iff _ _ _ => true
  | _ => false
def k3 : Rw → Bool
  | .go _ => true
  | .fork _ => true
  | .iff _ _ _ => true
  | _ => false
def k4 : Rw → Bool
  | .go _ => true
  | .back => true
  | .stop => true
  | _ => false
theorem kk1 (r : Rw) : decide (hd r = w_call) = k1 r := by cases r <;> rfl
theorem kk2 (r : Rw) : decide (hd r ∈ [w_set, w_if]) = k2 r := by cases r <;> rfl
theorem kk3 (r : Rw) : decide (hd r ∈ [w_go, w_fork, w_if]) = k3 r := by cases r <;> rfl
theorem kk4 (r : Rw) : decide (hd r ∈ [w_go, w_back, w_stop]) = k4 r := by cases r <;> rfl
theorem ends_k4 {r : Rw} (h : r.ends) : k4 r = true := by cases r <;> first | rfl | exact h.elim
theorem ix0_row (r : Rw) : g_ix (eRw r) (.int 0) = .ok (tx (hd r)) := by
  unfold eRw
  rw [words_eq]
  simp
theorem look_at_ok {v0 v1 : Int} {ps : List Proc} {nl : List (List Nat)} {rows : List Rw} {i : Nat} {r : Rw} (hn : ∀ l ∈ nl, isName l) (hi : rows[i]? = some r) (h : RwOk v0 v1 rows.length nl r) (he : i + 1 = rows.length → r.ends) :
    m_look_at [eP v0 v1 ps, .lst (nl.map tx), .lst (rows.map eRw), .int (i : Int)] = .ok .non := by
  have lt : i < rows.length := idx_lt hi
  have ei : rows[i] = r := by rw [List.getElem?_eq_getElem lt] at hi; exact Option.some.inj hi
  have gx : g_ix (.lst (rows.map eRw)) (.int (i : Int)) = .ok (eRw r) := by rw [g_ix_lst eRw rows i lt, ei]
  have q1 : g_eq (tx (hd r)) (tx w_call) = .ok (.bl (k1 r)) := by rw [g_eq_tx (as_hd r) as_call, kk1]
  have q2 : g_inT (tx (hd r)) (.tup [tx w_set, tx w_if]) = .ok (.bl (k2 r)) := by
    rw [← kk2]; exact g_inT_tx (ls := [w_set, w_if]) (as_hd r) (by simp [as_set, as_if])
  have q3 : g_inT (tx (hd r)) (.tup [tx w_go, tx w_fork, tx w_if]) = .ok (.bl (k3 r)) := by
    rw [← kk3]; exact g_inT_tx (ls := [w_go, w_fork, w_if]) (as_hd r) (by simp [as_go, as_fork, as_if])
  have q4 : g_notinT (tx (hd r)) (.tup [tx w_go, tx w_back, tx w_stop]) = .ok (.bl (!k4 r)) := by
    rw [← kk4]; exact g_notinT_tx (ls := [w_go, w_back, w_stop]) (as_hd r) (by simp [as_go, as_back, as_stop])
  have w0 := ix0_row r
  have vo := fun sh => values_of_ok (v0 := v0) (v1 := v1) (ps := ps) sh
  generalize eP v0 v1 ps = P at *
  have t1 : (tAndD (vB (v2 g_eq (v2 g_ix (vVar 4) (vC (.int 0))) (vC (.str "call")))) (vB (v2 g_notin (v2 g_ix (vVar 4) (vC (.int 1))) (vVar 1)))) [some P, some (.lst (nl.map tx)), some (.lst (rows.map eRw)), some (.int (i : Int)), some (eRw r)] = .ok false := by
    by_cases z : k1 r = true
    · cases r <;> simp only [k1, Bool.false_eq_true] at z
      rename_i f
      have f0 := hn f h
      have g1 : g_ix (eRw (.call f)) (.int 1) = .ok (tx f) := rfl
      have g2 : g_notin (tx f) (.lst (nl.map tx)) = .ok (.bl false) := by
        rw [g_notin_tx f0.1.asc (fun l hl => (hn l hl).1.asc)]
        simp [show f ∈ nl from h]
      simp -implicitDefEqProofs [w0, lit_call, -g_eq_S, -g_notin_eq, q1, k1, g1, g2]
    · simp -implicitDefEqProofs [w0, lit_call, -g_eq_S, q1, z]
  have t2 : (tAndD (vB (v2 g_inT (v2 g_ix (vVar 4) (vC (.int 0))) (vTup (aCons (vC (.str "set")) (aCons (vC (.str "if")) aNil))))) (vB (v2 (gI (fun i j => decide (j ≤ i))) (v2 g_ix (vVar 4) (vC (.int 2))) (vCallN 2 m_values_of (aCons (vVar 0) (aCons (v2 g_ix (vVar 4) (vC (.int 1))) aNil)))))) [some P, some (.lst (nl.map tx)), some (.lst (rows.map eRw)), some (.int (i : Int)), some (eRw r)] = .ok false := by
    by_cases z : k2 r = true
    · cases r <;> simp only [k2, Bool.false_eq_true] at z
      · rename_i sh v
        have g1 : g_ix (eRw (.set sh v)) (.int 1) = .ok (tx (wside sh)) := by rw [← eSide_tx]; rfl
        have g2 : g_ix (eRw (.set sh v)) (.int 2) = .ok (.int v) := rfl
        have hv : ¬ vOf v0 v1 sh ≤ v := by have := h.2; omega
        simp -implicitDefEqProofs [w0, lit_set, lit_if, q2, k2, g1, g2, vo, hv]
      · rename_i sh v k
        have g1 : g_ix (eRw (.iff sh v k)) (.int 1) = .ok (tx (wside sh)) := by rw [← eSide_tx]; rfl
        have g2 : g_ix (eRw (.iff sh v k)) (.int 2) = .ok (.int v) := rfl
        have hv : ¬ vOf v0 v1 sh ≤ v := by have := h.1.2; omega
        simp -implicitDefEqProofs [w0, lit_set, lit_if, q2, k2, g1, g2, vo, hv]
    · simp -implicitDefEqProofs [w0, lit_set, lit_if, q2, z]
  have t3 : (tAndD (vB (v2 g_inT (v2 g_ix (vVar 4) (vC (.int 0))) (vTup (aCons (vC (.str "go")) (aCons (vC (.str "fork")) (aCons (vC (.str "if")) aNil)))))) (vB (v2 (gI (fun i j => decide (j ≤ i))) (v2 g_ix (vVar 4) (DL.v1 g_neg (vC (.int 1)))) (vCall c_len (aCons (vVar 2) aNil))))) [some P, some (.lst (nl.map tx)), some (.lst (rows.map eRw)), some (.int (i : Int)), some (eRw r)] = .ok false := by
    by_cases z : k3 r = true
    · cases r <;> simp only [k3, Bool.false_eq_true] at z
      · rename_i sh v k
        have g1 : g_ix (eRw (.iff sh v k)) (.int (-1)) = .ok (.int k) := rfl
        have hv : ¬ (rows.length : Int) ≤ k := by have := h.2.2; omega
        simp -implicitDefEqProofs [w0, lit_go, lit_fork, lit_if, q3, k3, g1, hv]
      · rename_i k
        have g1 : g_ix (eRw (.go k)) (.int (-1)) = .ok (.int k) := rfl
        have hv : ¬ (rows.length : Int) ≤ k := by have := h.2; omega
        simp -implicitDefEqProofs [w0, lit_go, lit_fork, lit_if, q3, k3, g1, hv]
      · rename_i k
        have g1 : g_ix (eRw (.fork k)) (.int (-1)) = .ok (.int k) := rfl
        have hv : ¬ (rows.length : Int) ≤ k := by have := h.2; omega
        simp -implicitDefEqProofs [w0, lit_go, lit_fork, lit_if, q3, k3, g1, hv]
    · simp -implicitDefEqProofs [w0, lit_go, lit_fork, lit_if, q3, z]
  have t4 : (tAndD (vB (v2 g_eq (vVar 3) (v2 g_sub (vCall c_len (aCons (vVar 2) aNil)) (vC (.int 1))))) (vB (v2 g_notinT (v2 g_ix (vVar 4) (vC (.int 0))) (vTup (aCons (vC (.str "go")) (aCons (vC (.str "back")) (aCons (vC (.str "stop")) aNil))))))) [some P, some (.lst (nl.map tx)), some (.lst (rows.map eRw)), some (.int (i : Int)), some (eRw r)] = .ok false := by
    by_cases z : (i : Int) = (rows.length : Int) - 1
    · have z2 := ends_k4 (he (by omega))
      simp -implicitDefEqProofs [w0, lit_go, lit_back, lit_stop, q4, z2, z]
    · simp -implicitDefEqProofs [z]
  have e0 : startE 5 [P, .lst (nl.map tx), .lst (rows.map eRw), .int (i : Int)] = [some P, some (.lst (nl.map tx)), some (.lst (rows.map eRw)), some (.int (i : Int)), none] := rfl
  have a0 : (sAsg [] 4 (v2 g_ix (vVar 2) (vVar 3))) [some P, some (.lst (nl.map tx)), some (.lst (rows.map eRw)), some (.int (i : Int)), none] = .nx [some P, some (.lst (nl.map tx)), some (.lst (rows.map eRw)), some (.int (i : Int)), some (eRw r)] := by
    simp -implicitDefEqProofs [gx]
  unfold m_look_at
  rw [runF_eq, e0]
  unfold b_look_at
  rw [s_seq, a0, othn_nx, s_seq, s_if, t1, andThen_ok, ifK_false, s_next, othn_nx, s_seq, s_if, t2, andThen_ok, ifK_false, s_next, othn_nx, s_seq, s_if, t3, andThen_ok, ifK_false, s_next, othn_nx, s_if, t4, andThen_ok, ifK_false, s_next]
  rfl
theorem procSm {v0 v1 : Int} {nl : List (List Nat)} {p : Proc} (h : ProcOk v0 v1 nl p) (h0 : v0 ≤ 4) (h1 : v1 ≤ 4) (hn : ∀ l ∈ nl, isName l) : PSm p :=
  ⟨h.1, fun r hr => rwSm (h.2.1 r hr) h0 h1 (by have := h.2.2.2.1; omega) hn, fun e => by have := h.2.2.1; rw [e] at this; simp at this, h.2.2.2.1⟩
theorem look_over_ok {v0 v1 : Int} {ps : List Proc} {nl : List (List Nat)} (hps : ps.map (·.1) = nl) (nd : nl.Nodup) (nm : mainL ∈ nl) (n4 : nl.length ≤ 60) (hn : ∀ l ∈ nl, isName l) (h : ∀ p ∈ ps, ProcOk v0 v1 nl p) :
    m_look_over [eP v0 v1 ps] = .ok .non := by
  have hc : ∀ e0 e1 e2 e3 e4 : Option D, compL [5] kName tTrue (v2 g_ix (vVar 5) (vC (.int 0))) [e0, e1, e2, e3, e4, none] (ps.map eProc) = .ok (nl.map tx) := fun e0 e1 e2 e3 e4 => by
    rw [compL_eq (fun p => tx p.1) (fun p hp => by simp -implicitDefEqProofs [eProc]), ← hps, List.map_map]; rfl
  have hl := g_lenT_nodup nd n4
  have gm : g_notin (tx mainL) (.lst (nl.map tx)) = .ok (.bl false) := by
    rw [g_notin_tx low_main.asc (fun l hl => (hn l hl).1.asc)]
    simp [nm]
  have pl : ps.length = nl.length := by rw [← hps]; simp
  have lo : ∀ p ∈ ps, ∀ (x3 x4 : Option D) (i : Nat), i < p.2.length → m_look_at [eP v0 v1 ps, .lst (nl.map tx), .lst (p.2.map eRw), .int (i : Int)] = .ok .non := fun p hp _ _ i hi => by
    have ok := h p hp
    exact look_at_ok hn (List.getElem?_eq_getElem hi) (ok.2.1 _ (List.getElem_mem hi)) fun e => ok.2.2.2.2 _ (by rw [← e]; simp)
  have gp : g_ix (eP v0 v1 ps) (.int 2) = .ok (.lst (ps.map eProc)) := rfl
  generalize eP v0 v1 ps = P at *
  have inner : ∀ p ∈ ps, forF [4] kName w_look_over_0 [4] ((List.range p.2.length).map fun (k : Nat) => D.int (k : Int)) [some P, some (.lst (nl.map tx)), some (tx p.1), some (.lst (p.2.map eRw)), none, none] = .nx [some P, some (.lst (nl.map tx)), some (tx p.1), some (.lst (p.2.map eRw)), none, none] := fun p hp =>
    forF_skip fun k hk => by
      have hk : k < p.2.length := List.mem_range.mp hk
      simp -implicitDefEqProofs [w_look_over_0, lo p hp none none k hk]
  have outer : forF [2, 3] (kTup 2 (ksCons kName (ksCons kName ksNil))) w_look_over_1 [2, 3, 4] (ps.map eProc) [some P, some (.lst (nl.map tx)), none, none, none, none] = .nx [some P, some (.lst (nl.map tx)), none, none, none, none] :=
    forF_skip fun p hp => by
      have few := (h p hp).2.2.2.1
      simp -implicitDefEqProofs [w_look_over_1, eProc]
      rw [rng1_ok (by omega) (by omega)]
      simp -implicitDefEqProofs [inner p hp]
  simp -implicitDefEqProofs [m_look_over, b_look_over, gp, hc, show nl.length ≤ 16777216 by omega, hl, gm, lit_main, -g_notin_eq, outer]
/-- the text of a program -/
def progT (a b : Int) (ps : List Proc) : List Nat := TL.joinL [59, 32] (valT a b :: ps.map procT)
theorem progT_len {a b : Int} {ps : List Proc} (ha : V4 a) (hb : V4 b) (h : ∀ p ∈ ps, PSm p) (hl : ps.length ≤ 60) : (progT a b ps).length ≤ 3000000 := by
  have := joinL_len (s := [59, 32]) (k := 40000) (ps := valT a b :: ps.map procT) fun p hp => by
    rcases List.mem_cons.mp hp with rfl | hp
    · have := valT_len ha hb; omega
    · obtain ⟨q, hq, rfl⟩ := List.mem_map.mp hp
      exact procT_len (h q hq)
  have h2 : (valT a b :: ps.map procT).length * (40000 + 2) ≤ 61 * 40002 := Nat.mul_le_mul_right _ (by simp; omega)
  unfold progT
  simp only [List.length_cons, List.length_nil, List.length_map] at this h2
  omega
theorem read_ok {a b : Int} {ps : List Proc} {nl : List (List Nat)} (ha : V4 a) (hb : V4 b) (hps : ps.map (·.1) = nl) (nd : nl.Nodup) (nm : mainL ∈ nl) (n4 : nl.length ≤ 60) (hn : ∀ l ∈ nl, isName l) (h : ∀ p ∈ ps, ProcOk a b nl p) :
    m_read [tx (progT a b ps)] = .ok (eP a b ps) := by
  have sm : ∀ p ∈ ps, PSm p := fun p hp => procSm (h p hp) ha.2 hb.2 hn
  have pl : ps.length = nl.length := by rw [← hps]; simp
  have p0 : 0 < ps.length := by rw [pl]; exact List.length_pos_of_mem nm
  have e1 := splR_tx (a := progT a b ps) (b := [59, 32]) (by simp) (by decide) (by have := progT_len ha hb sm (by omega); omega)
  rw [show TL.spl [59, 32] 0 [] (progT a b ps) = _ from SX.spl_join (c := 59) (sep := [32]) (by simp) fun p hp => by
    rcases List.mem_cons.mp hp with rfl | hp
    · exact valT_no
    · obtain ⟨q, hq, rfl⟩ := List.mem_map.mp hp
      exact procT_no (sm q hq)] at e1
  have hv := read_values_ok ha hb
  have lo := look_over_ok hps nd nm n4 hn h
  have hc : ∀ e0 e1 e2 e3 : Option D, compL [4] kName tTrue (vCallN 1 m_read_procedure (aCons (vVar 4) aNil)) [e0, e1, e2, e3, none] (ps.map fun p => tx (procT p)) = .ok (ps.map eProc) := fun e0 e1 e2 e3 =>
    compL_eq (enc := fun p => tx (procT p)) eProc fun p hp => by
      simp -implicitDefEqProofs [read_procedure_ok (sm p hp)]
  generalize progT a b ps = T at *
  generalize valT a b = V at *
  rw [List.map_cons, List.map_map] at e1
  have e1 : splR ⟨T.toArray⟩ (tx [59, 32]) = .ok (tx V :: ps.map fun p => tx (procT p)) := e1
  have n2 : ¬ ((ps.length : Int) + 1 < 2) := by omega
  unfold eP at lo ⊢
  simp -implicitDefEqProofs [m_read, b_read, r_read_0, r_read_1, r_read_2, r_read_3, r_read_4, r_read_5, r_read_6, lit_ss, e1, hv, hc, n2, lo, show ps.length ≤ 16777216 by omega]
/-! cells and programs -/
theorem cells_ok (ns : List Int) (h63 : ns.length ≤ 63) (c : Int) : ∃ cs : List Int, m_cells [.lst (ns.map D.int), .int c] = .ok (.lst (cs.map D.int)) ∧ cs.length ≤ 200 := by
  have h8 := dg_rng c 1103 (m := 61) (by decide)
  have cl : (cutA ns (some 2) (some 102)).length ≤ 63 := Nat.le_trans cutA_len h63
  generalize hc : cutA ns (some 2) (some 102) = cs at cl
  by_cases q : dg c 1049 8 = 3
  · have lp : ∀ o, forF [3] kName w_cells_0 [3] ((List.range (40 + dg c 1103 61).toNat).map fun (k : Nat) => D.int (k : Int)) [some (.lst (ns.map D.int)), some (.int c), some (.lst (cs.map D.int)), none] = o → ∃ cs' : List Int, o = .nx [some (.lst (ns.map D.int)), some (.int c), some (.lst (cs'.map D.int)), none] ∧ cs'.length ≤ 200 := fun o hF => by
      obtain ⟨cs', rfl, iv⟩ := forF_inv (S := List Int) hF (fun l => [some (.lst (ns.map D.int)), some (.int c), some (.lst (l.map D.int)), none]) (fun i l => l.length = cs.length + i) cs rfl rfl (fun i l x hx iv => by
        obtain ⟨rfl, hi⟩ := range_get hx
        have g0 : g_mul (D.int 1051) (D.int x) = .ok (D.int (1051 * (x : Int))) := g_mul_int (.inr ⟨by omega, by omega⟩)
        have g1 : g_mul (D.int (1051 * (x : Int))) (D.int x) = .ok (D.int (1051 * (x : Int) * x)) := g_mul_int (.inr ⟨by omega, by omega⟩)
        exact ⟨l ++ [c + 1051 * (x : Int) * x], by simp -implicitDefEqProofs [w_cells_0, g0, g1, show l.length < 16777216 by omega], by simp [iv]; omega⟩)
      simp at iv
      exact ⟨cs', rfl, by omega⟩
    simp -implicitDefEqProofs [m_cells, b_cells, digit_ok, q, slR, cutA_map', hc, -cutA_mid2_102]
    rw [rng1_ok (by omega) (by omega)]
    simp -implicitDefEqProofs
    generalize hF : forF _ _ _ _ _ _ = o
    obtain ⟨cs', rfl, h⟩ := lp o hF
    exact ⟨cs', by simp, h⟩
  · exact ⟨cs, by simp -implicitDefEqProofs [m_cells, b_cells, digit_ok, q, slR, cutA_map', hc, -cutA_mid2_102], by omega⟩
def dD (L : List (List Int)) : List D := L.map fun l => .lst (l.map D.int)
theorem dD_set (L : List (List Int)) (k : Nat) (l : List Int) : (dD L).set k (.lst (l.map D.int)) = dD (L.set k l) := by unfold dD; rw [List.map_set]
theorem dD_len (L : List (List Int)) : (dD L).length = L.length := by simp [dD]
theorem dD_get {L : List (List Int)} {k : Nat} {l : List Int} (h : L[k]? = some l) : (dD L)[k]? = some (.lst (l.map D.int)) := by unfold dD; rw [List.getElem?_map, h]; rfl
theorem deal_ok {cs : List Int} {names : List D} (hn : 0 < names.length) {x0 x1 x3 x6 x7 x8 x9 x10 x11 : Option D} (hcl : cs.length ≤ 200) : ∀ o, forF [5] kName w_program_0 [5] (cs.map D.int) [x0, x1, some (.lst names), x3, some (.lst (dD (List.replicate names.length []))), none, x6, x7, x8, x9, x10, x11] = o →
    ∃ L, o = .nx [x0, x1, some (.lst names), x3, some (.lst (dD L)), none, x6, x7, x8, x9, x10, x11] ∧ L.length = names.length ∧ ∀ l ∈ L, l.length ≤ 200 := fun o hF => by
  obtain ⟨L, rfl, iv⟩ := forF_inv (S := List (List Int)) hF (fun L => [x0, x1, some (.lst names), x3, some (.lst (dD L)), none, x6, x7, x8, x9, x10, x11]) (fun i L => L.length = names.length ∧ ∀ l ∈ L, l.length ≤ i) _ ⟨by simp, by simp⟩ rfl (fun i L c hx iv => by
    obtain ⟨hL, hl⟩ := iv
    have hi := idx_lt hx
    have d := dg_rng c 1051 (m := (names.length : Int)) (by omega)
    obtain ⟨k, hk⟩ := Int.eq_ofNat_of_zero_le d.1
    rw [hk] at d
    have kl : k < L.length := by omega
    have gk : L[k]? = some L[k] := by simp [kl]
    have ll := hl _ (List.getElem_mem kl)
    have ix : ixN (dD L).length (k : Int) = some k := by rw [dD_len]; exact ixN_ok (by omega) (by omega)
    refine ⟨L.set k (L[k] ++ [c]), ?_, by simp [hL], fun l hm => ?_⟩
    · have e1 : D.lst ((L[k].map D.int) ++ [.int c]) = D.lst ((L[k] ++ [c]).map D.int) := by simp
      simp -implicitDefEqProofs [w_program_0, digit_ok, hn, hk, noEx, ix, dD_get gk, show L[k].length < 16777216 by omega]
      rw [e1, dD_set]
    · rcases List.mem_or_eq_of_mem_set hm with h | rfl
      · have := hl l h; omega
      · simp; omega)
  exact ⟨L, rfl, iv.1, fun l h => by have := iv.2 l h; omega⟩
theorem rows_ok {os : List Int} {v0 v1 : Int} {nl : List (List Nat)} {x0 x3 x4 x6 x7 x8 : Option D} (hol : os.length ≤ 500) (h0 : 0 < v0) (h1 : 0 < v1) (hn : 0 < nl.length) (hn2 : nl.length ≤ 10) : ∀ o,
    forF [11, 5] (kTup 2 (ksCons kName (ksCons kName ksNil))) w_program_1 [5, 11] (os.zipIdx.map fun p => D.tup [.int (p.2 : Int), .int p.1]) [x0, some (.lst [.int v0, .int v1]), some (.lst (nl.map tx)), x3, x4, none, x6, x7, x8, some (.lst (os.map D.int)), some (.lst []), none] = o →
    ∃ rows : List Rw, o = .nx [x0, some (.lst [.int v0, .int v1]), some (.lst (nl.map tx)), x3, x4, none, x6, x7, x8, some (.lst (os.map D.int)), some (.lst (rows.map eRw)), none] ∧ rows.length = os.length ∧ (∀ r ∈ rows, RwOk v0 v1 os.length nl r) ∧ ∀ r, rows[os.length - 1]? = some r → r.ends := fun o hF => by
  obtain ⟨rows, rfl, iv⟩ := forF_inv (S := List Rw) hF (fun rows => [x0, some (.lst [.int v0, .int v1]), some (.lst (nl.map tx)), x3, x4, none, x6, x7, x8, some (.lst (os.map D.int)), some (.lst (rows.map eRw)), none]) (fun i rows => rows.length = i ∧ (∀ r ∈ rows, RwOk v0 v1 os.length nl r) ∧ ∀ r, rows[os.length - 1]? = some r → r.ends) [] ⟨rfl, by simp, by simp⟩ rfl (fun i rows p hx iv => by
    obtain ⟨e1, e2⟩ := zipIdx_get hx
    have hi := idx_lt e2
    obtain ⟨r, hr, ok, en⟩ := row_ok (c := p.1) (v0 := v0) (v1 := v1) (many := (os.length : Int)) (nl := nl) (last := decide ((p.2 : Int) = (os.length : Int) - 1)) h0 h1 (by omega) hn (by omega)
    refine ⟨rows ++ [r], ?_, by simp [iv.1], fun r' hr' => ?_, fun r' hr' => ?_⟩
    · simp -implicitDefEqProofs [w_program_1, hr, show rows.length < 16777216 by omega, imm_eRw]
    · rcases List.mem_append.mp hr' with h | h
      · exact iv.2.1 r' h
      · rw [show r' = r by simpa using h]; exact ok
    · by_cases hl : os.length - 1 < rows.length
      · rw [List.getElem?_append_left hl] at hr'; exact iv.2.2 r' hr'
      · have : os.length - 1 = i := by
          have := idx_lt hr'
          simp at this
          omega
        rw [this, ← iv.1] at hr'
        simp at hr'
        subst hr'
        exact en (by rw [e1]; simp; omega))
  have h := iv.1
  simp at h
  exact ⟨rows, rfl, h, iv.2.1, iv.2.2⟩
theorem program_ok {cs : List Int} {v0 v1 c : Int} {nl : List (List Nat)} (hcl : cs.length ≤ 200) (h0 : 0 < v0) (h1 : 0 < v1) (hn : 0 < nl.length) (hn2 : nl.length ≤ 10) (hnm : ∀ l ∈ nl, isName l) :
    ∃ ps : List Proc, m_program [.lst (cs.map D.int), .lst [.int v0, .int v1], .lst (nl.map tx), .int c] = .ok (eP v0 v1 ps) ∧ ps.map (·.1) = nl ∧ ∀ p ∈ ps, ProcOk v0 v1 nl p := by
  have hc : ∀ e0 e1 e2 e3 e4 e5 e6 e7 e8 e9 e10 : Option D, compL [8] kName tTrue (vLstI (nLst aNil)) [e0, e1, e2, e3, e4, e5, e6, e7, none, e8, e9, e10] (nl.map tx) = .ok (nl.map fun _ => D.lst []) := fun e0 e1 e2 e3 e4 e5 e6 e7 e8 e9 e10 => compL_eq (fun _ => D.lst []) (fun x _ => by simp -implicitDefEqProofs)
  have e0 : (nl.map fun _ => D.lst []) = dD (List.replicate nl.length []) := by unfold dD; simp [List.map_const']
  simp -implicitDefEqProofs [m_program, b_program, hc, show nl.length ≤ 16777216 by omega]
  rw [e0]
  generalize hF : forF _ _ _ _ _ _ = o
  have e1 : nl.length = (nl.map tx).length := by simp
  rw [e1] at hF
  obtain ⟨L, rfl, hL, hl⟩ := deal_ok (by simpa using hn) hcl o hF
  simp -implicitDefEqProofs [enumD_map]
  generalize hG : forF _ _ _ _ _ _ = o
  obtain ⟨ps, rfl, iv⟩ := forF_inv (S := List Proc) hG (fun ps => [some (.lst (cs.map D.int)), some (.lst [.int v0, .int v1]), some (.lst (nl.map tx)), some (.int c), some (.lst (dD L)), none, some (.lst (ps.map eProc)), none, none, none, none, none]) (fun i ps => ps.map (·.1) = nl.take i ∧ ∀ p ∈ ps, ProcOk v0 v1 nl p) [] ⟨rfl, by simp⟩ rfl (fun i ps q hx iv => by
    obtain ⟨e1, e2⟩ := zipIdx_get hx
    have hi := idx_lt e2
    have hm := mem_getElem? e2
    have hL2 : L.length = nl.length := by simpa using hL
    have gi : L[i]? = some (L[i]'(by omega)) := by simp [hL2, hi]
    have ll := hl _ (List.getElem_mem (show i < L.length by omega))
    generalize hli : L[i]'(by omega) = li at gi ll
    have gx : g_ix (.lst (dD L)) (.int (i : Int)) = .ok (.lst (li.map D.int)) := by
      have := g_ix_nat (dD L) i (by rw [dD_len]; omega)
      rw [this]
      have h2 := dD_get gi
      rw [List.getElem?_eq_getElem (by rw [dD_len]; omega)] at h2
      injection h2 with h2
      rw [h2]
    have g0 : g_mul (D.int 7) (D.int i) = .ok (D.int (7 * (i : Int))) := g_mul_int (.inr ⟨by omega, by omega⟩)
    have g1 : g_mul (D.int (7 * (i : Int))) (D.int i) = .ok (D.int (7 * (i : Int) * i)) := g_mul_int (.inr ⟨by omega, by omega⟩)
    have pl : ps.length ≤ 10 := by have := congrArg List.length iv.1; simp at this; omega
    obtain ⟨rows, hro, rl, rok, ren⟩ := rows_ok (os := li ++ [c + 7 * (i : Int) * i]) (v0 := v0) (v1 := v1) (nl := nl) (x0 := some (.lst (cs.map D.int))) (x3 := some (.int c)) (x4 := some (.lst (dD L))) (x6 := some (.lst (ps.map eProc))) (x7 := some (.int i)) (x8 := some (tx q.1)) (by simp; omega) h0 h1 hn hn2 _ rfl
    refine ⟨ps ++ [(q.1, rows)], ?_, ?_, fun p hp => ?_⟩
    · rw [e1]
      simp -implicitDefEqProofs [w_program_2, gx, g0, g1, show li.length + 1 ≤ 16777216 by omega]
      simp only [List.map_append, List.map_cons, List.map_nil] at hro
      rw [show enumD (li.map D.int ++ [D.int (c + 7 * (i : Int) * i)]) = (li ++ [c + 7 * (i : Int) * i]).zipIdx.map fun p => D.tup [.int (p.2 : Int), .int p.1] by rw [← enumD_map]; simp]
      simp -implicitDefEqProofs [hro, show ps.length < 16777216 by omega, eProc]
    · rw [List.map_append, iv.1, List.take_add_one, e2]; rfl
    · rcases List.mem_append.mp hp with h | h
      · exact iv.2 p h
      · rw [show p = (q.1, rows) by simpa using h]
        exact ⟨hnm _ hm, by rw [rl]; exact rok, by simp only; rw [rl]; simp, by simp only; rw [rl]; simp; omega, by simp only; rw [rl]; exact ren⟩)
  simp -implicitDefEqProofs
  refine ⟨ps, rfl, ?_, fun a b h => iv.2 _ h⟩
  have := iv.1
  simpa using this
/-! the text of a program -/
def ts1 (r : Rw) : List (List Nat × List Nat × D) := ([], hd r, tx (hd r)) :: ts r
theorem words_ts1 (r : Rw) : G4.wordsOf r = (ts1 r).map (·.2.2) := words_eq r
theorem sw_ts1 (r : Rw) : sw r = (ts1 r).map (·.2.1) := rfl
theorem str_num {v : Int} (h : NumOk v) : c_str [.int v] = .ok (tx (TL.numL v.toNat)) := by
  obtain ⟨n, rfl⟩ := Int.eq_ofNat_of_zero_le h.1
  exact c_str_num (Nat.lt_of_lt_of_le (show n < 1000 by have := h.2; omega) (by decide))
theorem ts1_str {r : Rw} (h : RwSm r) : ∀ t ∈ ts1 r, c_str [t.2.2] = .ok (tx t.2.1) := by
  intro t ht
  unfold ts1 at ht
  rcases List.mem_cons.mp ht with rfl | ht
  · rfl
  · cases r <;> simp only [ts, tW, tN, List.mem_cons, List.not_mem_nil, or_false] at ht
    · rcases ht with rfl | rfl
      · rfl
      · exact str_num h
    · subst ht; rfl
    · subst ht; rfl
    · rcases ht with rfl | rfl | rfl
      · rfl
      · exact str_num h.1
      · exact str_num h.2
    · subst ht; exact str_num h
    · subst ht; exact str_num h
    · subst ht; rfl
theorem str_v4 {a : Int} (h : V4 a) : c_str [.int a] = .ok (tx (TL.numL a.toNat)) := str_num ⟨by have := h.1; omega, by have := h.2; omega⟩
theorem lit_vals : D.str (Str.ofString "values ") = tx (w_values ++ [32]) := tx_lit _ (by decide +kernel)
theorem row_text {r : Rw} (h : RwSm r) (e0 e1 e2 e3 e4 : Option D) : compL [5] kName tTrue (vCall c_str (aCons (vVar 5) aNil)) [e0, e1, e2, e3, e4, none] (G4.wordsOf r) = .ok ((sw r).map tx) := by
  rw [words_ts1, sw_ts1, List.map_map]
  exact compL_eq (enc := fun t : List Nat × List Nat × D => t.2.2) (tx ∘ fun t => t.2.1) fun t ht => by
    simp -implicitDefEqProofs [ts1_str h t ht]
theorem row_join {r : Rw} (h : RwSm r) : joinR ⟨[32].toArray⟩ (.lst ((sw r).map tx)) = .ok (tx (rowT r)) := by
  refine joinR_tx ?_
  have h1 := sum_le (fun l : List Nat => l.length) 8 (sw_len h).1
  have h2 := (sw_len h).2
  simp only [List.length_cons, List.length_nil]
  omega
theorem rows_join {rs : List Rw} (h : ∀ r ∈ rs, RwSm r) (hl : rs.length ≤ 1000) : joinR ⟨[44, 32].toArray⟩ (.lst (rs.map fun r => tx (rowT r))) = .ok (tx (rowsT rs)) := by
  have e : (rs.map fun r => tx (rowT r)) = (rs.map rowT).map tx := by rw [List.map_map]; rfl
  rw [e]
  refine joinR_tx ?_
  have h1 := sum_le (fun l : List Nat => l.length) 36 (l := rs.map rowT) fun p hp => by
    obtain ⟨r, hr, rfl⟩ := List.mem_map.mp hp
    exact rowT_len (h r hr)
  simp only [List.length_cons, List.length_nil, List.length_map] at *
  omega
theorem rows_text {p : Proc} (h : PSm p) (e0 e1 e2 e3 : Option D) : compL [4] kName tTrue (vJoin (vC (.str " ")) (vLstOf (nComp (iSeq (vVar 4)) [5] kName tTrue (vCall c_str (aCons (vVar 5) aNil)) [5]))) [e0, e1, e2, e3, none, none] (p.2.map eRw) = .ok (p.2.map fun r => tx (rowT r)) :=
  compL_eq (enc := eRw) (fun r => tx (rowT r)) fun r hr => by
    have h1 := row_text (h.rw r hr) e0 e1 e2 e3 (some (eRw r))
    have h2 := row_join (h.rw r hr)
    have h3 := (sw_len (h.rw r hr)).2
    have h4 : (sw r).length ≤ 16777216 := by omega
    have h5 : seqOf (eRw r) = .ok (G4.wordsOf r) := rfl
    generalize sw r = S at *
    generalize eRw r = W at *
    simp -implicitDefEqProofs [h5, h1, h4, lit_sp, h2]
theorem text_ok {a b : Int} {ps : List Proc} (ha : V4 a) (hb : V4 b) (h : ∀ p ∈ ps, PSm p) (hl : ps.length ≤ 60) : m_text [eP a b ps] = .ok (tx (progT a b ps)) := by
  have sa := str_v4 ha
  have sb := str_v4 hb
  have la := v4_len ha
  have lb := v4_len hb
  have ev : valT a b = w_values ++ [32] ++ TL.numL a.toNat ++ [32] ++ TL.numL b.toNat := by
    show w_values ++ ([32] ++ (TL.numL a.toNat ++ ([32] ++ TL.numL b.toNat))) = _
    simp only [List.append_assoc]
  have jn : joinR ⟨[59, 32].toArray⟩ (.lst (tx (valT a b) :: ps.map fun p => tx (procT p))) = .ok (tx (progT a b ps)) := by
    have e : (tx (valT a b) :: ps.map fun p => tx (procT p)) = (valT a b :: ps.map procT).map tx := by rw [List.map_cons, List.map_map]; rfl
    rw [e]
    refine joinR_tx ?_
    have h1 := sum_le (fun l : List Nat => l.length) 40000 (l := valT a b :: ps.map procT) fun p hp => by
      rcases List.mem_cons.mp hp with rfl | hp
      · have := valT_len ha hb; omega
      · obtain ⟨q, hq, rfl⟩ := List.mem_map.mp hp
        exact procT_len (h q hq)
    simp only [List.length_cons, List.length_nil, List.length_map] at *
    omega
  have lp : ∀ o, forF [2, 3] (kTup 2 (ksCons kName (ksCons kName ksNil))) w_text_0 [2, 3] (ps.map eProc) [some (eP a b ps), some (.lst [tx (valT a b)]), none, none, none, none] = o →
      o = .nx [some (eP a b ps), some (.lst (tx (valT a b) :: ps.map fun p => tx (procT p))), none, none, none, none] := fun o hF => by
    generalize eP a b ps = P at hF ⊢
    obtain ⟨ds, rfl, iv⟩ := forF_inv (S := List D) hF (fun ds => [some P, some (.lst ds), none, none, none, none]) (fun i ds => ds = tx (valT a b) :: (ps.take i).map fun p => tx (procT p)) [tx (valT a b)] (by simp) rfl (fun i ds p hx iv => by
      have hm := h p (mem_getElem? hx)
      have hi := idx_lt hx
      refine ⟨ds ++ [tx (procT p)], ?_, ?_⟩
      · have l1 : ds.length < 16777216 := by rw [iv]; simp; omega
        have r1 := fun e0 e1 e2 e3 => rows_text hm e0 e1 e2 e3
        have r2 := rows_join hm.rw hm.few
        have n8 := hm.nm.2.2
        have r3 := rowsT_len hm.rw
        have few := hm.few
        have a1 : g_add (tx p.1) (tx [58, 32]) = .ok (tx (p.1 ++ [58, 32])) := g_add_tx (by simp; omega)
        have a2 : g_add (tx (p.1 ++ [58, 32])) (tx (rowsT p.2)) = .ok (tx (procT p)) := by
          rw [g_add_tx (by simp; omega), List.append_assoc]; rfl
        simp -implicitDefEqProofs [w_text_0, eProc, lit_ds, lit_cs, r1, r2, a1, a2, l1, show p.2.length ≤ 16777216 by omega]
      · rw [iv, List.take_add_one, hx]; simp)
    rw [iv]; simp
  have a1 : g_add (tx (w_values ++ [32])) (tx (TL.numL a.toNat)) = .ok (tx (w_values ++ [32] ++ TL.numL a.toNat)) := g_add_tx (by simp [w_values, la])
  have a2 : g_add (tx (w_values ++ [32] ++ TL.numL a.toNat)) (tx [32]) = .ok (tx (w_values ++ [32] ++ TL.numL a.toNat ++ [32])) := g_add_tx (by simp [w_values, la])
  have a3 : g_add (tx (w_values ++ [32] ++ TL.numL a.toNat ++ [32])) (tx (TL.numL b.toNat)) = .ok (tx (valT a b)) := by rw [g_add_tx (by simp [w_values, la, lb]), ev]
  have g0 : g_ix (eP a b ps) (.int 0) = .ok (.int a) := rfl
  have g1 : g_ix (eP a b ps) (.int 1) = .ok (.int b) := rfl
  have g2 : g_ix (eP a b ps) (.int 2) = .ok (.lst (ps.map eProc)) := rfl
  have lv := lit_vals
  generalize eP a b ps = P at *
  generalize valT a b = V at *
  generalize TL.numL a.toNat = A at *
  generalize TL.numL b.toNat = B at *
  generalize w_values ++ [32] = W at *
  generalize W ++ A ++ [32] = W2 at *
  generalize W ++ A = W1 at *
  simp -implicitDefEqProofs [m_text, b_text, g0, g1, g2, lv, lit_sp, sa, sb, a1, a2, a3]
  generalize hF : forF _ _ _ _ _ _ = o
  rw [lp o hF]
  simp -implicitDefEqProofs [lit_ss, jn]
end G16

/-! G17: names, some of them words of the language. -/
namespace G17
open PySem L2 DL
def b_word : DSem :=
  (sSeq (sAsg [] 1 (vLstOf (nLst (aCons (vC (.str "call")) (aCons (vC (.str "back")) (aCons (vC (.str "values")) (aCons (vC (.str "own")) (aCons (vC (.str "shared")) (aCons (vC (.str "end")) (aCons (vC (.str "come")) (aCons (vC (.str "skip")) (aCons (vC (.str "stop")) (aCons (vC (.str "surely")) (aCons (vC (.str "longest")) (aCons (vC (.str "any")) aNil)))))))))))))))
  (sRet (v2 g_ix (vVar 1) (v2 g_mod (vVar 0) (vC (.int 12))))))
def m_word : List D → Res D := runF 2 (b_word)
def w_names_0 : DSem :=
  (sAsg [(1, .dp)] 3 (v2 g_add (vVar 3) (v2 g_ix (vC (.str "abcdefghijklmnopqrstuvwxyz")) (vCallN 3 G4.m_digit (aCons (v2 g_add (vVar 0) (v2 g_mul (v2 g_mul (vC (.int 5)) (vVar 4)) (vVar 4))) (aCons (vC (.int 1093)) (aCons (vC (.int 26)) aNil)))))))
def w_names_1 : DSem :=
  (sSeq (sAsg [(1, .dp)] 7 (v2 g_ix (vC (.str "bcdefghjklopqrstuvwxyz")) (v2 g_mod (v2 g_add (vVar 0) (v2 g_mul (vVar 4) (v2 g_add (vC (.int 1)) (v2 g_mod (v2 g_fdiv (vVar 0) (vC (.int 22))) (vC (.int 7)))))) (vC (.int 22)))))
  (sSeq (sAsg [(1, .dp)] 8 (v2 g_add (v2 g_add (vSl (vVar 3) oNone (oSome (vVar 5))) (vVar 7)) (vSl (vVar 3) (oSome (v2 g_add (vVar 5) (vC (.int 1)))) oNone)))
  (sSeq (sIf (vB (v2 g_eq (vVar 6) (vC (.int 2))))
  (sAsg [(1, .dp)] 8 (v2 g_add (vC (.str "main")) (vVar 7)))
  sNext)
  (sSeq (sIf (vB (v2 g_eq (vVar 6) (vC (.int 3))))
  (sAsg [(1, .dp)] 8 (vSl (vC (.str "main")) oNone (oSome (v2 g_add (vC (.int 1)) (vVar 4)))))
  sNext)
  (sSeq (sIf (vB (v2 g_eq (vVar 6) (vC (.int 4))))
  (sAsg [(1, .dp)] 8 (vCallN 1 G17.m_word (aCons (v2 g_add (v2 g_fdiv (vVar 0) (vC (.int 7))) (v2 g_mul (vVar 4) (v2 g_add (vC (.int 1)) (v2 g_mod (v2 g_fdiv (vVar 0) (vC (.int 12))) (vC (.int 5)))))) aNil)))
  sNext)
  (sAppI 1 (vVar 8)))))))
def r_names_8 : DSem :=
  (sRet (vLstI (nCat (v2 g_add (vSl (vVar 1) oNone (oSome (vVar 9))) (vLstOf (nLst (aCons (vC (.str "main")) aNil)))) (vSl (vVar 1) (oSome (vVar 9)) oNone))))
def r_names_7 : DSem :=
  (sSeq (sAsgI 9 (vCallN 3 G4.m_digit (aCons (vVar 0) (aCons (vC (.int 1091)) (aCons (v2 g_add (vCall c_len (aCons (vVar 1) aNil)) (vC (.int 1))) aNil)))))
  r_names_8)
def r_names_6 : DSem :=
  (sSeq (sFor [(1, .dp)] (iRange1 (vCallN 3 G4.m_digit (aCons (vVar 0) (aCons (vC (.int 1061)) (aCons (vC (.int 4)) aNil))))) [4] kName
  w_names_1
  [4, 7, 8])
  r_names_7)
def r_names_5 : DSem :=
  (sSeq (sAsg [(1, .dp)] 6 (vCallN 3 G4.m_digit (aCons (vVar 0) (aCons (vC (.int 1087)) (aCons (vC (.int 5)) aNil)))))
  r_names_6)
def r_names_4 : DSem :=
  (sSeq (sAsg [(1, .dp)] 5 (vCallN 3 G4.m_digit (aCons (vVar 0) (aCons (vC (.int 1069)) (aCons (vVar 2) aNil)))))
  r_names_5)
def r_names_3 : DSem :=
  (sSeq (sFor [(1, .dp)] (iRange1 (vVar 2)) [4] kName
  w_names_0
  [4])
  r_names_4)
def r_names_2 : DSem :=
  (sSeq (sAsg [(1, .dp)] 3 (vC (.str "")))
  r_names_3)
def r_names_1 : DSem :=
  (sSeq (sAsg [(1, .dp)] 2 (v2 g_add (vC (.int 1)) (vCallN 3 G4.m_digit (aCons (vVar 0) (aCons (vC (.int 1063)) (aCons (vC (.int 8)) aNil))))))
  r_names_2)
def r_names_0 : DSem :=
  (sSeq (sAsgV 1 (vLstI (nLst aNil)))
  r_names_1)
def b_names : DSem :=
  r_names_0
def m_names : List D → Res D := runF 10 (b_names)
open G4 G16
def w_end : List Nat := [101, 110, 100]
def w_come : List Nat := [99, 111, 109, 101]
def w_surely : List Nat := [115, 117, 114, 101, 108, 121]
def w_longest : List Nat := [108, 111, 110, 103, 101, 115, 116]
theorem lit_end : D.str (Str.ofString "end") = tx w_end := tx_lit w_end (by decide +kernel)
theorem lit_come : D.str (Str.ofString "come") = tx w_come := tx_lit w_come (by decide +kernel)
theorem lit_surely : D.str (Str.ofString "surely") = tx w_surely := tx_lit w_surely (by decide +kernel)
theorem lit_longest : D.str (Str.ofString "longest") = tx w_longest := tx_lit w_longest (by decide +kernel)
def ws12 : List (List Nat) := [w_call, w_back, w_values, w_own, w_shared, w_end, w_come, w_skip, w_stop, w_surely, w_longest, w_any]
def wordI (c : Int) (k : Nat) : Int := (c / 7 + (k : Int) * (1 + c / 12 % 5)) % 12
theorem wordI_rng (c : Int) (k : Nat) : 0 ≤ wordI c k ∧ wordI c k < 12 := emod_rng _ (by decide)
theorem wordI_inj (c : Int) {k j : Nat} (hk : k < 3) (hj : j < 3) (h : wordI c k = wordI c j) : k = j := by
  unfold wordI at h
  have := emod_rng (c / 12) (m := 5) (by decide)
  generalize c / 12 % 5 = s at *
  generalize c / 7 = t at *
  obtain rfl | rfl | rfl : k = 0 ∨ k = 1 ∨ k = 2 := by omega
  all_goals obtain rfl | rfl | rfl : j = 0 ∨ j = 1 ∨ j = 2 := by omega
  all_goals first | rfl | (exfalso; simp at h; omega)
theorem ws12_inj : ∀ i j : Fin 12, ws12[i.1]'(by simp [ws12]) = ws12[j.1]'(by simp [ws12]) → i = j := by decide
theorem ws12_name : ∀ l ∈ ws12, isName l := by
  have : ∀ l ∈ ws12, (∀ c ∈ l, 97 ≤ c ∧ c ≤ 122) ∧ 1 ≤ l.length ∧ l.length ≤ 8 := by decide
  exact fun l hl => ⟨(this l hl).1, (this l hl).2⟩
theorem ws12_main : ∀ l ∈ ws12, l ≠ mainL := by decide
def wordK (c : Int) (k : Nat) : List Nat := ws12[(wordI c k).toNat]'(by have := wordI_rng c k; simp [ws12]; omega)
theorem wordK_mem (c : Int) (k : Nat) : wordK c k ∈ ws12 := List.getElem_mem _
theorem word_ok (n : Int) : m_word [.int n] = .ok (tx (ws12[(n % 12).toNat]'(by have := emod_rng n (m := 12) (by decide); simp [ws12]; omega))) := by
  have r := emod_rng n (m := 12) (by decide)
  have e : [tx w_call, tx w_back, tx w_values, tx w_own, tx w_shared, tx w_end, tx w_come, tx w_skip, tx w_stop, tx w_surely, tx w_longest, tx w_any] = ws12.map tx := rfl
  have gx := g_ix_lst' tx ws12 (n % 12) r.1 (by simp [ws12]; omega)
  rw [← e] at gx
  simp -implicitDefEqProofs [m_word, b_word, lit_call, lit_back, lit_values, lit_own, lit_shared, lit_end, lit_come, lit_skip, lit_stop, lit_surely, lit_longest, lit_any, gx]
def name5 (c lot : Int) (base : List Nat) (sp : Nat) (k : Nat) : List Nat := if lot = 4 then wordK c k else nameK c lot base sp k
theorem name5_ok {c lot : Int} {base : List Nat} {sp k : Nat} (hb : isName base) (hs : sp < base.length) (hk : k < 3) : isName (name5 c lot base sp k) := by
  unfold name5
  split
  · exact ws12_name _ (wordK_mem c k)
  · exact nameK_ok hb hs hk
theorem name5_inj {c lot : Int} {base : List Nat} {sp k j : Nat} (hs : sp < base.length) (hk : k < 3) (hj : j < 3) (h : name5 c lot base sp k = name5 c lot base sp j) : k = j := by
  unfold name5 at h
  split at h
  · unfold wordK at h
    have a := wordI_rng c k
    have b := wordI_rng c j
    have := ws12_inj ⟨(wordI c k).toNat, by omega⟩ ⟨(wordI c j).toNat, by omega⟩ h
    injection this with this
    exact wordI_inj c hk hj (by omega)
  · exact nameK_inj hs hk hj h
theorem name5_main {c lot : Int} {base : List Nat} {sp k : Nat} (hs : sp < base.length) (hk : k < 3) : name5 c lot base sp k ≠ mainL := by
  unfold name5
  split
  · exact ws12_main _ (wordK_mem c k)
  · exact nameK_main hs hk
theorem names_ok {c : Int} (c0 : 0 ≤ c) : ∃ nl : List (List Nat), m_names [.int c] = .ok (.lst (nl.map tx)) ∧ nl.Nodup ∧ mainL ∈ nl ∧ nl.length ≤ 4 ∧ ∀ l ∈ nl, isName l := by
  have hsz := dg_rng c 1063 (m := 8) (by decide)
  have hot := dg_rng c 1061 (m := 4) (by decide)
  generalize hS : 1 + dg c 1063 8 = sz at *
  obtain ⟨szn, rfl⟩ := Int.eq_ofNat_of_zero_le (show 0 ≤ sz by omega)
  have hsp := dg_rng c 1069 (m := (szn : Int)) (by omega)
  generalize hLt : dg c 1087 5 = lot at *
  generalize hSp : dg c 1069 (szn : Int) = spi at *
  obtain ⟨sp, rfl⟩ := Int.eq_ofNat_of_zero_le hsp.1
  generalize hO : dg c 1061 4 = ot at *
  obtain ⟨n, rfl⟩ := Int.eq_ofNat_of_zero_le hot.1
  have loop0 : ∀ (e1 e2 e5 e6 e7 e8 e9 : Option D) o, forF [4] kName w_names_0 [4] ((List.range szn).map fun (k : Nat) => D.int (k : Int)) [some (.int c), some (.lst []), e2, some (tx []), none, e5, e6, e7, e8, e9] = o →
      ∃ base : List Nat, o = .nx [some (.int c), some (.lst []), e2, some (tx base), none, e5, e6, e7, e8, e9] ∧ low base ∧ base.length = szn := fun e1 e2 e5 e6 e7 e8 e9 o hF => by
    obtain ⟨base, rfl, iv⟩ := forF_inv (S := List Nat) hF (fun b => [some (.int c), some (.lst []), e2, some (tx b), none, e5, e6, e7, e8, e9]) (fun i b => low b ∧ b.length = i) [] ⟨(by intro x hx; cases hx), rfl⟩ rfl (fun i b x hx iv => by
      obtain ⟨rfl, hi⟩ := range_get hx
      have d1 := dg_rng (c + 5 * (x : Int) * x) 1093 (m := 26) (by decide)
      have g0 : g_mul (D.int 5) (D.int x) = .ok (D.int (5 * (x : Int))) := g_mul_int (.inr ⟨by omega, by omega⟩)
      have g1 : g_mul (D.int (5 * (x : Int))) (D.int x) = .ok (D.int (5 * (x : Int) * x)) := g_mul_int (.inr ⟨by omega, by omega⟩)
      have la : abc.length = 26 := rfl
      have gi := g_ix_tx (a := abc) (i := dg (c + 5 * (x : Int) * x) 1093 26) (by decide) d1.1 (by rw [la]; exact d1.2)
      refine ⟨b ++ [abc[(dg (c + 5 * (x : Int) * x) 1093 26).toNat]'(by rw [la]; omega)], ?_, iv.1.app (low_abc.one _), by simp [iv.2]⟩
      simp -implicitDefEqProofs [w_names_0, g0, g1, digit_ok, lit_abc, gi]
      rw [g_add_tx (by simp; omega)]
      simp -implicitDefEqProofs)
    exact ⟨base, rfl, iv.1, by simpa using iv.2⟩
  have loop1 : ∀ (base : List Nat) (e2 e9 : Option D), isName base → sp < base.length → forF [4] kName w_names_1 [4, 7, 8] ((List.range n).map fun (k : Nat) => D.int (k : Int)) [some (.int c), some (.lst []), e2, some (tx base), none, some (.int (sp : Int)), some (.int lot), none, none, e9] =
      .nx [some (.int c), some (.lst (((List.range n).map (name5 c lot base sp)).map tx)), e2, some (tx base), none, some (.int (sp : Int)), some (.int lot), none, none, e9] := fun base e2 e9 hb hspb => by
    refine Eq.trans (forF_eq (fun (q : List (List Nat)) => [some (.int c), some (.lst (q.map tx)), e2, some (tx base), none, some (.int (sp : Int)), some (.int lot), none, none, e9]) (fun q (k : Nat) => q ++ [name5 c lot base sp k]) (fun i q => q.length = i) (s := []) (fun i q x hx iv => ?_) rfl rfl) ?_
    · obtain ⟨rfl, hi⟩ := range_get hx
      refine ⟨?_, by simp [iv]⟩
      have q7 := emod_rng (c / 22) (m := 7) (by decide)
      have g0 : g_mul (D.int x) (D.int (1 + c / 22 % 7)) = .ok (D.int ((x : Int) * (1 + c / 22 % 7))) := g_mul_int (.inr ⟨by omega, by omega⟩)
      have lo : odd22.length = 22 := rfl
      have oi := oddI_rng c x
      have gi := g_ix_tx (a := odd22) (i := oddI c x) (by decide) oi.1 (by rw [lo]; exact oi.2)
      have ge : ∀ d : D, (.ok (tx [odd22[(oddI c x).toNat]'(by rw [lo]; omega)]) : Res D) = .ok (tx [oddS c x]) := fun _ => rfl
      have hl := hb.2
      have c1 : cutA base none (some (sp : Int)) = base.take sp := cutA_to base sp
      have c2 : cutA base (some ((sp : Int) + 1)) none = base.drop (sp + 1) := cutA_from base (sp + 1)
      have c3 : cutA mainL none (some (1 + (x : Int))) = mainL.take (1 + x) := by
        have := cutA_to mainL (1 + x)
        rw [← this]; congr 2
      have ql : q.length < 16777216 := by rw [iv]; omega
      rw [ge (.non)] at gi
      unfold oddI at gi
      simp -implicitDefEqProofs [w_names_1, g0, lit_odd, gi]
      rw [g_sl_tx (by omega), g_sl_tx (by omega)]
      simp -implicitDefEqProofs [c1, c2]
      rw [g_add_tx (by simp; omega)]
      simp -implicitDefEqProofs
      rw [g_add_tx (by simp; omega)]
      have q5 := emod_rng (c / 12) (m := 5) (by decide)
      have g5 : g_mul (D.int x) (D.int (1 + c / 12 % 5)) = .ok (D.int ((x : Int) * (1 + c / 12 % 5))) := g_mul_int (.inr ⟨by omega, by omega⟩)
      have wo := word_ok (c / 7 + (x : Int) * (1 + c / 12 % 5))
      have wk : ws12[((c / 7 + (x : Int) * (1 + c / 12 % 5)) % 12).toNat]'(by have := wordI_rng c x; unfold wordI at this; simp [ws12]; omega) = wordK c x := rfl
      rw [wk] at wo
      by_cases l2 : lot = 2
      · have l3 : ¬ lot = 3 := by omega
        have l4 : ¬ lot = 4 := by omega
        simp -implicitDefEqProofs [l2, l3, lit_main]
        rw [g_add_tx (by simp [mainL])]
        simp -implicitDefEqProofs [ql, name5, nameK, l2]
      · by_cases l3 : lot = 3
        · simp -implicitDefEqProofs [l3, lit_main]
          rw [g_sl_tx (by simp [mainL])]
          simp -implicitDefEqProofs [ql, name5, nameK, l3, c3]
        · by_cases l4 : lot = 4
          · simp -implicitDefEqProofs [l4, g5, wo, ql, name5]
          · simp -implicitDefEqProofs [l2, l3, l4, ql, name5, nameK]
    · congr 1
      have : ∀ (xs : List Nat) (s : List (List Nat)), xs.foldl (fun q k => q ++ [name5 c lot base sp k]) s = s ++ xs.map (name5 c lot base sp) := fun xs => by
        induction xs with
        | nil => intro s; simp
        | cons y r ih => intro s; rw [List.foldl_cons, ih]; simp
      rw [this]; rfl
  simp -implicitDefEqProofs [m_names, b_names, r_names_0, r_names_1, r_names_2, digit_ok, hS, lit_nil]
  rw [show r_names_3 = (sSeq (sFor [(1, .dp)] (iRange1 (vVar 2)) [4] kName w_names_0 [4]) r_names_4) from rfl]
  simp -implicitDefEqProofs
  rw [rng1_ok (by omega) (by omega)]
  simp -implicitDefEqProofs
  generalize hF : forF _ _ _ _ _ _ = o
  obtain ⟨base, rfl, lb, bl⟩ := loop0 none _ _ _ _ _ _ o hF
  have hb : isName base := ⟨lb, by omega, by omega⟩
  simp -implicitDefEqProofs [r_names_4, r_names_5, digit_ok, hSp, hLt, r_names_6, hO, show 0 < (szn : Int) by omega, show 0 < szn by omega]
  rw [rng1_ok (by omega) (by omega)]
  simp -implicitDefEqProofs [loop1 base _ _ hb (by omega), -List.map_map]
  generalize hon : (List.range n).map (name5 c lot base sp) = others
  have ol : others.length = n := by rw [← hon]; simp
  have hat := dg_rng c 1091 (m := (n : Int) + 1) (by omega)
  obtain ⟨at', hat'⟩ := Int.eq_ofNat_of_zero_le hat.1
  rw [hat'] at hat
  have cA : cutA (others.map tx) none (some (at' : Int)) = (others.take at').map tx := by rw [cutA_map, cutA_to]
  have cB : cutA (others.map tx) (some (at' : Int)) none = (others.drop at').map tx := by rw [cutA_map, cutA_from]
  have im : ∀ ls : List (List Nat), imms (ls.map tx) = true := fun ls => imms_map (fun l => imm_tx l) ls
  simp -implicitDefEqProofs [r_names_7, digit_ok, ol, show 0 < (n : Int) + 1 by omega, hat', r_names_8, cutA_to, cutA_from, lit_main, -List.map_map, ← List.map_take, ← List.map_drop, -List.map_take, -List.map_drop, show min at' n + 1 ≤ 16777216 by omega, show min at' n ≤ 16777215 by omega, show min at' n + 1 + (n - at') ≤ 16777216 by omega, im]
  refine ⟨others.take at' ++ mainL :: others.drop at', by simp, ?_, by simp, by simp; omega, ?_⟩
  · have nd : (mainL :: others).Nodup := by
      refine List.nodup_cons.mpr ⟨fun h => ?_, ?_⟩
      · rw [← hon] at h
        obtain ⟨k, hk, e⟩ := List.mem_map.mp h
        exact name5_main (by omega) (by simp at hk; omega) e
      · rw [← hon]
        refine List.pairwise_map.mpr (List.Pairwise.imp_of_mem ?_ List.nodup_range)
        intro a b ha hb' hne e
        simp at ha hb'
        exact hne (name5_inj (by omega) (by omega) (by omega) e)
    have pm : (others.take at' ++ mainL :: others.drop at').Perm (mainL :: others) := by
      refine List.perm_middle.trans ?_
      rw [List.take_append_drop]
    exact pm.nodup_iff.mpr nd
  · intro l hl
    have : l = mainL ∨ l ∈ others := by
      rcases List.mem_append.mp hl with q | q
      · exact .inr (List.mem_of_mem_take q)
      · rcases List.mem_cons.mp q with q | q
        · exact .inl q
        · exact .inr (List.mem_of_mem_drop q)
    rcases this with rfl | h
    · exact ⟨low_main, by decide, by decide⟩
    · rw [← hon] at h
      obtain ⟨k, hk, rfl⟩ := List.mem_map.mp h
      exact name5_ok hb (by omega) (by simp at hk; omega)
end G17

/-! the mirror of k51: printed by gen.py -/
namespace K51
open PySem L2 DL
-- is_name: G16.m_is_name
-- is_count: G16.m_is_count
-- read_word: G16.m_read_word
-- shape_of: G16.m_shape_of
-- read_row: G16.m_read_row
-- read_procedure: G16.m_read_procedure
-- read_values: G16.m_read_values
-- values_of: G16.m_values_of
-- look_at: G16.m_look_at
-- look_over: G16.m_look_over
-- read: G16.m_read
-- cell_at: G4.m_cell_at
-- digit: G4.m_digit
-- word: G17.m_word
-- names: G17.m_names
-- row: G4.m_row
-- program: G16.m_program
-- cells: G16.m_cells
-- text: G16.m_text
-- whole: G1.m_whole
-- row_same: G4.m_row_same
-- rows_same: G4.m_rows_same
-- same: G4.m_same
def b_law : DSem :=
  (sSeq (sAsg [] 1 (vCallN 2 G4.m_cell_at (aCons (vVar 0) (aCons (vC (.int 0)) aNil))))
  (sSeq (sAsg [] 2 (vLstOf (nLst (aCons (v2 g_add (vC (.int 1)) (vCallN 3 G4.m_digit (aCons (vVar 1) (aCons (vC (.int 1033)) (aCons (vC (.int 4)) aNil))))) (aCons (v2 g_add (vC (.int 1)) (vCallN 3 G4.m_digit (aCons (vVar 1) (aCons (vC (.int 1039)) (aCons (vC (.int 4)) aNil))))) aNil)))))
  (sSeq (sAsg [] 3 (vCallN 1 G17.m_names (aCons (vCallN 2 G4.m_cell_at (aCons (vVar 0) (aCons (vC (.int 1)) aNil))) aNil)))
  (sSeq (sAsg [] 4 (vCallN 4 G16.m_program (aCons (vCallN 2 G16.m_cells (aCons (vVar 0) (aCons (vVar 1) aNil))) (aCons (vVar 2) (aCons (vVar 3) (aCons (vVar 1) aNil))))))
  (sRet (vCallN 2 G4.m_same (aCons (vCallN 1 G16.m_read (aCons (vCallN 1 G16.m_text (aCons (vVar 4) aNil)) aNil)) (aCons (vVar 4) aNil))))))))
def m_law : List D → Res D := runF 5 (b_law)
end K51

namespace K51
open PySem L2 DL G1 G4 G16
theorem law_math (ns : List Int) (h63 : ns.length ≤ 63) : m_law [.lst (ns.map D.int)] = .ok (.bl true) := by
  obtain ⟨c0, hc0, c00, c01⟩ := cell_ok ns 0 (by decide)
  obtain ⟨c1, hc1, c10, c11⟩ := cell_ok ns 1 (by decide)
  have d0 := dg_rng c0 1033 (m := 4) (by decide)
  have d1 := dg_rng c0 1039 (m := 4) (by decide)
  obtain ⟨nl, hnl, nd, nm, n4, nn⟩ := G17.names_ok (c := c1) c10
  have hn : 0 < nl.length := List.length_pos_of_mem nm
  obtain ⟨cs, hcs, cl⟩ := cells_ok ns h63 c0
  obtain ⟨ps, hp, hps, pok⟩ := program_ok (cs := cs) (c := c0) (v0 := 1 + dg c0 1033 4) (v1 := 1 + dg c0 1039 4) cl (by omega) (by omega) hn (by omega) nn
  have pl : ps.length = nl.length := by rw [← hps]; simp
  have ha : V4 (1 + dg c0 1033 4) := ⟨by omega, by omega⟩
  have hb : V4 (1 + dg c0 1039 4) := ⟨by omega, by omega⟩
  have tx := text_ok ha hb (fun p hp => procSm (pok p hp) ha.2 hb.2 nn) (by omega)
  have rd := read_ok ha hb hps nd nm (by omega) nn pok
  have sm := same_ok (a := 1 + dg c0 1033 4) (b := 1 + dg c0 1039 4) nn pok (by omega)
  generalize progT (1 + dg c0 1033 4) (1 + dg c0 1039 4) ps = T at *
  generalize eP (1 + dg c0 1033 4) (1 + dg c0 1039 4) ps = P at *
  simp -implicitDefEqProofs [m_law, b_law, hc0, digit_ok, hc1, hnl, hcs, hp, tx, rd, sm]
end K51

/-! the walk of k51: printed by gen.py -/
namespace K51
open PySem PySem.Spec PyProof.Rows L2 DL
def top (i : Nat) : Stmt := PySem.Challenge.pw_callwalk_k51_names_and_rows_read.main.body.getD i (.Pass ⟨0, 0, 0, 0⟩)
abbrev s_is_name : Stmt := top 10
abbrev N_is_name : List Str := ["word", "sign"]
theorem sc_is_name : FnScope N_is_name ["word"] (defScope s_is_name) := ⟨rfl, rfl, rfl, by decide +kernel, rfl, by decide +kernel, by decide +kernel⟩
abbrev s_is_count : Stmt := top 11
abbrev N_is_count : List Str := ["word", "sign"]
theorem sc_is_count : FnScope N_is_count ["word"] (defScope s_is_count) := ⟨rfl, rfl, rfl, by decide +kernel, rfl, by decide +kernel, by decide +kernel⟩
abbrev s_read_word : Stmt := top 12
abbrev N_read_word : List Str := ["kind", "word"]
theorem sc_read_word : FnScope N_read_word ["kind", "word"] (defScope s_read_word) := ⟨rfl, rfl, rfl, by decide +kernel, rfl, by decide +kernel, by decide +kernel⟩
abbrev s_shape_of : Stmt := top 13
abbrev N_shape_of : List Str := ["word"]
theorem sc_shape_of : FnScope N_shape_of ["word"] (defScope s_shape_of) := ⟨rfl, rfl, rfl, by decide +kernel, rfl, by decide +kernel, by decide +kernel⟩
abbrev s_read_row : Stmt := top 14
abbrev N_read_row : List Str := ["text", "words", "shape", "row", "kind", "word"]
theorem sc_read_row : FnScope N_read_row ["text"] (defScope s_read_row) := ⟨rfl, rfl, rfl, by decide +kernel, rfl, by decide +kernel, by decide +kernel⟩
abbrev s_read_procedure : Stmt := top 15
abbrev N_read_procedure : List Str := ["text", "parts", "row"]
theorem sc_read_procedure : FnScope N_read_procedure ["text"] (defScope s_read_procedure) := ⟨rfl, rfl, rfl, by decide +kernel, rfl, by decide +kernel, by decide +kernel⟩
abbrev s_read_values : Stmt := top 16
abbrev N_read_values : List Str := ["text", "words", "word"]
theorem sc_read_values : FnScope N_read_values ["text"] (defScope s_read_values) := ⟨rfl, rfl, rfl, by decide +kernel, rfl, by decide +kernel, by decide +kernel⟩
abbrev s_values_of : Stmt := top 17
abbrev N_values_of : List Str := ["program", "which"]
theorem sc_values_of : FnScope N_values_of ["program", "which"] (defScope s_values_of) := ⟨rfl, rfl, rfl, by decide +kernel, rfl, by decide +kernel, by decide +kernel⟩
abbrev s_look_at : Stmt := top 18
abbrev N_look_at : List Str := ["program", "names", "rows", "at", "row"]
theorem sc_look_at : FnScope N_look_at ["program", "names", "rows", "at"] (defScope s_look_at) := ⟨rfl, rfl, rfl, by decide +kernel, rfl, by decide +kernel, by decide +kernel⟩
abbrev s_look_over : Stmt := top 19
abbrev N_look_over : List Str := ["program", "names", "name", "rows", "at", "one"]
theorem sc_look_over : FnScope N_look_over ["program"] (defScope s_look_over) := ⟨rfl, rfl, rfl, by decide +kernel, rfl, by decide +kernel, by decide +kernel⟩
abbrev s_read : Stmt := top 20
abbrev N_read : List Str := ["text", "parts", "values", "program", "part"]
theorem sc_read : FnScope N_read ["text"] (defScope s_read) := ⟨rfl, rfl, rfl, by decide +kernel, rfl, by decide +kernel, by decide +kernel⟩
abbrev s_cell_at : Stmt := top 22
abbrev N_cell_at : List Str := ["_law_script", "_law_k"]
theorem sc_cell_at : FnScope N_cell_at ["_law_script", "_law_k"] (defScope s_cell_at) := ⟨rfl, rfl, rfl, by decide +kernel, rfl, by decide +kernel, by decide +kernel⟩
abbrev s_digit : Stmt := top 23
abbrev N_digit : List Str := ["_law_cell", "_law_prime", "_law_many"]
theorem sc_digit : FnScope N_digit ["_law_cell", "_law_prime", "_law_many"] (defScope s_digit) := ⟨rfl, rfl, rfl, by decide +kernel, rfl, by decide +kernel, by decide +kernel⟩
abbrev s_word : Stmt := top 24
abbrev N_word : List Str := ["_law_number", "_law_some"]
theorem sc_word : FnScope N_word ["_law_number"] (defScope s_word) := ⟨rfl, rfl, rfl, by decide +kernel, rfl, by decide +kernel, by decide +kernel⟩
abbrev s_names : Stmt := top 25
abbrev N_names : List Str := ["_law_cell", "_law_others", "_law_size", "_law_base", "_law_k", "_law_spot", "_law_lot", "_law_sign", "_law_name", "_law_at"]
theorem sc_names : FnScope N_names ["_law_cell"] (defScope s_names) := ⟨rfl, rfl, rfl, by decide +kernel, rfl, by decide +kernel, by decide +kernel⟩
abbrev s_row : Stmt := top 26
abbrev N_row : List Str := ["_law_cell", "_law_values", "_law_many", "_law_names_here", "_law_last", "_law_lot", "_law_side", "_law_which", "_law_number", "_law_goal"]
theorem sc_row : FnScope N_row ["_law_cell", "_law_values", "_law_many", "_law_names_here", "_law_last"] (defScope s_row) := ⟨rfl, rfl, rfl, by decide +kernel, rfl, by decide +kernel, by decide +kernel⟩
abbrev s_program : Stmt := top 27
abbrev N_program : List Str := ["_law_cells_here", "_law_values", "_law_names_here", "_law_seed", "_law_dealt", "_law_cell", "_law_procedures", "_law_k", "_law_name", "_law_own", "_law_rows", "_law_at"]
theorem sc_program : FnScope N_program ["_law_cells_here", "_law_values", "_law_names_here", "_law_seed"] (defScope s_program) := ⟨rfl, rfl, rfl, by decide +kernel, rfl, by decide +kernel, by decide +kernel⟩
abbrev s_cells : Stmt := top 28
abbrev N_cells : List Str := ["_law_script", "_law_cell", "_law_cells_here", "_law_k"]
theorem sc_cells : FnScope N_cells ["_law_script", "_law_cell"] (defScope s_cells) := ⟨rfl, rfl, rfl, by decide +kernel, rfl, by decide +kernel, by decide +kernel⟩
abbrev s_text : Stmt := top 29
abbrev N_text : List Str := ["_law_program_here", "_law_parts", "_law_name", "_law_rows", "_law_row_here", "_law_word_here"]
theorem sc_text : FnScope N_text ["_law_program_here"] (defScope s_text) := ⟨rfl, rfl, rfl, by decide +kernel, rfl, by decide +kernel, by decide +kernel⟩
abbrev s_whole : Stmt := top 30
abbrev N_whole : List Str := ["_law_found"]
theorem sc_whole : FnScope N_whole ["_law_found"] (defScope s_whole) := ⟨rfl, rfl, rfl, by decide +kernel, rfl, by decide +kernel, by decide +kernel⟩
abbrev s_row_same : Stmt := top 31
abbrev N_row_same : List Str := ["_law_found", "_law_due", "_law_one", "_law_word_here"]
theorem sc_row_same : FnScope N_row_same ["_law_found", "_law_due"] (defScope s_row_same) := ⟨rfl, rfl, rfl, by decide +kernel, rfl, by decide +kernel, by decide +kernel⟩
abbrev s_rows_same : Stmt := top 32
abbrev N_rows_same : List Str := ["_law_found", "_law_due", "_law_one", "_law_row_here"]
theorem sc_rows_same : FnScope N_rows_same ["_law_found", "_law_due"] (defScope s_rows_same) := ⟨rfl, rfl, rfl, by decide +kernel, rfl, by decide +kernel, by decide +kernel⟩
abbrev s_same : Stmt := top 33
abbrev N_same : List Str := ["_law_found", "_law_due", "_law_one", "_law_part"]
theorem sc_same : FnScope N_same ["_law_found", "_law_due"] (defScope s_same) := ⟨rfl, rfl, rfl, by decide +kernel, rfl, by decide +kernel, by decide +kernel⟩
abbrev s_law : Stmt := top 34
abbrev N_law : List Str := ["_law_script", "_law_cell", "_law_values", "_law_names_here", "_law_due"]
theorem sc_law : FnScope N_law ["_law_script"] (defScope s_law) := ⟨rfl, rfl, rfl, by decide +kernel, rfl, by decide +kernel, by decide +kernel⟩
structure Tx (K : PySem.W.Frag) (mg : Str → Option Value) where
  f_is_name : Addr
  d_is_name : FuncData
  F_is_name : Fun K "is_name" "is_name" s_is_name f_is_name d_is_name
  g_is_name : mg "is_name" = some (.ref f_is_name)
  b_is_name : Binds K d_is_name ["word"] []
  f_is_count : Addr
  d_is_count : FuncData
  F_is_count : Fun K "is_count" "is_count" s_is_count f_is_count d_is_count
  g_is_count : mg "is_count" = some (.ref f_is_count)
  b_is_count : Binds K d_is_count ["word"] []
  f_read_word : Addr
  d_read_word : FuncData
  F_read_word : Fun K "read_word" "read_word" s_read_word f_read_word d_read_word
  g_read_word : mg "read_word" = some (.ref f_read_word)
  b_read_word : Binds K d_read_word ["kind", "word"] []
  f_shape_of : Addr
  d_shape_of : FuncData
  F_shape_of : Fun K "shape_of" "shape_of" s_shape_of f_shape_of d_shape_of
  g_shape_of : mg "shape_of" = some (.ref f_shape_of)
  b_shape_of : Binds K d_shape_of ["word"] []
  f_read_row : Addr
  d_read_row : FuncData
  F_read_row : Fun K "read_row" "read_row" s_read_row f_read_row d_read_row
  g_read_row : mg "read_row" = some (.ref f_read_row)
  b_read_row : Binds K d_read_row ["text"] []
  f_read_procedure : Addr
  d_read_procedure : FuncData
  F_read_procedure : Fun K "read_procedure" "read_procedure" s_read_procedure f_read_procedure d_read_procedure
  g_read_procedure : mg "read_procedure" = some (.ref f_read_procedure)
  b_read_procedure : Binds K d_read_procedure ["text"] []
  f_read_values : Addr
  d_read_values : FuncData
  F_read_values : Fun K "read_values" "read_values" s_read_values f_read_values d_read_values
  g_read_values : mg "read_values" = some (.ref f_read_values)
  b_read_values : Binds K d_read_values ["text"] []
  f_values_of : Addr
  d_values_of : FuncData
  F_values_of : Fun K "values_of" "values_of" s_values_of f_values_of d_values_of
  g_values_of : mg "values_of" = some (.ref f_values_of)
  b_values_of : Binds K d_values_of ["program", "which"] []
  f_look_at : Addr
  d_look_at : FuncData
  F_look_at : Fun K "look_at" "look_at" s_look_at f_look_at d_look_at
  g_look_at : mg "look_at" = some (.ref f_look_at)
  b_look_at : Binds K d_look_at ["program", "names", "rows", "at"] []
  f_look_over : Addr
  d_look_over : FuncData
  F_look_over : Fun K "look_over" "look_over" s_look_over f_look_over d_look_over
  g_look_over : mg "look_over" = some (.ref f_look_over)
  b_look_over : Binds K d_look_over ["program"] []
  f_read : Addr
  d_read : FuncData
  F_read : Fun K "read" "read" s_read f_read d_read
  g_read : mg "read" = some (.ref f_read)
  b_read : Binds K d_read ["text"] []
  f_cell_at : Addr
  d_cell_at : FuncData
  F_cell_at : Fun K "_law_cell_at" "_law_cell_at" s_cell_at f_cell_at d_cell_at
  g_cell_at : mg "_law_cell_at" = some (.ref f_cell_at)
  b_cell_at : Binds K d_cell_at ["_law_script", "_law_k"] []
  f_digit : Addr
  d_digit : FuncData
  F_digit : Fun K "_law_digit" "_law_digit" s_digit f_digit d_digit
  g_digit : mg "_law_digit" = some (.ref f_digit)
  b_digit : Binds K d_digit ["_law_cell", "_law_prime", "_law_many"] []
  f_word : Addr
  d_word : FuncData
  F_word : Fun K "_law_word" "_law_word" s_word f_word d_word
  g_word : mg "_law_word" = some (.ref f_word)
  b_word : Binds K d_word ["_law_number"] []
  f_names : Addr
  d_names : FuncData
  F_names : Fun K "_law_names" "_law_names" s_names f_names d_names
  g_names : mg "_law_names" = some (.ref f_names)
  b_names : Binds K d_names ["_law_cell"] []
  f_row : Addr
  d_row : FuncData
  F_row : Fun K "_law_row" "_law_row" s_row f_row d_row
  g_row : mg "_law_row" = some (.ref f_row)
  b_row : Binds K d_row ["_law_cell", "_law_values", "_law_many", "_law_names_here", "_law_last"] []
  f_program : Addr
  d_program : FuncData
  F_program : Fun K "_law_program" "_law_program" s_program f_program d_program
  g_program : mg "_law_program" = some (.ref f_program)
  b_program : Binds K d_program ["_law_cells_here", "_law_values", "_law_names_here", "_law_seed"] []
  f_cells : Addr
  d_cells : FuncData
  F_cells : Fun K "_law_cells" "_law_cells" s_cells f_cells d_cells
  g_cells : mg "_law_cells" = some (.ref f_cells)
  b_cells : Binds K d_cells ["_law_script", "_law_cell"] []
  f_text : Addr
  d_text : FuncData
  F_text : Fun K "_law_text" "_law_text" s_text f_text d_text
  g_text : mg "_law_text" = some (.ref f_text)
  b_text : Binds K d_text ["_law_program_here"] []
  f_whole : Addr
  d_whole : FuncData
  F_whole : Fun K "_law_whole" "_law_whole" s_whole f_whole d_whole
  g_whole : mg "_law_whole" = some (.ref f_whole)
  b_whole : Binds K d_whole ["_law_found"] []
  f_row_same : Addr
  d_row_same : FuncData
  F_row_same : Fun K "_law_row_same" "_law_row_same" s_row_same f_row_same d_row_same
  g_row_same : mg "_law_row_same" = some (.ref f_row_same)
  b_row_same : Binds K d_row_same ["_law_found", "_law_due"] []
  f_rows_same : Addr
  d_rows_same : FuncData
  F_rows_same : Fun K "_law_rows_same" "_law_rows_same" s_rows_same f_rows_same d_rows_same
  g_rows_same : mg "_law_rows_same" = some (.ref f_rows_same)
  b_rows_same : Binds K d_rows_same ["_law_found", "_law_due"] []
  f_same : Addr
  d_same : FuncData
  F_same : Fun K "_law_same" "_law_same" s_same f_same d_same
  g_same : mg "_law_same" = some (.ref f_same)
  b_same : Binds K d_same ["_law_found", "_law_due"] []
  f_law : Addr
  d_law : FuncData
  F_law : Fun K "law" "law" s_law f_law d_law
  g_law : mg "law" = some (.ref f_law)
  b_law : Binds K d_law ["_law_script"] []
  n_all : mg "all" = none
  n_bool : mg "bool" = none
  n_enumerate : mg "enumerate" = none
  n_int : mg "int" = none
  n_isinstance : mg "isinstance" = none
  n_len : mg "len" = none
  n_list : mg "list" = none
  n_range : mg "range" = none
  n_set : mg "set" = none
  n_str : mg "str" = none
  n_tuple : mg "tuple" = none
  n_zip : mg "zip" = none
  mt_FIGURES : ∃ tk, mg "FIGURES" = some (.str "0123456789" tk)
  mt_LETTERS : ∃ tk, mg "LETTERS" = some (.str "abcdefghijklmnopqrstuvwxyz" tk)
  xC_NoName : Addr
  xh_NoName : mg "NoName" = some (.ref xC_NoName)
  xq_NoName : PySem.W.excIn K xC_NoName [.type "ValueError", .type "Exception", .type "BaseException", .type "object"] "ValueError.__new__" = true
  xk_NoName : PySem.W.keepIn K (.ref xC_NoName) = true
  xb_NoName : PySem.W.subIn K (.ref xC_NoName) (.type "BaseException") = some true
  xt_NoName : PySem.W.typeIn K (.ref xC_NoName) = some (.type "type")
  xC_NoRow : Addr
  xh_NoRow : mg "NoRow" = some (.ref xC_NoRow)
  xq_NoRow : PySem.W.excIn K xC_NoRow [.type "ValueError", .type "Exception", .type "BaseException", .type "object"] "ValueError.__new__" = true
  xk_NoRow : PySem.W.keepIn K (.ref xC_NoRow) = true
  xb_NoRow : PySem.W.subIn K (.ref xC_NoRow) (.type "BaseException") = some true
  xt_NoRow : PySem.W.typeIn K (.ref xC_NoRow) = some (.type "type")
  xC_NoText : Addr
  xh_NoText : mg "NoText" = some (.ref xC_NoText)
  xq_NoText : PySem.W.excIn K xC_NoText [.type "ValueError", .type "Exception", .type "BaseException", .type "object"] "ValueError.__new__" = true
  xk_NoText : PySem.W.keepIn K (.ref xC_NoText) = true
  xb_NoText : PySem.W.subIn K (.ref xC_NoText) (.type "BaseException") = some true
  xt_NoText : PySem.W.typeIn K (.ref xC_NoText) = some (.type "type")
  xC_NoValue : Addr
  xh_NoValue : mg "NoValue" = some (.ref xC_NoValue)
  xq_NoValue : PySem.W.excIn K xC_NoValue [.type "ValueError", .type "Exception", .type "BaseException", .type "object"] "ValueError.__new__" = true
  xk_NoValue : PySem.W.keepIn K (.ref xC_NoValue) = true
  xb_NoValue : PySem.W.subIn K (.ref xC_NoValue) (.type "BaseException") = some true
  xt_NoValue : PySem.W.typeIn K (.ref xC_NoValue) = some (.type "type")
  xC_Twice : Addr
  xh_Twice : mg "Twice" = some (.ref xC_Twice)
  xq_Twice : PySem.W.excIn K xC_Twice [.type "ValueError", .type "Exception", .type "BaseException", .type "object"] "ValueError.__new__" = true
  xk_Twice : PySem.W.keepIn K (.ref xC_Twice) = true
  xb_Twice : PySem.W.subIn K (.ref xC_Twice) (.type "BaseException") = some true
  xt_Twice : PySem.W.typeIn K (.ref xC_Twice) = some (.type "type")
section
variable {P : Program} {w : World} {K : PySem.W.Frag} {mg : Str → Option Value} {base : Heap}
theorem ok_is_name (T : Tx K mg) : FnOk P w K mg base (L2.CX P w) 1 T.f_is_name T.d_is_name ["word"] (spK mg none 1 G16.m_is_name) :=
  def_ok (N := N_is_name) (F := (sRet (vAnd (vChain (gI (fun i j => decide (i ≤ j))) (gI (fun i j => decide (i ≤ j))) (vC (.int 1)) (vCall c_len (aCons (vVar 0) aNil)) (vC (.int 8))) (vCall c_all (aCons (vLstOf (nComp (iStrD (vVar 0)) [1] kName tTrue (v2 g_in (vVar 1) (vC (.str "abcdefghijklmnopqrstuvwxyz"))) [1])) aNil))))) T.F_is_name sc_is_name (own' := []) (.inl rfl) fun cdv A outer s H E hr tk hp =>
      (dss_one (ds_ret rfl (de_and (de_chain op_le op_le de_int (de_callB call_len say_len (by rfl) T.n_len (by decide +kernel) (da_cons (de_var (pv 0)) da_nil)) de_int) (de_one (de_callB (cr_all (by rfl)) say_all (by rfl) T.n_all (by decide +kernel) (da_cons (DN.de (dn_comp rfl sc_is_name.nd (di_str (de_var (pv 0))) (own := [("sign", 1)]) (blkOk_by (own := [("sign", 1)]) (N := N_is_name) (sc := defScope s_is_name) (by decide +kernel)) (is := [1]) (fun _ _ _ _ _ => (dg_name (pg_name (i := 1) sc_is_name.nd rfl (by first | exact Or.inl rfl | exact Or.inr rfl)))) (fun _ _ _ _ _ => dts_nil) (fun _ _ _ _ _ => (de_cmp (op_inAny (hu65 hr)) say_in (de_var (pv 1)) (de_textG (by rfl) T.mt_LETTERS) (by rfl))) (by decide))) da_nil))))))
theorem ok_is_count (T : Tx K mg) : FnOk P w K mg base (L2.CX P w) 1 T.f_is_count T.d_is_count ["word"] (spK mg none 1 G16.m_is_count) :=
  def_ok (N := N_is_count) (F := (sSeq (sIf (tOrD (tNotD (vB (vChain (gI (fun i j => decide (i ≤ j))) (gI (fun i j => decide (i ≤ j))) (vC (.int 1)) (vCall c_len (aCons (vVar 0) aNil)) (vC (.int 3))))) (tNotD (vB (vCall c_all (aCons (vLstOf (nComp (iStrD (vVar 0)) [1] kName tTrue (v2 g_in (vVar 1) (vC (.str "0123456789"))) [1])) aNil)))))
  (sRet (vC (.bl false)))
  sNext)
  (sRet (vOr (v2 g_eq (vVar 0) (vC (.str "0"))) (v2 g_ne (v2 g_ix (vVar 0) (vC (.int 0))) (vC (.str "0"))))))) T.F_is_count sc_is_count (own' := []) (.inl rfl) fun cdv A outer s H E hr tk hp =>
      (dss_cons (own1 := []) (ds_if (DW.dt (dw_or (dt_not (dt_chain op_le op_le de_int (de_callB call_len say_len (by rfl) T.n_len (by decide +kernel) (da_cons (de_var (pv 0)) da_nil)) de_int)) (dw_or1 (dt_not (dt_val (de_callB (cr_all (by rfl)) say_all (by rfl) T.n_all (by decide +kernel) (da_cons (DN.de (dn_comp rfl sc_is_count.nd (di_str (de_var (pv 0))) (own := [("sign", 1)]) (blkOk_by (own := [("sign", 1)]) (N := N_is_count) (sc := defScope s_is_count) (by decide +kernel)) (is := [1]) (fun _ _ _ _ _ => (dg_name (pg_name (i := 1) sc_is_count.nd rfl (by first | exact Or.inl rfl | exact Or.inr rfl)))) (fun _ _ _ _ _ => dts_nil) (fun _ _ _ _ _ => (de_cmp (op_inAny (hu65 hr)) say_in (de_var (pv 1)) (de_textG (by rfl) T.mt_FIGURES) (by rfl))) (by decide))) da_nil)))))))
      (dss_one (ds_ret rfl de_bl))
      dss_nil)
      (dss_one (ds_ret rfl (de_or (de_cmp (op_eqD (hu64 hr)) say_eq (de_var (pv 0)) de_str (nomark _)) (de_one (de_cmp (op_neD (hu64 hr)) say_ne (de_ix (ix_any (hu1 hr)) say_ix (de_var (pv 0)) de_int (fun _ _ => rfl)) de_str (nomark _)))))))
theorem ok_read_word (T : Tx K mg) : FnOk P w K mg base (L2.CX P w) 2 T.f_read_word T.d_read_word ["kind", "word"] (spK mg none 2 G16.m_read_word) :=
  def_ok (N := N_read_word) (F := (sSeq (sIf (tAndD (vB (v2 g_eq (vVar 0) (vC (.str "name")))) (vB (vCallN 1 G16.m_is_name (aCons (vVar 1) aNil))))
  (sRet (vVar 1))
  sNext)
  (sSeq (sIf (tAndD (vB (v2 g_eq (vVar 0) (vC (.str "which")))) (vB (v2 g_inT (vVar 1) (vTup (aCons (vC (.str "shared")) (aCons (vC (.str "own")) aNil))))))
  (sRet (vVar 1))
  sNext)
  (sSeq (sIf (tAndD (vB (v2 g_eq (vVar 0) (vC (.str "count")))) (vB (vCallN 1 G16.m_is_count (aCons (vVar 1) aNil))))
  (sRet (vCall c_intS (aCons (vVar 1) aNil)))
  sNext)
  (sRaise "NoText"))))) T.F_read_word sc_read_word (own' := []) (.inl rfl) fun cdv A outer s H E hr tk hp =>
      (dss_cons (own1 := []) (ds_if (DW.dt (dw_and (dt_cmp (op_eqD (hu64 hr)) say_eq (de_var (pv 0)) de_str (nomark _)) (dw_and1 (dt_val (de_call (ok_is_name T) tk (hr.mono (by decide)) (by rfl) T.g_is_name T.F_is_name.kp T.b_is_name (da_cons (de_var (pv 1)) da_nil))))))
      (dss_one (ds_ret rfl (de_var (pv 1))))
      dss_nil)
      (dss_cons (own1 := []) (ds_if (DW.dt (dw_and (dt_cmp (op_eqD (hu64 hr)) say_eq (de_var (pv 0)) de_str (nomark _)) (dw_and1 (dt_cmp (op_inT (hu65 hr)) say_inT (de_var (pv 1)) (de_tup (da_cons de_str (da_cons de_str da_nil))) (by rfl)))))
      (dss_one (ds_ret rfl (de_var (pv 1))))
      dss_nil)
      (dss_cons (own1 := []) (ds_if (DW.dt (dw_and (dt_cmp (op_eqD (hu64 hr)) say_eq (de_var (pv 0)) de_str (nomark _)) (dw_and1 (dt_val (de_call (ok_is_count T) tk (hr.mono (by decide)) (by rfl) T.g_is_count T.F_is_count.kp T.b_is_count (da_cons (de_var (pv 1)) da_nil))))))
      (dss_one (ds_ret rfl (de_callTy call_int_str say_intS (by rfl) T.n_int (by decide +kernel) (da_cons (de_var (pv 1)) da_nil))))
      dss_nil)
      (dss_one (ds_raise (c := "NoText") rfl tk (pmk_own PySem.F.excBase_ValueError T.xq_NoText T.xh_NoText T.xk_NoText (raises_own T.xb_NoText T.xt_NoText) (by rfl)) T.xh_NoText)))))
theorem ok_shape_of (T : Tx K mg) : FnOk P w K mg base (L2.CX P w) 1 T.f_shape_of T.d_shape_of ["word"] (spK mg none 1 G16.m_shape_of) :=
  def_ok (N := N_shape_of) (F := (sSeq (sIf (vB (v2 g_inT (vVar 0) (vTup (aCons (vC (.str "skip")) (aCons (vC (.str "back")) (aCons (vC (.str "stop")) aNil))))))
  (sRet (vTup aNil))
  sNext)
  (sSeq (sIf (vB (v2 g_inT (vVar 0) (vTup (aCons (vC (.str "any")) (aCons (vC (.str "turn")) aNil)))))
  (sRet (vTup (aCons (vC (.str "which")) aNil)))
  sNext)
  (sSeq (sIf (vB (v2 g_inT (vVar 0) (vTup (aCons (vC (.str "go")) (aCons (vC (.str "fork")) aNil)))))
  (sRet (vTup (aCons (vC (.str "count")) aNil)))
  sNext)
  (sSeq (sIf (vB (v2 g_eq (vVar 0) (vC (.str "set"))))
  (sRet (vTup (aCons (vC (.str "which")) (aCons (vC (.str "count")) aNil))))
  sNext)
  (sSeq (sIf (vB (v2 g_eq (vVar 0) (vC (.str "if"))))
  (sRet (vTup (aCons (vC (.str "which")) (aCons (vC (.str "count")) (aCons (vC (.str "count")) aNil)))))
  sNext)
  (sSeq (sIf (vB (v2 g_eq (vVar 0) (vC (.str "call"))))
  (sRet (vTup (aCons (vC (.str "name")) aNil)))
  sNext)
  (sRet (vC .non))))))))) T.F_shape_of sc_shape_of (own' := []) (.inl rfl) fun cdv A outer s H E hr tk hp =>
      (dss_cons (own1 := []) (ds_if (dt_cmp (op_inT (hu65 hr)) say_inT (de_var (pv 0)) (de_tup (da_cons de_str (da_cons de_str (da_cons de_str da_nil)))) (by rfl))
      (dss_one (ds_ret rfl (de_tup da_nil)))
      dss_nil)
      (dss_cons (own1 := []) (ds_if (dt_cmp (op_inT (hu65 hr)) say_inT (de_var (pv 0)) (de_tup (da_cons de_str (da_cons de_str da_nil))) (by rfl))
      (dss_one (ds_ret rfl (de_tup (da_cons de_str da_nil))))
      dss_nil)
      (dss_cons (own1 := []) (ds_if (dt_cmp (op_inT (hu65 hr)) say_inT (de_var (pv 0)) (de_tup (da_cons de_str (da_cons de_str da_nil))) (by rfl))
      (dss_one (ds_ret rfl (de_tup (da_cons de_str da_nil))))
      dss_nil)
      (dss_cons (own1 := []) (ds_if (dt_cmp (op_eqD (hu64 hr)) say_eq (de_var (pv 0)) de_str (nomark _))
      (dss_one (ds_ret rfl (de_tup (da_cons de_str (da_cons de_str da_nil)))))
      dss_nil)
      (dss_cons (own1 := []) (ds_if (dt_cmp (op_eqD (hu64 hr)) say_eq (de_var (pv 0)) de_str (nomark _))
      (dss_one (ds_ret rfl (de_tup (da_cons de_str (da_cons de_str (da_cons de_str da_nil))))))
      dss_nil)
      (dss_cons (own1 := []) (ds_if (dt_cmp (op_eqD (hu64 hr)) say_eq (de_var (pv 0)) de_str (nomark _))
      (dss_one (ds_ret rfl (de_tup (da_cons de_str da_nil))))
      dss_nil)
      (dss_one (ds_ret rfl de_non))))))))
theorem ok_read_row (T : Tx K mg) : FnOk P w K mg base (L2.CX P w) 3 T.f_read_row T.d_read_row ["text"] (spK mg none 1 G16.m_read_row) :=
  def_ok (N := N_read_row) (F := (sSeq (sAsg [] 1 (vLstOf (nSplit (vVar 0) (vC (.str " ")))))
  (sSeq (sAsg [] 2 (vCallN 1 G16.m_shape_of (aCons (v2 g_ix (vVar 1) (vC (.int 0))) aNil)))
  (sSeq (sIf (tOrD (vB (v2 g_isN (vVar 2) (vC .non))) (vB (v2 g_ne (vCall c_len (aCons (vVar 1) aNil)) (v2 g_add (vCall c_len (aCons (vVar 2) aNil)) (vC (.int 1))))))
  (sRaise "NoText")
  sNext)
  (sSeq (sAsg [] 3 (vLstOf (nLst (aCons (v2 g_ix (vVar 1) (vC (.int 0))) aNil))))
  (sSeq (sFor [(3, .sh)] (iZip2M (vVar 2) (vSl (vVar 1) (oSome (vC (.int 1))) oNone)) [4, 5] (kTup 2 (ksCons kName (ksCons kName ksNil)))
  (sApp [(3, .sh)] 3 (vCallN 2 G16.m_read_word (aCons (vVar 4) (aCons (vVar 5) aNil))))
  [4, 5])
  (sRet (vCall c_tuple (aCons (vVar 3) aNil))))))))) T.F_read_row sc_read_row (own' := [(3, .sh)]) (.inl rfl) fun cdv A outer s H E hr tk hp =>
      (dss_cons (own1 := []) (ds_asg (j := 1) (ae_set (j := 1) sc_read_row.nd rfl (.inl rfl) (DN.de (dn_split (de_var (pv 0)) de_str))))
      (dss_cons (own1 := []) (ds_asg (j := 2) (ae_set (j := 2) sc_read_row.nd rfl (.inl rfl) (de_call (ok_shape_of T) tk (hr.mono (by decide)) (by rfl) T.g_shape_of T.F_shape_of.kp T.b_shape_of (da_cons (de_ix (ix_any (hu1 hr)) say_ix (de_var (pv 1)) de_int (fun _ _ => rfl)) da_nil))))
      (dss_cons (own1 := []) (ds_if (DW.dt (dw_or (dt_cmp op_isN say_isN (de_var (pv 2)) de_non (nomark _)) (dw_or1 (dt_cmp (op_neD (hu64 hr)) say_ne (de_callB call_len say_len (by rfl) T.n_len (by decide +kernel) (da_cons (de_var (pv 1)) da_nil)) (de_op op_addAny say_add (de_callB call_len say_len (by rfl) T.n_len (by decide +kernel) (da_cons (de_var (pv 2)) da_nil)) de_int) (nomark _)))))
      (dss_one (ds_raise (c := "NoText") rfl tk (pmk_own PySem.F.excBase_ValueError T.xq_NoText T.xh_NoText T.xk_NoText (raises_own T.xb_NoText T.xt_NoText) (by rfl)) T.xh_NoText))
      dss_nil)
      (dss_cons (own1 := [(3, .sh)]) (ds_asgS (j := 3) (af_set (j := 3) sc_read_row.nd rfl (.inl rfl) (DN.sh (dn_lst (da_cons (de_ix (ix_any (hu1 hr)) say_ix (de_var (pv 1)) de_int (fun _ _ => rfl)) da_nil)))))
      (dss_cons (own1 := [(3, .sh)]) (ds_for (fg := [4, 5]) (is := [4, 5]) hp rfl (di_zip2M (by rfl) T.n_zip (de_var (pv 2)) (de_sl (de_var (pv 1)) (do_some de_int) do_none)) (dg_tup rfl (dgs_cons (is := [4]) (dg_name (pg_name (i := 4) sc_read_row.nd rfl (by first | exact Or.inl rfl | exact Or.inr rfl))) (dgs_cons (is := [5]) (dg_name (pg_name (i := 5) sc_read_row.nd rfl (by first | exact Or.inl rfl | exact Or.inr rfl))) dgs_nil)))
      (dss_one (ds_app (j := 3) rfl (pv 3) (de_call (ok_read_word T) tk (hr.mono (by decide)) (by rfl) T.g_read_word T.F_read_word.kp T.b_read_word (da_cons (de_var (pv 4)) (da_cons (de_var (pv 5)) da_nil))) (pe := fun {t} p => pe_append (pv 3) (p := p)))) (by decide))
      (dss_one (ds_ret rfl (de_callTy call_tuple_of say_tuple (by rfl) T.n_tuple (by decide +kernel) (da_cons (de_var (pv 3)) da_nil)))))))))
theorem ok_read_procedure (T : Tx K mg) : FnOk P w K mg base (L2.CX P w) 4 T.f_read_procedure T.d_read_procedure ["text"] (spK mg none 1 G16.m_read_procedure) :=
  def_ok (N := N_read_procedure) (F := (sSeq (sAsg [] 1 (vLstOf (nSplit (vVar 0) (vC (.str ": ")))))
  (sSeq (sIf (tOrD (vB (v2 g_ne (vCall c_len (aCons (vVar 1) aNil)) (vC (.int 2)))) (tNotD (vB (vCallN 1 G16.m_is_name (aCons (v2 g_ix (vVar 1) (vC (.int 0))) aNil)))))
  (sRaise "NoText")
  sNext)
  (sRet (vTup (aCons (v2 g_ix (vVar 1) (vC (.int 0))) (aCons (vLstOf (nComp (iSeq (vLstOf (nSplit (v2 g_ix (vVar 1) (vC (.int 1))) (vC (.str ", "))))) [2] kName tTrue (vCallN 1 G16.m_read_row (aCons (vVar 2) aNil)) [2])) aNil))))))) T.F_read_procedure sc_read_procedure (own' := []) (.inl rfl) fun cdv A outer s H E hr tk hp =>
      (dss_cons (own1 := []) (ds_asg (j := 1) (ae_set (j := 1) sc_read_procedure.nd rfl (.inl rfl) (DN.de (dn_split (de_var (pv 0)) de_str))))
      (dss_cons (own1 := []) (ds_if (DW.dt (dw_or (dt_cmp (op_neD (hu64 hr)) say_ne (de_callB call_len say_len (by rfl) T.n_len (by decide +kernel) (da_cons (de_var (pv 1)) da_nil)) de_int (nomark _)) (dw_or1 (dt_not (dt_val (de_call (ok_is_name T) tk (hr.mono (by decide)) (by rfl) T.g_is_name T.F_is_name.kp T.b_is_name (da_cons (de_ix (ix_any (hu1 hr)) say_ix (de_var (pv 1)) de_int (fun _ _ => rfl)) da_nil)))))))
      (dss_one (ds_raise (c := "NoText") rfl tk (pmk_own PySem.F.excBase_ValueError T.xq_NoText T.xh_NoText T.xk_NoText (raises_own T.xb_NoText T.xt_NoText) (by rfl)) T.xh_NoText))
      dss_nil)
      (dss_one (ds_ret rfl (de_tup (da_cons (de_ix (ix_any (hu1 hr)) say_ix (de_var (pv 1)) de_int (fun _ _ => rfl)) (da_cons (DN.de (dn_comp rfl sc_read_procedure.nd (di_seq (DN.de (dn_split (de_ix (ix_any (hu1 hr)) say_ix (de_var (pv 1)) de_int (fun _ _ => rfl)) de_str))) (own := [("row", 2)]) (blkOk_by (own := [("row", 2)]) (N := N_read_procedure) (sc := defScope s_read_procedure) (by decide +kernel)) (is := [2]) (fun _ _ _ _ _ => (dg_name (pg_name (i := 2) sc_read_procedure.nd rfl (by first | exact Or.inl rfl | exact Or.inr rfl)))) (fun _ _ _ _ _ => dts_nil) (fun _ _ _ _ _ => (de_call (ok_read_row T) takes0 (hr.mono (by decide)) (by rfl) T.g_read_row T.F_read_row.kp T.b_read_row (da_cons (de_var (pv 2)) da_nil))) (by decide))) da_nil)))))))
theorem ok_read_values (T : Tx K mg) : FnOk P w K mg base (L2.CX P w) 1 T.f_read_values T.d_read_values ["text"] (spK mg none 1 G16.m_read_values) :=
  def_ok (N := N_read_values) (F := (sSeq (sAsg [] 1 (vLstOf (nSplit (vVar 0) (vC (.str " ")))))
  (sSeq (sIf (tOrD (vB (v2 g_ne (vCall c_len (aCons (vVar 1) aNil)) (vC (.int 3)))) (vB (v2 g_ne (v2 g_ix (vVar 1) (vC (.int 0))) (vC (.str "values")))))
  (sRaise "NoText")
  sNext)
  (sSeq (sFor [] (iSeq (vSl (vVar 1) (oSome (vC (.int 1))) oNone)) [2] kName
  (sIf (vB (v2 g_notinT (vVar 2) (vTup (aCons (vC (.str "1")) (aCons (vC (.str "2")) (aCons (vC (.str "3")) (aCons (vC (.str "4")) aNil)))))))
  (sRaise "NoText")
  sNext)
  [2])
  (sRet (vTup (aCons (vCall c_intS (aCons (v2 g_ix (vVar 1) (vC (.int 1))) aNil)) (aCons (vCall c_intS (aCons (v2 g_ix (vVar 1) (vC (.int 2))) aNil)) aNil)))))))) T.F_read_values sc_read_values (own' := []) (.inl rfl) fun cdv A outer s H E hr tk hp =>
      (dss_cons (own1 := []) (ds_asg (j := 1) (ae_set (j := 1) sc_read_values.nd rfl (.inl rfl) (DN.de (dn_split (de_var (pv 0)) de_str))))
      (dss_cons (own1 := []) (ds_if (DW.dt (dw_or (dt_cmp (op_neD (hu64 hr)) say_ne (de_callB call_len say_len (by rfl) T.n_len (by decide +kernel) (da_cons (de_var (pv 1)) da_nil)) de_int (nomark _)) (dw_or1 (dt_cmp (op_neD (hu64 hr)) say_ne (de_ix (ix_any (hu1 hr)) say_ix (de_var (pv 1)) de_int (fun _ _ => rfl)) de_str (nomark _)))))
      (dss_one (ds_raise (c := "NoText") rfl tk (pmk_own PySem.F.excBase_ValueError T.xq_NoText T.xh_NoText T.xk_NoText (raises_own T.xb_NoText T.xt_NoText) (by rfl)) T.xh_NoText))
      dss_nil)
      (dss_cons (own1 := []) (ds_for (fg := [2]) (is := [2]) hp rfl (di_seq (de_sl (de_var (pv 1)) (do_some de_int) do_none)) (dg_name (pg_name (i := 2) sc_read_values.nd rfl (by first | exact Or.inl rfl | exact Or.inr rfl)))
      (dss_one (ds_if (dt_cmp (op_notInT (hu65 hr)) say_notinT (de_var (pv 2)) (de_tup (da_cons de_str (da_cons de_str (da_cons de_str (da_cons de_str da_nil))))) (by rfl))
      (dss_one (ds_raise (c := "NoText") rfl tk (pmk_own PySem.F.excBase_ValueError T.xq_NoText T.xh_NoText T.xk_NoText (raises_own T.xb_NoText T.xt_NoText) (by rfl)) T.xh_NoText))
      dss_nil)) (by decide))
      (dss_one (ds_ret rfl (de_tup (da_cons (de_callTy call_int_str say_intS (by rfl) T.n_int (by decide +kernel) (da_cons (de_ix (ix_any (hu1 hr)) say_ix (de_var (pv 1)) de_int (fun _ _ => rfl)) da_nil)) (da_cons (de_callTy call_int_str say_intS (by rfl) T.n_int (by decide +kernel) (da_cons (de_ix (ix_any (hu1 hr)) say_ix (de_var (pv 1)) de_int (fun _ _ => rfl)) da_nil)) da_nil))))))))
theorem ok_values_of (T : Tx K mg) : FnOk P w K mg base (L2.CX P w) 1 T.f_values_of T.d_values_of ["program", "which"] (spK mg none 2 G16.m_values_of) :=
  def_ok (N := N_values_of) (F := (sSeq (sIf (vB (v2 g_eq (vVar 1) (vC (.str "shared"))))
  (sRet (v2 g_ix (vVar 0) (vC (.int 0))))
  sNext)
  (sRet (v2 g_ix (vVar 0) (vC (.int 1)))))) T.F_values_of sc_values_of (own' := []) (.inl rfl) fun cdv A outer s H E hr tk hp =>
      (dss_cons (own1 := []) (ds_if (dt_cmp (op_eqD (hu64 hr)) say_eq (de_var (pv 1)) de_str (nomark _))
      (dss_one (ds_ret rfl (de_ix (ix_any (hu1 hr)) say_ix (de_var (pv 0)) de_int (fun _ _ => rfl))))
      dss_nil)
      (dss_one (ds_ret rfl (de_ix (ix_any (hu1 hr)) say_ix (de_var (pv 0)) de_int (fun _ _ => rfl)))))
theorem ok_look_at (T : Tx K mg) : FnOk P w K mg base (L2.CX P w) 2 T.f_look_at T.d_look_at ["program", "names", "rows", "at"] (spK mg none 4 G16.m_look_at) :=
  def_ok (N := N_look_at) (F := (sSeq (sAsg [] 4 (v2 g_ix (vVar 2) (vVar 3)))
  (sSeq (sIf (tAndD (vB (v2 g_eq (v2 g_ix (vVar 4) (vC (.int 0))) (vC (.str "call")))) (vB (v2 g_notin (v2 g_ix (vVar 4) (vC (.int 1))) (vVar 1))))
  (sRaise "NoName")
  sNext)
  (sSeq (sIf (tAndD (vB (v2 g_inT (v2 g_ix (vVar 4) (vC (.int 0))) (vTup (aCons (vC (.str "set")) (aCons (vC (.str "if")) aNil))))) (vB (v2 (gI (fun i j => decide (j ≤ i))) (v2 g_ix (vVar 4) (vC (.int 2))) (vCallN 2 G16.m_values_of (aCons (vVar 0) (aCons (v2 g_ix (vVar 4) (vC (.int 1))) aNil))))))
  (sRaise "NoValue")
  sNext)
  (sSeq (sIf (tAndD (vB (v2 g_inT (v2 g_ix (vVar 4) (vC (.int 0))) (vTup (aCons (vC (.str "go")) (aCons (vC (.str "fork")) (aCons (vC (.str "if")) aNil)))))) (vB (v2 (gI (fun i j => decide (j ≤ i))) (v2 g_ix (vVar 4) (v1 g_neg (vC (.int 1)))) (vCall c_len (aCons (vVar 2) aNil)))))
  (sRaise "NoRow")
  sNext)
  (sIf (tAndD (vB (v2 g_eq (vVar 3) (v2 g_sub (vCall c_len (aCons (vVar 2) aNil)) (vC (.int 1))))) (vB (v2 g_notinT (v2 g_ix (vVar 4) (vC (.int 0))) (vTup (aCons (vC (.str "go")) (aCons (vC (.str "back")) (aCons (vC (.str "stop")) aNil)))))))
  (sRaise "NoRow")
  sNext)))))) T.F_look_at sc_look_at (own' := []) (.inl rfl) fun cdv A outer s H E hr tk hp =>
      (dss_cons (own1 := []) (ds_asg (j := 4) (ae_set (j := 4) sc_look_at.nd rfl (.inl rfl) (de_ix (ix_any (hu1 hr)) say_ix (de_var (pv 2)) (de_var (pv 3)) (fun _ _ => rfl))))
      (dss_cons (own1 := []) (ds_if (DW.dt (dw_and (dt_cmp (op_eqD (hu64 hr)) say_eq (de_ix (ix_any (hu1 hr)) say_ix (de_var (pv 4)) de_int (fun _ _ => rfl)) de_str (nomark _)) (dw_and1 (dt_cmp (op_notInAny (hu65 hr)) say_notin (de_ix (ix_any (hu1 hr)) say_ix (de_var (pv 4)) de_int (fun _ _ => rfl)) (de_var (pv 1)) (by rfl)))))
      (dss_one (ds_raise (c := "NoName") rfl tk (pmk_own PySem.F.excBase_ValueError T.xq_NoName T.xh_NoName T.xk_NoName (raises_own T.xb_NoName T.xt_NoName) (by rfl)) T.xh_NoName))
      dss_nil)
      (dss_cons (own1 := []) (ds_if (DW.dt (dw_and (dt_cmp (op_inT (hu65 hr)) say_inT (de_ix (ix_any (hu1 hr)) say_ix (de_var (pv 4)) de_int (fun _ _ => rfl)) (de_tup (da_cons de_str (da_cons de_str da_nil))) (by rfl)) (dw_and1 (dt_cmp op_ge say_I (de_ix (ix_any (hu1 hr)) say_ix (de_var (pv 4)) de_int (fun _ _ => rfl)) (de_call (ok_values_of T) tk (hr.mono (by decide)) (by rfl) T.g_values_of T.F_values_of.kp T.b_values_of (da_cons (de_var (pv 0)) (da_cons (de_ix (ix_any (hu1 hr)) say_ix (de_var (pv 4)) de_int (fun _ _ => rfl)) da_nil))) (nomark _)))))
      (dss_one (ds_raise (c := "NoValue") rfl tk (pmk_own PySem.F.excBase_ValueError T.xq_NoValue T.xh_NoValue T.xk_NoValue (raises_own T.xb_NoValue T.xt_NoValue) (by rfl)) T.xh_NoValue))
      dss_nil)
      (dss_cons (own1 := []) (ds_if (DW.dt (dw_and (dt_cmp (op_inT (hu65 hr)) say_inT (de_ix (ix_any (hu1 hr)) say_ix (de_var (pv 4)) de_int (fun _ _ => rfl)) (de_tup (da_cons de_str (da_cons de_str (da_cons de_str da_nil)))) (by rfl)) (dw_and1 (dt_cmp op_ge say_I (de_ix (ix_any (hu1 hr)) say_ix (de_var (pv 4)) (de_neg de_int) (fun _ _ => rfl)) (de_callB call_len say_len (by rfl) T.n_len (by decide +kernel) (da_cons (de_var (pv 2)) da_nil)) (nomark _)))))
      (dss_one (ds_raise (c := "NoRow") rfl tk (pmk_own PySem.F.excBase_ValueError T.xq_NoRow T.xh_NoRow T.xk_NoRow (raises_own T.xb_NoRow T.xt_NoRow) (by rfl)) T.xh_NoRow))
      dss_nil)
      (dss_one (ds_if (DW.dt (dw_and (dt_cmp (op_eqD (hu64 hr)) say_eq (de_var (pv 3)) (de_op op_sub say_sub (de_callB call_len say_len (by rfl) T.n_len (by decide +kernel) (da_cons (de_var (pv 2)) da_nil)) de_int) (nomark _)) (dw_and1 (dt_cmp (op_notInT (hu65 hr)) say_notinT (de_ix (ix_any (hu1 hr)) say_ix (de_var (pv 4)) de_int (fun _ _ => rfl)) (de_tup (da_cons de_str (da_cons de_str (da_cons de_str da_nil)))) (by rfl)))))
      (dss_one (ds_raise (c := "NoRow") rfl tk (pmk_own PySem.F.excBase_ValueError T.xq_NoRow T.xh_NoRow T.xk_NoRow (raises_own T.xb_NoRow T.xt_NoRow) (by rfl)) T.xh_NoRow))
      dss_nil))))))
theorem ok_look_over (T : Tx K mg) : FnOk P w K mg base (L2.CX P w) 3 T.f_look_over T.d_look_over ["program"] (spK mg none 1 G16.m_look_over) :=
  def_ok (N := N_look_over) (F := (sSeq (sAsg [] 1 (vLstOf (nComp (iSeq (v2 g_ix (vVar 0) (vC (.int 2)))) [5] kName tTrue (v2 g_ix (vVar 5) (vC (.int 0))) [5])))
  (sSeq (sIf (vB (v2 g_ne (v1 g_lenT (vVar 1)) (vCall c_len (aCons (vVar 1) aNil))))
  (sRaise "Twice")
  sNext)
  (sSeq (sIf (vB (v2 g_notin (vC (.str "main")) (vVar 1)))
  (sRaise "NoName")
  sNext)
  (sFor [] (iSeq (v2 g_ix (vVar 0) (vC (.int 2)))) [2, 3] (kTup 2 (ksCons kName (ksCons kName ksNil)))
  (sFor [] (iRange1 (vCall c_len (aCons (vVar 3) aNil))) [4] kName
  (sDrop (vCallN 4 G16.m_look_at (aCons (vVar 0) (aCons (vVar 1) (aCons (vVar 3) (aCons (vVar 4) aNil))))))
  [4])
  [2, 3, 4]))))) T.F_look_over sc_look_over (own' := []) (.inl rfl) fun cdv A outer s H E hr tk hp =>
      (dss_cons (own1 := []) (ds_asg (j := 1) (AN.ae (an_comp (i := 1) rfl sc_look_over.nd rfl rfl (sw_true rfl rfl rfl (by decide +kernel)) (di_seq (de_ix (ix_any (hu1 hr)) say_ix (de_var (pv 0)) de_int (fun _ _ => rfl))) (own := [("one", 5)]) (blkOk_by (own := [("one", 5)]) (N := N_look_over) (sc := defScope s_look_over) (by decide +kernel)) (is := [5]) (fun _ _ _ _ _ => (dg_name (pg_name (i := 5) sc_look_over.nd rfl (by first | exact Or.inl rfl | exact Or.inr rfl)))) (fun _ _ _ _ _ => dts_nil) (fun _ _ _ _ _ => (de_ix (ix_any (hu1 hr)) say_ix (de_var (pv 5)) de_int (fun _ _ => rfl))) (by decide))))
      (dss_cons (own1 := []) (ds_if (dt_cmp (op_neD (hu64 hr)) say_ne (de_lenT rfl (by rfl) T.n_len (by rfl) T.n_set (de_var (pv 1))) (de_callB call_len say_len (by rfl) T.n_len (by decide +kernel) (da_cons (de_var (pv 1)) da_nil)) (nomark _))
      (dss_one (ds_raise (c := "Twice") rfl tk (pmk_own PySem.F.excBase_ValueError T.xq_Twice T.xh_Twice T.xk_Twice (raises_own T.xb_Twice T.xt_Twice) (by rfl)) T.xh_Twice))
      dss_nil)
      (dss_cons (own1 := []) (ds_if (dt_cmp (op_notInAny (hu65 hr)) say_notin de_str (de_var (pv 1)) (by rfl))
      (dss_one (ds_raise (c := "NoName") rfl tk (pmk_own PySem.F.excBase_ValueError T.xq_NoName T.xh_NoName T.xk_NoName (raises_own T.xb_NoName T.xt_NoName) (by rfl)) T.xh_NoName))
      dss_nil)
      (dss_one (ds_for (fg := [2, 3, 4]) (is := [2, 3]) hp rfl (di_seq (de_ix (ix_any (hu1 hr)) say_ix (de_var (pv 0)) de_int (fun _ _ => rfl))) (dg_tup rfl (dgs_cons (is := [2]) (dg_name (pg_name (i := 2) sc_look_over.nd rfl (by first | exact Or.inl rfl | exact Or.inr rfl))) (dgs_cons (is := [3]) (dg_name (pg_name (i := 3) sc_look_over.nd rfl (by first | exact Or.inl rfl | exact Or.inr rfl))) dgs_nil)))
      (dss_one (ds_for (fg := [4]) (is := [4]) hp rfl (di_range1 (by rfl) T.n_range (de_callB call_len say_len (by rfl) T.n_len (by decide +kernel) (da_cons (de_var (pv 3)) da_nil))) (dg_name (pg_name (i := 4) sc_look_over.nd rfl (by first | exact Or.inl rfl | exact Or.inr rfl)))
      (dss_one (ds_expr (de_call (ok_look_at T) tk (hr.mono (by decide)) (by rfl) T.g_look_at T.F_look_at.kp T.b_look_at (da_cons (de_var (pv 0)) (da_cons (de_var (pv 1)) (da_cons (de_var (pv 3)) (da_cons (de_var (pv 4)) da_nil))))))) (by decide))) (by decide))))))
theorem ok_read (T : Tx K mg) : FnOk P w K mg base (L2.CX P w) 5 T.f_read T.d_read ["text"] (spK mg none 1 G16.m_read) :=
  def_ok (N := N_read) (F := (sSeq (sIf (tNotD (vB (v1 (g_isi "str") (vVar 0))))
  (sRaise "NoText")
  sNext)
  (sSeq (sAsg [] 1 (vLstOf (nSplit (vVar 0) (vC (.str "; ")))))
  (sSeq (sAsg [] 2 (vCallN 1 G16.m_read_values (aCons (v2 g_ix (vVar 1) (vC (.int 0))) aNil)))
  (sSeq (sIf (vB (v2 (gI (fun i j => decide (i < j))) (vCall c_len (aCons (vVar 1) aNil)) (vC (.int 2))))
  (sRaise "NoText")
  sNext)
  (sSeq (sAsg [] 3 (vTup (aCons (v2 g_ix (vVar 2) (vC (.int 0))) (aCons (v2 g_ix (vVar 2) (vC (.int 1))) (aCons (vLstOf (nComp (iSeq (vSl (vVar 1) (oSome (vC (.int 1))) oNone)) [4] kName tTrue (vCallN 1 G16.m_read_procedure (aCons (vVar 4) aNil)) [4])) aNil)))))
  (sSeq (sDrop (vCallN 1 G16.m_look_over (aCons (vVar 3) aNil)))
  (sRet (vVar 3))))))))) T.F_read sc_read (own' := []) (.inl rfl) fun cdv A outer s H E hr tk hp =>
      (dss_cons (own1 := []) (ds_if (dt_not (dt_val (de_isi (n := "str") (de_var (pv 0)) (by rfl) T.n_isinstance (by rfl) T.n_str (by decide +kernel))))
      (dss_one (ds_raise (c := "NoText") rfl tk (pmk_own PySem.F.excBase_ValueError T.xq_NoText T.xh_NoText T.xk_NoText (raises_own T.xb_NoText T.xt_NoText) (by rfl)) T.xh_NoText))
      dss_nil)
      (dss_cons (own1 := []) (ds_asg (j := 1) (ae_set (j := 1) sc_read.nd rfl (.inl rfl) (DN.de (dn_split (de_var (pv 0)) de_str))))
      (dss_cons (own1 := []) (ds_asg (j := 2) (ae_set (j := 2) sc_read.nd rfl (.inl rfl) (de_call (ok_read_values T) tk (hr.mono (by decide)) (by rfl) T.g_read_values T.F_read_values.kp T.b_read_values (da_cons (de_ix (ix_any (hu1 hr)) say_ix (de_var (pv 1)) de_int (fun _ _ => rfl)) da_nil))))
      (dss_cons (own1 := []) (ds_if (dt_cmp op_lt say_I (de_callB call_len say_len (by rfl) T.n_len (by decide +kernel) (da_cons (de_var (pv 1)) da_nil)) de_int (nomark _))
      (dss_one (ds_raise (c := "NoText") rfl tk (pmk_own PySem.F.excBase_ValueError T.xq_NoText T.xh_NoText T.xk_NoText (raises_own T.xb_NoText T.xt_NoText) (by rfl)) T.xh_NoText))
      dss_nil)
      (dss_cons (own1 := []) (ds_asg (j := 3) (ae_set (j := 3) sc_read.nd rfl (.inl rfl) (de_tup (da_cons (de_ix (ix_any (hu1 hr)) say_ix (de_var (pv 2)) de_int (fun _ _ => rfl)) (da_cons (de_ix (ix_any (hu1 hr)) say_ix (de_var (pv 2)) de_int (fun _ _ => rfl)) (da_cons (DN.de (dn_comp rfl sc_read.nd (di_seq (de_sl (de_var (pv 1)) (do_some de_int) do_none)) (own := [("part", 4)]) (blkOk_by (own := [("part", 4)]) (N := N_read) (sc := defScope s_read) (by decide +kernel)) (is := [4]) (fun _ _ _ _ _ => (dg_name (pg_name (i := 4) sc_read.nd rfl (by first | exact Or.inl rfl | exact Or.inr rfl)))) (fun _ _ _ _ _ => dts_nil) (fun _ _ _ _ _ => (de_call (ok_read_procedure T) takes0 (hr.mono (by decide)) (by rfl) T.g_read_procedure T.F_read_procedure.kp T.b_read_procedure (da_cons (de_var (pv 4)) da_nil))) (by decide))) da_nil))))))
      (dss_cons (own1 := []) (ds_expr (de_call (ok_look_over T) tk (hr.mono (by decide)) (by rfl) T.g_look_over T.F_look_over.kp T.b_look_over (da_cons (de_var (pv 3)) da_nil)))
      (dss_one (ds_ret rfl (de_var (pv 3))))))))))
theorem ok_cell_at (T : Tx K mg) : FnOk P w K mg base (L2.CX P w) 1 T.f_cell_at T.d_cell_at ["_law_script", "_law_k"] (spK mg none 2 G4.m_cell_at) :=
  def_ok (N := N_cell_at) (F := (sSeq (sIf (vB (v2 (gI (fun i j => decide (i < j))) (vVar 1) (vCall c_len (aCons (vVar 0) aNil))))
  (sRet (v2 g_mod (v2 g_ix (vVar 0) (vVar 1)) (v2 g_pow (vC (.int 10)) (vC (.int 60)))))
  sNext)
  (sRet (vC (.int 0))))) T.F_cell_at sc_cell_at (own' := []) (.inl rfl) fun cdv A outer s H E hr tk hp =>
      (dss_cons (own1 := []) (ds_if (dt_cmp op_lt say_I (de_var (pv 1)) (de_callB call_len say_len (by rfl) T.n_len (by decide +kernel) (da_cons (de_var (pv 0)) da_nil)) (nomark _))
      (dss_one (ds_ret rfl (de_op op_mod say_mod (de_ix (ix_any (hu1 hr)) say_ix (de_var (pv 0)) (de_var (pv 1)) (fun _ _ => rfl)) (de_op op_pow say_pow de_int de_int))))
      dss_nil)
      (dss_one (ds_ret rfl de_int)))
theorem ok_digit (T : Tx K mg) : FnOk P w K mg base (L2.CX P w) 1 T.f_digit T.d_digit ["_law_cell", "_law_prime", "_law_many"] (spK mg none 3 G4.m_digit) :=
  def_ok (N := N_digit) (F := (sRet (v2 g_mod (v2 g_mod (v2 g_add (v2 g_mul (v2 g_mod (vVar 0) (v2 g_pow (vC (.int 10)) (vC (.int 60)))) (vC (.int 48271))) (vC (.int 11))) (vVar 1)) (vVar 2)))) T.F_digit sc_digit (own' := []) (.inl rfl) fun cdv A outer s H E hr tk hp =>
      (dss_one (ds_ret rfl (de_op op_mod say_mod (de_op op_mod say_mod (de_op op_addAny say_add (de_op op_mul say_mul (de_op op_mod say_mod (de_var (pv 0)) (de_op op_pow say_pow de_int de_int)) de_int) de_int) (de_var (pv 1))) (de_var (pv 2)))))
theorem ok_word (T : Tx K mg) : FnOk P w K mg base (L2.CX P w) 1 T.f_word T.d_word ["_law_number"] (spK mg none 1 G17.m_word) :=
  def_ok (N := N_word) (F := (sSeq (sAsg [] 1 (vLstOf (nLst (aCons (vC (.str "call")) (aCons (vC (.str "back")) (aCons (vC (.str "values")) (aCons (vC (.str "own")) (aCons (vC (.str "shared")) (aCons (vC (.str "end")) (aCons (vC (.str "come")) (aCons (vC (.str "skip")) (aCons (vC (.str "stop")) (aCons (vC (.str "surely")) (aCons (vC (.str "longest")) (aCons (vC (.str "any")) aNil)))))))))))))))
  (sRet (v2 g_ix (vVar 1) (v2 g_mod (vVar 0) (vC (.int 12))))))) T.F_word sc_word (own' := []) (.inl rfl) fun cdv A outer s H E hr tk hp =>
      (dss_cons (own1 := []) (ds_asg (j := 1) (ae_set (j := 1) sc_word.nd rfl (.inl rfl) (DN.de (dn_lst (da_cons de_str (da_cons de_str (da_cons de_str (da_cons de_str (da_cons de_str (da_cons de_str (da_cons de_str (da_cons de_str (da_cons de_str (da_cons de_str (da_cons de_str (da_cons de_str da_nil))))))))))))))))
      (dss_one (ds_ret rfl (de_ix (ix_any (hu1 hr)) say_ix (de_var (pv 1)) (de_op op_mod say_mod (de_var (pv 0)) de_int) (fun _ _ => rfl)))))
theorem ok_names (T : Tx K mg) : FnOk P w K mg base (L2.CX P w) 2 T.f_names T.d_names ["_law_cell"] (spK mg (some .dp) 1 G17.m_names) :=
  def_ok (N := N_names) (F := (sSeq (sAsgV 1 (vLstI (nLst aNil)))
  (sSeq (sAsg [(1, .dp)] 2 (v2 g_add (vC (.int 1)) (vCallN 3 G4.m_digit (aCons (vVar 0) (aCons (vC (.int 1063)) (aCons (vC (.int 8)) aNil))))))
  (sSeq (sAsg [(1, .dp)] 3 (vC (.str "")))
  (sSeq (sFor [(1, .dp)] (iRange1 (vVar 2)) [4] kName
  (sAsg [(1, .dp)] 3 (v2 g_add (vVar 3) (v2 g_ix (vC (.str "abcdefghijklmnopqrstuvwxyz")) (vCallN 3 G4.m_digit (aCons (v2 g_add (vVar 0) (v2 g_mul (v2 g_mul (vC (.int 5)) (vVar 4)) (vVar 4))) (aCons (vC (.int 1093)) (aCons (vC (.int 26)) aNil)))))))
  [4])
  (sSeq (sAsg [(1, .dp)] 5 (vCallN 3 G4.m_digit (aCons (vVar 0) (aCons (vC (.int 1069)) (aCons (vVar 2) aNil)))))
  (sSeq (sAsg [(1, .dp)] 6 (vCallN 3 G4.m_digit (aCons (vVar 0) (aCons (vC (.int 1087)) (aCons (vC (.int 5)) aNil)))))
  (sSeq (sFor [(1, .dp)] (iRange1 (vCallN 3 G4.m_digit (aCons (vVar 0) (aCons (vC (.int 1061)) (aCons (vC (.int 4)) aNil))))) [4] kName
  (sSeq (sAsg [(1, .dp)] 7 (v2 g_ix (vC (.str "bcdefghjklopqrstuvwxyz")) (v2 g_mod (v2 g_add (vVar 0) (v2 g_mul (vVar 4) (v2 g_add (vC (.int 1)) (v2 g_mod (v2 g_fdiv (vVar 0) (vC (.int 22))) (vC (.int 7)))))) (vC (.int 22)))))
  (sSeq (sAsg [(1, .dp)] 8 (v2 g_add (v2 g_add (vSl (vVar 3) oNone (oSome (vVar 5))) (vVar 7)) (vSl (vVar 3) (oSome (v2 g_add (vVar 5) (vC (.int 1)))) oNone)))
  (sSeq (sIf (vB (v2 g_eq (vVar 6) (vC (.int 2))))
  (sAsg [(1, .dp)] 8 (v2 g_add (vC (.str "main")) (vVar 7)))
  sNext)
  (sSeq (sIf (vB (v2 g_eq (vVar 6) (vC (.int 3))))
  (sAsg [(1, .dp)] 8 (vSl (vC (.str "main")) oNone (oSome (v2 g_add (vC (.int 1)) (vVar 4)))))
  sNext)
  (sSeq (sIf (vB (v2 g_eq (vVar 6) (vC (.int 4))))
  (sAsg [(1, .dp)] 8 (vCallN 1 G17.m_word (aCons (v2 g_add (v2 g_fdiv (vVar 0) (vC (.int 7))) (v2 g_mul (vVar 4) (v2 g_add (vC (.int 1)) (v2 g_mod (v2 g_fdiv (vVar 0) (vC (.int 12))) (vC (.int 5)))))) aNil)))
  sNext)
  (sAppI 1 (vVar 8)))))))
  [4, 7, 8])
  (sSeq (sAsgI 9 (vCallN 3 G4.m_digit (aCons (vVar 0) (aCons (vC (.int 1091)) (aCons (v2 g_add (vCall c_len (aCons (vVar 1) aNil)) (vC (.int 1))) aNil)))))
  (sRet (vLstI (nCat (v2 g_add (vSl (vVar 1) oNone (oSome (vVar 9))) (vLstOf (nLst (aCons (vC (.str "main")) aNil)))) (vSl (vVar 1) (oSome (vVar 9)) oNone))))))))))))) T.F_names sc_names (own' := [(1, .dp)]) (.inr rfl) fun cdv A outer s H E hr tk hp =>
      (dss_cons (own1 := [(1, .dp)]) (ds_asgD (j := 1) (af_set (j := 1) sc_names.nd rfl (.inl rfl) (DN.dp (dn_lst da_nil))))
      (dss_cons (own1 := [(1, .dp)]) (ds_asg (j := 2) (ae_set (j := 2) sc_names.nd rfl (.inl rfl) (de_op op_addAny say_add de_int (de_call (ok_digit T) tk (hr.mono (by decide)) (by rfl) T.g_digit T.F_digit.kp T.b_digit (da_cons (de_var (pv 0)) (da_cons de_int (da_cons de_int da_nil)))))))
      (dss_cons (own1 := [(1, .dp)]) (ds_asg (j := 3) (ae_set (j := 3) sc_names.nd rfl (.inl rfl) de_str))
      (dss_cons (own1 := [(1, .dp)]) (ds_for (fg := [4]) (is := [4]) hp rfl (di_range1 (by rfl) T.n_range (de_var (pv 2))) (dg_name (pg_name (i := 4) sc_names.nd rfl (by first | exact Or.inl rfl | exact Or.inr rfl)))
      (dss_one (ds_asg (j := 3) (ae_set (j := 3) sc_names.nd rfl (.inl rfl) (de_op op_addAny say_add (de_var (pv 3)) (de_ix (ix_any (hu1 hr)) say_ix de_str (de_call (ok_digit T) tk (hr.mono (by decide)) (by rfl) T.g_digit T.F_digit.kp T.b_digit (da_cons (de_op op_addAny say_add (de_var (pv 0)) (de_op op_mul say_mul (de_op op_mul say_mul de_int (de_var (pv 4))) (de_var (pv 4)))) (da_cons de_int (da_cons de_int da_nil)))) (fun _ _ => rfl)))))) (by decide))
      (dss_cons (own1 := [(1, .dp)]) (ds_asg (j := 5) (ae_set (j := 5) sc_names.nd rfl (.inl rfl) (de_call (ok_digit T) tk (hr.mono (by decide)) (by rfl) T.g_digit T.F_digit.kp T.b_digit (da_cons (de_var (pv 0)) (da_cons de_int (da_cons (de_var (pv 2)) da_nil))))))
      (dss_cons (own1 := [(1, .dp)]) (ds_asg (j := 6) (ae_set (j := 6) sc_names.nd rfl (.inl rfl) (de_call (ok_digit T) tk (hr.mono (by decide)) (by rfl) T.g_digit T.F_digit.kp T.b_digit (da_cons (de_var (pv 0)) (da_cons de_int (da_cons de_int da_nil))))))
      (dss_cons (own1 := [(1, .dp)]) (ds_for (fg := [4, 7, 8]) (is := [4]) hp rfl (di_range1 (by rfl) T.n_range (de_call (ok_digit T) tk (hr.mono (by decide)) (by rfl) T.g_digit T.F_digit.kp T.b_digit (da_cons (de_var (pv 0)) (da_cons de_int (da_cons de_int da_nil))))) (dg_name (pg_name (i := 4) sc_names.nd rfl (by first | exact Or.inl rfl | exact Or.inr rfl)))
      (dss_cons (own1 := [(1, .dp)]) (ds_asg (j := 7) (ae_set (j := 7) sc_names.nd rfl (.inl rfl) (de_ix (ix_any (hu1 hr)) say_ix de_str (de_op op_mod say_mod (de_op op_addAny say_add (de_var (pv 0)) (de_op op_mul say_mul (de_var (pv 4)) (de_op op_addAny say_add de_int (de_op op_mod say_mod (de_op op_fdivW say_fdiv (de_var (pv 0)) de_int) de_int)))) de_int) (fun _ _ => rfl))))
      (dss_cons (own1 := [(1, .dp)]) (ds_asg (j := 8) (ae_set (j := 8) sc_names.nd rfl (.inl rfl) (de_op op_addAny say_add (de_op op_addAny say_add (de_sl (de_var (pv 3)) do_none (do_some (de_var (pv 5)))) (de_var (pv 7))) (de_sl (de_var (pv 3)) (do_some (de_op op_addAny say_add (de_var (pv 5)) de_int)) do_none))))
      (dss_cons (own1 := [(1, .dp)]) (ds_if (dt_cmp (op_eqD (hu64 hr)) say_eq (de_var (pv 6)) de_int (nomark _))
      (dss_one (ds_asg (j := 8) (ae_set (j := 8) sc_names.nd rfl (.inl rfl) (de_op op_addAny say_add de_str (de_var (pv 7))))))
      dss_nil)
      (dss_cons (own1 := [(1, .dp)]) (ds_if (dt_cmp (op_eqD (hu64 hr)) say_eq (de_var (pv 6)) de_int (nomark _))
      (dss_one (ds_asg (j := 8) (ae_set (j := 8) sc_names.nd rfl (.inl rfl) (de_sl de_str do_none (do_some (de_op op_addAny say_add de_int (de_var (pv 4))))))))
      dss_nil)
      (dss_cons (own1 := [(1, .dp)]) (ds_if (dt_cmp (op_eqD (hu64 hr)) say_eq (de_var (pv 6)) de_int (nomark _))
      (dss_one (ds_asg (j := 8) (ae_set (j := 8) sc_names.nd rfl (.inl rfl) (de_call (ok_word T) tk (hr.mono (by decide)) (by rfl) T.g_word T.F_word.kp T.b_word (da_cons (de_op op_addAny say_add (de_op op_fdivW say_fdiv (de_var (pv 0)) de_int) (de_op op_mul say_mul (de_var (pv 4)) (de_op op_addAny say_add de_int (de_op op_mod say_mod (de_op op_fdivW say_fdiv (de_var (pv 0)) de_int) de_int)))) da_nil)))))
      dss_nil)
      (dss_one (ds_appI (kd := .dp) (j := 1) rfl (pv 1) (de_var (pv 8)) (pe := fun {t} p => pe_append (pv 1) (p := p))))))))) (by decide))
      (dss_cons (own1 := [(1, .dp)]) (ds_asgI (j := 9) (ae_set (j := 9) sc_names.nd rfl (.inl rfl) (de_call (ok_digit T) tk (hr.mono (by decide)) (by rfl) T.g_digit T.F_digit.kp T.b_digit (da_cons (de_var (pv 0)) (da_cons de_int (da_cons (de_op op_addAny say_add (de_callB call_len say_len (by rfl) T.n_len (by decide +kernel) (da_cons (de_var (pv 1)) da_nil)) de_int) da_nil))))))
      (dss_one (ds_retF rfl (DN.dp (dn_cat (de_op op_addAny say_add (de_sl (de_var (pv 1)) do_none (do_some (de_var (pv 9)))) (DN.de (dn_lst (da_cons de_str da_nil)))) (de_sl (de_var (pv 1)) (do_some (de_var (pv 9))) do_none)))))))))))))
theorem ok_row (T : Tx K mg) : FnOk P w K mg base (L2.CX P w) 2 T.f_row T.d_row ["_law_cell", "_law_values", "_law_many", "_law_names_here", "_law_last"] (spK mg none 5 G4.m_row) :=
  def_ok (N := N_row) (F := (sSeq (sAsg [] 5 (vCallN 3 G4.m_digit (aCons (vVar 0) (aCons (vC (.int 1009)) (aCons (vC (.int 14)) aNil)))))
  (sSeq (sIf (vB (vVar 4))
  (sAsg [] 5 (v2 g_ix (vLstOf (nLst (aCons (vC (.int 7)) (aCons (vC (.int 10)) (aCons (vC (.int 11)) aNil))))) (vCallN 3 G4.m_digit (aCons (vVar 0) (aCons (vC (.int 1009)) (aCons (vC (.int 3)) aNil))))))
  sNext)
  (sSeq (sAsg [] 6 (vCallN 3 G4.m_digit (aCons (vVar 0) (aCons (vC (.int 1013)) (aCons (vC (.int 2)) aNil)))))
  (sSeq (sAsg [] 7 (v2 g_ix (vLstOf (nLst (aCons (vC (.str "shared")) (aCons (vC (.str "own")) aNil)))) (vVar 6)))
  (sSeq (sAsg [] 8 (vCallN 3 G4.m_digit (aCons (vVar 0) (aCons (vC (.int 1019)) (aCons (v2 g_ix (vVar 1) (vVar 6)) aNil)))))
  (sSeq (sAsg [] 9 (vCallN 3 G4.m_digit (aCons (vVar 0) (aCons (vC (.int 1021)) (aCons (vVar 2) aNil)))))
  (sSeq (sIf (vB (v2 (gI (fun i j => decide (j ≤ i))) (vVar 5) (vC (.int 12))))
  (sRet (vTup (aCons (vC (.str "call")) (aCons (v2 g_ix (vVar 3) (vCallN 3 G4.m_digit (aCons (vVar 0) (aCons (vC (.int 1031)) (aCons (vCall c_len (aCons (vVar 3) aNil)) aNil))))) aNil))))
  sNext)
  (sSeq (sIf (tOrD (vB (v2 g_eq (vVar 5) (vC (.int 1)))) (vB (v2 g_eq (vVar 5) (vC (.int 2)))))
  (sRet (vTup (aCons (vC (.str "set")) (aCons (vVar 7) (aCons (vVar 8) aNil)))))
  sNext)
  (sSeq (sIf (tOrD (vB (v2 g_eq (vVar 5) (vC (.int 3)))) (vB (v2 g_eq (vVar 5) (vC (.int 4)))))
  (sRet (vTup (aCons (v2 g_ix (vLstOf (nLst (aCons (vC (.str "any")) (aCons (vC (.str "turn")) aNil)))) (v2 g_sub (vVar 5) (vC (.int 3)))) (aCons (vVar 7) aNil))))
  sNext)
  (sSeq (sIf (tOrD (vB (v2 g_eq (vVar 5) (vC (.int 5)))) (vB (v2 g_eq (vVar 5) (vC (.int 6)))))
  (sRet (vTup (aCons (vC (.str "if")) (aCons (vVar 7) (aCons (vVar 8) (aCons (vVar 9) aNil))))))
  sNext)
  (sSeq (sIf (tAndD (vB (v2 (gI (fun i j => decide (j ≤ i))) (vVar 5) (vC (.int 7)))) (vB (v2 (gI (fun i j => decide (i ≤ j))) (vVar 5) (vC (.int 9)))))
  (sRet (vTup (aCons (v2 g_ix (vLstOf (nLst (aCons (vC (.str "go")) (aCons (vC (.str "fork")) (aCons (vC (.str "fork")) aNil))))) (v2 g_sub (vVar 5) (vC (.int 7)))) (aCons (vVar 9) aNil))))
  sNext)
  (sSeq (sIf (vB (v2 (gI (fun i j => decide (j ≤ i))) (vVar 5) (vC (.int 10))))
  (sRet (vTup (aCons (v2 g_ix (vLstOf (nLst (aCons (vC (.str "back")) (aCons (vC (.str "stop")) aNil)))) (v2 g_sub (vVar 5) (vC (.int 10)))) aNil)))
  sNext)
  (sRet (vTup (aCons (vC (.str "skip")) aNil)))))))))))))))) T.F_row sc_row (own' := []) (.inl rfl) fun cdv A outer s H E hr tk hp =>
      (dss_cons (own1 := []) (ds_asg (j := 5) (ae_set (j := 5) sc_row.nd rfl (.inl rfl) (de_call (ok_digit T) tk (hr.mono (by decide)) (by rfl) T.g_digit T.F_digit.kp T.b_digit (da_cons (de_var (pv 0)) (da_cons de_int (da_cons de_int da_nil))))))
      (dss_cons (own1 := []) (ds_if (dt_val (de_var (pv 4)))
      (dss_one (ds_asg (j := 5) (ae_set (j := 5) sc_row.nd rfl (.inl rfl) (de_ix (ix_any (hu1 hr)) say_ix (DN.de (dn_lst (da_cons de_int (da_cons de_int (da_cons de_int da_nil))))) (de_call (ok_digit T) tk (hr.mono (by decide)) (by rfl) T.g_digit T.F_digit.kp T.b_digit (da_cons (de_var (pv 0)) (da_cons de_int (da_cons de_int da_nil)))) (fun _ _ => rfl)))))
      dss_nil)
      (dss_cons (own1 := []) (ds_asg (j := 6) (ae_set (j := 6) sc_row.nd rfl (.inl rfl) (de_call (ok_digit T) tk (hr.mono (by decide)) (by rfl) T.g_digit T.F_digit.kp T.b_digit (da_cons (de_var (pv 0)) (da_cons de_int (da_cons de_int da_nil))))))
      (dss_cons (own1 := []) (ds_asg (j := 7) (ae_set (j := 7) sc_row.nd rfl (.inl rfl) (de_ix (ix_any (hu1 hr)) say_ix (DN.de (dn_lst (da_cons de_str (da_cons de_str da_nil)))) (de_var (pv 6)) (fun _ _ => rfl))))
      (dss_cons (own1 := []) (ds_asg (j := 8) (ae_set (j := 8) sc_row.nd rfl (.inl rfl) (de_call (ok_digit T) tk (hr.mono (by decide)) (by rfl) T.g_digit T.F_digit.kp T.b_digit (da_cons (de_var (pv 0)) (da_cons de_int (da_cons (de_ix (ix_any (hu1 hr)) say_ix (de_var (pv 1)) (de_var (pv 6)) (fun _ _ => rfl)) da_nil))))))
      (dss_cons (own1 := []) (ds_asg (j := 9) (ae_set (j := 9) sc_row.nd rfl (.inl rfl) (de_call (ok_digit T) tk (hr.mono (by decide)) (by rfl) T.g_digit T.F_digit.kp T.b_digit (da_cons (de_var (pv 0)) (da_cons de_int (da_cons (de_var (pv 2)) da_nil))))))
      (dss_cons (own1 := []) (ds_if (dt_cmp op_ge say_I (de_var (pv 5)) de_int (nomark _))
      (dss_one (ds_ret rfl (de_tup (da_cons de_str (da_cons (de_ix (ix_any (hu1 hr)) say_ix (de_var (pv 3)) (de_call (ok_digit T) tk (hr.mono (by decide)) (by rfl) T.g_digit T.F_digit.kp T.b_digit (da_cons (de_var (pv 0)) (da_cons de_int (da_cons (de_callB call_len say_len (by rfl) T.n_len (by decide +kernel) (da_cons (de_var (pv 3)) da_nil)) da_nil)))) (fun _ _ => rfl)) da_nil)))))
      dss_nil)
      (dss_cons (own1 := []) (ds_if (DW.dt (dw_or (dt_cmp (op_eqD (hu64 hr)) say_eq (de_var (pv 5)) de_int (nomark _)) (dw_or1 (dt_cmp (op_eqD (hu64 hr)) say_eq (de_var (pv 5)) de_int (nomark _)))))
      (dss_one (ds_ret rfl (de_tup (da_cons de_str (da_cons (de_var (pv 7)) (da_cons (de_var (pv 8)) da_nil))))))
      dss_nil)
      (dss_cons (own1 := []) (ds_if (DW.dt (dw_or (dt_cmp (op_eqD (hu64 hr)) say_eq (de_var (pv 5)) de_int (nomark _)) (dw_or1 (dt_cmp (op_eqD (hu64 hr)) say_eq (de_var (pv 5)) de_int (nomark _)))))
      (dss_one (ds_ret rfl (de_tup (da_cons (de_ix (ix_any (hu1 hr)) say_ix (DN.de (dn_lst (da_cons de_str (da_cons de_str da_nil)))) (de_op op_sub say_sub (de_var (pv 5)) de_int) (fun _ _ => rfl)) (da_cons (de_var (pv 7)) da_nil)))))
      dss_nil)
      (dss_cons (own1 := []) (ds_if (DW.dt (dw_or (dt_cmp (op_eqD (hu64 hr)) say_eq (de_var (pv 5)) de_int (nomark _)) (dw_or1 (dt_cmp (op_eqD (hu64 hr)) say_eq (de_var (pv 5)) de_int (nomark _)))))
      (dss_one (ds_ret rfl (de_tup (da_cons de_str (da_cons (de_var (pv 7)) (da_cons (de_var (pv 8)) (da_cons (de_var (pv 9)) da_nil)))))))
      dss_nil)
      (dss_cons (own1 := []) (ds_if (DW.dt (dw_and (dt_cmp op_ge say_I (de_var (pv 5)) de_int (nomark _)) (dw_and1 (dt_cmp op_le say_I (de_var (pv 5)) de_int (nomark _)))))
      (dss_one (ds_ret rfl (de_tup (da_cons (de_ix (ix_any (hu1 hr)) say_ix (DN.de (dn_lst (da_cons de_str (da_cons de_str (da_cons de_str da_nil))))) (de_op op_sub say_sub (de_var (pv 5)) de_int) (fun _ _ => rfl)) (da_cons (de_var (pv 9)) da_nil)))))
      dss_nil)
      (dss_cons (own1 := []) (ds_if (dt_cmp op_ge say_I (de_var (pv 5)) de_int (nomark _))
      (dss_one (ds_ret rfl (de_tup (da_cons (de_ix (ix_any (hu1 hr)) say_ix (DN.de (dn_lst (da_cons de_str (da_cons de_str da_nil)))) (de_op op_sub say_sub (de_var (pv 5)) de_int) (fun _ _ => rfl)) da_nil))))
      dss_nil)
      (dss_one (ds_ret rfl (de_tup (da_cons de_str da_nil))))))))))))))))
theorem ok_program (T : Tx K mg) : FnOk P w K mg base (L2.CX P w) 3 T.f_program T.d_program ["_law_cells_here", "_law_values", "_law_names_here", "_law_seed"] (spK mg none 4 G16.m_program) :=
  def_ok (N := N_program) (F := (sSeq (sAsgV 4 (vLstOf (nComp (iSeq (vVar 2)) [8] kName tTrue (vLstI (nLst aNil)) [8])))
  (sSeq (sFor [(4, .dp)] (iSeq (vVar 0)) [5] kName
  (sPAppI 4 (pIx 4 (pName 4) (vCallN 3 G4.m_digit (aCons (vVar 5) (aCons (vC (.int 1051)) (aCons (vCall c_len (aCons (vVar 2) aNil)) aNil))))) (vVar 5))
  [5])
  (sSeq (sAsg [(4, .dp)] 6 (vLstOf (nLst aNil)))
  (sSeq (sFor [(6, .sh), (4, .dp)] (iEnumD (vVar 2)) [7, 8] (kTup 2 (ksCons kName (ksCons kName ksNil)))
  (sSeq (sAsgV 9 (vLstI (nCat (v2 g_ix (vVar 4) (vVar 7)) (vLstOf (nLst (aCons (v2 g_add (vVar 3) (v2 g_mul (v2 g_mul (vC (.int 7)) (vVar 7)) (vVar 7))) aNil))))))
  (sSeq (sAsgV 10 (vLstI (nLst aNil)))
  (sSeq (sFor [(10, .dp), (6, .sh), (4, .dp)] (iEnumD (vVar 9)) [11, 5] (kTup 2 (ksCons kName (ksCons kName ksNil)))
  (sAppI 10 (vCallN 5 G4.m_row (aCons (vVar 5) (aCons (vVar 1) (aCons (vCall c_len (aCons (vVar 9) aNil)) (aCons (vVar 2) (aCons (v2 g_eq (vVar 11) (v2 g_sub (vCall c_len (aCons (vVar 9) aNil)) (vC (.int 1)))) aNil)))))))
  [5, 11])
  (sApp [(6, .sh), (4, .dp)] 6 (vTup (aCons (vVar 8) (aCons (vVar 10) aNil)))))))
  [5, 7, 8, 9, 10, 11])
  (sRet (vTup (aCons (v2 g_ix (vVar 1) (vC (.int 0))) (aCons (v2 g_ix (vVar 1) (vC (.int 1))) (aCons (vVar 6) aNil)))))))))) T.F_program sc_program (own' := [(4, .dp)]) (.inl rfl) fun cdv A outer s H E hr tk hp =>
      (dss_cons (own1 := [(4, .dp)]) (ds_asgD (j := 4) (af_comp (i := 4) rfl sc_program.nd rfl rfl (sw_true rfl rfl rfl (by decide +kernel)) (di_seq (de_var (pv 2))) (own := [("_law_name", 8)]) (blkOk_by (own := [("_law_name", 8)]) (N := N_program) (sc := defScope s_program) (by decide +kernel)) (is := [8]) (fun _ _ _ _ _ => (dg_name (pg_name (i := 8) sc_program.nd rfl (by first | exact Or.inl rfl | exact Or.inr rfl)))) (fun _ _ _ _ _ => dts_nil) (fun _ _ _ _ _ => (DN.dp (dn_lst da_nil))) (by decide)))
      (dss_cons (own1 := [(4, .dp)]) (ds_for (fg := [5]) (is := [5]) hp rfl (di_seq (de_var (pv 0))) (dg_name (pg_name (i := 5) sc_program.nd rfl (by first | exact Or.inl rfl | exact Or.inr rfl)))
      (dss_one (ds_pappI rfl (dp_ix (hu1 hr) rfl (dp_name (j := 4) rfl (pv 4)) (de_call (ok_digit T) takes0 (hr.mono (by decide)) (by rfl) T.g_digit T.F_digit.kp T.b_digit (da_cons (de_var (pv 5)) (da_cons de_int (da_cons (de_callB call_len say_len (by rfl) T.n_len (by decide +kernel) (da_cons (de_var (pv 2)) da_nil)) da_nil)))) (fun _ _ => rfl)) (de_var (pv 5)))) (by decide))
      (dss_cons (own1 := [(6, .sh), (4, .dp)]) (ds_asgS (j := 6) (af_set (j := 6) sc_program.nd rfl (.inl rfl) (DN.sh (dn_lst da_nil))))
      (dss_cons (own1 := [(6, .sh), (4, .dp)]) (ds_for (fg := [5, 7, 8, 9, 10, 11]) (is := [7, 8]) hp rfl (di_enum (by rfl) T.n_enumerate (de_var (pv 2))) (dg_tup rfl (dgs_cons (is := [7]) (dg_name (pg_name (i := 7) sc_program.nd rfl (by first | exact Or.inl rfl | exact Or.inr rfl))) (dgs_cons (is := [8]) (dg_name (pg_name (i := 8) sc_program.nd rfl (by first | exact Or.inl rfl | exact Or.inr rfl))) dgs_nil)))
      (dss_cons (own1 := [(9, .dp), (6, .sh), (4, .dp)]) (ds_asgD (j := 9) (af_set (j := 9) sc_program.nd rfl (.inl rfl) (DN.dp (dn_cat (de_ix (ix_any (hu1 hr)) say_ix (de_var (pv 4)) (de_var (pv 7)) (fun _ _ => rfl)) (DN.de (dn_lst (da_cons (de_op op_addAny say_add (de_var (pv 3)) (de_op op_mul say_mul (de_op op_mul say_mul de_int (de_var (pv 7))) (de_var (pv 7)))) da_nil)))))))
      (dss_cons (own1 := [(10, .dp), (9, .dp), (6, .sh), (4, .dp)]) (ds_asgD (j := 10) (af_set (j := 10) sc_program.nd rfl (.inl rfl) (DN.dp (dn_lst da_nil))))
      (dss_cons (own1 := [(10, .dp), (6, .sh), (4, .dp)]) (ds_freeze 9 (ds_for (fg := [5, 11]) (is := [11, 5]) hp rfl (di_enum (by rfl) T.n_enumerate (de_var (pv 9))) (dg_tup rfl (dgs_cons (is := [11]) (dg_name (pg_name (i := 11) sc_program.nd rfl (by first | exact Or.inl rfl | exact Or.inr rfl))) (dgs_cons (is := [5]) (dg_name (pg_name (i := 5) sc_program.nd rfl (by first | exact Or.inl rfl | exact Or.inr rfl))) dgs_nil)))
      (dss_one (ds_appI (kd := .dp) (j := 10) rfl (pv 10) (de_call (ok_row T) tk (hr.mono (by decide)) (by rfl) T.g_row T.F_row.kp T.b_row (da_cons (de_var (pv 5)) (da_cons (de_var (pv 1)) (da_cons (de_callB call_len say_len (by rfl) T.n_len (by decide +kernel) (da_cons (de_var (pv 9)) da_nil)) (da_cons (de_var (pv 2)) (da_cons (de_cmp (op_eqD (hu64 hr)) say_eq (de_var (pv 11)) (de_op op_sub say_sub (de_callB call_len say_len (by rfl) T.n_len (by decide +kernel) (da_cons (de_var (pv 9)) da_nil)) de_int) (nomark _)) da_nil)))))) (pe := fun {t} p => pe_append (pv 10) (p := p)))) (by decide)))
      (dss_one (ds_freeze 10 (ds_app (j := 6) rfl (pv 6) (de_tup (da_cons (de_var (pv 8)) (da_cons (de_var (pv 10)) da_nil))) (pe := fun {t} p => pe_append (pv 6) (p := p)))))))) (by decide))
      (dss_one (ds_freeze 6 (ds_ret rfl (de_tup (da_cons (de_ix (ix_any (hu1 hr)) say_ix (de_var (pv 1)) de_int (fun _ _ => rfl)) (da_cons (de_ix (ix_any (hu1 hr)) say_ix (de_var (pv 1)) de_int (fun _ _ => rfl)) (da_cons (de_var (pv 6)) da_nil)))))))))))
theorem ok_cells (T : Tx K mg) : FnOk P w K mg base (L2.CX P w) 2 T.f_cells T.d_cells ["_law_script", "_law_cell"] (spK mg none 2 G16.m_cells) :=
  def_ok (N := N_cells) (F := (sSeq (sAsgV 2 (vLstI (nSl (vVar 0) (oSome (vC (.int 2))) (oSome (vC (.int 102))))))
  (sSeq (sIf (vB (v2 g_eq (vCallN 3 G4.m_digit (aCons (vVar 1) (aCons (vC (.int 1049)) (aCons (vC (.int 8)) aNil)))) (vC (.int 3))))
  (sFor [(2, .dp)] (iRange1 (v2 g_add (vC (.int 40)) (vCallN 3 G4.m_digit (aCons (vVar 1) (aCons (vC (.int 1103)) (aCons (vC (.int 61)) aNil)))))) [3] kName
  (sAppI 2 (v2 g_add (vVar 1) (v2 g_mul (v2 g_mul (vC (.int 1051)) (vVar 3)) (vVar 3))))
  [3])
  sNext)
  (sRet (vVar 2))))) T.F_cells sc_cells (own' := [(2, .dp)]) (.inl rfl) fun cdv A outer s H E hr tk hp =>
      (dss_cons (own1 := [(2, .dp)]) (ds_asgD (j := 2) (af_set (j := 2) sc_cells.nd rfl (.inl rfl) (DN.dp (dn_sl (de_var (pv 0)) (do_some de_int) (do_some de_int)))))
      (dss_cons (own1 := [(2, .dp)]) (ds_if (dt_cmp (op_eqD (hu64 hr)) say_eq (de_call (ok_digit T) tk (hr.mono (by decide)) (by rfl) T.g_digit T.F_digit.kp T.b_digit (da_cons (de_var (pv 1)) (da_cons de_int (da_cons de_int da_nil)))) de_int (nomark _))
      (dss_one (ds_for (fg := [3]) (is := [3]) hp rfl (di_range1 (by rfl) T.n_range (de_op op_addAny say_add de_int (de_call (ok_digit T) tk (hr.mono (by decide)) (by rfl) T.g_digit T.F_digit.kp T.b_digit (da_cons (de_var (pv 1)) (da_cons de_int (da_cons de_int da_nil)))))) (dg_name (pg_name (i := 3) sc_cells.nd rfl (by first | exact Or.inl rfl | exact Or.inr rfl)))
      (dss_one (ds_appI (kd := .dp) (j := 2) rfl (pv 2) (de_op op_addAny say_add (de_var (pv 1)) (de_op op_mul say_mul (de_op op_mul say_mul de_int (de_var (pv 3))) (de_var (pv 3)))) (pe := fun {t} p => pe_append (pv 2) (p := p)))) (by decide)))
      dss_nil)
      (dss_one (ds_ret rfl (de_var (pv 2))))))
theorem ok_text (T : Tx K mg) : FnOk P w K mg base (L2.CX P w) 1 T.f_text T.d_text ["_law_program_here"] (spK mg none 1 G16.m_text) :=
  def_ok (N := N_text) (F := (sSeq (sAsg [] 1 (vLstOf (nLst (aCons (v2 g_add (v2 g_add (v2 g_add (vC (.str "values ")) (vCall c_str (aCons (v2 g_ix (vVar 0) (vC (.int 0))) aNil))) (vC (.str " "))) (vCall c_str (aCons (v2 g_ix (vVar 0) (vC (.int 1))) aNil))) aNil))))
  (sSeq (sFor [(1, .sh)] (iSeq (v2 g_ix (vVar 0) (vC (.int 2)))) [2, 3] (kTup 2 (ksCons kName (ksCons kName ksNil)))
  (sApp [(1, .sh)] 1 (v2 g_add (v2 g_add (vVar 2) (vC (.str ": "))) (vJoin (vC (.str ", ")) (vLstOf (nComp (iSeq (vVar 3)) [4] kName tTrue (vJoin (vC (.str " ")) (vLstOf (nComp (iSeq (vVar 4)) [5] kName tTrue (vCall c_str (aCons (vVar 5) aNil)) [5]))) [4])))))
  [2, 3])
  (sRet (vJoin (vC (.str "; ")) (vVar 1)))))) T.F_text sc_text (own' := [(1, .sh)]) (.inl rfl) fun cdv A outer s H E hr tk hp =>
      (dss_cons (own1 := [(1, .sh)]) (ds_asgS (j := 1) (af_set (j := 1) sc_text.nd rfl (.inl rfl) (DN.sh (dn_lst (da_cons (de_op op_addAny say_add (de_op op_addAny say_add (de_op op_addAny say_add de_str (de_callTy call_strD say_strD (by rfl) T.n_str (by decide +kernel) (da_cons (de_ix (ix_any (hu1 hr)) say_ix (de_var (pv 0)) de_int (fun _ _ => rfl)) da_nil))) de_str) (de_callTy call_strD say_strD (by rfl) T.n_str (by decide +kernel) (da_cons (de_ix (ix_any (hu1 hr)) say_ix (de_var (pv 0)) de_int (fun _ _ => rfl)) da_nil))) da_nil)))))
      (dss_cons (own1 := [(1, .sh)]) (ds_for (fg := [2, 3]) (is := [2, 3]) hp rfl (di_seq (de_ix (ix_any (hu1 hr)) say_ix (de_var (pv 0)) de_int (fun _ _ => rfl))) (dg_tup rfl (dgs_cons (is := [2]) (dg_name (pg_name (i := 2) sc_text.nd rfl (by first | exact Or.inl rfl | exact Or.inr rfl))) (dgs_cons (is := [3]) (dg_name (pg_name (i := 3) sc_text.nd rfl (by first | exact Or.inl rfl | exact Or.inr rfl))) dgs_nil)))
      (dss_one (ds_app (j := 1) rfl (pv 1) (de_op op_addAny say_add (de_op op_addAny say_add (de_var (pv 2)) de_str) (de_join de_str (DN.de (dn_comp rfl sc_text.nd (di_seq (de_var (pv 3))) (own := [("_law_row_here", 4)]) (blkOk_by (own := [("_law_row_here", 4)]) (N := N_text) (sc := defScope s_text) (by decide +kernel)) (is := [4]) (fun _ _ _ _ _ => (dg_name (pg_name (i := 4) sc_text.nd rfl (by first | exact Or.inl rfl | exact Or.inr rfl)))) (fun _ _ _ _ _ => dts_nil) (fun _ _ _ _ _ => (de_join de_str (DN.de (dn_comp rfl sc_text.nd (di_seq (de_var (pv 4))) (own := [("_law_word_here", 5)]) (blkOk_by (own := [("_law_word_here", 5)]) (N := N_text) (sc := relS _ (defScope s_text)) (by decide +kernel)) (is := [5]) (fun _ _ _ _ _ => (dg_name (pg_name (i := 5) sc_text.nd rfl (by first | exact Or.inl rfl | exact Or.inr rfl)))) (fun _ _ _ _ _ => dts_nil) (fun _ _ _ _ _ => (de_callTy call_strD say_strD (by rfl) T.n_str (by decide +kernel) (da_cons (de_var (pv 5)) da_nil))) (by decide))))) (by decide))))) (pe := fun {t} p => pe_append (pv 1) (p := p)))) (by decide))
      (dss_one (ds_ret rfl (de_join de_str (de_var (pv 1)))))))
theorem ok_whole (T : Tx K mg) : FnOk P w K mg base (L2.CX P w) 1 T.f_whole T.d_whole ["_law_found"] (spK mg none 1 G1.m_whole) :=
  def_ok (N := N_whole) (F := (sRet (vAnd (v1 (g_isi "int") (vVar 0)) (vNot (v1 (g_isi "bool") (vVar 0)))))) T.F_whole sc_whole (own' := []) (.inl rfl) fun cdv A outer s H E hr tk hp =>
      (dss_one (ds_ret rfl (de_and (de_isi (n := "int") (de_var (pv 0)) (by rfl) T.n_isinstance (by rfl) T.n_int (by decide +kernel)) (de_one (de_not (de_isi (n := "bool") (de_var (pv 0)) (by rfl) T.n_isinstance (by rfl) T.n_bool (by decide +kernel)))))))
theorem ok_row_same (T : Tx K mg) : FnOk P w K mg base (L2.CX P w) 2 T.f_row_same T.d_row_same ["_law_found", "_law_due"] (spK mg none 2 G4.m_row_same) :=
  def_ok (N := N_row_same) (F := (sSeq (sIf (tOrD (tNotD (vB (v1 (g_isi "tuple") (vVar 0)))) (vB (v2 g_ne (vCall c_len (aCons (vVar 0) aNil)) (vCall c_len (aCons (vVar 1) aNil)))))
  (sRet (vC (.bl false)))
  sNext)
  (sSeq (sFor [] (iZip2 (vVar 0) (vVar 1)) [2, 3] (kTup 2 (ksCons kName (ksCons kName ksNil)))
  (sSeq (sIf (tAndD (vB (v1 (g_isi "str") (vVar 3))) (tNotD (vB (v1 (g_isi "str") (vVar 2)))))
  (sRet (vC (.bl false)))
  sNext)
  (sIf (tAndD (vB (v1 (g_isi "int") (vVar 3))) (tNotD (vB (vCallN 1 G1.m_whole (aCons (vVar 2) aNil)))))
  (sRet (vC (.bl false)))
  sNext))
  [2, 3])
  (sRet (v2 g_eq (vVar 0) (vVar 1)))))) T.F_row_same sc_row_same (own' := []) (.inl rfl) fun cdv A outer s H E hr tk hp =>
      (dss_cons (own1 := []) (ds_if (DW.dt (dw_or (dt_not (dt_val (de_isi (n := "tuple") (de_var (pv 0)) (by rfl) T.n_isinstance (by rfl) T.n_tuple (by decide +kernel)))) (dw_or1 (dt_cmp (op_neD (hu64 hr)) say_ne (de_callB call_len say_len (by rfl) T.n_len (by decide +kernel) (da_cons (de_var (pv 0)) da_nil)) (de_callB call_len say_len (by rfl) T.n_len (by decide +kernel) (da_cons (de_var (pv 1)) da_nil)) (nomark _)))))
      (dss_one (ds_ret rfl de_bl))
      dss_nil)
      (dss_cons (own1 := []) (ds_for (fg := [2, 3]) (is := [2, 3]) hp rfl (di_zip2 (by rfl) T.n_zip (de_var (pv 0)) (de_var (pv 1))) (dg_tup rfl (dgs_cons (is := [2]) (dg_name (pg_name (i := 2) sc_row_same.nd rfl (by first | exact Or.inl rfl | exact Or.inr rfl))) (dgs_cons (is := [3]) (dg_name (pg_name (i := 3) sc_row_same.nd rfl (by first | exact Or.inl rfl | exact Or.inr rfl))) dgs_nil)))
      (dss_cons (own1 := []) (ds_if (DW.dt (dw_and (dt_val (de_isi (n := "str") (de_var (pv 3)) (by rfl) T.n_isinstance (by rfl) T.n_str (by decide +kernel))) (dw_and1 (dt_not (dt_val (de_isi (n := "str") (de_var (pv 2)) (by rfl) T.n_isinstance (by rfl) T.n_str (by decide +kernel)))))))
      (dss_one (ds_ret rfl de_bl))
      dss_nil)
      (dss_one (ds_if (DW.dt (dw_and (dt_val (de_isi (n := "int") (de_var (pv 3)) (by rfl) T.n_isinstance (by rfl) T.n_int (by decide +kernel))) (dw_and1 (dt_not (dt_val (de_call (ok_whole T) tk (hr.mono (by decide)) (by rfl) T.g_whole T.F_whole.kp T.b_whole (da_cons (de_var (pv 2)) da_nil)))))))
      (dss_one (ds_ret rfl de_bl))
      dss_nil))) (by decide))
      (dss_one (ds_ret rfl (de_cmp (op_eqD (hu64 hr)) say_eq (de_var (pv 0)) (de_var (pv 1)) (nomark _))))))
theorem ok_rows_same (T : Tx K mg) : FnOk P w K mg base (L2.CX P w) 3 T.f_rows_same T.d_rows_same ["_law_found", "_law_due"] (spK mg none 2 G4.m_rows_same) :=
  def_ok (N := N_rows_same) (F := (sSeq (sIf (tOrD (tNotD (vB (v1 (g_isi "tuple") (vVar 0)))) (tOrD (vB (v2 g_ne (vCall c_len (aCons (vVar 0) aNil)) (vC (.int 2)))) (tNotD (vB (v1 (g_isi "str") (v2 g_ix (vVar 0) (vC (.int 0))))))))
  (sRet (vC (.bl false)))
  sNext)
  (sSeq (sIf (tOrD (vB (v2 g_ne (v2 g_ix (vVar 0) (vC (.int 0))) (v2 g_ix (vVar 1) (vC (.int 0))))) (tOrD (tNotD (vB (v1 (g_isi "list") (v2 g_ix (vVar 0) (vC (.int 1)))))) (vB (v2 g_ne (vCall c_len (aCons (v2 g_ix (vVar 0) (vC (.int 1))) aNil)) (vCall c_len (aCons (v2 g_ix (vVar 1) (vC (.int 1))) aNil))))))
  (sRet (vC (.bl false)))
  sNext)
  (sRet (vCall c_all (aCons (vLstOf (nComp (iZip2 (v2 g_ix (vVar 0) (vC (.int 1))) (v2 g_ix (vVar 1) (vC (.int 1)))) [2, 3] (kTup 2 (ksCons kName (ksCons kName ksNil))) tTrue (vCallN 2 G4.m_row_same (aCons (vVar 2) (aCons (vVar 3) aNil))) [2, 3])) aNil)))))) T.F_rows_same sc_rows_same (own' := []) (.inl rfl) fun cdv A outer s H E hr tk hp =>
      (dss_cons (own1 := []) (ds_if (DW.dt (dw_or (dt_not (dt_val (de_isi (n := "tuple") (de_var (pv 0)) (by rfl) T.n_isinstance (by rfl) T.n_tuple (by decide +kernel)))) (dw_or (dt_cmp (op_neD (hu64 hr)) say_ne (de_callB call_len say_len (by rfl) T.n_len (by decide +kernel) (da_cons (de_var (pv 0)) da_nil)) de_int (nomark _)) (dw_or1 (dt_not (dt_val (de_isi (n := "str") (de_ix (ix_any (hu1 hr)) say_ix (de_var (pv 0)) de_int (fun _ _ => rfl)) (by rfl) T.n_isinstance (by rfl) T.n_str (by decide +kernel))))))))
      (dss_one (ds_ret rfl de_bl))
      dss_nil)
      (dss_cons (own1 := []) (ds_if (DW.dt (dw_or (dt_cmp (op_neD (hu64 hr)) say_ne (de_ix (ix_any (hu1 hr)) say_ix (de_var (pv 0)) de_int (fun _ _ => rfl)) (de_ix (ix_any (hu1 hr)) say_ix (de_var (pv 1)) de_int (fun _ _ => rfl)) (nomark _)) (dw_or (dt_not (dt_val (de_isi (n := "list") (de_ix (ix_any (hu1 hr)) say_ix (de_var (pv 0)) de_int (fun _ _ => rfl)) (by rfl) T.n_isinstance (by rfl) T.n_list (by decide +kernel)))) (dw_or1 (dt_cmp (op_neD (hu64 hr)) say_ne (de_callB call_len say_len (by rfl) T.n_len (by decide +kernel) (da_cons (de_ix (ix_any (hu1 hr)) say_ix (de_var (pv 0)) de_int (fun _ _ => rfl)) da_nil)) (de_callB call_len say_len (by rfl) T.n_len (by decide +kernel) (da_cons (de_ix (ix_any (hu1 hr)) say_ix (de_var (pv 1)) de_int (fun _ _ => rfl)) da_nil)) (nomark _))))))
      (dss_one (ds_ret rfl de_bl))
      dss_nil)
      (dss_one (ds_ret rfl (de_callB (cr_all (by rfl)) say_all (by rfl) T.n_all (by decide +kernel) (da_cons (DN.de (dn_comp rfl sc_rows_same.nd (di_zip2 (by rfl) T.n_zip (de_ix (ix_any (hu1 hr)) say_ix (de_var (pv 0)) de_int (fun _ _ => rfl)) (de_ix (ix_any (hu1 hr)) say_ix (de_var (pv 1)) de_int (fun _ _ => rfl))) (own := [("_law_one", 2), ("_law_row_here", 3)]) (blkOk_by (own := [("_law_one", 2), ("_law_row_here", 3)]) (N := N_rows_same) (sc := defScope s_rows_same) (by decide +kernel)) (is := [2, 3]) (fun _ _ _ _ _ => (dg_tup rfl (dgs_cons (is := [2]) (dg_name (pg_name (i := 2) sc_rows_same.nd rfl (by first | exact Or.inl rfl | exact Or.inr rfl))) (dgs_cons (is := [3]) (dg_name (pg_name (i := 3) sc_rows_same.nd rfl (by first | exact Or.inl rfl | exact Or.inr rfl))) dgs_nil)))) (fun _ _ _ _ _ => dts_nil) (fun _ _ _ _ _ => (de_call (ok_row_same T) takes0 (hr.mono (by decide)) (by rfl) T.g_row_same T.F_row_same.kp T.b_row_same (da_cons (de_var (pv 2)) (da_cons (de_var (pv 3)) da_nil)))) (by decide))) da_nil))))))
theorem ok_same (T : Tx K mg) : FnOk P w K mg base (L2.CX P w) 4 T.f_same T.d_same ["_law_found", "_law_due"] (spK mg none 2 G4.m_same) :=
  def_ok (N := N_same) (F := (sSeq (sIf (tOrD (tNotD (vB (v1 (g_isi "tuple") (vVar 0)))) (vB (v2 g_ne (vCall c_len (aCons (vVar 0) aNil)) (vC (.int 3)))))
  (sRet (vC (.bl false)))
  sNext)
  (sSeq (sIf (tOrD (tNotD (vB (vCallN 1 G1.m_whole (aCons (v2 g_ix (vVar 0) (vC (.int 0))) aNil)))) (tOrD (tNotD (vB (vCallN 1 G1.m_whole (aCons (v2 g_ix (vVar 0) (vC (.int 1))) aNil)))) (vB (v2 g_ne (vSl (vVar 0) oNone (oSome (vC (.int 2)))) (vSl (vVar 1) oNone (oSome (vC (.int 2))))))))
  (sRet (vC (.bl false)))
  sNext)
  (sSeq (sIf (tOrD (tNotD (vB (v1 (g_isi "list") (v2 g_ix (vVar 0) (vC (.int 2)))))) (vB (v2 g_ne (vCall c_len (aCons (v2 g_ix (vVar 0) (vC (.int 2))) aNil)) (vCall c_len (aCons (v2 g_ix (vVar 1) (vC (.int 2))) aNil)))))
  (sRet (vC (.bl false)))
  sNext)
  (sRet (vCall c_all (aCons (vLstOf (nComp (iZip2 (v2 g_ix (vVar 0) (vC (.int 2))) (v2 g_ix (vVar 1) (vC (.int 2)))) [2, 3] (kTup 2 (ksCons kName (ksCons kName ksNil))) tTrue (vCallN 2 G4.m_rows_same (aCons (vVar 2) (aCons (vVar 3) aNil))) [2, 3])) aNil))))))) T.F_same sc_same (own' := []) (.inl rfl) fun cdv A outer s H E hr tk hp =>
      (dss_cons (own1 := []) (ds_if (DW.dt (dw_or (dt_not (dt_val (de_isi (n := "tuple") (de_var (pv 0)) (by rfl) T.n_isinstance (by rfl) T.n_tuple (by decide +kernel)))) (dw_or1 (dt_cmp (op_neD (hu64 hr)) say_ne (de_callB call_len say_len (by rfl) T.n_len (by decide +kernel) (da_cons (de_var (pv 0)) da_nil)) de_int (nomark _)))))
      (dss_one (ds_ret rfl de_bl))
      dss_nil)
      (dss_cons (own1 := []) (ds_if (DW.dt (dw_or (dt_not (dt_val (de_call (ok_whole T) tk (hr.mono (by decide)) (by rfl) T.g_whole T.F_whole.kp T.b_whole (da_cons (de_ix (ix_any (hu1 hr)) say_ix (de_var (pv 0)) de_int (fun _ _ => rfl)) da_nil)))) (dw_or (dt_not (dt_val (de_call (ok_whole T) tk (hr.mono (by decide)) (by rfl) T.g_whole T.F_whole.kp T.b_whole (da_cons (de_ix (ix_any (hu1 hr)) say_ix (de_var (pv 0)) de_int (fun _ _ => rfl)) da_nil)))) (dw_or1 (dt_cmp (op_neD (hu64 hr)) say_ne (de_sl (de_var (pv 0)) do_none (do_some de_int)) (de_sl (de_var (pv 1)) do_none (do_some de_int)) (nomark _))))))
      (dss_one (ds_ret rfl de_bl))
      dss_nil)
      (dss_cons (own1 := []) (ds_if (DW.dt (dw_or (dt_not (dt_val (de_isi (n := "list") (de_ix (ix_any (hu1 hr)) say_ix (de_var (pv 0)) de_int (fun _ _ => rfl)) (by rfl) T.n_isinstance (by rfl) T.n_list (by decide +kernel)))) (dw_or1 (dt_cmp (op_neD (hu64 hr)) say_ne (de_callB call_len say_len (by rfl) T.n_len (by decide +kernel) (da_cons (de_ix (ix_any (hu1 hr)) say_ix (de_var (pv 0)) de_int (fun _ _ => rfl)) da_nil)) (de_callB call_len say_len (by rfl) T.n_len (by decide +kernel) (da_cons (de_ix (ix_any (hu1 hr)) say_ix (de_var (pv 1)) de_int (fun _ _ => rfl)) da_nil)) (nomark _)))))
      (dss_one (ds_ret rfl de_bl))
      dss_nil)
      (dss_one (ds_ret rfl (de_callB (cr_all (by rfl)) say_all (by rfl) T.n_all (by decide +kernel) (da_cons (DN.de (dn_comp rfl sc_same.nd (di_zip2 (by rfl) T.n_zip (de_ix (ix_any (hu1 hr)) say_ix (de_var (pv 0)) de_int (fun _ _ => rfl)) (de_ix (ix_any (hu1 hr)) say_ix (de_var (pv 1)) de_int (fun _ _ => rfl))) (own := [("_law_one", 2), ("_law_part", 3)]) (blkOk_by (own := [("_law_one", 2), ("_law_part", 3)]) (N := N_same) (sc := defScope s_same) (by decide +kernel)) (is := [2, 3]) (fun _ _ _ _ _ => (dg_tup rfl (dgs_cons (is := [2]) (dg_name (pg_name (i := 2) sc_same.nd rfl (by first | exact Or.inl rfl | exact Or.inr rfl))) (dgs_cons (is := [3]) (dg_name (pg_name (i := 3) sc_same.nd rfl (by first | exact Or.inl rfl | exact Or.inr rfl))) dgs_nil)))) (fun _ _ _ _ _ => dts_nil) (fun _ _ _ _ _ => (de_call (ok_rows_same T) takes0 (hr.mono (by decide)) (by rfl) T.g_rows_same T.F_rows_same.kp T.b_rows_same (da_cons (de_var (pv 2)) (da_cons (de_var (pv 3)) da_nil)))) (by decide))) da_nil)))))))
theorem ok_law (T : Tx K mg) : FnOk P w K mg base (L2.CX P w) 6 T.f_law T.d_law ["_law_script"] (spK mg none 1 m_law) :=
  def_ok (N := N_law) (F := (sSeq (sAsg [] 1 (vCallN 2 G4.m_cell_at (aCons (vVar 0) (aCons (vC (.int 0)) aNil))))
  (sSeq (sAsg [] 2 (vLstOf (nLst (aCons (v2 g_add (vC (.int 1)) (vCallN 3 G4.m_digit (aCons (vVar 1) (aCons (vC (.int 1033)) (aCons (vC (.int 4)) aNil))))) (aCons (v2 g_add (vC (.int 1)) (vCallN 3 G4.m_digit (aCons (vVar 1) (aCons (vC (.int 1039)) (aCons (vC (.int 4)) aNil))))) aNil)))))
  (sSeq (sAsg [] 3 (vCallN 1 G17.m_names (aCons (vCallN 2 G4.m_cell_at (aCons (vVar 0) (aCons (vC (.int 1)) aNil))) aNil)))
  (sSeq (sAsg [] 4 (vCallN 4 G16.m_program (aCons (vCallN 2 G16.m_cells (aCons (vVar 0) (aCons (vVar 1) aNil))) (aCons (vVar 2) (aCons (vVar 3) (aCons (vVar 1) aNil))))))
  (sRet (vCallN 2 G4.m_same (aCons (vCallN 1 G16.m_read (aCons (vCallN 1 G16.m_text (aCons (vVar 4) aNil)) aNil)) (aCons (vVar 4) aNil))))))))) T.F_law sc_law (own' := []) (.inl rfl) fun cdv A outer s H E hr tk hp =>
      (dss_cons (own1 := []) (ds_asg (j := 1) (ae_set (j := 1) sc_law.nd rfl (.inl rfl) (de_call (ok_cell_at T) tk (hr.mono (by decide)) (by rfl) T.g_cell_at T.F_cell_at.kp T.b_cell_at (da_cons (de_var (pv 0)) (da_cons de_int da_nil)))))
      (dss_cons (own1 := []) (ds_asg (j := 2) (ae_set (j := 2) sc_law.nd rfl (.inl rfl) (DN.de (dn_lst (da_cons (de_op op_addAny say_add de_int (de_call (ok_digit T) tk (hr.mono (by decide)) (by rfl) T.g_digit T.F_digit.kp T.b_digit (da_cons (de_var (pv 1)) (da_cons de_int (da_cons de_int da_nil))))) (da_cons (de_op op_addAny say_add de_int (de_call (ok_digit T) tk (hr.mono (by decide)) (by rfl) T.g_digit T.F_digit.kp T.b_digit (da_cons (de_var (pv 1)) (da_cons de_int (da_cons de_int da_nil))))) da_nil))))))
      (dss_cons (own1 := []) (ds_asg (j := 3) (ae_set (j := 3) sc_law.nd rfl (.inl rfl) (de_call (ok_names T) tk (hr.mono (by decide)) (by rfl) T.g_names T.F_names.kp T.b_names (da_cons (de_call (ok_cell_at T) tk (hr.mono (by decide)) (by rfl) T.g_cell_at T.F_cell_at.kp T.b_cell_at (da_cons (de_var (pv 0)) (da_cons de_int da_nil))) da_nil))))
      (dss_cons (own1 := []) (ds_asg (j := 4) (ae_set (j := 4) sc_law.nd rfl (.inl rfl) (de_call (ok_program T) tk (hr.mono (by decide)) (by rfl) T.g_program T.F_program.kp T.b_program (da_cons (de_call (ok_cells T) tk (hr.mono (by decide)) (by rfl) T.g_cells T.F_cells.kp T.b_cells (da_cons (de_var (pv 0)) (da_cons (de_var (pv 1)) da_nil))) (da_cons (de_var (pv 2)) (da_cons (de_var (pv 3)) (da_cons (de_var (pv 1)) da_nil)))))))
      (dss_one (ds_ret rfl (de_call (ok_same T) tk (hr.mono (by decide)) (by rfl) T.g_same T.F_same.kp T.b_same (da_cons (de_call (ok_read T) tk (hr.mono (by decide)) (by rfl) T.g_read T.F_read.kp T.b_read (da_cons (de_call (ok_text T) tk (hr.mono (by decide)) (by rfl) T.g_text T.F_text.kp T.b_text (da_cons (de_var (pv 4)) da_nil)) da_nil)) (da_cons (de_var (pv 4)) da_nil)))))))))
end
end K51

namespace K51
open PySem PySem.Spec PyProof.Rows L2 DL
theorem all_mk {l : PySem.W.OpenLaw} {w : World} {K : PySem.W.Frag} {h : Heap} {mg : Str → Option Value} {fa : Addr} (X : K.In h) (G : h.Ns mainGlobals mg) (hfa : mg "law" = some (.ref fa))
    {f0 : Addr} {od0 an0 : Option Addr} {sl0 : Array (Option Value)} {oc0 kV0 dc0 pm0 cd0 ct0 : Value}
    (a0 : PySem.W.nsIn K mainGlobals "is_name" = some (some (.ref f0))) (l0 : K.lookup f0 = some ⟨oc0, od0, .func (PySem.W.fnOf "is_name" "is_name" (defArgs s_is_name) (defBody s_is_name) (defScope s_is_name) .none kV0 dc0 pm0 an0 cd0 ct0), sl0⟩) (c0 : PySem.W.codeIn K cd0 "is_name" = true) (k0 : PySem.W.keepIn K (.ref f0) = true)
    {f1 : Addr} {od1 an1 : Option Addr} {sl1 : Array (Option Value)} {oc1 kV1 dc1 pm1 cd1 ct1 : Value}
    (a1 : PySem.W.nsIn K mainGlobals "is_count" = some (some (.ref f1))) (l1 : K.lookup f1 = some ⟨oc1, od1, .func (PySem.W.fnOf "is_count" "is_count" (defArgs s_is_count) (defBody s_is_count) (defScope s_is_count) .none kV1 dc1 pm1 an1 cd1 ct1), sl1⟩) (c1 : PySem.W.codeIn K cd1 "is_count" = true) (k1 : PySem.W.keepIn K (.ref f1) = true)
    {f2 : Addr} {od2 an2 : Option Addr} {sl2 : Array (Option Value)} {oc2 kV2 dc2 pm2 cd2 ct2 : Value}
    (a2 : PySem.W.nsIn K mainGlobals "read_word" = some (some (.ref f2))) (l2 : K.lookup f2 = some ⟨oc2, od2, .func (PySem.W.fnOf "read_word" "read_word" (defArgs s_read_word) (defBody s_read_word) (defScope s_read_word) .none kV2 dc2 pm2 an2 cd2 ct2), sl2⟩) (c2 : PySem.W.codeIn K cd2 "read_word" = true) (k2 : PySem.W.keepIn K (.ref f2) = true)
    {f3 : Addr} {od3 an3 : Option Addr} {sl3 : Array (Option Value)} {oc3 kV3 dc3 pm3 cd3 ct3 : Value}
    (a3 : PySem.W.nsIn K mainGlobals "shape_of" = some (some (.ref f3))) (l3 : K.lookup f3 = some ⟨oc3, od3, .func (PySem.W.fnOf "shape_of" "shape_of" (defArgs s_shape_of) (defBody s_shape_of) (defScope s_shape_of) .none kV3 dc3 pm3 an3 cd3 ct3), sl3⟩) (c3 : PySem.W.codeIn K cd3 "shape_of" = true) (k3 : PySem.W.keepIn K (.ref f3) = true)
    {f4 : Addr} {od4 an4 : Option Addr} {sl4 : Array (Option Value)} {oc4 kV4 dc4 pm4 cd4 ct4 : Value}
    (a4 : PySem.W.nsIn K mainGlobals "read_row" = some (some (.ref f4))) (l4 : K.lookup f4 = some ⟨oc4, od4, .func (PySem.W.fnOf "read_row" "read_row" (defArgs s_read_row) (defBody s_read_row) (defScope s_read_row) .none kV4 dc4 pm4 an4 cd4 ct4), sl4⟩) (c4 : PySem.W.codeIn K cd4 "read_row" = true) (k4 : PySem.W.keepIn K (.ref f4) = true)
    {f5 : Addr} {od5 an5 : Option Addr} {sl5 : Array (Option Value)} {oc5 kV5 dc5 pm5 cd5 ct5 : Value}
    (a5 : PySem.W.nsIn K mainGlobals "read_procedure" = some (some (.ref f5))) (l5 : K.lookup f5 = some ⟨oc5, od5, .func (PySem.W.fnOf "read_procedure" "read_procedure" (defArgs s_read_procedure) (defBody s_read_procedure) (defScope s_read_procedure) .none kV5 dc5 pm5 an5 cd5 ct5), sl5⟩) (c5 : PySem.W.codeIn K cd5 "read_procedure" = true) (k5 : PySem.W.keepIn K (.ref f5) = true)
    {f6 : Addr} {od6 an6 : Option Addr} {sl6 : Array (Option Value)} {oc6 kV6 dc6 pm6 cd6 ct6 : Value}
    (a6 : PySem.W.nsIn K mainGlobals "read_values" = some (some (.ref f6))) (l6 : K.lookup f6 = some ⟨oc6, od6, .func (PySem.W.fnOf "read_values" "read_values" (defArgs s_read_values) (defBody s_read_values) (defScope s_read_values) .none kV6 dc6 pm6 an6 cd6 ct6), sl6⟩) (c6 : PySem.W.codeIn K cd6 "read_values" = true) (k6 : PySem.W.keepIn K (.ref f6) = true)
    {f7 : Addr} {od7 an7 : Option Addr} {sl7 : Array (Option Value)} {oc7 kV7 dc7 pm7 cd7 ct7 : Value}
    (a7 : PySem.W.nsIn K mainGlobals "values_of" = some (some (.ref f7))) (l7 : K.lookup f7 = some ⟨oc7, od7, .func (PySem.W.fnOf "values_of" "values_of" (defArgs s_values_of) (defBody s_values_of) (defScope s_values_of) .none kV7 dc7 pm7 an7 cd7 ct7), sl7⟩) (c7 : PySem.W.codeIn K cd7 "values_of" = true) (k7 : PySem.W.keepIn K (.ref f7) = true)
    {f8 : Addr} {od8 an8 : Option Addr} {sl8 : Array (Option Value)} {oc8 kV8 dc8 pm8 cd8 ct8 : Value}
    (a8 : PySem.W.nsIn K mainGlobals "look_at" = some (some (.ref f8))) (l8 : K.lookup f8 = some ⟨oc8, od8, .func (PySem.W.fnOf "look_at" "look_at" (defArgs s_look_at) (defBody s_look_at) (defScope s_look_at) .none kV8 dc8 pm8 an8 cd8 ct8), sl8⟩) (c8 : PySem.W.codeIn K cd8 "look_at" = true) (k8 : PySem.W.keepIn K (.ref f8) = true)
    {f9 : Addr} {od9 an9 : Option Addr} {sl9 : Array (Option Value)} {oc9 kV9 dc9 pm9 cd9 ct9 : Value}
    (a9 : PySem.W.nsIn K mainGlobals "look_over" = some (some (.ref f9))) (l9 : K.lookup f9 = some ⟨oc9, od9, .func (PySem.W.fnOf "look_over" "look_over" (defArgs s_look_over) (defBody s_look_over) (defScope s_look_over) .none kV9 dc9 pm9 an9 cd9 ct9), sl9⟩) (c9 : PySem.W.codeIn K cd9 "look_over" = true) (k9 : PySem.W.keepIn K (.ref f9) = true)
    {f10 : Addr} {od10 an10 : Option Addr} {sl10 : Array (Option Value)} {oc10 kV10 dc10 pm10 cd10 ct10 : Value}
    (a10 : PySem.W.nsIn K mainGlobals "read" = some (some (.ref f10))) (l10 : K.lookup f10 = some ⟨oc10, od10, .func (PySem.W.fnOf "read" "read" (defArgs s_read) (defBody s_read) (defScope s_read) .none kV10 dc10 pm10 an10 cd10 ct10), sl10⟩) (c10 : PySem.W.codeIn K cd10 "read" = true) (k10 : PySem.W.keepIn K (.ref f10) = true)
    {f11 : Addr} {od11 an11 : Option Addr} {sl11 : Array (Option Value)} {oc11 kV11 dc11 pm11 cd11 ct11 : Value}
    (a11 : PySem.W.nsIn K mainGlobals "_law_cell_at" = some (some (.ref f11))) (l11 : K.lookup f11 = some ⟨oc11, od11, .func (PySem.W.fnOf "_law_cell_at" "_law_cell_at" (defArgs s_cell_at) (defBody s_cell_at) (defScope s_cell_at) .none kV11 dc11 pm11 an11 cd11 ct11), sl11⟩) (c11 : PySem.W.codeIn K cd11 "_law_cell_at" = true) (k11 : PySem.W.keepIn K (.ref f11) = true)
    {f12 : Addr} {od12 an12 : Option Addr} {sl12 : Array (Option Value)} {oc12 kV12 dc12 pm12 cd12 ct12 : Value}
    (a12 : PySem.W.nsIn K mainGlobals "_law_digit" = some (some (.ref f12))) (l12 : K.lookup f12 = some ⟨oc12, od12, .func (PySem.W.fnOf "_law_digit" "_law_digit" (defArgs s_digit) (defBody s_digit) (defScope s_digit) .none kV12 dc12 pm12 an12 cd12 ct12), sl12⟩) (c12 : PySem.W.codeIn K cd12 "_law_digit" = true) (k12 : PySem.W.keepIn K (.ref f12) = true)
    {f13 : Addr} {od13 an13 : Option Addr} {sl13 : Array (Option Value)} {oc13 kV13 dc13 pm13 cd13 ct13 : Value}
    (a13 : PySem.W.nsIn K mainGlobals "_law_word" = some (some (.ref f13))) (l13 : K.lookup f13 = some ⟨oc13, od13, .func (PySem.W.fnOf "_law_word" "_law_word" (defArgs s_word) (defBody s_word) (defScope s_word) .none kV13 dc13 pm13 an13 cd13 ct13), sl13⟩) (c13 : PySem.W.codeIn K cd13 "_law_word" = true) (k13 : PySem.W.keepIn K (.ref f13) = true)
    {f14 : Addr} {od14 an14 : Option Addr} {sl14 : Array (Option Value)} {oc14 kV14 dc14 pm14 cd14 ct14 : Value}
    (a14 : PySem.W.nsIn K mainGlobals "_law_names" = some (some (.ref f14))) (l14 : K.lookup f14 = some ⟨oc14, od14, .func (PySem.W.fnOf "_law_names" "_law_names" (defArgs s_names) (defBody s_names) (defScope s_names) .none kV14 dc14 pm14 an14 cd14 ct14), sl14⟩) (c14 : PySem.W.codeIn K cd14 "_law_names" = true) (k14 : PySem.W.keepIn K (.ref f14) = true)
    {f15 : Addr} {od15 an15 : Option Addr} {sl15 : Array (Option Value)} {oc15 kV15 dc15 pm15 cd15 ct15 : Value}
    (a15 : PySem.W.nsIn K mainGlobals "_law_row" = some (some (.ref f15))) (l15 : K.lookup f15 = some ⟨oc15, od15, .func (PySem.W.fnOf "_law_row" "_law_row" (defArgs s_row) (defBody s_row) (defScope s_row) .none kV15 dc15 pm15 an15 cd15 ct15), sl15⟩) (c15 : PySem.W.codeIn K cd15 "_law_row" = true) (k15 : PySem.W.keepIn K (.ref f15) = true)
    {f16 : Addr} {od16 an16 : Option Addr} {sl16 : Array (Option Value)} {oc16 kV16 dc16 pm16 cd16 ct16 : Value}
    (a16 : PySem.W.nsIn K mainGlobals "_law_program" = some (some (.ref f16))) (l16 : K.lookup f16 = some ⟨oc16, od16, .func (PySem.W.fnOf "_law_program" "_law_program" (defArgs s_program) (defBody s_program) (defScope s_program) .none kV16 dc16 pm16 an16 cd16 ct16), sl16⟩) (c16 : PySem.W.codeIn K cd16 "_law_program" = true) (k16 : PySem.W.keepIn K (.ref f16) = true)
    {f17 : Addr} {od17 an17 : Option Addr} {sl17 : Array (Option Value)} {oc17 kV17 dc17 pm17 cd17 ct17 : Value}
    (a17 : PySem.W.nsIn K mainGlobals "_law_cells" = some (some (.ref f17))) (l17 : K.lookup f17 = some ⟨oc17, od17, .func (PySem.W.fnOf "_law_cells" "_law_cells" (defArgs s_cells) (defBody s_cells) (defScope s_cells) .none kV17 dc17 pm17 an17 cd17 ct17), sl17⟩) (c17 : PySem.W.codeIn K cd17 "_law_cells" = true) (k17 : PySem.W.keepIn K (.ref f17) = true)
    {f18 : Addr} {od18 an18 : Option Addr} {sl18 : Array (Option Value)} {oc18 kV18 dc18 pm18 cd18 ct18 : Value}
    (a18 : PySem.W.nsIn K mainGlobals "_law_text" = some (some (.ref f18))) (l18 : K.lookup f18 = some ⟨oc18, od18, .func (PySem.W.fnOf "_law_text" "_law_text" (defArgs s_text) (defBody s_text) (defScope s_text) .none kV18 dc18 pm18 an18 cd18 ct18), sl18⟩) (c18 : PySem.W.codeIn K cd18 "_law_text" = true) (k18 : PySem.W.keepIn K (.ref f18) = true)
    {f19 : Addr} {od19 an19 : Option Addr} {sl19 : Array (Option Value)} {oc19 kV19 dc19 pm19 cd19 ct19 : Value}
    (a19 : PySem.W.nsIn K mainGlobals "_law_whole" = some (some (.ref f19))) (l19 : K.lookup f19 = some ⟨oc19, od19, .func (PySem.W.fnOf "_law_whole" "_law_whole" (defArgs s_whole) (defBody s_whole) (defScope s_whole) .none kV19 dc19 pm19 an19 cd19 ct19), sl19⟩) (c19 : PySem.W.codeIn K cd19 "_law_whole" = true) (k19 : PySem.W.keepIn K (.ref f19) = true)
    {f20 : Addr} {od20 an20 : Option Addr} {sl20 : Array (Option Value)} {oc20 kV20 dc20 pm20 cd20 ct20 : Value}
    (a20 : PySem.W.nsIn K mainGlobals "_law_row_same" = some (some (.ref f20))) (l20 : K.lookup f20 = some ⟨oc20, od20, .func (PySem.W.fnOf "_law_row_same" "_law_row_same" (defArgs s_row_same) (defBody s_row_same) (defScope s_row_same) .none kV20 dc20 pm20 an20 cd20 ct20), sl20⟩) (c20 : PySem.W.codeIn K cd20 "_law_row_same" = true) (k20 : PySem.W.keepIn K (.ref f20) = true)
    {f21 : Addr} {od21 an21 : Option Addr} {sl21 : Array (Option Value)} {oc21 kV21 dc21 pm21 cd21 ct21 : Value}
    (a21 : PySem.W.nsIn K mainGlobals "_law_rows_same" = some (some (.ref f21))) (l21 : K.lookup f21 = some ⟨oc21, od21, .func (PySem.W.fnOf "_law_rows_same" "_law_rows_same" (defArgs s_rows_same) (defBody s_rows_same) (defScope s_rows_same) .none kV21 dc21 pm21 an21 cd21 ct21), sl21⟩) (c21 : PySem.W.codeIn K cd21 "_law_rows_same" = true) (k21 : PySem.W.keepIn K (.ref f21) = true)
    {f22 : Addr} {od22 an22 : Option Addr} {sl22 : Array (Option Value)} {oc22 kV22 dc22 pm22 cd22 ct22 : Value}
    (a22 : PySem.W.nsIn K mainGlobals "_law_same" = some (some (.ref f22))) (l22 : K.lookup f22 = some ⟨oc22, od22, .func (PySem.W.fnOf "_law_same" "_law_same" (defArgs s_same) (defBody s_same) (defScope s_same) .none kV22 dc22 pm22 an22 cd22 ct22), sl22⟩) (c22 : PySem.W.codeIn K cd22 "_law_same" = true) (k22 : PySem.W.keepIn K (.ref f22) = true)
    {f23 : Addr} {od23 an23 : Option Addr} {sl23 : Array (Option Value)} {oc23 kV23 dc23 pm23 cd23 ct23 : Value}
    (a23 : PySem.W.nsIn K mainGlobals "law" = some (some (.ref f23))) (l23 : K.lookup f23 = some ⟨oc23, od23, .func (PySem.W.fnOf "law" "law" (defArgs s_law) (defBody s_law) (defScope s_law) .none kV23 dc23 pm23 an23 cd23 ct23), sl23⟩) (c23 : PySem.W.codeIn K cd23 "law" = true) (k23 : PySem.W.keepIn K (.ref f23) = true)
    (z_all : PySem.W.nsIn K mainGlobals "all" = some none)
    (z_bool : PySem.W.nsIn K mainGlobals "bool" = some none)
    (z_enumerate : PySem.W.nsIn K mainGlobals "enumerate" = some none)
    (z_int : PySem.W.nsIn K mainGlobals "int" = some none)
    (z_isinstance : PySem.W.nsIn K mainGlobals "isinstance" = some none)
    (z_len : PySem.W.nsIn K mainGlobals "len" = some none)
    (z_list : PySem.W.nsIn K mainGlobals "list" = some none)
    (z_range : PySem.W.nsIn K mainGlobals "range" = some none)
    (z_set : PySem.W.nsIn K mainGlobals "set" = some none)
    (z_str : PySem.W.nsIn K mainGlobals "str" = some none)
    (z_tuple : PySem.W.nsIn K mainGlobals "tuple" = some none)
    (z_zip : PySem.W.nsIn K mainGlobals "zip" = some none)
    {tkt_FIGURES : Tok} (at_FIGURES : PySem.W.nsIn K mainGlobals "FIGURES" = some (some (.str "0123456789" tkt_FIGURES)))
    {tkt_LETTERS : Tok} (at_LETTERS : PySem.W.nsIn K mainGlobals "LETTERS" = some (some (.str "abcdefghijklmnopqrstuvwxyz" tkt_LETTERS)))
    {xC_NoName : Addr} (xa_NoName : PySem.W.nsIn K mainGlobals "NoName" = some (some (.ref xC_NoName))) (xq_NoName : PySem.W.excIn K xC_NoName [.type "ValueError", .type "Exception", .type "BaseException", .type "object"] "ValueError.__new__" = true) (xk_NoName : PySem.W.keepIn K (.ref xC_NoName) = true) (xb_NoName : PySem.W.subIn K (.ref xC_NoName) (.type "BaseException") = some true) (xt_NoName : PySem.W.typeIn K (.ref xC_NoName) = some (.type "type"))
    {xC_NoRow : Addr} (xa_NoRow : PySem.W.nsIn K mainGlobals "NoRow" = some (some (.ref xC_NoRow))) (xq_NoRow : PySem.W.excIn K xC_NoRow [.type "ValueError", .type "Exception", .type "BaseException", .type "object"] "ValueError.__new__" = true) (xk_NoRow : PySem.W.keepIn K (.ref xC_NoRow) = true) (xb_NoRow : PySem.W.subIn K (.ref xC_NoRow) (.type "BaseException") = some true) (xt_NoRow : PySem.W.typeIn K (.ref xC_NoRow) = some (.type "type"))
    {xC_NoText : Addr} (xa_NoText : PySem.W.nsIn K mainGlobals "NoText" = some (some (.ref xC_NoText))) (xq_NoText : PySem.W.excIn K xC_NoText [.type "ValueError", .type "Exception", .type "BaseException", .type "object"] "ValueError.__new__" = true) (xk_NoText : PySem.W.keepIn K (.ref xC_NoText) = true) (xb_NoText : PySem.W.subIn K (.ref xC_NoText) (.type "BaseException") = some true) (xt_NoText : PySem.W.typeIn K (.ref xC_NoText) = some (.type "type"))
    {xC_NoValue : Addr} (xa_NoValue : PySem.W.nsIn K mainGlobals "NoValue" = some (some (.ref xC_NoValue))) (xq_NoValue : PySem.W.excIn K xC_NoValue [.type "ValueError", .type "Exception", .type "BaseException", .type "object"] "ValueError.__new__" = true) (xk_NoValue : PySem.W.keepIn K (.ref xC_NoValue) = true) (xb_NoValue : PySem.W.subIn K (.ref xC_NoValue) (.type "BaseException") = some true) (xt_NoValue : PySem.W.typeIn K (.ref xC_NoValue) = some (.type "type"))
    {xC_Twice : Addr} (xa_Twice : PySem.W.nsIn K mainGlobals "Twice" = some (some (.ref xC_Twice))) (xq_Twice : PySem.W.excIn K xC_Twice [.type "ValueError", .type "Exception", .type "BaseException", .type "object"] "ValueError.__new__" = true) (xk_Twice : PySem.W.keepIn K (.ref xC_Twice) = true) (xb_Twice : PySem.W.subIn K (.ref xC_Twice) (.type "BaseException") = some true) (xt_Twice : PySem.W.typeIn K (.ref xC_Twice) = some (.type "type")) :
    ∃ fd : FuncData, (∀ (s : Shared) (v : Value), BindsTo s fd ⟨[v], []⟩ [("_law_script", v)]) ∧ ∀ base : Heap, K.In base → base.Ns mainGlobals mg → FnOk l.prog w K mg base (L2.CX l.prog w) 6 fa fd ["_law_script"] spLaw := by
  have e := hfa.symm.trans (PySem.W.mg_of X G a23)
  cases e
  let T : Tx K mg := {
    f_is_name := _, d_is_name := _, F_is_name := fun_mk l0 c0 k0, g_is_name := PySem.W.mg_of X G a0, b_is_name := (fun_mk (st := s_is_name) l0 c0 k0).binds fun _ _ _ _ _ _ us hl => match us, hl with | [_], _ => rfl,
    f_is_count := _, d_is_count := _, F_is_count := fun_mk l1 c1 k1, g_is_count := PySem.W.mg_of X G a1, b_is_count := (fun_mk (st := s_is_count) l1 c1 k1).binds fun _ _ _ _ _ _ us hl => match us, hl with | [_], _ => rfl,
    f_read_word := _, d_read_word := _, F_read_word := fun_mk l2 c2 k2, g_read_word := PySem.W.mg_of X G a2, b_read_word := (fun_mk (st := s_read_word) l2 c2 k2).binds fun _ _ _ _ _ _ us hl => match us, hl with | [_, _], _ => rfl,
    f_shape_of := _, d_shape_of := _, F_shape_of := fun_mk l3 c3 k3, g_shape_of := PySem.W.mg_of X G a3, b_shape_of := (fun_mk (st := s_shape_of) l3 c3 k3).binds fun _ _ _ _ _ _ us hl => match us, hl with | [_], _ => rfl,
    f_read_row := _, d_read_row := _, F_read_row := fun_mk l4 c4 k4, g_read_row := PySem.W.mg_of X G a4, b_read_row := (fun_mk (st := s_read_row) l4 c4 k4).binds fun _ _ _ _ _ _ us hl => match us, hl with | [_], _ => rfl,
    f_read_procedure := _, d_read_procedure := _, F_read_procedure := fun_mk l5 c5 k5, g_read_procedure := PySem.W.mg_of X G a5, b_read_procedure := (fun_mk (st := s_read_procedure) l5 c5 k5).binds fun _ _ _ _ _ _ us hl => match us, hl with | [_], _ => rfl,
    f_read_values := _, d_read_values := _, F_read_values := fun_mk l6 c6 k6, g_read_values := PySem.W.mg_of X G a6, b_read_values := (fun_mk (st := s_read_values) l6 c6 k6).binds fun _ _ _ _ _ _ us hl => match us, hl with | [_], _ => rfl,
    f_values_of := _, d_values_of := _, F_values_of := fun_mk l7 c7 k7, g_values_of := PySem.W.mg_of X G a7, b_values_of := (fun_mk (st := s_values_of) l7 c7 k7).binds fun _ _ _ _ _ _ us hl => match us, hl with | [_, _], _ => rfl,
    f_look_at := _, d_look_at := _, F_look_at := fun_mk l8 c8 k8, g_look_at := PySem.W.mg_of X G a8, b_look_at := (fun_mk (st := s_look_at) l8 c8 k8).binds fun _ _ _ _ _ _ us hl => match us, hl with | [_, _, _, _], _ => rfl,
    f_look_over := _, d_look_over := _, F_look_over := fun_mk l9 c9 k9, g_look_over := PySem.W.mg_of X G a9, b_look_over := (fun_mk (st := s_look_over) l9 c9 k9).binds fun _ _ _ _ _ _ us hl => match us, hl with | [_], _ => rfl,
    f_read := _, d_read := _, F_read := fun_mk l10 c10 k10, g_read := PySem.W.mg_of X G a10, b_read := (fun_mk (st := s_read) l10 c10 k10).binds fun _ _ _ _ _ _ us hl => match us, hl with | [_], _ => rfl,
    f_cell_at := _, d_cell_at := _, F_cell_at := fun_mk l11 c11 k11, g_cell_at := PySem.W.mg_of X G a11, b_cell_at := (fun_mk (st := s_cell_at) l11 c11 k11).binds fun _ _ _ _ _ _ us hl => match us, hl with | [_, _], _ => rfl,
    f_digit := _, d_digit := _, F_digit := fun_mk l12 c12 k12, g_digit := PySem.W.mg_of X G a12, b_digit := (fun_mk (st := s_digit) l12 c12 k12).binds fun _ _ _ _ _ _ us hl => match us, hl with | [_, _, _], _ => rfl,
    f_word := _, d_word := _, F_word := fun_mk l13 c13 k13, g_word := PySem.W.mg_of X G a13, b_word := (fun_mk (st := s_word) l13 c13 k13).binds fun _ _ _ _ _ _ us hl => match us, hl with | [_], _ => rfl,
    f_names := _, d_names := _, F_names := fun_mk l14 c14 k14, g_names := PySem.W.mg_of X G a14, b_names := (fun_mk (st := s_names) l14 c14 k14).binds fun _ _ _ _ _ _ us hl => match us, hl with | [_], _ => rfl,
    f_row := _, d_row := _, F_row := fun_mk l15 c15 k15, g_row := PySem.W.mg_of X G a15, b_row := (fun_mk (st := s_row) l15 c15 k15).binds fun _ _ _ _ _ _ us hl => match us, hl with | [_, _, _, _, _], _ => rfl,
    f_program := _, d_program := _, F_program := fun_mk l16 c16 k16, g_program := PySem.W.mg_of X G a16, b_program := (fun_mk (st := s_program) l16 c16 k16).binds fun _ _ _ _ _ _ us hl => match us, hl with | [_, _, _, _], _ => rfl,
    f_cells := _, d_cells := _, F_cells := fun_mk l17 c17 k17, g_cells := PySem.W.mg_of X G a17, b_cells := (fun_mk (st := s_cells) l17 c17 k17).binds fun _ _ _ _ _ _ us hl => match us, hl with | [_, _], _ => rfl,
    f_text := _, d_text := _, F_text := fun_mk l18 c18 k18, g_text := PySem.W.mg_of X G a18, b_text := (fun_mk (st := s_text) l18 c18 k18).binds fun _ _ _ _ _ _ us hl => match us, hl with | [_], _ => rfl,
    f_whole := _, d_whole := _, F_whole := fun_mk l19 c19 k19, g_whole := PySem.W.mg_of X G a19, b_whole := (fun_mk (st := s_whole) l19 c19 k19).binds fun _ _ _ _ _ _ us hl => match us, hl with | [_], _ => rfl,
    f_row_same := _, d_row_same := _, F_row_same := fun_mk l20 c20 k20, g_row_same := PySem.W.mg_of X G a20, b_row_same := (fun_mk (st := s_row_same) l20 c20 k20).binds fun _ _ _ _ _ _ us hl => match us, hl with | [_, _], _ => rfl,
    f_rows_same := _, d_rows_same := _, F_rows_same := fun_mk l21 c21 k21, g_rows_same := PySem.W.mg_of X G a21, b_rows_same := (fun_mk (st := s_rows_same) l21 c21 k21).binds fun _ _ _ _ _ _ us hl => match us, hl with | [_, _], _ => rfl,
    f_same := _, d_same := _, F_same := fun_mk l22 c22 k22, g_same := PySem.W.mg_of X G a22, b_same := (fun_mk (st := s_same) l22 c22 k22).binds fun _ _ _ _ _ _ us hl => match us, hl with | [_, _], _ => rfl,
    f_law := _, d_law := _, F_law := fun_mk l23 c23 k23, g_law := PySem.W.mg_of X G a23, b_law := (fun_mk (st := s_law) l23 c23 k23).binds fun _ _ _ _ _ _ us hl => match us, hl with | [_], _ => rfl,
    n_all := PySem.W.mg_none_of X G z_all,
    n_bool := PySem.W.mg_none_of X G z_bool,
    n_enumerate := PySem.W.mg_none_of X G z_enumerate,
    n_int := PySem.W.mg_none_of X G z_int,
    n_isinstance := PySem.W.mg_none_of X G z_isinstance,
    n_len := PySem.W.mg_none_of X G z_len,
    n_list := PySem.W.mg_none_of X G z_list,
    n_range := PySem.W.mg_none_of X G z_range,
    n_set := PySem.W.mg_none_of X G z_set,
    n_str := PySem.W.mg_none_of X G z_str,
    n_tuple := PySem.W.mg_none_of X G z_tuple,
    n_zip := PySem.W.mg_none_of X G z_zip,
    mt_FIGURES := ⟨_, PySem.W.mg_of X G at_FIGURES⟩,
    mt_LETTERS := ⟨_, PySem.W.mg_of X G at_LETTERS⟩,
    xC_NoName := _, xh_NoName := PySem.W.mg_of X G xa_NoName, xq_NoName := xq_NoName, xk_NoName := xk_NoName, xb_NoName := xb_NoName, xt_NoName := xt_NoName,
    xC_NoRow := _, xh_NoRow := PySem.W.mg_of X G xa_NoRow, xq_NoRow := xq_NoRow, xk_NoRow := xk_NoRow, xb_NoRow := xb_NoRow, xt_NoRow := xt_NoRow,
    xC_NoText := _, xh_NoText := PySem.W.mg_of X G xa_NoText, xq_NoText := xq_NoText, xk_NoText := xk_NoText, xb_NoText := xb_NoText, xt_NoText := xt_NoText,
    xC_NoValue := _, xh_NoValue := PySem.W.mg_of X G xa_NoValue, xq_NoValue := xq_NoValue, xk_NoValue := xk_NoValue, xb_NoValue := xb_NoValue, xt_NoValue := xt_NoValue,
    xC_Twice := _, xh_Twice := PySem.W.mg_of X G xa_Twice, xq_Twice := xq_Twice, xk_Twice := xk_Twice, xb_Twice := xb_Twice, xt_Twice := xt_Twice }
  exact ⟨_, fun s v => .of_eq rfl, fun base _ _ => law_ok (ok_law T) law_math⟩
end K51
open PySem PySem.W PyProof.Rows
set_option maxHeartbeats 0 in
set_option maxRecDepth 100000 in
theorem PySem.Challenge.cw_callwalk_k51_names_and_rows_read_holds : PySem.Challenge.rw_callwalk_k51_names_and_rows_read.Holds := by
  w_on; o_law; k_head; (case hw => w_witness2)
  k_fill
  refine L2.walk_of (l := PySem.Challenge.rw_callwalk_k51_names_and_rows_read) (n := 63) (k := 6) (x := "_law_script") (CX := fun w => L2.CX (PySem.Challenge.rw_callwalk_k51_names_and_rows_read).prog w) (sp := fun w => DL.spLaw) rfl (by decide) rfl ⟨rfl, by decide, by decide⟩ (fun w h Y => PySem.W.kIn_of Y) ?F (fun _ H a ns hl _ hS => DL.spLaw_start hl hS (DL.noList (by rfl) a)) (fun _ _ _ _ _ h => DL.cx_never h)
  case F =>
    intro w mg fa h KX G hmg
    refine' K51.all_mk KX G hmg ?a0 ?l0 ?c0 ?k0 ?a1 ?l1 ?c1 ?k1 ?a2 ?l2 ?c2 ?k2 ?a3 ?l3 ?c3 ?k3 ?a4 ?l4 ?c4 ?k4 ?a5 ?l5 ?c5 ?k5 ?a6 ?l6 ?c6 ?k6 ?a7 ?l7 ?c7 ?k7 ?a8 ?l8 ?c8 ?k8 ?a9 ?l9 ?c9 ?k9 ?a10 ?l10 ?c10 ?k10 ?a11 ?l11 ?c11 ?k11 ?a12 ?l12 ?c12 ?k12 ?a13 ?l13 ?c13 ?k13 ?a14 ?l14 ?c14 ?k14 ?a15 ?l15 ?c15 ?k15 ?a16 ?l16 ?c16 ?k16 ?a17 ?l17 ?c17 ?k17 ?a18 ?l18 ?c18 ?k18 ?a19 ?l19 ?c19 ?k19 ?a20 ?l20 ?c20 ?k20 ?a21 ?l21 ?c21 ?k21 ?a22 ?l22 ?c22 ?k22 ?a23 ?l23 ?c23 ?k23 ?z_all ?z_bool ?z_enumerate ?z_int ?z_isinstance ?z_len ?z_list ?z_range ?z_set ?z_str ?z_tuple ?z_zip ?at_FIGURES ?at_LETTERS ?xa_NoName ?xq_NoName ?xk_NoName ?xb_NoName ?xt_NoName ?xa_NoRow ?xq_NoRow ?xk_NoRow ?xb_NoRow ?xt_NoRow ?xa_NoText ?xq_NoText ?xk_NoText ?xb_NoText ?xt_NoText ?xa_NoValue ?xq_NoValue ?xk_NoValue ?xb_NoValue ?xt_NoValue ?xa_Twice ?xq_Twice ?xk_Twice ?xb_Twice ?xt_Twice
    (case a0 => k_is); (case l0 => k_is); (case c0 => k_is); (case k0 => k_is); (case a1 => k_is); (case l1 => k_is); (case c1 => k_is); (case k1 => k_is); (case a2 => k_is); (case l2 => k_is); (case c2 => k_is); (case k2 => k_is); (case a3 => k_is); (case l3 => k_is); (case c3 => k_is); (case k3 => k_is); (case a4 => k_is); (case l4 => k_is); (case c4 => k_is); (case k4 => k_is); (case a5 => k_is); (case l5 => k_is); (case c5 => k_is); (case k5 => k_is); (case a6 => k_is); (case l6 => k_is); (case c6 => k_is); (case k6 => k_is); (case a7 => k_is); (case l7 => k_is); (case c7 => k_is); (case k7 => k_is); (case a8 => k_is); (case l8 => k_is); (case c8 => k_is); (case k8 => k_is); (case a9 => k_is); (case l9 => k_is); (case c9 => k_is); (case k9 => k_is); (case a10 => k_is); (case l10 => k_is); (case c10 => k_is); (case k10 => k_is); (case a11 => k_is); (case l11 => k_is); (case c11 => k_is); (case k11 => k_is); (case a12 => k_is); (case l12 => k_is); (case c12 => k_is); (case k12 => k_is); (case a13 => k_is); (case l13 => k_is); (case c13 => k_is); (case k13 => k_is); (case a14 => k_is); (case l14 => k_is); (case c14 => k_is); (case k14 => k_is); (case a15 => k_is); (case l15 => k_is); (case c15 => k_is); (case k15 => k_is); (case a16 => k_is); (case l16 => k_is); (case c16 => k_is); (case k16 => k_is); (case a17 => k_is); (case l17 => k_is); (case c17 => k_is); (case k17 => k_is); (case a18 => k_is); (case l18 => k_is); (case c18 => k_is); (case k18 => k_is); (case a19 => k_is); (case l19 => k_is); (case c19 => k_is); (case k19 => k_is); (case a20 => k_is); (case l20 => k_is); (case c20 => k_is); (case k20 => k_is); (case a21 => k_is); (case l21 => k_is); (case c21 => k_is); (case k21 => k_is); (case a22 => k_is); (case l22 => k_is); (case c22 => k_is); (case k22 => k_is); (case a23 => k_is); (case l23 => k_is); (case c23 => k_is); (case k23 => k_is); (case z_all => k_is); (case z_bool => k_is); (case z_enumerate => k_is); (case z_int => k_is); (case z_isinstance => k_is); (case z_len => k_is); (case z_list => k_is); (case z_range => k_is); (case z_set => k_is); (case z_str => k_is); (case z_tuple => k_is); (case z_zip => k_is); (case at_FIGURES => k_is); (case at_LETTERS => k_is); (case xa_NoName => k_is); (case xq_NoName => k_exc); (case xk_NoName => k_is); (case xb_NoName => k_is); (case xt_NoName => k_is); (case xa_NoRow => k_is); (case xq_NoRow => k_exc); (case xk_NoRow => k_is); (case xb_NoRow => k_is); (case xt_NoRow => k_is); (case xa_NoText => k_is); (case xq_NoText => k_exc); (case xk_NoText => k_is); (case xb_NoText => k_is); (case xt_NoText => k_is); (case xa_NoValue => k_is); (case xq_NoValue => k_exc); (case xk_NoValue => k_is); (case xb_NoValue => k_is); (case xt_NoValue => k_is); (case xa_Twice => k_is); (case xq_Twice => k_exc); (case xk_Twice => k_is); (case xb_Twice => k_is); (case xt_Twice => k_is)

