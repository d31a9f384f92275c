import PyProof.Rows.All
import Wide.All
import OpenK.AllK
import Wide.FinOn
import PySem.Challenge.RW_callwalk_k05_refusals_stand_apart
import HandS.ForMost
import HandS.ForExc
import HandS.Wide
import HandS.Deep
import KE.KeyNested
import HandS.TupAny
import HandS.IsInst
import HandS.Text
import HandS.CallSlots
import HandS.TryMany
import HandS.SetKeys
import PyProof.DictMoreH
import HandS.WideBits
import HandS.Style
import HandS.ExcIs
import KE.GoesComp
import HandS.Exc
import HandS.ExcValue
import HandS.HotCalls
set_option Elab.async false
set_option linter.all false
set_option maxRecDepth 100000
set_option maxHeartbeats 4000000
/-! DL: pure values over the hand layer. D: deep data; Rep: what of the abstract heap stands for it; judgements that speak of functions on D alone. -/
namespace DL
open PySem PySem.Spec PyProof.Rows L2

inductive D where
  | non | bl (b : Bool) | int (i : Int) | str (x : Str)
  | tup (xs : List D) | lst (xs : List D)
  | dK (kvs : List (Key × D)) | dT (kvs : List (List Key × D))
  | obj (C : Addr) (fs : List (Str × D))
  /-- a dict whose keys are tuples of any depth -/
  | dN (w : World) (kvs : List (NestedKey × D))

/-- an answer: a value, an own exception by its class's name, nothing known -/
inductive Res (α : Type) where
  | ok (a : α) | ex (c : Str) | no
namespace Res
variable {α β : Type}
def bind : Res α → (α → Res β) → Res β
  | .ok a, f => f a
  | .ex c, _ => .ex c
  | .no, _ => .no
instance : Monad Res where
  pure := .ok
  bind := bind
@[simp] theorem bind_ok (a : α) (f : α → Res β) : (Res.ok a >>= f) = f a := rfl
@[simp] theorem bind_ex (c : Str) (f : α → Res β) : (Res.ex c >>= f) = .ex c := rfl
@[simp] theorem bind_no (f : α → Res β) : (Res.no >>= f) = .no := rfl
@[simp] theorem pure_eq (a : α) : (pure a : Res α) = .ok a := rfl
end Res

mutual
def imm : D → Bool
  | .non => true
  | .bl _ => true
  | .int _ => true
  | .str _ => true
  | .tup xs => imms xs
  | .lst _ => false
  | .dK _ => false
  | .dT _ => false
  | .obj _ _ => false
  | .dN _ _ => false
def imms : List D → Bool
  | [] => true
  | x :: r => imm x && imms r
end
mutual
/-- a key of any depth, as it stands -/
def KeyR (G : Hp) : NestedKey → V → Prop
  | .none, v => v = .non
  | .num i, v => v = .int i
  | .text x, v => v = .str x
  | .tup ks, v => ∃ a vs, v = .ref a ∧ G a = some (.tup vs) ∧ KeysR G ks vs
def KeysR (G : Hp) : List NestedKey → List V → Prop
  | [], vs => vs = []
  | k :: r, vs => ∃ v s, vs = v :: s ∧ KeyR G k v ∧ KeysR G r s
end
mutual
theorem KeyR.le {G G' : Hp} (l : ∀ a vs, G a = some (.tup vs) → G' a = some (.tup vs)) : ∀ {k : NestedKey} {v : V}, KeyR G k v → KeyR G' k v
  | .none, _, h => h
  | .num _, _, h => h
  | .text _, _, h => h
  | .tup ks, _, ⟨a, vs, e, h, r⟩ => ⟨a, vs, e, l _ _ h, KeysR.le l r⟩
theorem KeysR.le {G G' : Hp} (l : ∀ a vs, G a = some (.tup vs) → G' a = some (.tup vs)) : ∀ {ks : List NestedKey} {vs : List V}, KeysR G ks vs → KeysR G' ks vs
  | [], _, h => h
  | k :: r, _, ⟨v, s, e, h, q⟩ => ⟨v, s, e, KeyR.le l h, KeysR.le l q⟩
end
/-- the very object at a -/
abbrev ObjX (a : Addr) (o : Obj) : HO := .ext fun h => h.get? a = some o
abbrev NEnt := NestedKey × Addr × V
/-- the object o is a dict with these entries -/
def DatN (w : World) (a : Addr) (o : Obj) (xs : List NEnt) : Prop :=
  xs.length ≤ sizeLine ∧ (a == sysModules) = false ∧ o.ExactDict ∧ (xs.map (·.1)).Nodup ∧ (∀ x ∈ xs, x.1.depth ≤ 8) ∧ ∃ es ep vs, o.data = .dict es ep ∧
    Paired (fun (p : NEnt) (q : NestedKey × Addr × Value) => p.1 = q.1 ∧ p.2.1 = q.2.1 ∧ RelV p.2.2 q.2.2) xs vs ∧ es.toList = vs.map fun x => (⟨x.1.hash w, .ref x.2.1, x.2.2⟩ : DictEntry)
mutual
def Rep (G : Hp) : D → V → Prop
  | .non, v => v = .non
  | .bl b, v => v = .bl b
  | .int i, v => v = .int i
  | .str x, v => v = .str x
  | .tup ds, v => ∃ a vs, v = .ref a ∧ G a = some (.tup vs) ∧ Reps G ds vs
  | .lst ds, v => ∃ a vs, v = .ref a ∧ Rd G a (.lst vs) ∧ Reps G ds vs
  | .dK kvs, v => ∃ a ws, v = .ref a ∧ Rd G a (.dK ws) ∧ RepK G kvs ws
  | .dT kvs, v => ∃ a ws, v = .ref a ∧ Rd G a (.dT ws) ∧ RepT G kvs ws
  | .obj C fs, v => ∃ a dx ws, v = .ref a ∧ G a = some (.ins C dx ws) ∧ RepF G fs ws
  | .dN w kvs, v => ∃ a o xs, v = .ref a ∧ Rd G a (ObjX a o) ∧ DatN w a o xs ∧ RepN G kvs xs
def Reps (G : Hp) : List D → List V → Prop
  | [], vs => vs = []
  | d :: r, vs => ∃ v s, vs = v :: s ∧ Rep G d v ∧ Reps G r s
def RepK (G : Hp) : List (Key × D) → List (Key × V) → Prop
  | [], vs => vs = []
  | (k, d) :: r, vs => ∃ v s, vs = (k, v) :: s ∧ Rep G d v ∧ RepK G r s
def RepT (G : Hp) : List (List Key × D) → List (List Key × V) → Prop
  | [], vs => vs = []
  | (k, d) :: r, vs => ∃ v s, vs = (k, v) :: s ∧ Rep G d v ∧ RepT G r s
def RepF (G : Hp) : List (Str × D) → List (Str × V) → Prop
  | [], vs => vs = []
  | (k, d) :: r, vs => ∃ v s, vs = (k, v) :: s ∧ Rep G d v ∧ RepF G r s
def RepN (G : Hp) : List (NestedKey × D) → List NEnt → Prop
  | [], vs => vs = []
  | (k, d) :: r, vs => ∃ b v s, vs = (k, b, v) :: s ∧ KeyR G k (.ref b) ∧ Rep G d v ∧ RepN G r s
end
/-- what is read at an address -/
def rdo : Option HO → Option HO
  | some (.frz _ u) => some u
  | x => x
theorem Rd.iff {G : Hp} {a : Addr} {u : HO} (hu : ∀ o w, u ≠ .frz o w) : Rd G a u ↔ rdo (G a) = some u := by
  unfold Rd rdo
  constructor
  · rintro (h | ⟨o, h⟩)
    · rw [h]; cases u <;> first | rfl | exact absurd rfl (hu _ _)
    · rw [h]
  · intro h
    split at h
    · rename_i o w e; cases h; exact .inr ⟨_, e⟩
    · exact .inl h
/-- all that is read in G is read in G' -/
def Le (G G' : Hp) : Prop := (∀ a u, Rd G a u → Rd G' a u) ∧ (∀ a vs, G a = some (.tup vs) → G' a = some (.tup vs)) ∧ ∀ a C dx ws, G a = some (.ins C dx ws) → G' a = some (.ins C dx ws)
theorem Le.of {G G' : Hp} (h : ∀ a o, G a = some o → G' a = some o) : Le G G' :=
  ⟨fun a u r => r.elim (fun q => .inl (h _ _ q)) fun ⟨o, q⟩ => .inr ⟨o, h _ _ q⟩, fun a vs q => h _ _ q, fun a C dx ws q => h _ _ q⟩
mutual
theorem Rep.le {G G' : Hp} (l : Le G G') : ∀ {d : D} {v : V}, Rep G d v → Rep G' d v
  | .non, _, h => h
  | .bl _, _, h => h
  | .int _, _, h => h
  | .str _, _, h => h
  | .tup ds, _, ⟨a, vs, e, h, r⟩ => ⟨a, vs, e, l.2.1 _ _ h, Reps.le l r⟩
  | .lst ds, _, ⟨a, vs, e, h, r⟩ => ⟨a, vs, e, l.1 _ _ h, Reps.le l r⟩
  | .dK kvs, _, ⟨a, vs, e, h, r⟩ => ⟨a, vs, e, l.1 _ _ h, RepK.le l r⟩
  | .dT kvs, _, ⟨a, vs, e, h, r⟩ => ⟨a, vs, e, l.1 _ _ h, RepT.le l r⟩
  | .obj C fs, _, ⟨a, dx, ws, e, h, r⟩ => ⟨a, dx, ws, e, l.2.2 _ _ _ _ h, RepF.le l r⟩
  | .dN w kvs, _, ⟨a, o, xs, e, h, dt, r⟩ => ⟨a, o, xs, e, l.1 _ _ h, dt, RepN.le l r⟩
theorem Reps.le {G G' : Hp} (l : Le G G') : ∀ {ds : List D} {vs : List V}, Reps G ds vs → Reps G' ds vs
  | [], _, h => h
  | d :: r, _, ⟨v, s, e, h, q⟩ => ⟨v, s, e, Rep.le l h, Reps.le l q⟩
theorem RepK.le {G G' : Hp} (l : Le G G') : ∀ {ds : List (Key × D)} {vs : List (Key × V)}, RepK G ds vs → RepK G' ds vs
  | [], _, h => h
  | (k, d) :: r, _, ⟨v, s, e, h, q⟩ => ⟨v, s, e, Rep.le l h, RepK.le l q⟩
theorem RepT.le {G G' : Hp} (l : Le G G') : ∀ {ds : List (List Key × D)} {vs : List (List Key × V)}, RepT G ds vs → RepT G' ds vs
  | [], _, h => h
  | (k, d) :: r, _, ⟨v, s, e, h, q⟩ => ⟨v, s, e, Rep.le l h, RepT.le l q⟩
theorem RepF.le {G G' : Hp} (l : Le G G') : ∀ {ds : List (Str × D)} {vs : List (Str × V)}, RepF G ds vs → RepF G' ds vs
  | [], _, h => h
  | (k, d) :: r, _, ⟨v, s, e, h, q⟩ => ⟨v, s, e, Rep.le l h, RepF.le l q⟩
theorem RepN.le {G G' : Hp} (l : Le G G') : ∀ {ds : List (NestedKey × D)} {vs : List NEnt}, RepN G ds vs → RepN G' ds vs
  | [], _, h => h
  | (k, d) :: r, _, ⟨b, v, s, e, hk, h, q⟩ => ⟨b, v, s, e, hk.le l.2.1, Rep.le l h, RepN.le l q⟩
end
mutual
/-- immutable data lean on tuples alone -/
theorem Rep.imm {G G' : Hp} (l : ∀ a vs, G a = some (.tup vs) → G' a = some (.tup vs)) : ∀ {d : D} {v : V}, imm d = true → Rep G d v → Rep G' d v
  | .non, _, _, h => h
  | .bl _, _, _, h => h
  | .int _, _, _, h => h
  | .str _, _, _, h => h
  | .tup ds, _, i, ⟨a, vs, e, h, r⟩ => ⟨a, vs, e, l _ _ h, Reps.imm l (by simpa [DL.imm] using i) r⟩
  | .lst ds, _, i, _ => by simp [DL.imm] at i
  | .dK kvs, _, i, _ => by simp [DL.imm] at i
  | .dT kvs, _, i, _ => by simp [DL.imm] at i
  | .obj C fs, _, i, _ => by simp [DL.imm] at i
  | .dN w kvs, _, i, _ => by simp [DL.imm] at i
theorem Reps.imm {G G' : Hp} (l : ∀ a vs, G a = some (.tup vs) → G' a = some (.tup vs)) : ∀ {ds : List D} {vs : List V}, imms ds = true → Reps G ds vs → Reps G' ds vs
  | [], _, _, h => h
  | d :: r, _, i, ⟨v, s, e, h, q⟩ => by
    have j := i
    simp only [imms, Bool.and_eq_true] at j
    exact ⟨v, s, e, Rep.imm l j.1 h, Reps.imm l j.2 q⟩
end
/-! ### lists of representations -/
section
variable {G : Hp}
theorem Reps.length : ∀ {ds : List D} {vs : List V}, Reps G ds vs → vs.length = ds.length
  | [], _, h => by rw [show _ = [] from h]; rfl
  | d :: r, _, ⟨v, s, e, h, q⟩ => by rw [e]; simp [Reps.length q]
theorem Reps.get : ∀ {ds : List D} {vs : List V} {i : Nat} {d : D}, Reps G ds vs → ds[i]? = some d → ∃ v, vs[i]? = some v ∧ Rep G d v
  | [], _, _, _, _, e => by simp at e
  | x :: r, _, 0, d, ⟨v, s, e, h, q⟩, e2 => by simp at e2; subst e2; exact ⟨v, by rw [e]; rfl, h⟩
  | x :: r, _, i + 1, d, ⟨v, s, e, h, q⟩, e2 => by
    obtain ⟨w, e3, e4⟩ := Reps.get (i := i) (d := d) q (by simpa using e2)
    exact ⟨w, by rw [e]; simpa using e3, e4⟩
theorem Reps.append : ∀ {ds es : List D} {vs ws : List V}, Reps G ds vs → Reps G es ws → Reps G (ds ++ es) (vs ++ ws)
  | [], _, _, _, h, q => by rw [show _ = [] from h]; exact q
  | d :: r, _, _, _, ⟨v, s, e, h, q⟩, q2 => ⟨v, s ++ _, by rw [e]; rfl, h, Reps.append q q2⟩
theorem Reps.one {d : D} {v : V} (h : Rep G d v) : Reps G [d] [v] := ⟨v, [], rfl, h, rfl⟩
theorem Reps.drop : ∀ {ds : List D} {vs : List V} (n : Nat), Reps G ds vs → Reps G (ds.drop n) (vs.drop n)
  | _, _, 0, h => h
  | [], _, n + 1, h => by rw [show _ = [] from h]; exact rfl
  | d :: r, _, n + 1, ⟨v, s, e, h, q⟩ => by rw [e]; exact Reps.drop n q
theorem Reps.take : ∀ {ds : List D} {vs : List V} (n : Nat), Reps G ds vs → Reps G (ds.take n) (vs.take n)
  | _, _, 0, h => by simp [Reps]
  | [], _, n + 1, h => by rw [show _ = [] from h]; exact rfl
  | d :: r, _, n + 1, ⟨v, s, e, h, q⟩ => by rw [e]; exact ⟨v, s.take n, rfl, h, Reps.take n q⟩
theorem Reps.reverse : ∀ {ds : List D} {vs : List V}, Reps G ds vs → Reps G ds.reverse vs.reverse
  | [], _, h => by rw [show _ = [] from h]; exact rfl
  | d :: r, _, ⟨v, s, e, h, q⟩ => by
    rw [e, List.reverse_cons, List.reverse_cons]
    exact (Reps.reverse q).append (.one h)
theorem Reps.set : ∀ {ds : List D} {vs : List V} {d : D} {v : V} (n : Nat), Reps G ds vs → Rep G d v → Reps G (ds.set n d) (vs.set n v)
  | [], _, _, _, n, h, _ => by rw [show _ = [] from h]; cases n <;> exact rfl
  | x :: r, _, d, w, 0, ⟨v, s, e, h, q⟩, h2 => by rw [e]; exact ⟨w, s, rfl, h2, q⟩
  | x :: r, _, d, w, n + 1, ⟨v, s, e, h, q⟩, h2 => by rw [e]; exact ⟨v, s.set n w, rfl, h, Reps.set n q h2⟩
theorem Reps.dropLast : ∀ {ds : List D} {vs : List V}, Reps G ds vs → Reps G ds.dropLast vs.dropLast := fun {ds vs} h => by
  rw [List.dropLast_eq_take, List.dropLast_eq_take, h.length]; exact h.take _
end

/-! ### heaps that grow: (G, H) a region within a heap -/
def Sub (G H : Hp) : Prop := ∀ a o, G a = some o → H a = some o
structure Ext (G H G' H' : Hp) : Prop where
  h : ∀ a o, H a = some o → H' a = some o
  g : ∀ a o, G a = some o → G' a = some o
  s : Sub G' H'
  n : ∀ a o, G' a = some o → G a = some o ∨ H a = none ∨ ∃ vs, o = .tup vs
theorem Ext.refl {G H : Hp} (s : Sub G H) : Ext G H G H := ⟨fun _ _ h => h, fun _ _ h => h, s, fun _ _ h => .inl h⟩
theorem Ext.trans {G H G1 H1 G2 H2 : Hp} (a : Ext G H G1 H1) (b : Ext G1 H1 G2 H2) : Ext G H G2 H2 where
  h := fun x o e => b.h x o (a.h x o e)
  g := fun x o e => b.g x o (a.g x o e)
  s := b.s
  n := fun x o e => by
    rcases b.n x o e with q | q | q
    · exact a.n x o q
    · refine .inr (.inl ?_)
      cases r : H x with
      | none => rfl
      | some u => rw [a.h x u r] at q; cases q
    · exact .inr (.inr q)
theorem Ext.free {G H G' H' : Hp} (e : Ext G H G' H') {a : Addr} (q : H' a = none) : H a = none := by
  cases r : H a with
  | none => rfl
  | some u => rw [e.h a u r] at q; cases q
theorem Ext.le {G H G' H' : Hp} (e : Ext G H G' H') : Le G G' := Le.of e.g
theorem Ext.hle {G H G' H' : Hp} (e : Ext G H G' H') : Le H H' := Le.of e.h
/-- a new object, seen by the region -/
theorem Ext.new {G H : Hp} (s : Sub G H) {p : Addr} {o : HO} (np : H p = none) : Ext G H (upd G p o) (upd H p o) where
  h := fun a u e => by rw [upd_ne (ne_of_none e np)]; exact e
  g := fun a u e => by rw [upd_ne (ne_of_none (s a u e) np)]; exact e
  s := fun a u e => by
    by_cases h : a = p
    · subst h; rw [upd_same] at e ⊢; exact e
    · rw [upd_ne h] at e ⊢; exact s a u e
  n := fun a u e => by
    by_cases h : a = p
    · subst h; exact .inr (.inl np)
    · rw [upd_ne h] at e; exact .inl e
/-- a new object, not seen by the region -/
theorem Ext.hid {G H : Hp} (s : Sub G H) {p : Addr} {o : HO} (np : H p = none) : Ext G H G (upd H p o) where
  h := fun a u e => by rw [upd_ne (ne_of_none e np)]; exact e
  g := fun a u e => e
  s := fun a u e => by rw [upd_ne (ne_of_none (s a u e) np)]; exact s a u e
  n := fun a u e => .inl e
/-- the heap alone has grown -/
theorem Ext.up {G H H' : Hp} (s : Sub G H) (h : ∀ a o, H a = some o → H' a = some o) : Ext G H G H' := ⟨h, fun _ _ e => e, fun a o e => h a o (s a o e), fun _ _ e => .inl e⟩
/-- the region with all tuples of the heap -/
def tupG (G H : Hp) : Hp := fun a => match H a with
  | some (.tup vs) => some (.tup vs)
  | _ => G a
theorem tupG_tup {G H : Hp} {a : Addr} {vs : List V} (h : H a = some (.tup vs)) : tupG G H a = some (.tup vs) := by unfold tupG; rw [h]
theorem Ext.tups {G H H' : Hp} (s : Sub G H) (h : ∀ a o, H a = some o → H' a = some o) : Ext G H (tupG G H') H' where
  h := h
  g := fun a o e => by
    have e2 := h a o (s a o e)
    unfold tupG
    rw [e2]
    cases o <;> first | exact e | rfl
  s := fun a o e => by
    unfold tupG at e
    split at e
    · rename_i vs q; rw [q]; exact e
    · exact h a o (s a o e)
  n := fun a o e => by
    unfold tupG at e
    split at e
    · exact .inr (.inr ⟨_, (Option.some.inj e).symm⟩)
    · exact .inl e

/-! ### slots -/
abbrev Env := List (Option D)
structure EnvR (G : Hp) (σ : L2.St) (ρ : Env) : Prop where
  len : ρ.length = σ.length
  val : ∀ (i : Nat) (d : D), ρ[i]? = some (some d) → ∃ v, σ[i]? = some (some v) ∧ Rep G d v
theorem EnvR.le {G G' : Hp} {σ : L2.St} {ρ : Env} (l : Le G G') (h : EnvR G σ ρ) : EnvR G' σ ρ := ⟨h.len, fun i d e => by
  obtain ⟨v, h1, h2⟩ := h.val i d e
  exact ⟨v, h1, h2.le l⟩⟩
theorem EnvR.set {G : Hp} {σ : L2.St} {ρ : Env} {j : Nat} {d : D} {v : V} (h : EnvR G σ ρ) (r : Rep G d v) : EnvR G (σ.set j (some v)) (ρ.set j (some d)) := ⟨by simp [h.len], fun i d' e => by
  by_cases hi : j = i
  · subst hi
    by_cases hv : j < ρ.length
    · rw [List.getElem?_set_self hv] at e; cases e
      exact ⟨v, List.getElem?_set_self (by rw [← h.len]; exact hv), r⟩
    · rw [List.getElem?_eq_none (by simpa using hv)] at e; cases e
  · rw [List.getElem?_set_ne hi] at e
    obtain ⟨w, h1, h2⟩ := h.val i d' e
    exact ⟨w, by rw [List.getElem?_set_ne hi]; exact h1, h2⟩⟩
theorem EnvR.unset {G : Hp} {σ : L2.St} {ρ : Env} {j : Nat} {x : Option V} (h : EnvR G σ ρ) : EnvR G (σ.set j x) (ρ.set j none) := ⟨by simp [h.len], fun i d' e => by
  by_cases hi : j = i
  · subst hi
    by_cases hv : j < ρ.length
    · rw [List.getElem?_set_self hv] at e; cases e
    · rw [List.getElem?_eq_none (by simpa using hv)] at e; cases e
  · rw [List.getElem?_set_ne hi] at e
    obtain ⟨w, h1, h2⟩ := h.val i d' e
    exact ⟨w, by rw [List.getElem?_set_ne hi]; exact h1, h2⟩⟩

/-! ### goals -/
/-- what is asked of the end by an answer: P of a value, the region, the heap; W of an exception -/
def Gl (mg : Str → Option Value) (W : WX) (G H : Hp) (σ : L2.St) {α : Type} (P : α → Hp → Hp → Prop) : Res α → Prop
  | .ok a => ∀ G' H', Ext G H G' H' → P a G' H'
  | .ex c => ∀ C G' H', mg c = some (.ref C) → Ext G H G' H' → W (.ref C) none σ H'
  | .no => False
section
variable {mg : Str → Option Value} {W : WX} {G H G1 H1 : Hp} {σ : L2.St} {α β : Type}
theorem Gl.mono {P : α → Hp → Hp → Prop} {r : Res α} (e : Ext G H G1 H1) (h : Gl mg W G H σ P r) : Gl mg W G1 H1 σ P r := by
  cases r with
  | ok a => exact fun G' H' e' => h G' H' (e.trans e')
  | ex c => exact fun C G' H' m e' => h C G' H' m (e.trans e')
  | no => exact h
theorem Gl.imp {P P' : α → Hp → Hp → Prop} {r : Res α} (i : ∀ a G' H', r = .ok a → Ext G H G' H' → P a G' H' → P' a G' H') (h : Gl mg W G H σ P r) : Gl mg W G H σ P' r := by
  cases r with
  | ok a => exact fun G' H' e' => i a G' H' rfl e' (h G' H' e')
  | ex c => exact h
  | no => exact h
theorem Gl.bind {P : β → Hp → Hp → Prop} {r : Res α} {k : α → Res β} (h : Gl mg W G H σ P (r >>= k)) : Gl mg W G H σ (fun a G' H' => Gl mg W G' H' σ P (k a)) r := by
  cases r with
  | ok a => exact fun G' H' e' => Gl.mono e' (show Gl mg W G H σ P (k a) from h)
  | ex c => exact h
  | no => exact h
end
abbrev GlE (mg : Str → Option Value) (W : WX) (G H : Hp) (σ : L2.St) (Q : VK) : Res D → Prop := Gl mg W G H σ fun d G' H' => ∀ v, Rep G' d v → Q v H'
abbrev GlT (mg : Str → Option Value) (W : WX) (G H : Hp) (σ : L2.St) (Q : Bool → Hp → Prop) : Res Bool → Prop := Gl mg W G H σ fun b _ H' => Q b H'
abbrev GlA (mg : Str → Option Value) (W : WX) (G H : Hp) (σ : L2.St) (Q : List V → Hp → Prop) : Res (List D) → Prop := Gl mg W G H σ fun ds G' H' => ∀ vs, Reps G' ds vs → Q vs H'

/-! ### judgements -/
/-- an expression is worth what f says of the slots -/
def DE (X : Cx) (W : WX) (e : Expr) (f : Env → Res D) : Prop :=
  ∃ t : TE, PE X e t ∧ ∀ (G H : Hp) (σ : L2.St) (ρ : Env) (Q : VK), Sub G H → EnvR G σ ρ → GlE X.mg W G H σ Q (f ρ) → t σ H Q
def DT (X : Cx) (W : WX) (e : Expr) (f : Env → Res Bool) : Prop :=
  ∃ t : TT, PT X e t ∧ ∀ (G H : Hp) (σ : L2.St) (ρ : Env) (Q : Bool → Hp → Prop), Sub G H → EnvR G σ ρ → GlT X.mg W G H σ Q (f ρ) → t σ H Q
def DA (X : Cx) (W : WX) (es : List Expr) (f : Env → Res (List D)) : Prop :=
  ∃ t : TA, PA X es t ∧ ∀ (G H : Hp) (σ : L2.St) (ρ : Env) (Q : List V → Hp → Prop), Sub G H → EnvR G σ ρ → GlA X.mg W G H σ Q (f ρ) → t σ H Q

/-! ### names, constants -/
def vVar (i : Nat) : Env → Res D := fun ρ => match ρ[i]? with
  | some (some d) => .ok d
  | _ => .no
def vC (d : D) : Env → Res D := fun _ => .ok d
section
variable {X : Cx} {W : WX}
theorem de_var {i : Nat} {x : Str} {pos : Pos} (p : PE X (.Name x pos) (tVar i)) : DE X W (.Name x pos) (vVar i) := by
  refine ⟨_, p, fun G H σ ρ Q s e h => ?_⟩
  unfold vVar at h
  split at h
  · rename_i d q
    obtain ⟨v, h1, h2⟩ := e.val i d q
    exact ⟨v, h1, h G H (Ext.refl s) v h2⟩
  · exact h.elim
theorem de_int {i : Int} {j pos} : DE X W (.Constant (.int i) j pos) (vC (.int i)) := ⟨_, pe_int, fun G H σ ρ Q s e h => h G H (Ext.refl s) _ rfl⟩
theorem de_str {x : Str} {j pos} : DE X W (.Constant (.str x) j pos) (vC (.str x)) := ⟨_, pe_str, fun G H σ ρ Q s e h => h G H (Ext.refl s) _ rfl⟩
theorem de_bl {b : Bool} {j pos} : DE X W (.Constant (.bool b) j pos) (vC (.bl b)) := ⟨_, pe_bl, fun G H σ ρ Q s e h => h G H (Ext.refl s) _ rfl⟩
theorem de_non {j pos} : DE X W (.Constant .none j pos) (vC .non) := ⟨_, pe_non, fun G H σ ρ Q s e h => h G H (Ext.refl s) _ rfl⟩
end

/-! ### two-place operations -/
def v2 (g : D → D → Res D) (f1 f2 : Env → Res D) : Env → Res D := fun ρ => f1 ρ >>= fun x => f2 ρ >>= fun y => g x y
def v1 (g : D → Res D) (f1 : Env → Res D) : Env → Res D := fun ρ => f1 ρ >>= g
/-- a rule by values (r) says what g says -/
def Say2 (X : Cx) (W : WX) (r : R2) (g : D → D → Res D) : Prop :=
  ∀ (G H : Hp) (σ : L2.St) (Q : VK) (x y : D) (a b : V), Sub G H → Rep G x a → Rep G y b → GlE X.mg W G H σ Q (g x y) → r a b H Q
section
variable {X : Cx} {W : WX} {e1 e2 : Expr} {f1 f2 : Env → Res D} {pos : Pos}
theorem say_op {r : R2} {g : D → D → Res D} {t1 t2 : TE} (sy : Say2 X W r g)
    (h1 : ∀ (G H : Hp) (σ : L2.St) (ρ : Env) (Q : VK), Sub G H → EnvR G σ ρ → GlE X.mg W G H σ Q (f1 ρ) → t1 σ H Q) (h2 : ∀ (G H : Hp) (σ : L2.St) (ρ : Env) (Q : VK), Sub G H → EnvR G σ ρ → GlE X.mg W G H σ Q (f2 ρ) → t2 σ H Q)
    (G H : Hp) (σ : L2.St) (ρ : Env) (Q : VK) (s : Sub G H) (e : EnvR G σ ρ) (h : GlE X.mg W G H σ Q (v2 g f1 f2 ρ)) : tOp r t1 t2 σ H Q := by
  refine h1 G H σ ρ _ s e (Gl.imp (fun x G1 H1 _ e1 k v rv => ?_) (Gl.bind h))
  refine h2 G1 H1 σ ρ _ e1.s (e.le e1.le) (Gl.imp (fun y G2 H2 _ e2 k w rw => ?_) (Gl.bind k))
  exact sy G2 H2 σ Q x y v w e2.s (rv.le e2.le) rw k
theorem de_op {op : Operator} {r : R2} {g : D → D → Res D} (ho : OpR X (binaryOp op) r) (sy : Say2 X W r g) (d1 : DE X W e1 f1) (d2 : DE X W e2 f2) : DE X W (.BinOp e1 op e2 pos) (v2 g f1 f2) := by
  obtain ⟨t1, p1, h1⟩ := d1
  obtain ⟨t2, p2, h2⟩ := d2
  exact ⟨_, pe_op ho p1 p2, say_op sy h1 h2⟩
theorem de_cmp {op : CmpOp} {r : R2} {g : D → D → Res D} (ho : OpR X (compareOp op) r) (sy : Say2 X W r g) (d1 : DE X W e1 f1) (d2 : DE X W e2 f2) (hm : behindInMarks op e2 = false) : DE X W (.Compare e1 [op] [e2] pos) (v2 g f1 f2) := by
  obtain ⟨t1, p1, h1⟩ := d1
  obtain ⟨t2, p2, h2⟩ := d2
  exact ⟨_, pe_cmpR ho p1 p2 hm, say_op sy h1 h2⟩
theorem de_ix {r : R2} {g : D → D → Res D} (ho : IxR X r) (sy : Say2 X W r g) (d1 : DE X W e1 f1) (d2 : DE X W e2 f2) (hs : PlainIx e2) : DE X W (.Subscript e1 e2 pos) (v2 g f1 f2) := by
  obtain ⟨t1, p1, h1⟩ := d1
  obtain ⟨t2, p2, h2⟩ := d2
  exact ⟨_, pe_ix ho p1 p2 hs, say_op sy h1 h2⟩
/-- a value that is a truth, as a test -/
def bOf : D → Res Bool
  | .bl b => .ok b
  | _ => .no
def vB (f : Env → Res D) : Env → Res Bool := fun ρ => f ρ >>= bOf
theorem dt_val (d1 : DE X W e1 f1) (he : ∀ whole, isTrue e1 X.env whole = (do let v ← whole; standAt e1.pos; holding [v] (truthy v)) := by intro _; rfl) : DT X W e1 (vB f1) := by
  obtain ⟨t1, p1, h1⟩ := d1
  refine ⟨_, pt_val p1 he, fun G H σ ρ Q s e h => ?_⟩
  refine h1 G H σ ρ _ s e (Gl.imp (fun x G1 H1 _ e1 k v rv => ?_) (Gl.bind h))
  cases x with
  | bl b => exact ⟨b, rv, k G1 H1 (Ext.refl e1.s)⟩
  | _ => exact k.elim
/-- a comparison as a test -/
theorem dt_cmp {op : CmpOp} {r : R2} {g : D → D → Res D} (ho : OpR X (compareOp op) r) (sy : Say2 X W r g) (d1 : DE X W e1 f1) (d2 : DE X W e2 f2) (hm : behindInMarks op e2 = false) : DT X W (.Compare e1 [op] [e2] pos) (vB (v2 g f1 f2)) := by
  obtain ⟨t1, p1, h1⟩ := d1
  obtain ⟨t2, p2, h2⟩ := d2
  refine ⟨_, pt_cmpR ho p1 p2 hm, fun G H σ ρ Q s e h => ?_⟩
  refine say_op sy h1 h2 G H σ ρ _ s e (Gl.imp (fun x G1 H1 _ e1 k v rv => ?_) (Gl.bind h))
  cases x with
  | bl b => exact ⟨b, rv, k G1 H1 (Ext.refl e1.s)⟩
  | _ => exact k.elim
end
end DL

/-! DL2: operations by values, and what they say of D. -/
namespace DL
open PySem PySem.Spec PyProof.Rows L2

/-! ### arithmetic, + of lists, texts, tuples -/
def g_add : D → D → Res D
  | .int i, .int j => .ok (.int (i + j))
  | .str x, .str y => if x.length + y.length ≤ sizeLine then .ok (.str (x ++ y)) else .no
  | .lst xs, .lst ys => if xs.length + ys.length ≤ sizeLine then .ok (.lst (xs ++ ys)) else .no
  | .tup xs, .tup ys => if xs.length + ys.length ≤ sizeLine then .ok (.tup (xs ++ ys)) else .no
  | _, _ => .no
def g_sub : D → D → Res D
  | .int i, .int j => .ok (.int (i - j))
  | _, _ => .no
instance (i j : Int) : Decidable (CMul i j) := inferInstanceAs (Decidable (_ ∨ _))
def g_mul : D → D → Res D
  | .int i, .int j => if CMul i j then .ok (.int (i * j)) else .no
  | _, _ => .no
instance (i j : Int) : Decidable (CDivW i j) := inferInstanceAs (Decidable (_ ∧ _))
def g_fdiv : D → D → Res D
  | .int i, .int j => if CDivW i j then .ok (.int (i / j)) else .no
  | _, _ => .no
def g_mod : D → D → Res D
  | .int i, .int j => if 0 < j then .ok (.int (i % j)) else .no
  | _, _ => .no
def rCatR : R2 := fun x y H Q => ∃ l b xs zs, x = .ref l ∧ y = .ref b ∧ Rd H l (.lst xs) ∧ Rd H b (.lst zs) ∧ xs.length + zs.length ≤ sizeLine ∧ ∀ p, H p = none → Q (.ref p) (upd H p (.lst (xs ++ zs)))
section
variable {X : Cx} {W : WX}
theorem op_catR : OpR X (binaryOp .Add) rCatR := by
  intro pins s σ H x y v u Q I rx ry h
  obtain ⟨l, b, xs, zs, rfl, rfl, hH, hB, hz, q⟩ := h
  cases rx
  cases ry
  obtain ⟨z, its, n, r, e⟩ := hH.ok I.hok
  obtain ⟨z2, its2, n2, r2, e2⟩ := hB.ok I.hok
  refine PySem.P.add_list e e2 ?_ (by rw [List.size_toArray, List.size_toArray, ← r.length, ← r2.length]; exact hz)
  have ea : its.toArray ++ its2.toArray = (its ++ its2).toArray := by simp
  rw [ea]
  exact ⟨.ref _, _, I.lnew (t' := s.toks) (r.append r2) (by rw [List.length_append]; omega), rfl, q _ I.fresh⟩
def rAddAny (K : PySem.W.Frag) : R2 := fun x y H Q => rI0 (fun i j => .int (i + j)) x y H Q ∨ (∃ i j, x = .str i ∧ y = .str j ∧ i.length + j.length ≤ sizeLine ∧ Q (.str (i ++ j)) H) ∨ rCatR x y H Q ∨ rCatA K x y H Q
theorem op_addAny : OpR X (binaryOp .Add) (rAddAny X.K) := op_add.or (op_add_str.or (op_catR.or op_catA))
/-- the answer is a new list, a new tuple -/
theorem Gl.newL {G H : Hp} {σ : L2.St} {Q : VK} {ds : List D} {vs : List V} {p : Addr} (s : Sub G H) (np : H p = none) (r : Reps G ds vs) (h : GlE X.mg W G H σ Q (.ok (.lst ds))) : Q (.ref p) (upd H p (.lst vs)) := by
  have e : Ext G H (upd G p (.lst vs)) (upd H p (.lst vs)) := Ext.new s np
  exact h _ _ e _ ⟨p, vs, rfl, .inl upd_same, r.le e.le⟩
theorem Gl.newT {G H : Hp} {σ : L2.St} {Q : VK} {ds : List D} {vs : List V} {p : Addr} (s : Sub G H) (np : H p = none) (r : Reps G ds vs) (h : GlE X.mg W G H σ Q (.ok (.tup ds))) : Q (.ref p) (upd H p (.tup vs)) := by
  have e : Ext G H (upd G p (.tup vs)) (upd H p (.tup vs)) := Ext.new s np
  exact h _ _ e _ ⟨p, vs, rfl, upd_same, r.le e.le⟩
theorem Gl.int {G H : Hp} {σ : L2.St} {Q : VK} {i : Int} (s : Sub G H) (h : GlE X.mg W G H σ Q (.ok (.int i))) : Q (.int i) H := h G H (Ext.refl s) _ rfl
theorem Gl.str {G H : Hp} {σ : L2.St} {Q : VK} {i : Str} (s : Sub G H) (h : GlE X.mg W G H σ Q (.ok (.str i))) : Q (.str i) H := h G H (Ext.refl s) _ rfl
theorem Gl.bl {G H : Hp} {σ : L2.St} {Q : VK} {i : Bool} (s : Sub G H) (h : GlE X.mg W G H σ Q (.ok (.bl i))) : Q (.bl i) H := h G H (Ext.refl s) _ rfl
theorem Gl.val {G H : Hp} {σ : L2.St} {Q : VK} {d : D} {v : V} (s : Sub G H) (r : Rep G d v) (h : GlE X.mg W G H σ Q (.ok d)) : Q v H := h G H (Ext.refl s) v r
theorem Sub.rd {G H : Hp} (s : Sub G H) {a : Addr} {u : HO} (r : Rd G a u) : Rd H a u := (Le.of s).1 _ _ r
theorem Sub.sqT {K : PySem.W.Frag} {G H : Hp} (s : Sub G H) {a : Addr} {vs : List V} (r : G a = some (.tup vs)) : SqT K H a vs := SqT.of (s _ _ r)
theorem Sub.sqL {K : PySem.W.Frag} {G H : Hp} (s : Sub G H) {a : Addr} {vs : List V} (r : Rd G a (.lst vs)) : SqL K H a vs := .inl (s.rd r)
theorem say_add : Say2 X W (rAddAny X.K) g_add := by
  intro G H σ Q x y a b s r1 r2 h
  cases x with
  | int i =>
    cases y with
    | int j => exact .inl ⟨i, j, r1, r2, h.int s⟩
    | _ => exact h.elim
  | str i =>
    cases y with
    | str j =>
      simp only [g_add] at h
      split at h
      · rename_i z; exact .inr (.inl ⟨i, j, r1, r2, z, h.str s⟩)
      · exact h.elim
    | _ => exact h.elim
  | lst xs =>
    cases y with
    | lst ys =>
      simp only [g_add] at h
      split at h
      · rename_i z
        obtain ⟨p, vs, rfl, h1, q1⟩ := r1
        obtain ⟨p2, ws, rfl, h2, q2⟩ := r2
        exact .inr (.inr (.inl ⟨p, p2, vs, ws, rfl, rfl, s.rd h1, s.rd h2, by rw [q1.length, q2.length]; exact z, fun l nl => h.newL s nl (q1.append q2)⟩))
      · exact h.elim
    | _ => exact h.elim
  | tup xs =>
    cases y with
    | tup ys =>
      simp only [g_add] at h
      split at h
      · rename_i z
        obtain ⟨p, vs, rfl, h1, q1⟩ := r1
        obtain ⟨p2, ws, rfl, h2, q2⟩ := r2
        refine .inr (.inr (.inr ⟨p, p2, vs, ws, rfl, rfl, s.sqT h1, s.sqT h2, by rw [q1.length, q2.length]; exact z, fun e => ?_, fun _ e => ?_, fun _ _ l nl => h.newT s nl (q1.append q2)⟩))
        · subst e
          have e2 : xs = [] := by have := q1.length; simpa using this.symm
          subst e2
          exact h.val (d := .tup ys) s ⟨p2, ws, rfl, h2, q2⟩
        · subst e
          have e2 : ys = [] := by have := q2.length; simpa using this.symm
          subst e2
          exact h.val (d := .tup (xs ++ [])) s ⟨p, vs, rfl, h1, by rw [List.append_nil]; exact q1⟩
      · exact h.elim
    | _ => exact h.elim
  | _ => exact h.elim
theorem say_sub : Say2 X W (rI0 fun i j => .int (i - j)) g_sub := by
  intro G H σ Q x y a b s r1 r2 h
  cases x with
  | int i =>
    cases y with
    | int j => exact ⟨i, j, r1, r2, h.int s⟩
    | _ => exact h.elim
  | _ => exact h.elim
theorem say_mul : Say2 X W (rI CMul fun i j => .int (i * j)) g_mul := by
  intro G H σ Q x y a b s r1 r2 h
  cases x with
  | int i =>
    cases y with
    | int j =>
      simp only [g_mul] at h
      split at h
      · rename_i z; exact ⟨i, j, r1, r2, z, h.int s⟩
      · exact h.elim
    | _ => exact h.elim
  | _ => exact h.elim
theorem say_fdiv : Say2 X W (rI CDivW fun i j => .int (i / j)) g_fdiv := by
  intro G H σ Q x y a b s r1 r2 h
  cases x with
  | int i =>
    cases y with
    | int j =>
      simp only [g_fdiv] at h
      split at h
      · rename_i z; exact ⟨i, j, r1, r2, z, h.int s⟩
      · exact h.elim
    | _ => exact h.elim
  | _ => exact h.elim
theorem say_mod : Say2 X W (rI (fun _ j => 0 < j) fun i j => .int (i % j)) g_mod := by
  intro G H σ Q x y a b s r1 r2 h
  cases x with
  | int i =>
    cases y with
    | int j =>
      simp only [g_mod] at h
      split at h
      · rename_i z; exact ⟨i, j, r1, r2, z, h.int s⟩
      · exact h.elim
    | _ => exact h.elim
  | _ => exact h.elim
end

/-! ### order of ints -/
def gI (p : Int → Int → Bool) : D → D → Res D
  | .int i, .int j => .ok (.bl (p i j))
  | _, _ => .no
theorem say_I {X : Cx} {W : WX} {p : Int → Int → Bool} : Say2 X W (rI0 fun i j => .bl (p i j)) (gI p) := by
  intro G H σ Q x y a b s r1 r2 h
  cases x with
  | int i =>
    cases y with
    | int j => exact ⟨i, j, r1, r2, h.bl s⟩
    | _ => exact h.elim
  | _ => exact h.elim
/-! ### is None -/
def nonD : D → Bool
  | .non => true
  | _ => false
def g_isN : D → D → Res D
  | x, .non => .ok (.bl (nonD x))
  | _, _ => .no
def g_notN : D → D → Res D
  | x, .non => .ok (.bl (!nonD x))
  | _, _ => .no
theorem rep_non {G : Hp} {x : D} {v : V} (r : Rep G x v) : decide (v = .non) = nonD x := by
  cases x <;> first
    | (obtain ⟨a, vs, e, _⟩ := r; subst e; rfl)
    | (obtain ⟨a, dx, ws, e, _⟩ := r; subst e; rfl)
    | (have e := show v = _ from r; subst e; rfl)
theorem say_isN {X : Cx} {W : WX} : Say2 X W (fun x y H Q => y = .non ∧ Q (.bl (decide (x = .non))) H) g_isN := by
  intro G H σ Q x y a b s r1 r2 h
  cases y with
  | non => exact ⟨r2, by rw [rep_non r1]; exact h.bl s⟩
  | _ => exact h.elim
theorem say_notN {X : Cx} {W : WX} : Say2 X W (fun x y H Q => y = .non ∧ Q (.bl (!decide (x = .non))) H) g_notN := by
  intro G H σ Q x y a b s r1 r2 h
  cases y with
  | non =>
    exact ⟨r2, by rw [rep_non r1]; exact h.bl s⟩
  | _ => exact h.elim

/-! ### == and != -/
mutual
def py : D → PyData
  | .non => .none
  | .bl b => .bool b
  | .int i => .int i
  | .str x => .str x
  | .tup xs => .tuple (pys xs)
  | .lst xs => .list (pys xs)
  | .dK _ => .dict []
  | .dT _ => .dict []
  | .obj _ _ => .dict []
  | .dN _ _ => .dict []
def pys : List D → List PyData
  | [] => []
  | x :: r => py x :: pys r
end
mutual
theorem dp_of {K : PySem.W.Frag} {G H : Hp} (s : Sub G H) : ∀ {d : D} {v : V}, (py d).canLay0 = true → Rep G d v → Dp K H v (py d)
  | .non, _, _, h => by rw [show _ = _ from h]; exact .non
  | .bl _, _, _, h => by rw [show _ = _ from h]; exact .bl _
  | .int _, _, _, h => by rw [show _ = _ from h]; exact .int _
  | .str _, _, _, h => by rw [show _ = _ from h]; exact .str _
  | .tup ds, _, c, ⟨a, vs, e, h, r⟩ => by rw [e]; exact .tup (s.sqT h) (dps_of s (by simpa [py, PyData.canLay0] using c) r)
  | .lst ds, _, c, ⟨a, vs, e, h, r⟩ => by rw [e]; exact .lst (s.sqL h) (dps_of s (by simpa [py, PyData.canLay0] using c) r)
  | .dK _, _, c, _ => by simp [py, PyData.canLay0] at c
  | .dT _, _, c, _ => by simp [py, PyData.canLay0] at c
  | .obj _ _, _, c, _ => by simp [py, PyData.canLay0] at c
  | .dN _ _, _, c, _ => by simp [py, PyData.canLay0] at c
theorem dps_of {K : PySem.W.Frag} {G H : Hp} (s : Sub G H) : ∀ {ds : List D} {vs : List V}, PyData.canLayAll0 (pys ds) = true → Reps G ds vs → DpAll K H vs (pys ds)
  | [], _, _, h => by rw [show _ = [] from h]; exact .nil
  | d :: r, _, c, ⟨v, vs, e, h, q⟩ => by
    rw [e]
    have c2 := c
    simp only [pys, PyData.canLayAll0, Bool.and_eq_true] at c2
    exact .cons (dp_of s c2.1 h) (dps_of s c2.2 q)
end
def deq (x y : D) : Res Bool := if SeqAt.shaped (py x) = true ∧ SeqAt.shaped (py y) = true then .ok (PyData.eqv (py x) (py y)) else .no
def g_eq (x y : D) : Res D := deq x y >>= fun b => .ok (.bl b)
def g_ne (x y : D) : Res D := deq x y >>= fun b => .ok (.bl (!b))
section
variable {X : Cx} {W : WX}
theorem say_eq : Say2 X W (rEqD X.K) g_eq := by
  intro G H σ Q x y a b s r1 r2 h
  unfold g_eq deq at h
  split at h
  · rename_i z
    exact ⟨_, _, dp_of s (SeqAt.canLay_of_shaped z.1) r1, dp_of s (SeqAt.canLay_of_shaped z.2) r2, z.1, z.2, h.bl s⟩
  · exact h.elim
theorem say_ne : Say2 X W (rNeD X.K) g_ne := by
  intro G H σ Q x y a b s r1 r2 h
  unfold g_ne deq at h
  split at h
  · rename_i z
    exact ⟨_, _, dp_of s (SeqAt.canLay_of_shaped z.1) r1, dp_of s (SeqAt.canLay_of_shaped z.2) r2, z.1, z.2, h.bl s⟩
  · exact h.elim
end
/-! ### keys and dicts -/
def keyD : D → Option Key
  | .int i => some (.inl i)
  | .str x => some (.inr x)
  | _ => none
def keysD : List D → Option (List Key)
  | [] => some []
  | x :: r => match keyD x, keysD r with
    | some k, some ks => some (k :: ks)
    | _, _ => none
theorem keyD_rep {G : Hp} {d : D} {v : V} {k : Key} (h : keyD d = some k) (r : Rep G d v) : v = kV k := by
  cases d <;> first
    | (simp [keyD] at h; done)
    | (simp only [keyD, Option.some.injEq] at h; subst h; exact r)
theorem keysD_rep {G : Hp} : ∀ {ds : List D} {vs : List V} {ks : List Key}, keysD ds = some ks → Reps G ds vs → vs = ks.map kV
  | [], _, _, h, r => by simp only [keysD, Option.some.injEq] at h; subst h; exact r
  | d :: ds, _, _, h, ⟨v, vs, e, r1, r2⟩ => by
    simp only [keysD] at h
    split at h
    · rename_i k ks h1 h2
      simp only [Option.some.injEq] at h; subst h
      rw [e, keyD_rep h1 r1, keysD_rep h2 r2]; rfl
    · cases h
section
variable {κ α : Type} [DecidableEq κ]
def getA (kvs : List (κ × α)) (k : κ) : Option α := (kvs.find? fun kv => decide (kv.1 = k)).map (·.2)
def putA (kvs : List (κ × α)) (k : κ) (v : α) : List (κ × α) := if (kvs.any fun kv => decide (kv.1 = k)) = true then kvs.map (fun kv => if kv.1 = k then (kv.1, v) else kv) else kvs ++ [(k, v)]
def dropA (kvs : List (κ × α)) (k : κ) : List (κ × α) := kvs.filter fun kv => decide (kv.1 ≠ k)
end
/-- the same keys, each value represented -/
def RepP {κ : Type} (G : Hp) : List (κ × D) → List (κ × V) → Prop
  | [], vs => vs = []
  | (k, d) :: r, vs => ∃ v s, vs = (k, v) :: s ∧ Rep G d v ∧ RepP G r s
theorem repK_iff {G : Hp} : ∀ {kvs : List (Key × D)} {ws : List (Key × V)}, RepK G kvs ws ↔ RepP G kvs ws
  | [], _ => Iff.rfl
  | (k, d) :: r, ws => by
    unfold RepK RepP
    constructor
    · rintro ⟨v, s, e, h, q⟩; exact ⟨v, s, e, h, repK_iff.mp q⟩
    · rintro ⟨v, s, e, h, q⟩; exact ⟨v, s, e, h, repK_iff.mpr q⟩
theorem repT_iff {G : Hp} : ∀ {kvs : List (List Key × D)} {ws : List (List Key × V)}, RepT G kvs ws ↔ RepP G kvs ws
  | [], _ => Iff.rfl
  | (k, d) :: r, ws => by
    unfold RepT RepP
    constructor
    · rintro ⟨v, s, e, h, q⟩; exact ⟨v, s, e, h, repT_iff.mp q⟩
    · rintro ⟨v, s, e, h, q⟩; exact ⟨v, s, e, h, repT_iff.mpr q⟩
section
variable {κ : Type} [DecidableEq κ] {G : Hp}
theorem RepP.length : ∀ {kvs : List (κ × D)} {ws : List (κ × V)}, RepP G kvs ws → ws.length = kvs.length
  | [], _, h => by rw [show _ = [] from h]; rfl
  | (k, d) :: r, _, ⟨v, s, e, h, q⟩ => by rw [e]; simp [RepP.length q]
theorem RepP.get {k : κ} : ∀ {kvs : List (κ × D)} {ws : List (κ × V)}, RepP G kvs ws → (getA kvs k = none ∧ valV ws k = none) ∨ ∃ d v, getA kvs k = some d ∧ valV ws k = some v ∧ Rep G d v
  | [], _, h => by rw [show _ = [] from h]; exact .inl ⟨rfl, rfl⟩
  | (k', d) :: r, _, ⟨v, s, e, h, q⟩ => by
    subst e
    by_cases hk : k' = k
    · exact .inr ⟨d, v, by simp [getA, hk], valV_pos hk, h⟩
    · rw [valV_neg (p := (k', v)) hk]
      have : getA ((k', d) :: r) k = getA r k := by simp [getA, List.find?_cons, hk]
      rw [this]
      exact RepP.get q
theorem RepP.append : ∀ {kvs kvs' : List (κ × D)} {ws ws' : List (κ × V)}, RepP G kvs ws → RepP G kvs' ws' → RepP G (kvs ++ kvs') (ws ++ ws')
  | [], _, _, _, h, q => by rw [show _ = [] from h]; exact q
  | (k, d) :: r, _, _, _, ⟨v, s, e, h, q⟩, q2 => ⟨v, s ++ _, by rw [e]; rfl, h, RepP.append q q2⟩
theorem RepP.map {k : κ} {d : D} {v : V} (hv : Rep G d v) : ∀ {kvs : List (κ × D)} {ws : List (κ × V)}, RepP G kvs ws →
    RepP G (kvs.map fun kv => if kv.1 = k then (kv.1, d) else kv) (ws.map fun kv => if kv.1 = k then (kv.1, v) else kv)
  | [], _, h => by rw [show _ = [] from h]; exact rfl
  | (k', d') :: r, _, ⟨v', s, e, h, q⟩ => by
    subst e
    rw [List.map_cons, List.map_cons]
    by_cases hk : k' = k
    · rw [if_pos hk, if_pos hk]; exact ⟨v, _, rfl, hv, RepP.map hv q⟩
    · rw [if_neg hk, if_neg hk]; exact ⟨v', _, rfl, h, RepP.map hv q⟩
theorem RepP.any {k : κ} : ∀ {kvs : List (κ × D)} {ws : List (κ × V)}, RepP G kvs ws → (ws.any fun kv => decide (kv.1 = k)) = (kvs.any fun kv => decide (kv.1 = k))
  | [], _, h => by rw [show _ = [] from h]; rfl
  | (k', d') :: r, _, ⟨v', s, e, h, q⟩ => by rw [e, List.any_cons, List.any_cons, RepP.any q]
theorem RepP.put {k : κ} {d : D} {v : V} (hv : Rep G d v) {kvs : List (κ × D)} {ws : List (κ × V)} (h : RepP G kvs ws) : RepP G (putA kvs k d) (putK ws k v) := by
  unfold putA putK
  rw [h.any]
  split
  · exact h.map hv
  · exact h.append ⟨v, [], rfl, hv, rfl⟩
end

/-! ### o[i] -/
def g_ix : D → D → Res D
  | .lst xs, .int i => match atI xs i with | some d => .ok d | none => .no
  | .tup xs, .int i => match atI xs i with | some d => .ok d | none => .no
  | .str z, .int i => if z.length ≤ sizeLine then (match atI z.cps.toList i with | some c => .ok (.str ⟨#[c]⟩) | none => .no) else .no
  | .dK kvs, k => match keyD k with
    | some k => (match getA kvs k with | some d => .ok d | none => .no)
    | none => .no
  | .dT kvs, .tup ks => match keysD ks with
    | some ks => (match getA kvs ks with | some d => .ok d | none => .no)
    | none => .no
  | _, _ => .no
def rIxDict : R2 := fun x y H Q => ∃ a v, x = .ref a ∧ DGet H a y (some v) ∧ Q v H
theorem Reps.atI {G : Hp} {ds : List D} {vs : List V} {i : Int} {d : D} (r : Reps G ds vs) (h : L2.atI ds i = some d) : ∃ v, L2.atI vs i = some v ∧ Rep G d v := by
  unfold L2.atI at h ⊢
  rw [r.length]
  cases e : ixN ds.length i with
  | none => rw [e] at h; cases h
  | some j =>
    rw [e] at h
    exact r.get (i := j) h
section
variable {X : Cx} {W : WX}
theorem ix_dict (hu : X.A.units + 1 < cLine) : IxR X rIxDict := by
  intro value slice pins s σ H x y v u Q I rx ry h hs
  obtain ⟨a, w, rfl, g, q⟩ := h
  cases rx
  exact tail_any (dict_typeIs I g) PySem.F.slot_dict_getitem.lookup (d_getItem hu I g ry fun w' s3 I3 rw' => ⟨w, H, I3, rw', q⟩) hs
def rIxAny (K : PySem.W.Frag) : R2 := fun x y H Q => rIxL K x y H Q ∨ rIxT K x y H Q ∨ rIxS x y H Q ∨ rIxDict x y H Q
theorem ix_any (hu : X.A.units + 1 < cLine) : IxR X (rIxAny X.K) := ix_list.or (ix_tup.or (ix_str.or (ix_dict hu)))
theorem dget_K {G H : Hp} {p : Addr} {ws : List (Key × V)} {b : V} {k : Key} (s : Sub G H) (h : Rd G p (.dK ws)) (e : b = kV k) : DGet H p b (valV ws k) := .inl ⟨ws, k, s.rd h, e, rfl⟩
theorem dget_T {G H : Hp} {p q : Addr} {ws : List (List Key × V)} {b : V} {k : List Key} (s : Sub G H) (h : Rd G p (.dT ws)) (e : b = .ref q) (hq : G q = some (.tup (k.map kV))) : DGet H p b (valV ws k) := .inr ⟨ws, k, q, s.rd h, e, s _ _ hq, rfl⟩
theorem say_ix : Say2 X W (rIxAny X.K) g_ix := by
  intro G H σ Q x y a b s r1 r2 h
  cases x with
  | lst xs =>
    cases y with
    | int i =>
      simp only [g_ix] at h
      split at h
      · rename_i d e
        obtain ⟨p, vs, rfl, h1, q1⟩ := r1
        obtain ⟨v, e2, rv⟩ := q1.atI e
        exact .inl ⟨p, vs, i, v, rfl, r2, s.sqL h1, e2, h.val s rv⟩
      · exact h.elim
    | _ => exact h.elim
  | tup xs =>
    cases y with
    | int i =>
      simp only [g_ix] at h
      split at h
      · rename_i d e
        obtain ⟨p, vs, rfl, h1, q1⟩ := r1
        obtain ⟨v, e2, rv⟩ := q1.atI e
        exact .inr (.inl ⟨p, vs, i, v, rfl, r2, s.sqT h1, e2, h.val s rv⟩)
      · exact h.elim
    | _ => exact h.elim
  | str z =>
    cases y with
    | int i =>
      simp only [g_ix] at h
      split at h
      · rename_i hz
        split at h
        · rename_i c e
          exact .inr (.inr (.inl ⟨z, i, c, r1, r2, hz, e, h.str s⟩))
        · exact h.elim
      · exact h.elim
    | _ => exact h.elim
  | dK kvs =>
    have h : GlE X.mg W G H σ Q (match keyD y with
      | some k => (match getA kvs k with | some d => .ok d | none => .no)
      | none => .no) := by cases y <;> exact h
    obtain ⟨p, ws, rfl, h1, q1⟩ := r1
    split at h
    · rename_i k e
      rcases (repK_iff.mp q1).get (k := k) with ⟨e1, _⟩ | ⟨d, v, e1, e2, rv⟩
      · rw [e1] at h; exact h.elim
      · rw [e1] at h
        exact .inr (.inr (.inr ⟨p, v, rfl, by rw [← e2]; exact dget_K s h1 (keyD_rep e r2), h.val s rv⟩))
    · exact h.elim
  | dT kvs =>
    cases y with
    | tup ks =>
      simp only [g_ix] at h
      obtain ⟨p, ws, rfl, h1, q1⟩ := r1
      obtain ⟨p2, ws2, e5, h2, q2⟩ := r2
      split at h
      · rename_i k e
        rcases (repT_iff.mp q1).get (k := k) with ⟨e1, _⟩ | ⟨d, v, e1, e2, rv⟩
        · rw [e1] at h; exact h.elim
        · rw [e1] at h
          exact .inr (.inr (.inr ⟨p, v, rfl, by rw [← e2]; exact dget_T s h1 e5 (by rw [← keysD_rep e q2]; exact h2), h.val s rv⟩))
      · exact h.elim
    | _ => exact h.elim
  | _ => exact h.elim
end
/-! ### x in y -/
def inD (x : D) : D → Res Bool
  | .lst ys => if SeqAt.shaped (py x) = true ∧ SeqAt.shaped (py (.lst ys)) = true then .ok ((pys ys).any fun z => PyData.eqv z (py x)) else .no
  | .dK kvs => match keyD x with
    | some k => .ok (getA kvs k).isSome
    | none => .no
  | .dT kvs => match x with
    | .tup ks => (match keysD ks with | some ks => .ok (getA kvs ks).isSome | none => .no)
    | _ => .no
  | .str z => match x with
    | .str c => .ok (!(Builtin.Str.occurrences z c 0 z.length 1).isEmpty)
    | _ => .no
  | _ => .no
def g_in (x y : D) : Res D := inD x y >>= fun b => .ok (.bl b)
def g_notin (x y : D) : Res D := inD x y >>= fun b => .ok (.bl (!b))
def rDIn (neg : Bool) : R2 := fun y x H Q => ∃ a o, x = .ref a ∧ DGet H a y o ∧ Q (.bl (if neg then !o.isSome else o.isSome)) H
section
variable {X : Cx} {W : WX}
theorem op_din (hu : X.A.units + 1 < cLine) : OpR X (compareOp .In) (rDIn false) := by
  intro pins s σ H x y v u Q I rx ry h
  obtain ⟨a, o, rfl, g, q⟩ := h
  cases ry
  exact d_in hu I g rx fun s3 I3 => ⟨.bl o.isSome, H, I3, rfl, q⟩
theorem op_dnotin (hu : X.A.units + 1 < cLine) : OpR X (compareOp .NotIn) (rDIn true) := by
  intro pins s σ H x y v u Q I rx ry h
  obtain ⟨a, o, rfl, g, q⟩ := h
  cases ry
  exact d_notIn hu I g rx fun s3 I3 => ⟨.bl (!o.isSome), H, I3, rfl, q⟩
def rInAny (K : PySem.W.Frag) : R2 := fun x y H Q => rInD K x y H Q ∨ rDIn false x y H Q ∨ ∃ i j, x = .str i ∧ y = .str j ∧ Q (.bl (!(Builtin.Str.occurrences j i 0 j.length 1).isEmpty)) H
def rNotInAny (K : PySem.W.Frag) : R2 := fun x y H Q => rNotInD K x y H Q ∨ rDIn true x y H Q ∨ ∃ i j, x = .str i ∧ y = .str j ∧ Q (.bl (!(!(Builtin.Str.occurrences j i 0 j.length 1).isEmpty))) H
theorem op_inAny (hu : X.A.units + 65 < cLine) : OpR X (compareOp .In) (rInAny X.K) := (op_inD hu).or ((op_din (by omega)).or op_in_str)
theorem op_notInAny (hu : X.A.units + 65 < cLine) : OpR X (compareOp .NotIn) (rNotInAny X.K) := (op_notInD hu).or ((op_dnotin (by omega)).or op_notin_str)
theorem say_in' {neg : Bool} {G H : Hp} {σ : L2.St} {Q : VK} {x y : D} {a b : V} (s : Sub G H) (r1 : Rep G x a) (r2 : Rep G y b) (h : GlE X.mg W G H σ Q (inD x y >>= fun b => .ok (.bl (if neg then !b else b)))) :
    (∃ d ds, Dp X.K H a d ∧ Dp X.K H b (.list ds) ∧ SeqAt.shaped d = true ∧ SeqAt.shaped (.list ds) = true ∧ Q (.bl (if neg then !(ds.any fun z => PyData.eqv z d) else ds.any fun z => PyData.eqv z d)) H) ∨ rDIn neg a b H Q ∨
      ∃ i j, a = .str i ∧ b = .str j ∧ Q (.bl (if neg then !(!(Builtin.Str.occurrences j i 0 j.length 1).isEmpty) else !(Builtin.Str.occurrences j i 0 j.length 1).isEmpty)) H := by
  cases y with
  | lst ys =>
    simp only [inD] at h
    split at h
    · rename_i z
      have c2 := SeqAt.canLay_of_shaped z.2
      have d2 : Dp X.K H b (py (.lst ys)) := dp_of s c2 r2
      exact .inl ⟨_, pys ys, dp_of s (SeqAt.canLay_of_shaped z.1) r1, d2, z.1, z.2, h.bl s⟩
    · exact h.elim
  | dK kvs =>
    obtain ⟨p, ws, rfl, h1, q1⟩ := r2
    simp only [inD] at h
    split at h
    · rename_i k e
      refine .inr (.inl ⟨p, _, rfl, dget_K s h1 (keyD_rep e r1), ?_⟩)
      rcases (repK_iff.mp q1).get (k := k) with ⟨e1, e2⟩ | ⟨d, v, e1, e2, rv⟩
      · rw [e1] at h; rw [e2]; exact h.bl s
      · rw [e1] at h; rw [e2]; exact h.bl s
    · exact h.elim
  | dT kvs =>
    cases x with
    | tup ks =>
      obtain ⟨p, ws, rfl, h1, q1⟩ := r2
      obtain ⟨p2, ws2, e5, h2, q2⟩ := r1
      simp only [inD] at h
      split at h
      · rename_i k e
        refine .inr (.inl ⟨p, _, rfl, dget_T s h1 e5 (by rw [← keysD_rep e q2]; exact h2), ?_⟩)
        rcases (repT_iff.mp q1).get (k := k) with ⟨e1, e2⟩ | ⟨d, v, e1, e2, rv⟩
        · rw [e1] at h; rw [e2]; exact h.bl s
        · rw [e1] at h; rw [e2]; exact h.bl s
      · exact h.elim
    | _ => exact h.elim
  | str z =>
    cases x with
    | str c => exact .inr (.inr ⟨c, z, r1, r2, h.bl s⟩)
    | _ => exact h.elim
  | _ => exact h.elim
theorem say_in : Say2 X W (rInAny X.K) g_in := fun G H σ Q x y a b s r1 r2 h => say_in' (neg := false) s r1 r2 h
theorem say_notin : Say2 X W (rNotInAny X.K) g_notin := fun G H σ Q x y a b s r1 r2 h => say_in' (neg := true) s r1 r2 h
end

/-! ### arguments, displays -/
def aNil : Env → Res (List D) := fun _ => .ok []
def aCons (f : Env → Res D) (g : Env → Res (List D)) : Env → Res (List D) := fun ρ => f ρ >>= fun x => g ρ >>= fun xs => .ok (x :: xs)
def vTup (g : Env → Res (List D)) : Env → Res D := fun ρ => g ρ >>= fun xs => if xs.length ≤ sizeLine then .ok (.tup xs) else .no
def vLst (g : Env → Res (List D)) : Env → Res D := fun ρ => g ρ >>= fun xs => if xs.length ≤ sizeLine then .ok (.lst xs) else .no
section
variable {X : Cx} {W : WX} {e : Expr} {es : List Expr} {f : Env → Res D} {g : Env → Res (List D)} {pos : Pos}
theorem da_nil : DA X W [] aNil := ⟨_, pa_nil, fun G H σ ρ Q s e h => h G H (Ext.refl s) [] rfl⟩
theorem da_cons (d1 : DE X W e f) (d2 : DA X W es g) (hs : starEach (e :: es) X.env = (false, eval e X.env) :: starEach es X.env := by rfl) : DA X W (e :: es) (aCons f g) := by
  obtain ⟨t1, p1, h1⟩ := d1
  obtain ⟨t2, p2, h2⟩ := d2
  refine ⟨_, pa_cons p1 p2 hs, fun G H σ ρ Q s e h => ?_⟩
  refine h1 G H σ ρ _ s e (Gl.imp (fun x G1 H1 _ e1 k v rv => ?_) (Gl.bind h))
  refine h2 G1 H1 σ ρ _ e1.s (e.le e1.le) (Gl.imp (fun xs G2 H2 _ e2 k vs rvs => ?_) (Gl.bind k))
  exact k G2 H2 (Ext.refl e2.s) (v :: vs) ⟨v, vs, rfl, rv.le e2.le, rvs⟩
theorem de_tup {x1} (d : DA X W es g) : DE X W (.Tuple es x1 pos) (vTup g) := by
  obtain ⟨t1, p1, h1⟩ := d
  refine ⟨_, pe_tup p1, fun G H σ ρ Q s e h => ?_⟩
  refine h1 G H σ ρ _ s e (Gl.imp (fun xs G1 H1 _ e1 k vs rvs => ?_) (Gl.bind h))
  split at k
  · rename_i z
    exact ⟨by rw [rvs.length]; exact z, fun p np => Gl.newT e1.s np rvs k⟩
  · exact k.elim
theorem de_lst (d : DA X W es g) : DE X W (.List es pos) (vLst g) := by
  obtain ⟨t1, p1, h1⟩ := d
  refine ⟨_, pe_lst p1, fun G H σ ρ Q s e h => ?_⟩
  refine h1 G H σ ρ _ s e (Gl.imp (fun xs G1 H1 _ e1 k vs rvs => ?_) (Gl.bind h))
  split at k
  · rename_i z
    exact ⟨by rw [rvs.length]; exact z, fun p np => Gl.newL e1.s np rvs k⟩
  · exact k.elim
end

/-! ### truth -/
def tNotD (f : Env → Res Bool) : Env → Res Bool := fun ρ => f ρ >>= fun b => .ok (!b)
def tAndD (f g : Env → Res Bool) : Env → Res Bool := fun ρ => f ρ >>= fun b => if b = true then g ρ else .ok false
def tOrD (f g : Env → Res Bool) : Env → Res Bool := fun ρ => f ρ >>= fun b => if b = true then .ok true else g ρ
def vAnd (f g : Env → Res D) : Env → Res D := fun ρ => f ρ >>= bOf >>= fun b => if b = true then g ρ else .ok (.bl false)
def vOr (f g : Env → Res D) : Env → Res D := fun ρ => f ρ >>= bOf >>= fun b => if b = true then .ok (.bl true) else g ρ
def vNot (f : Env → Res D) : Env → Res D := fun ρ => f ρ >>= bOf >>= fun b => .ok (.bl (!b))
def vIf (c : Env → Res Bool) (f g : Env → Res D) : Env → Res D := fun ρ => c ρ >>= fun b => if b = true then f ρ else g ρ
def DW (X : Cx) (W : WX) (e : Expr) (f : Env → Res Bool) : Prop :=
  ∃ t : TT, PW X e t ∧ ∀ (G H : Hp) (σ : L2.St) (ρ : Env) (Q : Bool → Hp → Prop), Sub G H → EnvR G σ ρ → GlT X.mg W G H σ Q (f ρ) → t σ H Q
section
variable {X : Cx} {W : WX} {a b c : Expr} {rest : List Expr} {f g : Env → Res Bool} {fe ge : Env → Res D} {pos : Pos}
theorem DW.dt (d : DW X W a f) : DT X W a f := let ⟨t, p, h⟩ := d; ⟨t, p.pt, h⟩
theorem dt_not (d : DT X W a f) : DT X W (.UnaryOp .Not a pos) (tNotD f) := by
  obtain ⟨t1, p1, h1⟩ := d
  refine ⟨_, pt_not p1, fun G H σ ρ Q s e h => ?_⟩
  exact h1 G H σ ρ _ s e (Gl.imp (fun x G1 H1 _ e1 k => k G1 H1 (Ext.refl e1.s)) (Gl.bind h))
theorem dw_and1 (d : DT X W a f) : DW X W (.BoolOp .And [a] pos) f := let ⟨t, p, h⟩ := d; ⟨t, pw_and1 p, h⟩
theorem dw_or1 (d : DT X W a f) : DW X W (.BoolOp .Or [a] pos) f := let ⟨t, p, h⟩ := d; ⟨t, pw_or1 p, h⟩
theorem dw_and (d1 : DT X W a f) (d2 : DW X W (.BoolOp .And (b :: rest) pos) g) : DW X W (.BoolOp .And (a :: b :: rest) pos) (tAndD f g) := by
  obtain ⟨t1, p1, h1⟩ := d1
  obtain ⟨t2, p2, h2⟩ := d2
  refine ⟨_, pw_and p1 p2, fun G H σ ρ Q s e h => ?_⟩
  refine h1 G H σ ρ _ s e (Gl.imp (fun x G1 H1 _ e1 k => ?_) (Gl.bind h))
  cases x with
  | true => exact h2 G1 H1 σ ρ Q e1.s (e.le e1.le) k
  | false => exact k G1 H1 (Ext.refl e1.s)
theorem dw_or (d1 : DT X W a f) (d2 : DW X W (.BoolOp .Or (b :: rest) pos) g) : DW X W (.BoolOp .Or (a :: b :: rest) pos) (tOrD f g) := by
  obtain ⟨t1, p1, h1⟩ := d1
  obtain ⟨t2, p2, h2⟩ := d2
  refine ⟨_, pw_or p1 p2, fun G H σ ρ Q s e h => ?_⟩
  refine h1 G H σ ρ _ s e (Gl.imp (fun x G1 H1 _ e1 k => ?_) (Gl.bind h))
  cases x with
  | false => exact h2 G1 H1 σ ρ Q e1.s (e.le e1.le) k
  | true => exact k G1 H1 (Ext.refl e1.s)
theorem de_one {op} (d : DE X W a fe) : DE X W (.BoolOp op [a] pos) fe := let ⟨t, p, h⟩ := d; ⟨t, pe_one p, h⟩
theorem Gl.bl2 {mg : Str → Option Value} {G H : Hp} {σ : L2.St} {x : D} {v : V} {k : Bool → Res D} {P : D → Hp → Hp → Prop} (rv : Rep G x v) (h : Gl mg W G H σ P (bOf x >>= k)) : ∃ c, v = .bl c ∧ Gl mg W G H σ P (k c) := by
  cases x with
  | bl c => exact ⟨c, rv, h⟩
  | _ => exact h.elim
theorem de_and (d1 : DE X W a fe) (d2 : DE X W (.BoolOp .And (b :: rest) pos) ge) : DE X W (.BoolOp .And (a :: b :: rest) pos) (vAnd fe ge) := by
  obtain ⟨t1, p1, h1⟩ := d1
  obtain ⟨t2, p2, h2⟩ := d2
  refine ⟨_, pe_and p1 p2, fun G H σ ρ Q s e h => ?_⟩
  have h' : GlE X.mg W G H σ Q (fe ρ >>= fun x => bOf x >>= fun b => if b = true then ge ρ else .ok (.bl false)) := by
    unfold vAnd at h
    cases q : fe ρ <;> rw [q] at h <;> exact h
  refine h1 G H σ ρ _ s e (Gl.imp (fun x G1 H1 _ e1 k v rv => ?_) (Gl.bind h'))
  obtain ⟨c, ec, k⟩ := Gl.bl2 rv k
  refine ⟨c, ec, ?_⟩
  cases c with
  | true => exact h2 G1 H1 σ ρ Q e1.s (e.le e1.le) k
  | false => exact Gl.bl e1.s k
theorem de_or (d1 : DE X W a fe) (d2 : DE X W (.BoolOp .Or (b :: rest) pos) ge) : DE X W (.BoolOp .Or (a :: b :: rest) pos) (vOr fe ge) := by
  obtain ⟨t1, p1, h1⟩ := d1
  obtain ⟨t2, p2, h2⟩ := d2
  refine ⟨_, pe_or p1 p2, fun G H σ ρ Q s e h => ?_⟩
  have h' : GlE X.mg W G H σ Q (fe ρ >>= fun x => bOf x >>= fun b => if b = true then .ok (.bl true) else ge ρ) := by
    unfold vOr at h
    cases q : fe ρ <;> rw [q] at h <;> exact h
  refine h1 G H σ ρ _ s e (Gl.imp (fun x G1 H1 _ e1 k v rv => ?_) (Gl.bind h'))
  obtain ⟨c, ec, k⟩ := Gl.bl2 rv k
  refine ⟨c, ec, ?_⟩
  cases c with
  | false => exact h2 G1 H1 σ ρ Q e1.s (e.le e1.le) k
  | true => exact Gl.bl e1.s k
theorem de_not (d1 : DE X W a fe) : DE X W (.UnaryOp .Not a pos) (vNot fe) := by
  obtain ⟨t1, p1, h1⟩ := d1
  refine ⟨_, pe_not p1, fun G H σ ρ Q s e h => ?_⟩
  have h' : GlE X.mg W G H σ Q (fe ρ >>= fun x => bOf x >>= fun b => .ok (.bl (!b))) := by
    unfold vNot at h
    cases q : fe ρ <;> rw [q] at h <;> exact h
  refine h1 G H σ ρ _ s e (Gl.imp (fun x G1 H1 _ e1 k v rv => ?_) (Gl.bind h'))
  obtain ⟨c, ec, k⟩ := Gl.bl2 rv k
  exact ⟨c, ec, Gl.bl e1.s k⟩
theorem de_if (d0 : DT X W c f) (d1 : DE X W a fe) (d2 : DE X W b ge) : DE X W (.IfExp c a b pos) (vIf f fe ge) := by
  obtain ⟨t0, p0, h0⟩ := d0
  obtain ⟨t1, p1, h1⟩ := d1
  obtain ⟨t2, p2, h2⟩ := d2
  refine ⟨_, pe_ifExp p0 p1 p2, fun G H σ ρ Q s e h => ?_⟩
  refine h0 G H σ ρ _ s e (Gl.imp (fun x G1 H1 _ e1 k => ?_) (Gl.bind h))
  cases x with
  | true => exact h1 G1 H1 σ ρ Q e1.s (e.le e1.le) k
  | false => exact h2 G1 H1 σ ρ Q e1.s (e.le e1.le) k
end
end DL

/-! DL3: calls of built-ins, slices, d.get. -/
namespace DL
open PySem PySem.Spec PyProof.Rows L2

/-! ### calls of built-ins -/
def SayC (X : Cx) (W : WX) (r : List V → Hp → VK → Prop) (g : List D → Res D) : Prop :=
  ∀ (G H : Hp) (σ : L2.St) (Q : VK) (ds : List D) (vs : List V), Sub G H → Reps G ds vs → GlE X.mg W G H σ Q (g ds) → r vs H Q
def vCall (g : List D → Res D) (f : Env → Res (List D)) : Env → Res D := fun ρ => f ρ >>= g
section
variable {X : Cx} {W : WX} {e : Expr} {es : List Expr} {f : Env → Res (List D)} {g : List D → Res D} {r : List V → Hp → VK → Prop} {x : Str} {p pos : Pos}
theorem say_call {t : TA} (sy : SayC X W r g) (h1 : ∀ (G H : Hp) (σ : L2.St) (ρ : Env) (Q : List V → Hp → Prop), Sub G H → EnvR G σ ρ → GlA X.mg W G H σ Q (f ρ) → t σ H Q)
    (G H : Hp) (σ : L2.St) (ρ : Env) (Q : VK) (s : Sub G H) (e : EnvR G σ ρ) (h : GlE X.mg W G H σ Q (vCall g f ρ)) : tCB r t σ H Q := by
  refine h1 G H σ ρ _ s e (Gl.imp (fun ds G1 H1 _ e1 k vs rv => ?_) (Gl.bind h))
  exact sy G1 H1 σ Q ds vs e1.s rv k
theorem de_callB {id : String} (hc : CallR X (.builtin id) r) (sy : SayC X W r g) (hg : L2.Gl X x) (hm : X.mg x = none) (hv : bootBuiltins x = some (.builtin id)) (d : DA X W (e :: es) f) (hn : x ≠ "__name__" := by decide) (hdb : (x == ("__debug__" : Str)) = false := by decide)
    (he : starEach (e :: es) X.env = (false, eval e X.env) :: starEach es X.env := by rfl) (hpl : (backTo pos (starEach es X.env)).any (·.1) = false := by rfl) : DE X W (.Call (.Name x p) (e :: es) [] pos) (vCall g f) := by
  obtain ⟨t, pa, h1⟩ := d
  exact ⟨_, pe_callB hc hg hm hv pa hn hdb he hpl, say_call sy h1⟩
theorem de_callTy {T : String} (hc : CallR X (.type T) r) (sy : SayC X W r g) (hg : L2.Gl X x) (hm : X.mg x = none) (hv : bootBuiltins x = some (.type T)) (d : DA X W (e :: es) f) (hn : x ≠ "__name__" := by decide) (hdb : (x == ("__debug__" : Str)) = false := by decide)
    (he : starEach (e :: es) X.env = (false, eval e X.env) :: starEach es X.env := by rfl) (hpl : (backTo pos (starEach es X.env)).any (·.1) = false := by rfl) : DE X W (.Call (.Name x p) (e :: es) [] pos) (vCall g f) := by
  obtain ⟨t, pa, h1⟩ := d
  exact ⟨_, pe_callTy hc hg hm hv pa hn hdb he hpl, say_call sy h1⟩
end
def c_len : List D → Res D
  | [.str x] => if x.length ≤ sizeLine then .ok (.int x.length) else .no
  | [.lst xs] => .ok (.int xs.length)
  | [.tup xs] => .ok (.int xs.length)
  | _ => .no
def c_list : List D → Res D
  | [.lst xs] => .ok (.lst xs)
  | [.tup xs] => .ok (.lst xs)
  | _ => .no
def c_tuple : List D → Res D
  | [.lst xs] => .ok (.tup xs)
  | [.tup xs] => .ok (.tup xs)
  | _ => .no
def boolsOf : List D → Option (List Bool)
  | [] => some []
  | .bl b :: r => match boolsOf r with | some bs => some (b :: bs) | none => none
  | _ :: _ => none
def intsOf : List D → Option (List Int)
  | [] => some []
  | .int b :: r => match intsOf r with | some bs => some (b :: bs) | none => none
  | _ :: _ => none
def c_all : List D → Res D
  | [.lst xs] => match boolsOf xs with | some bs => .ok (.bl (bs.all id)) | none => .no
  | _ => .no
def c_any : List D → Res D
  | [.lst xs] => match boolsOf xs with | some bs => .ok (.bl (bs.any id)) | none => .no
  | _ => .no
def c_sum : List D → Res D
  | [.lst xs] => match intsOf xs with | some bs => .ok (.int bs.sum) | none => .no
  | _ => .no
def c_max2 : List D → Res D
  | [.int i, .int j] => .ok (.int (if j > i then j else i))
  | _ => .no
def c_min2 : List D → Res D
  | [.int i, .int j] => .ok (.int (if j < i then j else i))
  | _ => .no
def c_int : List D → Res D
  | [.int i] => .ok (.int i)
  | [.bl k] => .ok (.int (if k then 1 else 0))
  | _ => .no
instance (i j : Int) : Decidable (CDiv i j) := inferInstanceAs (Decidable (_ ∧ _))
def c_divmod : List D → Res D
  | [.int i, .int j] => if CDiv i j then .ok (.tup [.int (i / j), .int (i % j)]) else .no
  | _ => .no
theorem bools_rep {G : Hp} : ∀ {ds : List D} {vs : List V} {bs : List Bool}, boolsOf ds = some bs → Reps G ds vs → vs = bs.map V.bl
  | [], _, _, h, r => by simp only [boolsOf, Option.some.injEq] at h; subst h; exact r
  | d :: ds, _, _, h, ⟨v, vs, e, r1, r2⟩ => by
    cases d with
    | bl b =>
      simp only [boolsOf] at h
      split at h
      · rename_i bs q
        simp only [Option.some.injEq] at h; subst h
        have e2 : v = .bl b := r1
        rw [e, e2, bools_rep q r2]; rfl
      · cases h
    | _ => simp [boolsOf] at h
theorem ints_rep {G : Hp} : ∀ {ds : List D} {vs : List V} {bs : List Int}, intsOf ds = some bs → Reps G ds vs → vs = bs.map V.int
  | [], _, _, h, r => by simp only [intsOf, Option.some.injEq] at h; subst h; exact r
  | d :: ds, _, _, h, ⟨v, vs, e, r1, r2⟩ => by
    cases d with
    | int b =>
      simp only [intsOf] at h
      split at h
      · rename_i bs q
        simp only [Option.some.injEq] at h; subst h
        have e2 : v = .int b := r1
        rw [e, e2, ints_rep q r2]; rfl
      · cases h
    | _ => simp [intsOf] at h
section
variable {X : Cx} {W : WX}
theorem say_len : SayC X W (fun xs H Q => ∃ x n, xs = [x] ∧ LenV X.K x H n ∧ Q (.int n) H) c_len := by
  intro G H σ Q ds vs s r h
  unfold c_len at h
  split at h
  · rename_i x
    obtain ⟨v, _, e, r1, e2⟩ := r
    have e3 : v = .str x := r1
    have e4 : _ = [] := e2
    subst e3 e4
    split at h
    · rename_i z
      exact ⟨_, x.length, e, ⟨z, rfl⟩, h.int s⟩
    · exact h.elim
  · rename_i xs
    obtain ⟨v, _, e, ⟨p, ws, ep, h1, q1⟩, e2⟩ := r
    have e4 : _ = [] := e2
    subst ep e4
    exact ⟨_, xs.length, e, .inl ⟨ws, s.sqL h1, q1.length.symm⟩, h.int s⟩
  · rename_i xs
    obtain ⟨v, _, e, ⟨p, ws, ep, h1, q1⟩, e2⟩ := r
    have e4 : _ = [] := e2
    subst ep e4
    exact ⟨_, xs.length, e, .inr ⟨ws, s.sqT h1, q1.length.symm⟩, h.int s⟩
  · exact h.elim
theorem say_list : SayC X W (fun xs H Q => ∃ p ys, xs = [.ref p] ∧ (SqL X.K H p ys ∨ SqT X.K H p ys) ∧ ∀ l, H l = none → Q (.ref l) (upd H l (.lst ys))) c_list := by
  intro G H σ Q ds vs s r h
  unfold c_list at h
  split at h
  · obtain ⟨v, _, e, ⟨p, ws, ep, h1, q1⟩, e2⟩ := r
    have e4 : _ = [] := e2
    subst ep e4
    exact ⟨p, ws, e, .inl (s.sqL h1), fun l nl => h.newL s nl q1⟩
  · obtain ⟨v, _, e, ⟨p, ws, ep, h1, q1⟩, e2⟩ := r
    have e4 : _ = [] := e2
    subst ep e4
    exact ⟨p, ws, e, .inr (s.sqT h1), fun l nl => h.newL s nl q1⟩
  · exact h.elim
theorem say_tuple : SayC X W (fun xs H Q => ∃ p ys, xs = [.ref p] ∧ ((SqL X.K H p ys ∧ ∀ l, H l = none → Q (.ref l) (upd H l (.tup ys))) ∨ (SqT X.K H p ys ∧ Q (.ref p) H))) c_tuple := by
  intro G H σ Q ds vs s r h
  unfold c_tuple at h
  split at h
  · obtain ⟨v, _, e, ⟨p, ws, ep, h1, q1⟩, e2⟩ := r
    have e4 : _ = [] := e2
    subst ep e4
    exact ⟨p, ws, e, .inl ⟨s.sqL h1, fun l nl => h.newT s nl q1⟩⟩
  · rename_i xs
    obtain ⟨v, _, e, ⟨p, ws, ep, h1, q1⟩, e2⟩ := r
    have e4 : _ = [] := e2
    subst ep e4
    exact ⟨p, ws, e, .inr ⟨s.sqT h1, h.val (d := .tup xs) s ⟨p, ws, rfl, h1, q1⟩⟩⟩
  · exact h.elim
theorem say_all : SayC X W (rAll X.K) c_all := by
  intro G H σ Q ds vs s r h
  unfold c_all at h
  split at h
  · obtain ⟨v, _, e, ⟨p, ws, ep, h1, q1⟩, e2⟩ := r
    have e4 : _ = [] := e2
    subst ep e4
    split at h
    · rename_i bs q
      exact ⟨p, bs, e, by rw [← bools_rep q q1]; exact s.sqL h1, h.bl s⟩
    · exact h.elim
  · exact h.elim
theorem say_any : SayC X W (rAny X.K) c_any := by
  intro G H σ Q ds vs s r h
  unfold c_any at h
  split at h
  · obtain ⟨v, _, e, ⟨p, ws, ep, h1, q1⟩, e2⟩ := r
    have e4 : _ = [] := e2
    subst ep e4
    split at h
    · rename_i bs q
      exact ⟨p, bs, e, by rw [← bools_rep q q1]; exact s.sqL h1, h.bl s⟩
    · exact h.elim
  · exact h.elim
theorem say_sum : SayC X W (rSum X.K) c_sum := by
  intro G H σ Q ds vs s r h
  unfold c_sum at h
  split at h
  · obtain ⟨v, _, e, ⟨p, ws, ep, h1, q1⟩, e2⟩ := r
    have e4 : _ = [] := e2
    subst ep e4
    split at h
    · rename_i bs q
      exact ⟨p, bs, e, by rw [← ints_rep q q1]; exact s.sqL h1, h.int s⟩
    · exact h.elim
  · exact h.elim
theorem two_of {G : Hp} {vs : List V} {i j : Int} (r : Reps G [.int i, .int j] vs) : vs = [.int i, .int j] := by
  obtain ⟨v, _, e, r1, v2, _, e2, r2, e3⟩ := r
  have h1 : v = .int i := r1
  have h2 : v2 = .int j := r2
  have h3 : _ = [] := e3
  subst h1 h2 h3 e2
  exact e
theorem say_max2 : SayC X W (fun xs H Q => ∃ i j, xs = [.int i, .int j] ∧ Q (.int (if j > i then j else i)) H) c_max2 := by
  intro G H σ Q ds vs s r h
  unfold c_max2 at h
  split at h
  · exact ⟨_, _, two_of r, h.int s⟩
  · exact h.elim
theorem say_min2 : SayC X W (fun xs H Q => ∃ i j, xs = [.int i, .int j] ∧ Q (.int (if j < i then j else i)) H) c_min2 := by
  intro G H σ Q ds vs s r h
  unfold c_min2 at h
  split at h
  · exact ⟨_, _, two_of r, h.int s⟩
  · exact h.elim
theorem say_int : SayC X W (fun xs H Q => (∃ i, xs = [.int i] ∧ Q (.int i) H) ∨ ∃ k, xs = [.bl k] ∧ Q (.int (if k then 1 else 0)) H) c_int := by
  intro G H σ Q ds vs s r h
  unfold c_int at h
  split at h
  · rename_i i
    obtain ⟨v, _, e, r1, e2⟩ := r
    have h1 : v = .int i := r1
    have e4 : _ = [] := e2
    subst h1 e4
    exact .inl ⟨i, e, h.int s⟩
  · rename_i i
    obtain ⟨v, _, e, r1, e2⟩ := r
    have h1 : v = .bl i := r1
    have e4 : _ = [] := e2
    subst h1 e4
    exact .inr ⟨i, e, h.int s⟩
  · exact h.elim
theorem say_divmod : SayC X W (fun xs H Q => ∃ i j, xs = [.int i, .int j] ∧ CDiv i j ∧ ∀ p, H p = none → Q (.ref p) (upd H p (.tup [.int (i / j), .int (i % j)]))) c_divmod := by
  intro G H σ Q ds vs s r h
  unfold c_divmod at h
  split at h
  · split at h
    · rename_i z
      exact ⟨_, _, two_of r, z, fun p np => by refine h.newT s np ?_; exact ⟨_, _, rfl, rfl, _, _, rfl, rfl, rfl⟩⟩
    · exact h.elim
  · exact h.elim
end

/-! ### isinstance(x, a built-in type) -/
def tyD : D → String
  | .non => "NoneType"
  | .bl _ => "bool"
  | .int _ => "int"
  | .str _ => "str"
  | .tup _ => "tuple"
  | .lst _ => "list"
  | .dK _ => "dict"
  | .dT _ => "dict"
  | .obj _ _ => ""
  | .dN _ _ => ""
def kitI (d : D) (n : String) : Option Bool := match d with
  | .obj _ _ => none
  | .dN _ _ => none
  | _ => kitB (tyD d) n
theorem kitI_some {d : D} {n : String} {b : Bool} (h : kitI d n = some b) : kitB (tyD d) n = some b ∧ tyD d ≠ "" := by
  cases d with
  | obj C fs => cases h
  | dN w kvs => cases h
  | _ => exact ⟨h, by simp [tyD]⟩
def g_isi (n : String) (d : D) : Res D := match kitI d n with
  | some b => .ok (.bl b)
  | none => .no
theorem kitD {X : Cx} {pins : List (Addr × Obj)} {σ : L2.St} {H G : Hp} {s : Shared} {d : D} {x : V} {u : Value} (I : Inv X pins σ H s) (sb : Sub G H) (rx : RelV x u) (r : Rep G d x) (hb : tyD d ≠ "") :
    ∃ P : Heap → Prop, PySem.W.KitX X.K u (.type (tyD d)) P ∧ P s.heap ∧ u ≠ .builtin "__main__.__loader__#opaque" := by
  cases d with
  | non => subst r; cases (show u = Value.none from rx); exact ⟨_, PySem.W.kitx_none, True.intro, fun z => nomatch z⟩
  | bl y => subst r; cases (show u = Value.bool y from rx); exact ⟨_, PySem.W.kitx_bool, True.intro, fun z => nomatch z⟩
  | int i => subst r; obtain ⟨t, q⟩ := (show ∃ t, u = Value.int i t from rx); cases q; exact ⟨_, PySem.W.kitx_int, True.intro, fun z => nomatch z⟩
  | str y => subst r; obtain ⟨t, q⟩ := (show ∃ t, u = Value.str y t from rx); cases q; exact ⟨_, PySem.W.kitx_str, True.intro, fun z => nomatch z⟩
  | tup ds =>
    obtain ⟨a, vs, rfl, h1, _⟩ := r
    cases (show u = Value.ref a from rx)
    obtain ⟨_, _, _, o, h1, h2, _⟩ := (show ObjOk X.prog X.w H s.heap a (.tup vs) from I.hok a _ (sb _ _ h1))
    exact ⟨_, PySem.W.kitx_tuple, ⟨o, h1, h2⟩, fun z => nomatch z⟩
  | lst ds =>
    obtain ⟨a, vs, rfl, h1, _⟩ := r
    cases (show u = Value.ref a from rx)
    obtain ⟨_, _, n, _, h1⟩ := (show ObjOk X.prog X.w H s.heap a (.lst vs) from (sb.rd h1).ok I.hok)
    exact ⟨_, PySem.W.kitx_list, ⟨_, h1, rfl⟩, fun z => nomatch z⟩
  | dK ds =>
    obtain ⟨a, vs, rfl, h1, _⟩ := r
    cases (show u = Value.ref a from rx)
    obtain ⟨_, _, _, _, o, es, ep, h1, h2, _⟩ := (show ObjOk X.prog X.w H s.heap a (.dK vs) from (sb.rd h1).ok I.hok)
    exact ⟨_, PySem.W.kitx_dict, ⟨o, h1, h2.1⟩, fun z => nomatch z⟩
  | dT ds =>
    obtain ⟨a, vs, rfl, h1, _⟩ := r
    cases (show u = Value.ref a from rx)
    obtain ⟨_, _, _, _, o, es, ep, h1, h2, _⟩ := (show ObjOk X.prog X.w H s.heap a (.dT vs) from (sb.rd h1).ok I.hok)
    exact ⟨_, PySem.W.kitx_dict, ⟨o, h1, h2.1⟩, fun z => nomatch z⟩
  | obj C fs => exact absurd rfl hb
  | dN w kvs => exact absurd rfl hb
def rIsiD (n : String) : List V → Hp → VK → Prop := fun xs H Q => ∃ G d x b, Sub G H ∧ xs = [x, .ty n] ∧ Rep G d x ∧ kitI d n = some b ∧ Q (.bl b) H
section
variable {X : Cx} {W : WX} {e1 e2 : Expr} {f1 : Env → Res D} {x y : Str} {p py' pos : Pos}
theorem call_isiD {n : String} : CallR X (.builtin "isinstance") (rIsiD n) := by
  intro pins s σ H xs us Q I r h
  obtain ⟨G, d, x, b, sb, rfl, rp, e, q⟩ := h
  obtain ⟨u1, u2, rfl, r1, r2⟩ := vals2 r
  cases (show u2 = Value.type n from r2)
  obtain ⟨e, hty⟩ := kitI_some e
  obtain ⟨P, Z, p, hx⟩ := kitD I sb r1 rp hty
  exact PySem.W.kia_one Z I.kIn p (kit_ty e) hx fun tk => ⟨.bl b, H, I.tok tk, rfl, q⟩
theorem de_isi {n : String} (d1 : DE X W e1 f1) (hg : L2.Gl X "isinstance") (hm : X.mg "isinstance" = none) (hg2 : L2.Gl X y) (hm2 : X.mg y = none) (hv2 : bootBuiltins y = some (.type n))
    (hn2 : y ≠ "__name__" := by decide) (hd2 : (y == ("__debug__" : Str)) = false := by decide)
    (he : starEach (e1 :: [.Name y py']) X.env = (false, eval e1 X.env) :: starEach [.Name y py'] X.env := by rfl) (he2 : starEach [.Name y py'] X.env = (false, eval (.Name y py') X.env) :: starEach [] X.env := by rfl) (hpl : (backTo pos (starEach [.Name y py'] X.env)).any (·.1) = false := by rfl) :
    DE X W (.Call (.Name "isinstance" p) [e1, .Name y py'] [] pos) (v1 (g_isi n) f1) := by
  obtain ⟨t1, p1, h1⟩ := d1
  refine ⟨_, pe_callB (call_isiD (n := n)) hg hm (by decide +kernel) (pa_cons p1 (pa_cons (pe_bltn (v := .ty n) hg2 hm2 hv2 rfl hn2 hd2) pa_nil he2) he) (by decide) (by decide) he hpl, fun G H σ ρ Q s e h => ?_⟩
  refine h1 G H σ ρ _ s e (Gl.imp (fun d G1 H1 _ e1 k v rv => ?_) (Gl.bind h))
  unfold g_isi at k
  split at k
  · rename_i b q
    exact ⟨G1, d, v, b, e1.s, rfl, rv, q, k.bl e1.s⟩
  · exact k.elim
end

/-! ### slices -/
abbrev GlO (mg : Str → Option Value) (W : WX) (G H : Hp) (σ : L2.St) (Q : Option Int → Hp → Prop) : Res (Option Int) → Prop := Gl mg W G H σ fun o _ H' => Q o H'
def DO (X : Cx) (W : WX) (o : Option Expr) (f : Env → Res (Option Int)) : Prop :=
  ∃ t : TO, PO X o t ∧ ∀ (G H : Hp) (σ : L2.St) (ρ : Env) (Q : Option Int → Hp → Prop), Sub G H → EnvR G σ ρ → GlO X.mg W G H σ Q (f ρ) → t σ H Q
def oNone : Env → Res (Option Int) := fun _ => .ok none
def iOf : D → Res (Option Int)
  | .int i => .ok (some i)
  | _ => .no
def oSome (f : Env → Res D) : Env → Res (Option Int) := fun ρ => f ρ >>= iOf
def cutA {α : Type} (xs : List α) (lo hi : Option Int) : List α := (xs.drop (HT.sIx xs.length 0 lo)).take (HT.sIx xs.length xs.length hi - HT.sIx xs.length 0 lo)
def g_sl : D → Option Int → Option Int → Res D
  | .lst xs, lo, hi => .ok (.lst (cutA xs lo hi))
  | .tup xs, lo, hi => .ok (.tup (cutA xs lo hi))
  | .str z, lo, hi => if z.length ≤ sizeLine then .ok (.str (cutS z lo hi)) else .no
  | _, _, _ => .no
def vSl (f : Env → Res D) (lo hi : Env → Res (Option Int)) : Env → Res D := fun ρ => f ρ >>= fun x => lo ρ >>= fun l => hi ρ >>= fun u => g_sl x l u
def rSlAny (K : PySem.W.Frag) : V → Option Int → Option Int → Hp → VK → Prop := fun x lo hi H Q => rSlL K x lo hi H Q ∨ rSlA K x lo hi H Q ∨ rSlS x lo hi H Q
theorem Reps.cut {G : Hp} {ds : List D} {vs : List V} (r : Reps G ds vs) (lo hi : Option Int) : Reps G (cutA ds lo hi) (cutV vs lo hi) := by
  unfold cutA cutV
  rw [r.length]
  exact (r.drop _).take _
section
variable {X : Cx} {W : WX} {e e1 : Expr} {f : Env → Res D} {lo hi : Option Expr} {fl fh : Env → Res (Option Int)} {p2 pos : Pos}
theorem do_none : DO X W none oNone := ⟨_, po_none, fun G H σ ρ Q s e h => h G H (Ext.refl s)⟩
theorem do_some (d : DE X W e f) : DO X W (some e) (oSome f) := by
  obtain ⟨t1, p1, h1⟩ := d
  refine ⟨_, po_some p1, fun G H σ ρ Q s e h => ?_⟩
  refine h1 G H σ ρ _ s e (Gl.imp (fun x G1 H1 _ e1 k v rv => ?_) (Gl.bind h))
  cases x with
  | int i => exact ⟨i, rv, k G1 H1 (Ext.refl e1.s)⟩
  | _ => exact k.elim
theorem de_sl (d : DE X W e f) (dl : DO X W lo fl) (dh : DO X W hi fh) : DE X W (.Subscript e (.Slice lo hi none p2) pos) (vSl f fl fh) := by
  obtain ⟨t1, p1, h1⟩ := d
  obtain ⟨t2, p2, h2⟩ := dl
  obtain ⟨t3, p3, h3⟩ := dh
  refine ⟨_, pe_slice (sl_list.or (sl_tupA.or sl_str)) p1 p2 p3, fun G H σ ρ Q s e h => ?_⟩
  refine h1 G H σ ρ _ s e (Gl.imp (fun x G1 H1 _ e1 k v rv => ?_) (Gl.bind h))
  refine h2 G1 H1 σ ρ _ e1.s (e.le e1.le) (Gl.imp (fun l G2 H2 _ e2 k => ?_) (Gl.bind k))
  refine h3 G2 H2 σ ρ _ e2.s ((e.le e1.le).le e2.le) (Gl.imp (fun u G3 H3 _ e3 k => ?_) (Gl.bind k))
  have rv := (rv.le e2.le).le e3.le
  cases x with
  | lst xs =>
    obtain ⟨a, vs, rfl, h, q⟩ := rv
    exact .inl ⟨a, vs, rfl, e3.s.sqL h, fun p np => Gl.newL e3.s np (q.cut l u) k⟩
  | tup xs =>
    obtain ⟨a, vs, rfl, h, q⟩ := rv
    refine .inr (.inl ⟨a, vs, rfl, e3.s.sqT h, fun z => ?_, fun _ p np => Gl.newT e3.s np (q.cut l u) k⟩)
    have e4 : cutV vs l u = vs := by unfold cutV; rw [z.1, z.2]; simp
    exact Gl.val (d := .tup (cutA xs l u)) e3.s ⟨a, vs, rfl, h, by have := q.cut l u; rw [e4] at this; exact this⟩ k
  | str z =>
    simp only [g_sl] at k
    split at k
    · rename_i hz
      exact .inr (.inr ⟨z, rv, hz, Gl.str e3.s k⟩)
    · exact k.elim
  | _ => exact k.elim
end

/-! ### d.get(k, x), d.get(k) -/
def getD? : D → D → Res (Option D)
  | .dK kvs, k => match keyD k with
    | some k => .ok (getA kvs k)
    | none => .no
  | .dT kvs, .tup ks => match keysD ks with
    | some ks => .ok (getA kvs ks)
    | none => .no
  | _, _ => .no
def vGet2 (f g h : Env → Res D) : Env → Res D := fun ρ => f ρ >>= fun d => g ρ >>= fun k => h ρ >>= fun x => getD? d k >>= fun o => .ok (o.getD x)
def vGet1 (f g : Env → Res D) : Env → Res D := fun ρ => f ρ >>= fun d => g ρ >>= fun k => getD? d k >>= fun o => .ok (o.getD .non)
theorem getD_rep {mg : Str → Option Value} {W : WX} {G H : Hp} {σ : L2.St} {x y : D} {a b : V} {α : Type} {P : α → Hp → Hp → Prop} {k : Option D → Res α} (s : Sub G H) (r1 : Rep G x a) (r2 : Rep G y b) (h : Gl mg W G H σ P (getD? x y >>= k)) :
    ∃ p o o', a = .ref p ∧ IsD H p ∧ DGet H p b o' ∧ ((o = none ∧ o' = none) ∨ ∃ d v, o = some d ∧ o' = some v ∧ Rep G d v) ∧ Gl mg W G H σ P (k o) := by
  cases x with
  | dK kvs =>
    have e0 : getD? (.dK kvs) y = (match keyD y with | some k => .ok (getA kvs k) | none => .no) := by cases y <;> rfl
    rw [e0] at h
    obtain ⟨p, ws, rfl, h1, q1⟩ := r1
    split at h
    · rename_i k' e
      refine ⟨p, getA kvs k', valV ws k', rfl, .inl ⟨ws, s.rd h1⟩, dget_K s h1 (keyD_rep e r2), ?_, h⟩
      rcases (repK_iff.mp q1).get (k := k') with q | ⟨d, v, e1, e2, rv⟩
      · exact .inl q
      · exact .inr ⟨d, v, e1, e2, rv⟩
    · exact h.elim
  | dT kvs =>
    cases y with
    | tup ks =>
      simp only [getD?] at h
      obtain ⟨p, ws, rfl, h1, q1⟩ := r1
      obtain ⟨p2, ws2, e5, h2, q2⟩ := r2
      split at h
      · rename_i k' e
        refine ⟨p, getA kvs k', valV ws k', rfl, .inr ⟨ws, s.rd h1⟩, dget_T s h1 e5 (by rw [← keysD_rep e q2]; exact h2), ?_, h⟩
        rcases (repT_iff.mp q1).get (k := k') with q | ⟨d, v, e1, e2, rv⟩
        · exact .inl q
        · exact .inr ⟨d, v, e1, e2, rv⟩
      · exact h.elim
    | _ => exact h.elim
  | _ => exact h.elim
theorem isD_of {G H : Hp} {x y : D} {a : V} (s : Sub G H) (r1 : Rep G x a) (h : getD? x y ≠ .no) : ∃ p, a = .ref p ∧ IsD H p := by
  cases x with
  | dK kvs => obtain ⟨p, ws, rfl, h1, q1⟩ := r1; exact ⟨p, rfl, .inl ⟨ws, s.rd h1⟩⟩
  | dT kvs => obtain ⟨p, ws, rfl, h1, q1⟩ := r1; exact ⟨p, rfl, .inr ⟨ws, s.rd h1⟩⟩
  | _ => exact absurd rfl h
def isDic : D → Bool
  | .dK _ => true
  | .dT _ => true
  | _ => false
def dicOf (x : D) : Res D := if isDic x = true then .ok x else .no
def vDic (f : Env → Res D) : Env → Res D := fun ρ => f ρ >>= dicOf
theorem isD_dic {G H : Hp} {x : D} {a : V} (s : Sub G H) (r1 : Rep G x a) (h : isDic x = true) : ∃ p, a = .ref p ∧ IsD H p := by
  cases x with
  | dK kvs => obtain ⟨p, ws, rfl, h1, q1⟩ := r1; exact ⟨p, rfl, .inl ⟨ws, s.rd h1⟩⟩
  | dT kvs => obtain ⟨p, ws, rfl, h1, q1⟩ := r1; exact ⟨p, rfl, .inr ⟨ws, s.rd h1⟩⟩
  | _ => cases h
section
variable {X : Cx} {W : WX} {o e e2 : Expr} {f g h : Env → Res D} {apos cpos : Pos}
theorem de_get2 (hu : X.A.units + 1 < cLine) (d1 : DE X W o f) (d2 : DE X W e g) (d3 : DE X W e2 h) (m : M2 X o "get" apos e e2 cpos) : DE X W (.Call (.Attribute o "get" apos) [e, e2] [] cpos) (vGet2 (vDic f) g h) := by
  obtain ⟨t1, p1, h1⟩ := d1
  obtain ⟨t2, p2, h2⟩ := d2
  obtain ⟨t3, p3, h3⟩ := d3
  refine ⟨_, pe_dget2 hu p1 p2 p3 m, fun G H σ ρ Q s e hh => ?_⟩
  have hh' : GlE X.mg W G H σ Q (f ρ >>= fun d => dicOf d >>= fun d => g ρ >>= fun k => h ρ >>= fun x => getD? d k >>= fun o => .ok (o.getD x)) := by
    unfold vGet2 vDic at hh
    cases q : f ρ <;> rw [q] at hh <;> exact hh
  refine h1 G H σ ρ _ s e (Gl.imp (fun x G1 H1 _ e1 k v rv => ?_) (Gl.bind hh'))
  unfold dicOf at k
  split at k
  · rename_i hd
    obtain ⟨p, rfl, hp⟩ := isD_dic e1.s rv hd
    refine ⟨p, rfl, hp, ?_⟩
    refine h2 G1 H1 σ ρ _ e1.s (e.le e1.le) (Gl.imp (fun y G2 H2 _ e2 k w rw' => ?_) (Gl.bind k))
    refine h3 G2 H2 σ ρ _ e2.s ((e.le e1.le).le e2.le) (Gl.imp (fun z G3 H3 _ e3 k u ru => ?_) (Gl.bind k))
    obtain ⟨p', o, o', ep, _, hg, cs, k⟩ := getD_rep e3.s ((rv.le e2.le).le e3.le) (rw'.le e3.le) k
    cases ep
    refine ⟨o', hg, ?_⟩
    rcases cs with ⟨rfl, rfl⟩ | ⟨d, v, rfl, rfl, rd⟩
    · exact Gl.val e3.s ru k
    · exact Gl.val e3.s rd k
  · exact k.elim
theorem de_get1 (hu : X.A.units + 1 < cLine) (d1 : DE X W o f) (d2 : DE X W e g) (m : M1 X o "get" apos e cpos) : DE X W (.Call (.Attribute o "get" apos) [e] [] cpos) (vGet1 (vDic f) g) := by
  obtain ⟨t1, p1, h1⟩ := d1
  obtain ⟨t2, p2, h2⟩ := d2
  refine ⟨_, pe_dget1 hu p1 p2 m, fun G H σ ρ Q s e hh => ?_⟩
  have hh' : GlE X.mg W G H σ Q (f ρ >>= fun d => dicOf d >>= fun d => g ρ >>= fun k => getD? d k >>= fun o => .ok (o.getD .non)) := by
    unfold vGet1 vDic at hh
    cases q : f ρ <;> rw [q] at hh <;> exact hh
  refine h1 G H σ ρ _ s e (Gl.imp (fun x G1 H1 _ e1 k v rv => ?_) (Gl.bind hh'))
  unfold dicOf at k
  split at k
  · rename_i hd
    obtain ⟨p, rfl, hp⟩ := isD_dic e1.s rv hd
    refine ⟨p, rfl, hp, ?_⟩
    refine h2 G1 H1 σ ρ _ e1.s (e.le e1.le) (Gl.imp (fun y G2 H2 _ e2 k w rw' => ?_) (Gl.bind k))
    obtain ⟨p', o, o', ep, _, hg, cs, k⟩ := getD_rep e2.s (rv.le e2.le) rw' k
    cases ep
    refine ⟨o', hg, ?_⟩
    rcases cs with ⟨rfl, rfl⟩ | ⟨d, v, rfl, rfl, rd⟩
    · exact Gl.val (d := .non) e2.s rfl k
    · exact Gl.val e2.s rd k
  · exact k.elim
end
end DL

/-! DL4: what is walked, targets, comprehensions. -/
namespace DL
open PySem PySem.Spec PyProof.Rows L2

/-! ### canonical readings -/
def rdE (mg : Str → Option Value) (W : WX) (f : Env → Res D) : TE := fun σ H Q => ∃ G ρ, Sub G H ∧ EnvR G σ ρ ∧ GlE mg W G H σ Q (f ρ)
def rdT (mg : Str → Option Value) (W : WX) (f : Env → Res Bool) : TT := fun σ H Q => ∃ G ρ, Sub G H ∧ EnvR G σ ρ ∧ GlT mg W G H σ Q (f ρ)
section
variable {X : Cx} {W : WX} {e : Expr}
theorem DE.pe {f : Env → Res D} (d : DE X W e f) : PE X e (rdE X.mg W f) := by
  obtain ⟨t, p, h⟩ := d
  exact ⟨fun pins s σ H Q I ⟨G, ρ, sb, er, g⟩ => p.run pins s σ H Q I (h G H σ ρ Q sb er g)⟩
theorem DT.pt {f : Env → Res Bool} (d : DT X W e f) : PT X e (rdT X.mg W f) := by
  obtain ⟨t, p, h⟩ := d
  exact ⟨fun pins s σ H Q I ⟨G, ρ, sb, er, g⟩ => p.run pins s σ H Q I (h G H σ ρ Q sb er g)⟩
end

/-! ### what is walked -/
/-- at any later time the walk J yields the data ds, one by one -/
def ItD (J : It) (G : Hp) (ds : List D) : Prop :=
  ∀ (G2 H2 : Hp) (i : Nat), (∀ a o, G a = some o → G2 a = some o) → Sub G2 H2 →
    (∀ d, ds[i]? = some d → J.go i H2 ∧ ∀ x H', J.yld i H2 x H' → ∃ G', Ext G2 H2 G' H' ∧ Rep G' d x) ∧ (ds.length ≤ i → J.stop i H2)
abbrev GlI (mg : Str → Option Value) (W : WX) (G H : Hp) (σ : L2.St) (R : It → Hp → Prop) : Res (List D) → Prop := Gl mg W G H σ fun ds G' H' => ∀ J, ItD J G' ds → R J H'
def DI (X : Cx) (W : WX) (tg it : Expr) (f : Env → Res (List D)) : Prop :=
  ∃ wi : TI, PI X tg it wi ∧ ∀ (G H : Hp) (σ : L2.St) (ρ : Env) (R : It → Hp → Prop), Sub G H → EnvR G σ ρ → GlI X.mg W G H σ R (f ρ) → wi σ H R
def seqOf : D → Res (List D)
  | .lst xs => .ok xs
  | .tup xs => .ok xs
  | _ => .no
def lstOf : D → Res (List D)
  | .lst xs => .ok xs
  | _ => .no
def iSeq (f : Env → Res D) : Env → Res (List D) := fun ρ => f ρ >>= seqOf
section
variable {K : PySem.W.Frag} {G G2 H2 : Hp} {a : Addr} {vs : List V} {ds : List D}
theorem rd_up (g : ∀ a o, G a = some o → G2 a = some o) {u : HO} (h : Rd G a u) : Rd G2 a u := (Le.of g).1 _ _ h
theorem sqL_one {H : Hp} {xs : List V} (h : Rd H a (.lst vs)) (q : Rd H a (.lst xs)) : xs = vs := by
  have h1 := (Rd.iff (by intro o w z; cases z)).mp h
  have h2 := (Rd.iff (by intro o w z; cases z)).mp q
  rw [h1] at h2; cases h2; rfl
theorem itd_list (h : Rd G a (.lst vs)) (r : Reps G ds vs) : ItD (Itl K a) G ds := by
  intro G2 H2 i g sb
  have h2 := sb.sqL (K := K) (rd_up g h)
  have r2 := r.le (Le.of g)
  refine ⟨fun d e => ?_, fun e => ⟨vs, h2, by rw [r.length]; exact e⟩⟩
  obtain ⟨v, e2, rv⟩ := r2.get e
  refine ⟨⟨vs, v, h2, e2⟩, fun x H' y => ?_⟩
  obtain ⟨rfl, y⟩ := y
  have y := y vs h2
  rw [e2] at y; cases y
  exact ⟨G2, Ext.refl sb, rv⟩
theorem itd_tup (h : G a = some (.tup vs)) (r : Reps G ds vs) : ItD (Itt K a) G ds := by
  intro G2 H2 i g sb
  have h2 := sb.sqT (K := K) (g _ _ h)
  have r2 := r.le (Le.of g)
  refine ⟨fun d e => ?_, fun e => ⟨vs, h2, by rw [r.length]; exact e⟩⟩
  obtain ⟨v, e2, rv⟩ := r2.get e
  refine ⟨⟨vs, v, h2, e2⟩, fun x H' y => ?_⟩
  obtain ⟨rfl, y⟩ := y
  have y := y vs h2
  rw [e2] at y; cases y
  exact ⟨G2, Ext.refl sb, rv⟩
theorem itd_rev (h : Rd G a (.lst vs)) (r : Reps G ds vs) : ItD (Itv K a vs.length) G ds.reverse := by
  intro G2 H2 i g sb
  have h2 := sb.sqL (K := K) (rd_up g h)
  have r2 := (r.le (Le.of g)).reverse
  refine ⟨fun d e => ?_, fun e => ?_⟩
  · obtain ⟨v, e2, rv⟩ := r2.get e
    have hi : i < vs.length := by
      have := (List.getElem?_eq_some_iff.mp e2).1
      simpa using this
    rw [List.getElem?_reverse hi] at e2
    refine ⟨⟨hi, vs, v, h2, e2⟩, fun x H' y => ?_⟩
    obtain ⟨rfl, y⟩ := y
    have y := y vs h2
    rw [e2] at y; cases y
    exact ⟨G2, Ext.refl sb, rv⟩
  · show vs.length ≤ i
    rw [List.length_reverse] at e
    rw [r.length]; exact e
def rangeD (lo : Int) (n : Nat) : List D := (List.range n).map fun (k : Nat) => D.int (lo + (k : Int))
theorem rangeD_get {lo : Int} {n i : Nat} (h : i < n) : (rangeD lo n)[i]? = some (.int (lo + (i : Int))) := by simp [rangeD, h]
theorem itd_rng {lo : Int} {n : Nat} : ItD (Itr lo n) G (rangeD lo n) := by
  intro G2 H2 i g sb
  refine ⟨fun d e => ?_, fun e => by show n ≤ i; simpa [rangeD] using e⟩
  have hi : i < n := by have := (List.getElem?_eq_some_iff.mp e).1; simpa [rangeD] using this
  rw [rangeD_get hi] at e; cases e
  refine ⟨hi, fun x H' y => ?_⟩
  obtain ⟨rfl, rfl⟩ := y
  exact ⟨G2, Ext.refl sb, rfl⟩
def enumD (ds : List D) : List D := ds.zipIdx.map fun p => D.tup [.int (p.2 : Int), p.1]
theorem enumD_get {i : Nat} {d : D} (h : (enumD ds)[i]? = some d) : ∃ x, ds[i]? = some x ∧ d = .tup [.int (i : Int), x] := by
  unfold enumD at h
  rw [List.getElem?_map, Option.map_eq_some_iff] at h
  obtain ⟨p, h1, h2⟩ := h
  rw [List.getElem?_zipIdx, Option.map_eq_some_iff] at h1
  obtain ⟨x, h3, rfl⟩ := h1
  exact ⟨x, h3, by rw [← h2]; simp⟩
theorem itd_enum (h : Rd G a (.lst vs)) (r : Reps G ds vs) : ItD (Ite K a) G (enumD ds) := by
  intro G2 H2 i g sb
  have h2 := sb.sqL (K := K) (rd_up g h)
  have r2 := r.le (Le.of g)
  refine ⟨fun d e => ?_, fun e => ⟨vs, h2, by rw [r.length]; simpa [enumD] using e⟩⟩
  obtain ⟨x, e1, rfl⟩ := enumD_get e
  obtain ⟨v, e2, rv⟩ := r2.get e1
  refine ⟨⟨vs, v, h2, e2⟩, fun w H' y => ?_⟩
  obtain ⟨T, z, rfl, nT, rfl, y⟩ := y
  have y := y vs h2
  rw [e2] at y; cases y
  have ex : Ext G2 H2 (upd G2 T (.tup [.int (i : Int), v])) (upd H2 T (.tup [.int (i : Int), v])) := Ext.new sb nT
  exact ⟨_, ex, T, _, rfl, upd_same, .int (i : Int), [v], rfl, rfl, v, [], rfl, rv.le ex.le, rfl⟩
def zipD : List D → List D → List D
  | x :: r, y :: s => .tup [x, y] :: zipD r s
  | _, _ => []
theorem zipD_get : ∀ {ds es : List D} {i : Nat} {d : D}, (zipD ds es)[i]? = some d → ∃ x y, ds[i]? = some x ∧ es[i]? = some y ∧ d = .tup [x, y]
  | [], _, _, _, h => by simp [zipD] at h
  | _ :: _, [], _, _, h => by simp [zipD] at h
  | x :: r, y :: s, 0, d, h => ⟨x, y, rfl, rfl, by simpa [zipD] using h.symm⟩
  | x :: r, y :: s, i + 1, d, h => by
    obtain ⟨u, w, h1, h2, h3⟩ := zipD_get (ds := r) (es := s) (i := i) (d := d) (by simpa [zipD] using h)
    exact ⟨u, w, by simpa using h1, by simpa using h2, h3⟩
theorem zipD_len : ∀ {ds es : List D}, (zipD ds es).length = min ds.length es.length
  | [], _ => by simp [zipD]
  | _ :: _, [] => by simp [zipD]
  | _ :: r, _ :: s => by simp only [zipD, List.length_cons, zipD_len (ds := r) (es := s)]; omega
theorem itd_zip {b : Addr} {ws : List V} {es : List D} (h : Rd G a (.lst vs)) (r : Reps G ds vs) (hb : Rd G b (.lst ws)) (rb : Reps G es ws) : ItD (Itz K a b) G (zipD ds es) := by
  intro G2 H2 i g sb
  have h2 := sb.sqL (K := K) (rd_up g h)
  have hb2 := sb.sqL (K := K) (rd_up g hb)
  have r2 := r.le (Le.of g)
  have rb2 := rb.le (Le.of g)
  refine ⟨fun d e => ?_, fun e => ⟨vs, ws, h2, hb2, by rw [r.length, rb.length]; rw [zipD_len] at e; omega⟩⟩
  obtain ⟨x, x', e1, e1', rfl⟩ := zipD_get e
  obtain ⟨v, e2, rv⟩ := r2.get e1
  obtain ⟨v', e2', rv'⟩ := rb2.get e1'
  refine ⟨⟨vs, ws, v, v', h2, hb2, e2, e2'⟩, fun w H' y => ?_⟩
  obtain ⟨T, z, z', rfl, nT, rfl, y, y'⟩ := y
  have y := y vs h2
  rw [e2] at y; cases y
  have y' := y' ws hb2
  rw [e2'] at y'; cases y'
  have ex : Ext G2 H2 (upd G2 T (.tup [v, v'])) (upd H2 T (.tup [v, v'])) := Ext.new sb nT
  exact ⟨_, ex, T, _, rfl, upd_same, v, [v'], rfl, rv.le ex.le, v', [], rfl, rv'.le ex.le, rfl⟩
theorem itd_str {x : Str} : ItD (Its x) G (x.cps.toList.map fun c => D.str ⟨#[c]⟩) := by
  intro G2 H2 i g sb
  refine ⟨fun d e => ?_, fun e => by show x.cps.size ≤ i; simpa using e⟩
  rw [List.getElem?_map, Option.map_eq_some_iff] at e
  obtain ⟨c, e1, rfl⟩ := e
  have e2 : x.cps[i]? = some c := by simpa using e1
  have hi : i < x.cps.size := (Array.getElem?_eq_some_iff.mp e2).1
  refine ⟨hi, fun w H' y => ?_⟩
  obtain ⟨rfl, c', e3, rfl⟩ := y
  rw [e2] at e3; cases e3
  exact ⟨G2, Ext.refl sb, rfl⟩
end
def iAny (K : PySem.W.Frag) (tl : TE) : TI := fun σ H R => tl σ H fun x H1 => ∃ a, x = .ref a ∧ (((∃ xs, SqL K H1 a xs) ∧ R (Itl K a) H1) ∨ ((∃ xs, SqT K H1 a xs) ∧ R (Itt K a) H1))
def iRange1 (f : Env → Res D) : Env → Res (List D) := fun ρ => f ρ >>= fun x => match x with
  | .int j => if -(2 ^ 62) ≤ j ∧ j < 2 ^ 62 then .ok (rangeD 0 j.toNat) else .no
  | _ => .no
def iRange2 (f g : Env → Res D) : Env → Res (List D) := fun ρ => f ρ >>= fun x => g ρ >>= fun y => match x, y with
  | .int i, .int j => if -(2 ^ 62) ≤ i ∧ i < 2 ^ 62 ∧ -(2 ^ 62) ≤ j ∧ j < 2 ^ 62 then .ok (rangeD i (j - i).toNat) else .no
  | _, _ => .no
def iEnumD (f : Env → Res D) : Env → Res (List D) := fun ρ => f ρ >>= lstOf >>= fun ds => .ok (enumD ds)
def iRevD (f : Env → Res D) : Env → Res (List D) := fun ρ => f ρ >>= lstOf >>= fun ds => .ok ds.reverse
def iZipD (f g : Env → Res D) : Env → Res (List D) := fun ρ => f ρ >>= fun x => g ρ >>= fun y => lstOf x >>= fun ds => lstOf y >>= fun es => .ok (zipD ds es)
def strOf : D → Res Str
  | .str x => .ok x
  | _ => .no
def iStrD (f : Env → Res D) : Env → Res (List D) := fun ρ => f ρ >>= strOf >>= fun x => .ok (x.cps.toList.map fun c => D.str ⟨#[c]⟩)
theorem Res.assoc {α β γ : Type} (r : Res α) (f : α → Res β) (g : β → Res γ) : (r >>= f >>= g) = (r >>= fun x => f x >>= g) := by cases r <;> rfl
section
variable {X : Cx} {W : WX} {tg e e2 : Expr} {f g : Env → Res D} {p pos : Pos}
theorem pi_any {t : TE} (hl : PE X e t) : PI X tg e (iAny X.K t) := by
  refine ⟨fun pins s σ H R I h => ?_⟩
  refine thn (hl.run pins s σ H _ I h) fun v s1 ⟨x, H1, I1, r1, q1⟩ => ?_
  obtain ⟨a, rfl, q⟩ := q1
  cases r1
  rcases q with ⟨⟨xs, hq⟩, q⟩ | ⟨⟨xs, hq⟩, q⟩
  · obtain ⟨its, rv, p, hz⟩ := I1.list hq
    refine wpAny_pyIter_list p.isList ?_
    refine ⟨s1.heap.objs.size, [s1.heap.objs.size], _, _, H1, rfl, I1.kept (t' := s1.toks) fun b o e => Heap.get?_push_of_some _ e, turn_list a _, ⟨_, Heap.get?_push_size _ rfl, rfl, rfl⟩, fun b hb => ?_, q⟩
    have e : b = s1.heap.objs.size := by simpa using hb
    subst e
    exact I1.fpOk (Nat.le_refl _) (I1.hok.fresh (Nat.le_refl _))
  · obtain ⟨its, rv, p, hz⟩ := I1.tuple hq
    refine wpAny_pyIter_tuple (show s1.heap.IsTuple a its.toArray from p) ?_
    refine ⟨s1.heap.objs.size, [s1.heap.objs.size], _, _, H1, rfl, I1.kept (t' := s1.toks) fun b o e => Heap.get?_push_of_some _ e, turn_tuple a _, ⟨_, Heap.get?_push_size _ rfl, rfl, rfl⟩, fun b hb => ?_, q⟩
    have e : b = s1.heap.objs.size := by simpa using hb
    subst e
    exact I1.fpOk (Nat.le_refl _) (I1.hok.fresh (Nat.le_refl _))
theorem di_seq (d : DE X W e f) : DI X W tg e (iSeq f) := by
  obtain ⟨t, p, h1⟩ := d
  refine ⟨_, pi_any p, fun G H σ ρ R s e h => ?_⟩
  refine h1 G H σ ρ _ s e (Gl.imp (fun x G1 H1 _ e1 k v rv => ?_) (Gl.bind h))
  cases x with
  | lst xs =>
    obtain ⟨a, vs, rfl, h1, q⟩ := rv
    exact ⟨a, rfl, .inl ⟨⟨vs, e1.s.sqL h1⟩, k G1 H1 (Ext.refl e1.s) _ (itd_list h1 q)⟩⟩
  | tup xs =>
    obtain ⟨a, vs, rfl, h1, q⟩ := rv
    exact ⟨a, rfl, .inr ⟨⟨vs, e1.s.sqT h1⟩, k G1 H1 (Ext.refl e1.s) _ (itd_tup h1 q)⟩⟩
  | _ => exact k.elim
theorem di_str (d : DE X W e f) : DI X W tg e (iStrD f) := by
  obtain ⟨t, p, h1⟩ := d
  refine ⟨_, pi_str p, fun G H σ ρ R s e h => ?_⟩
  unfold iStrD at h
  rw [Res.assoc] at h
  refine h1 G H σ ρ _ s e (Gl.imp (fun x G1 H1 _ e1 k v rv => ?_) (Gl.bind h))
  cases x with
  | str x => exact ⟨x, rv, k G1 H1 (Ext.refl e1.s) _ itd_str⟩
  | _ => exact k.elim
theorem di_range1 (hg : L2.Gl X "range") (hm : X.mg "range" = none) (d : DE X W e f) (hs : starEach [e] X.env = [(false, eval e X.env)] := by rfl) : DI X W tg (.Call (.Name "range" p) [e] [] pos) (iRange1 f) := by
  obtain ⟨t, pe, h1⟩ := d
  refine ⟨_, pi_range1 hg hm (pa_cons pe pa_nil hs) hs, fun G H σ ρ R s e h => ?_⟩
  refine h1 G H σ ρ _ s e (Gl.imp (fun x G1 H1 _ e1 k v rv => ?_) (Gl.bind h))
  cases x with
  | int j =>
    have e2 : v = .int j := rv
    subst e2
    simp only at k
    split at k
    · rename_i z
      exact ⟨j, rfl, z.1, z.2, k G1 H1 (Ext.refl e1.s) _ itd_rng⟩
    · exact k.elim
  | _ => exact k.elim
theorem di_range2 (hg : L2.Gl X "range") (hm : X.mg "range" = none) (d : DE X W e f) (d2 : DE X W e2 g) (hs : starEach [e, e2] X.env = [(false, eval e X.env), (false, eval e2 X.env)] := by rfl) (hs2 : starEach [e2] X.env = [(false, eval e2 X.env)] := by rfl) :
    DI X W tg (.Call (.Name "range" p) [e, e2] [] pos) (iRange2 f g) := by
  obtain ⟨t, pe, h1⟩ := d
  obtain ⟨t2, pe2, h2⟩ := d2
  refine ⟨_, pi_range2 hg hm (pa_cons pe (pa_cons pe2 pa_nil hs2) (by rw [hs, hs2])) hs hs2, fun G H σ ρ R s e h => ?_⟩
  refine h1 G H σ ρ _ s e (Gl.imp (fun x G1 H1 _ e1 k v rv => ?_) (Gl.bind h))
  refine h2 G1 H1 σ ρ _ e1.s (e.le e1.le) (Gl.imp (fun y G2 H2 _ e2 k w rw' => ?_) (Gl.bind k))
  cases x with
  | int i =>
    cases y with
    | int j =>
      have e3 : v = .int i := rv
      have e4 : w = .int j := rw'
      subst e3 e4
      simp only at k
      split at k
      · rename_i z
        exact ⟨i, j, rfl, z, k G2 H2 (Ext.refl e2.s) _ itd_rng⟩
      · exact k.elim
    | _ => exact k.elim
  | _ => exact k.elim
theorem di_enum {elts : List Expr} {kk : Nat} {tpos : Pos} (hg : L2.Gl X "enumerate") (hm : X.mg "enumerate" = none) (d : DE X W e f) (hs : starEach [e] X.env = [(false, eval e X.env)] := by rfl) :
    DI X W (.Tuple elts kk tpos) (.Call (.Name "enumerate" p) [e] [] pos) (iEnumD f) := by
  obtain ⟨t, pe, h1⟩ := d
  refine ⟨_, pi_enum hg hm (pa_cons pe pa_nil hs) hs, fun G H σ ρ R s e h => ?_⟩
  unfold iEnumD at h
  rw [Res.assoc] at h
  refine h1 G H σ ρ _ s e (Gl.imp (fun x G1 H1 _ e1 k v rv => ?_) (Gl.bind h))
  cases x with
  | lst xs =>
    obtain ⟨a, vs, rfl, h1, q⟩ := rv
    exact ⟨a, vs, rfl, e1.s.sqL h1, k G1 H1 (Ext.refl e1.s) _ (itd_enum h1 q)⟩
  | _ => exact k.elim
theorem di_rev (hg : L2.Gl X "reversed") (hm : X.mg "reversed" = none) (d : DE X W e f) (hs : starEach [e] X.env = [(false, eval e X.env)] := by rfl) : DI X W tg (.Call (.Name "reversed" p) [e] [] pos) (iRevD f) := by
  obtain ⟨t, pe, h1⟩ := d
  refine ⟨_, pi_reversed hg hm (pa_cons pe pa_nil hs) hs, fun G H σ ρ R s e h => ?_⟩
  unfold iRevD at h
  rw [Res.assoc] at h
  refine h1 G H σ ρ _ s e (Gl.imp (fun x G1 H1 _ e1 k v rv => ?_) (Gl.bind h))
  cases x with
  | lst xs =>
    obtain ⟨a, vs, rfl, h1, q⟩ := rv
    exact ⟨a, vs, rfl, e1.s.sqL h1, k G1 H1 (Ext.refl e1.s) _ (itd_rev h1 q)⟩
  | _ => exact k.elim
theorem di_zip {elts : List Expr} {kk : Nat} {tpos : Pos} (hg : L2.Gl X "zip") (hm : X.mg "zip" = none) (d : DE X W e f) (d2 : DE X W e2 g) (hs : starEach [e, e2] X.env = (false, eval e X.env) :: starEach [e2] X.env := by rfl) (hs2 : starEach [e2] X.env = [(false, eval e2 X.env)] := by rfl)
    (hpl : (backTo pos (starEach [e2] X.env)).any (·.1) = false := by rfl) : DI X W (.Tuple elts kk tpos) (.Call (.Name "zip" p) [e, e2] [] pos) (iZipD f g) := by
  obtain ⟨t, pe, h1⟩ := d
  obtain ⟨t2, pe2, h2⟩ := d2
  refine ⟨_, pi_zip hg hm (pa_cons pe (pa_cons pe2 pa_nil hs2) hs) hs hpl, fun G H σ ρ R s e h => ?_⟩
  refine h1 G H σ ρ _ s e (Gl.imp (fun x G1 H1 _ e1 k v rv => ?_) (Gl.bind h))
  refine h2 G1 H1 σ ρ _ e1.s (e.le e1.le) (Gl.imp (fun y G2 H2 _ e2 k w rw' => ?_) (Gl.bind k))
  have rv := rv.le e2.le
  cases x with
  | lst xs =>
    cases y with
    | lst ys =>
      obtain ⟨a, vs, rfl, h1, q⟩ := rv
      obtain ⟨b, ws, rfl, h2, q2⟩ := rw'
      exact ⟨a, b, vs, ws, rfl, e2.s.sqL h1, e2.s.sqL h2, k G2 H2 (Ext.refl e2.s) _ (itd_zip h1 q h2 q2)⟩
    | _ => exact k.elim
  | _ => exact k.elim
end

/-! ### targets -/
def setE : Env → List Nat → List D → Env
  | ρ, i :: is, d :: ds => setE (ρ.set i (some d)) is ds
  | ρ, _, _ => ρ
def setS : L2.St → List Nat → List V → L2.St
  | σ, i :: is, d :: ds => setS (σ.set i (some d)) is ds
  | σ, _, _ => σ
theorem EnvR.sets {G : Hp} : ∀ {is : List Nat} {ds : List D} {vs : List V} {σ : L2.St} {ρ : Env}, EnvR G σ ρ → Reps G ds vs → EnvR G (setS σ is vs) (setE ρ is ds)
  | [], _, _, _, _, h, _ => by unfold setS setE; exact h
  | i :: is, [], _, _, _, h, r => by rw [show _ = [] from r]; exact h
  | i :: is, d :: ds, _, _, _, h, ⟨v, s, e, r1, r2⟩ => by
    subst e
    show EnvR G (setS (List.set _ i (some v)) is s) (setE (List.set _ i (some d)) is ds)
    exact EnvR.sets (h.set r1) r2
/-- a target: the slots is, what of the value goes there -/
def DG (X : Cx) (tg : Expr) (is : List Nat) (ks : D → Res (List D)) : Prop :=
  ∃ t : TG, PG X tg t ∧ ∀ (G H : Hp) (σ : L2.St) (v : V) (d : D) (Q : L2.St → Hp → Prop) (l : List D), Sub G H → Rep G d v → ks d = .ok l →
    (∀ ws, Reps G l ws → ws.length = is.length → Q (setS σ is ws) H) → t v σ H Q
def DGs (X : Cx) (tg : List Expr) (is : List Nat) (ks : List D → Res (List D)) : Prop :=
  ∃ t : TGs, PGs X tg t ∧ ∀ (G H : Hp) (σ : L2.St) (vs : List V) (ds : List D) (Q : L2.St → Hp → Prop) (l : List D), Sub G H → Reps G ds vs → ks ds = .ok l →
    (∀ ws, Reps G l ws → ws.length = is.length → Q (setS σ is ws) H) → t vs σ H Q
def kName : D → Res (List D) := fun d => .ok [d]
def ksNil : List D → Res (List D) := fun ds => match ds with | [] => .ok [] | _ => .no
def ksCons (k : D → Res (List D)) (ks : List D → Res (List D)) : List D → Res (List D) := fun ds => match ds with
  | d :: r => k d >>= fun l => ks r >>= fun m => .ok (l ++ m)
  | [] => .no
def kTup (n : Nat) (ks : List D → Res (List D)) : D → Res (List D) := fun d => match d with
  | .tup ds => if ds.length = n then ks ds else .no
  | _ => .no
def rdG (is : List Nat) (ks : D → Res (List D)) : TG := fun v σ H Q => ∃ G d l, Sub G H ∧ Rep G d v ∧ ks d = .ok l ∧ ∀ ws, Reps G l ws → ws.length = is.length → Q (setS σ is ws) H
theorem setS_app : ∀ {is js : List Nat} {vs ws : List V} {σ : L2.St}, vs.length = is.length → setS σ (is ++ js) (vs ++ ws) = setS (setS σ is vs) js ws
  | [], _, [], _, _, _ => rfl
  | [], _, _ :: _, _, _, h => by simp at h
  | _ :: _, _, [], _, _, h => by simp at h
  | i :: is, js, v :: vs, ws, σ, h => by
    show setS (σ.set i (some v)) (is ++ js) (vs ++ ws) = _
    rw [setS_app (by simpa using h)]
    rfl
section
variable {X : Cx} {pos : Pos}
theorem DG.pg {tg : Expr} {is : List Nat} {ks : D → Res (List D)} (d : DG X tg is ks) : PG X tg (rdG is ks) := by
  obtain ⟨t, p, h⟩ := d
  exact ⟨fun pins s σ H v u Q I r ⟨G, d, l, sb, rd, e, k⟩ => p.run pins s σ H v u Q I r (h G H σ v d Q l sb rd e k)⟩
theorem dg_name {i : Nat} {x : Str} (p : PG X (.Name x pos) (gName i)) : DG X (.Name x pos) [i] kName := by
  refine ⟨_, p, fun G H σ v d Q l s r h k => ?_⟩
  have e : [d] = l := by simpa [kName] using h
  subst e
  exact k [v] ⟨v, [], rfl, r, rfl⟩ rfl
theorem dgs_nil : DGs X [] [] ksNil := by
  refine ⟨_, pgs_nil, fun G H σ vs ds Q l s r h k => ?_⟩
  unfold ksNil at h
  split at h
  · have e : [] = l := by simpa using h
    subst e
    exact ⟨r, k [] rfl rfl⟩
  · cases h
theorem dgs_cons {e : Expr} {es : List Expr} {is js : List Nat} {k1 : D → Res (List D)} {k2 : List D → Res (List D)} (d1 : DG X e is k1) (d2 : DGs X es js k2)
    (hs : (assignEach (e :: es) X.env).map (·.2) = assign e X.env :: (assignEach es X.env).map (·.2) := by rfl) : DGs X (e :: es) (is ++ js) (ksCons k1 k2) := by
  obtain ⟨t1, p1, h1⟩ := d1
  obtain ⟨t2, p2, h2⟩ := d2
  refine ⟨_, pgs_cons p1 p2 hs, fun G H σ vs ds Q l s r h k => ?_⟩
  unfold ksCons at h
  split at h
  · rename_i d ds
    obtain ⟨v, vs', ev, rv, rvs⟩ := r
    cases q1 : k1 d with
    | ok l1 =>
      rw [q1] at h
      cases q2 : k2 ds with
      | ok l2 =>
        rw [Res.bind_ok, q2] at h
        have e : l1 ++ l2 = l := by simpa using h
        subst e
        refine ⟨v, vs', ev, h1 G H σ v d _ l1 s rv q1 fun ws rw1 n1 => ?_⟩
        refine h2 G H _ vs' ds Q l2 s rvs q2 fun ws2 rw2 n2 => ?_
        have := k (ws ++ ws2) (rw1.append rw2) (by simp [n1, n2])
        rw [setS_app n1] at this
        exact this
      | ex c => rw [Res.bind_ok, q2] at h; cases h
      | no => rw [Res.bind_ok, q2] at h; cases h
    | ex c => rw [q1] at h; cases h
    | no => rw [q1] at h; cases h
  · cases h
theorem dg_tup {es : List Expr} {kk n : Nat} {is : List Nat} {ks : List D → Res (List D)} (hc : X.calm = true) (d : DGs X es is ks) (hn : (assignEach es X.env).length = n := by rfl) (hst : (assignEach es X.env).findIdx? (·.1) = none := by rfl) : DG X (.Tuple es kk pos) is (kTup n ks) := by
  obtain ⟨t, p, h1⟩ := d
  refine ⟨_, pg_tup hc p hn hst, fun G H σ v d Q l s r h k => ?_⟩
  unfold kTup at h
  split at h
  · rename_i ds
    split at h
    · rename_i z
      obtain ⟨a, vs, rfl, h2, q⟩ := r
      exact ⟨a, vs, rfl, s.sqT h2, by rw [q.length]; exact z, h1 G H σ vs ds Q l s q h k⟩
    · cases h
  · cases h
end

/-! ### list comprehensions -/
def wipeE (ρ : Env) : List Nat → Env
  | [] => ρ
  | v :: vs => (wipeE ρ vs).set v none
theorem EnvR.wipe {G : Hp} {σ : L2.St} {ρ : Env} (h : EnvR G σ ρ) : ∀ vs, EnvR G (L2.wipe σ vs) (wipeE ρ vs)
  | [] => h
  | v :: vs => (EnvR.wipe h vs).unset
theorem wipe_set_in {σ : L2.St} {i : Nat} {x : Option V} : ∀ {vs : List Nat}, i ∈ vs → L2.wipe (σ.set i x) vs = L2.wipe σ vs
  | [], h => by cases h
  | v :: vs, h => by
    unfold L2.wipe
    by_cases hm : i ∈ vs
    · rw [wipe_set_in hm]
    · have e : i = v := by
        rcases List.mem_cons.mp h with e | e
        · exact e
        · exact absurd e hm
      subst e
      have q : ∀ {ws : List Nat} {τ : L2.St}, i ∉ ws → L2.wipe (τ.set i x) ws = (L2.wipe τ ws).set i x := by
        intro ws
        induction ws with
        | nil => intro τ _; rfl
        | cons w ws ih =>
          intro τ hn
          simp only [List.mem_cons, not_or] at hn
          unfold L2.wipe
          rw [ih hn.2, List.set_comm _ _ hn.1]
      rw [q hm, List.set_set]
theorem wipe_sets {vs : List Nat} : ∀ {is : List Nat} {ws : List V} {σ : L2.St}, (∀ i ∈ is, i ∈ vs) → L2.wipe (setS σ is ws) vs = L2.wipe σ vs
  | [], _, _, _ => by unfold setS; rfl
  | i :: is, [], _, _ => rfl
  | i :: is, w :: ws, σ, h => by
    show L2.wipe (setS (σ.set i (some w)) is ws) vs = _
    rw [wipe_sets fun j hj => h j (List.mem_cons_of_mem _ hj), wipe_set_in (h i List.mem_cons_self)]
theorem wipe_set_none {σ : L2.St} {v : Nat} : ∀ {vs : List Nat}, (L2.wipe σ vs).set v none = L2.wipe (σ.set v none) vs
  | [] => rfl
  | w :: vs => by
    unfold L2.wipe
    by_cases e : v = w
    · subst e; rw [List.set_set, ← wipe_set_none, List.set_set]
    · rw [List.set_comm _ _ (Ne.symm e), wipe_set_none]
theorem wipe_wipe {σ : L2.St} : ∀ {vs : List Nat}, L2.wipe (L2.wipe σ vs) vs = L2.wipe σ vs
  | [] => rfl
  | v :: vs => by
    show (L2.wipe ((L2.wipe σ vs).set v none) vs).set v none = (L2.wipe σ vs).set v none
    rw [← wipe_set_none (σ := L2.wipe σ vs), List.set_set, wipe_wipe]
/-- no exception is let out -/
def noEx {α : Type} : Res α → Res α
  | .ok a => .ok a
  | _ => .no
def compL (is : List Nat) (ks : D → Res (List D)) (ft : Env → Res Bool) (fe : Env → Res D) (ρ : Env) : List D → Res (List D)
  | [] => .ok []
  | d :: r => ks d >>= fun l => noEx (ft (setE ρ is l)) >>= fun b => if b = true then noEx (fe (setE ρ is l)) >>= fun y => compL is ks ft fe ρ r >>= fun ys => .ok (y :: ys) else compL is ks ft fe ρ r
def nComp (fi : Env → Res (List D)) (is : List Nat) (ks : D → Res (List D)) (ft : Env → Res Bool) (fe : Env → Res D) (vs : List Nat) : Env → Res (List D) := fun ρ =>
  fi ρ >>= fun ds => noEx (compL is ks ft fe (wipeE ρ vs) ds) >>= fun ys => if ys.length ≤ sizeLine then .ok ys else .no
def DTs (X : Cx) (W : WX) (es : List Expr) (f : Env → Res Bool) : Prop :=
  ∃ t : TT, PTs X es t ∧ ∀ (G H : Hp) (σ : L2.St) (ρ : Env) (Q : Bool → Hp → Prop), Sub G H → EnvR G σ ρ → GlT X.mg W G H σ Q (f ρ) → t σ H Q
def tTrue : Env → Res Bool := fun _ => .ok true
theorem dts_nil {X : Cx} {W : WX} : DTs X W [] tTrue := ⟨_, pts_nil, fun G H σ ρ Q s e h => h G H (Ext.refl s)⟩
theorem dts_one {X : Cx} {W : WX} {c : Expr} {f : Env → Res Bool} (d : DT X W c f) : DTs X W [c] f := let ⟨t, p, h⟩ := d; ⟨t, pts_one p, h⟩
theorem DTs.pts {X : Cx} {W : WX} {es : List Expr} {f : Env → Res Bool} (d : DTs X W es f) : PTs X es (rdT X.mg W f) := by
  obtain ⟨t, p, h⟩ := d
  exact ⟨fun pins s σ H Q I ⟨G, ρ, sb, er, g⟩ => p.run pins s σ H Q I (h G H σ ρ Q sb er g)⟩
theorem noEx_ok {α : Type} {r : Res α} {a : α} (h : noEx r = .ok a) : r = .ok a := by cases r <;> simp_all [noEx]
theorem bind_ok' {α β : Type} {r : Res α} {f : α → Res β} {b : β} (h : (r >>= f) = .ok b) : ∃ a, r = .ok a ∧ f a = .ok b := by
  cases r with
  | ok a => exact ⟨a, rfl, h⟩
  | ex c => cases h
  | no => cases h
abbrev W0 : WX := fun _ _ _ _ => False
theorem lc_run {X : Cx} {W : WX} {is vs : List Nat} {ks : D → Res (List D)} {ft : Env → Res Bool} {fe : Env → Res D} {G1 H1 : Hp} {σ : L2.St} {ρ : Env} {Q : VK} {J : It} {ds ys : List D} {Da : Addr}
    (hv : ∀ i ∈ is, i ∈ vs) (er : EnvR G1 σ ρ) (sb : Sub G1 H1) (hJ : ItD J G1 ds) (nDa : H1 Da = none) (hl : compL is ks ft fe (wipeE ρ vs) ds = .ok ys) (hz : ys.length ≤ sizeLine)
    (hQ : ∀ G' H' acc, Ext G1 H1 G' H' → G' Da = none → H' Da = some (.lst acc) → Reps G' ys acc → Q (.ref Da) H') :
    ∃ W : Nat → Nat → Hp → Prop, (∃ m, W 0 m (upd H1 Da (.lst []))) ∧ ∀ i m H, W i m H →
      (J.stop i H ∧ Q (.ref Da) H) ∨ (J.go i H ∧ ∃ Nx : Hp → Prop, (∀ H', Nx H' → ∃ m', m' < m ∧ W (i + 1) m' H') ∧ ∀ x H', J.yld i H x H' → rdG is ks x (wipe σ vs) H' fun σ2 H2 => wipe σ2 vs = wipe σ vs ∧ rdT X.mg W0 ft σ2 H2 fun b H3 =>
        if b = true then rdE X.mg W0 fe σ2 H3 fun y H4 => ∃ acc, H4 Da = some (.lst acc) ∧ acc.length < sizeLine ∧ Nx (upd H4 Da (.lst (acc ++ [y]))) else Nx H3) := by
  let Iv : Nat → Hp → Prop := fun i H => ∃ G acc accD rest, Ext G1 H1 G H ∧ G Da = none ∧ H Da = some (.lst acc) ∧ Reps G accD acc ∧ compL is ks ft fe (wipeE ρ vs) (ds.drop i) = .ok rest ∧ accD ++ rest = ys ∧ i ≤ ds.length
  refine ⟨fun i m H => m = ds.length - i ∧ Iv i H, ⟨ds.length, by simp, G1, [], [], ys, Ext.hid sb nDa, ?_, upd_same, rfl, hl, rfl, Nat.zero_le _⟩, ?_⟩
  · cases q : G1 Da with
    | none => rfl
    | some o => rw [sb _ _ q] at nDa; cases nDa
  rintro i m H ⟨rfl, G, acc, accD, rest, ex, gD, hD, ra, hc, hy, hi⟩
  by_cases hlt : i < ds.length
  · refine .inr ?_
    have hd : ds.drop i = ds[i] :: ds.drop (i + 1) := List.drop_eq_getElem_cons hlt
    rw [hd] at hc
    obtain ⟨l, e1, hc⟩ := bind_ok' hc
    obtain ⟨b, e2, hc⟩ := bind_ok' hc
    have e2 := noEx_ok e2
    obtain ⟨go, yl⟩ := (hJ G H i ex.g ex.s).1 ds[i] (by simp [hlt])
    refine ⟨go, Iv (i + 1), fun H' iv => ⟨ds.length - (i + 1), by omega, rfl, iv⟩, fun x H2 y => ?_⟩
    obtain ⟨G2, ex2, rx⟩ := yl x H2 y
    have hD2 : H2 Da = some (.lst acc) := ex2.h _ _ hD
    refine ⟨G2, ds[i], l, ex2.s, rx, e1, fun ws rws nws => ⟨by rw [wipe_sets hv, wipe_wipe], ?_⟩⟩
    have er2 : EnvR G2 (setS (wipe σ vs) is ws) (setE (wipeE ρ vs) is l) := (((er.le ex.le).le ex2.le).wipe vs).sets rws
    refine ⟨G2, _, ex2.s, er2, ?_⟩
    rw [e2]
    intro G3 H3 ex3
    have hD3 : H3 Da = some (.lst acc) := ex3.h _ _ hD2
    have exA : Ext G H G3 H3 := ex2.trans ex3
    have nD : ∀ {G4 H4 : Hp}, Ext G H G4 H4 → G4 Da = none := fun {G4 H4} e4 => by
      cases q : G4 Da with
      | none => rfl
      | some o =>
        rcases e4.n _ _ q with z | z | ⟨_, z⟩
        · rw [gD] at z; cases z
        · rw [hD] at z; cases z
        · have z2 := e4.s _ _ q
          rw [e4.h _ _ hD] at z2; cases z2; cases z
    cases b with
    | false =>
      show ite _ _ _
      rw [if_neg Bool.false_ne_true]
      exact ⟨G3, acc, accD, rest, ex.trans exA, nD exA, hD3, ra.le exA.le, hc, hy, hlt⟩
    | true =>
      show ite _ _ _
      rw [if_pos rfl] at hc ⊢
      obtain ⟨y, e3, hc⟩ := bind_ok' hc
      have e3 := noEx_ok e3
      obtain ⟨ys', e4, hc⟩ := bind_ok' hc
      have e5 : y :: ys' = rest := by simpa using hc
      subst e5
      refine ⟨G3, _, ex3.s, er2.le ex3.le, ?_⟩
      rw [e3]
      intro G4 H4 ex4 v rv
      have exB : Ext G H G4 H4 := exA.trans ex4
      have hD4 : H4 Da = some (.lst acc) := ex4.h _ _ hD3
      refine ⟨acc, hD4, ?_, G4, acc ++ [v], accD ++ [y], ys', ?_, nD exB, upd_same, (ra.le exB.le).append (.one rv), e4, by simpa using hy, hlt⟩
      · have h1 := ra.length
        have h2 : ys.length = accD.length + (ys'.length + 1) := by rw [← hy]; simp
        omega
      · have exC := ex.trans exB
        refine ⟨fun a o q => ?_, exC.g, fun a o q => ?_, exC.n⟩
        · rw [upd_ne (ne_of_none q nDa)]; exact exC.h a o q
        · have : a ≠ Da := fun z => by subst z; rw [nD exB] at q; cases q
          rw [upd_ne this]; exact exC.s a o q
  · refine .inl ⟨(hJ G H i ex.g ex.s).2 (by omega), ?_⟩
    have e : i = ds.length := by omega
    subst e
    rw [List.drop_length] at hc
    have e2 : [] = rest := by simpa [compL] using hc
    subst e2
    rw [List.append_nil] at hy
    subst hy
    exact hQ G H acc ex gD hD ra
end DL

/-! DL5: statements. Slots hold data; some slots own their list or dict (nobody else reads it), and may change it. -/
namespace DL
open PySem PySem.Spec PyProof.Rows L2

/-! ### owned data -/
inductive Kd where
  /-- the list or dict itself is owned, its items stand in the region -/
  | sh
  /-- every list and dict within is owned -/
  | dp
  /-- (at i + 1000) slot i, as long as it owns something, holds v -/
  | pin (v : V)
  deriving DecidableEq
def Kd.pl : Kd → Bool
  | .pin _ => false
  | _ => true
mutual
/-- d stands at v by lists and dicts at fp alone, each once, and tuples -/
def RepO (H : Hp) : D → V → List Addr → Prop
  | .non, v, fp => v = .non ∧ fp = []
  | .bl b, v, fp => v = .bl b ∧ fp = []
  | .int i, v, fp => v = .int i ∧ fp = []
  | .str x, v, fp => v = .str x ∧ fp = []
  | .tup ds, v, fp => ∃ a vs, v = .ref a ∧ H a = some (.tup vs) ∧ RepOs H ds vs fp
  | .lst ds, v, fp => ∃ a vs fq, v = .ref a ∧ H a = some (.lst vs) ∧ fp = a :: fq ∧ RepOs H ds vs fq
  | .dK kvs, v, fp => ∃ a ws fq, v = .ref a ∧ H a = some (.dK ws) ∧ fp = a :: fq ∧ RepOK H kvs ws fq
  | .dT kvs, v, fp => ∃ a ws fq, v = .ref a ∧ H a = some (.dT ws) ∧ fp = a :: fq ∧ RepOT H kvs ws fq
  | .obj C fs, v, fp => ∃ a dx ws fq, v = .ref a ∧ H a = some (.ins C dx ws) ∧ fp = a :: fq ∧ RepOF H fs ws fq
  | .dN _ _, _, _ => False
def RepOs (H : Hp) : List D → List V → List Addr → Prop
  | [], vs, fp => vs = [] ∧ fp = []
  | d :: r, vs, fp => ∃ v s f1 f2, vs = v :: s ∧ fp = f1 ++ f2 ∧ RepO H d v f1 ∧ RepOs H r s f2
def RepOK (H : Hp) : List (Key × D) → List (Key × V) → List Addr → Prop
  | [], vs, fp => vs = [] ∧ fp = []
  | (k, d) :: r, vs, fp => ∃ v s f1 f2, vs = (k, v) :: s ∧ fp = f1 ++ f2 ∧ RepO H d v f1 ∧ RepOK H r s f2
def RepOT (H : Hp) : List (List Key × D) → List (List Key × V) → List Addr → Prop
  | [], vs, fp => vs = [] ∧ fp = []
  | (k, d) :: r, vs, fp => ∃ v s f1 f2, vs = (k, v) :: s ∧ fp = f1 ++ f2 ∧ RepO H d v f1 ∧ RepOT H r s f2
def RepOF (H : Hp) : List (Str × D) → List (Str × V) → List Addr → Prop
  | [], vs, fp => vs = [] ∧ fp = []
  | (k, d) :: r, vs, fp => ∃ v s f1 f2, vs = (k, v) :: s ∧ fp = f1 ++ f2 ∧ RepO H d v f1 ∧ RepOF H r s f2
end
/-- what stands at fp, and all tuples, stand in H' too -/
structure At (H H' : Hp) (fp : List Addr) : Prop where
  a : ∀ p ∈ fp, H' p = H p
  t : ∀ a vs, H a = some (.tup vs) → H' a = some (.tup vs)
theorem At.l {H H' : Hp} {f1 f2 : List Addr} (h : At H H' (f1 ++ f2)) : At H H' f1 := ⟨fun p hp => h.a p (List.mem_append_left _ hp), h.t⟩
theorem At.r {H H' : Hp} {f1 f2 : List Addr} (h : At H H' (f1 ++ f2)) : At H H' f2 := ⟨fun p hp => h.a p (List.mem_append_right _ hp), h.t⟩
theorem At.tl {H H' : Hp} {p : Addr} {f2 : List Addr} (h : At H H' (p :: f2)) : At H H' f2 := ⟨fun q hq => h.a q (List.mem_cons_of_mem _ hq), h.t⟩
mutual
theorem RepO.at {H H' : Hp} : ∀ {d : D} {v : V} {fp : List Addr}, At H H' fp → RepO H d v fp → RepO H' d v fp
  | .non, _, _, _, h => h
  | .bl _, _, _, _, h => h
  | .int _, _, _, _, h => h
  | .str _, _, _, _, h => h
  | .tup ds, _, _, l, ⟨a, vs, e, h, r⟩ => ⟨a, vs, e, l.t _ _ h, RepOs.at l r⟩
  | .lst ds, _, _, l, ⟨a, vs, fq, e, h, ef, r⟩ => by subst ef; exact ⟨a, vs, fq, e, (l.a a List.mem_cons_self).trans h, rfl, RepOs.at l.tl r⟩
  | .dK kvs, _, _, l, ⟨a, vs, fq, e, h, ef, r⟩ => by subst ef; exact ⟨a, vs, fq, e, (l.a a List.mem_cons_self).trans h, rfl, RepOK.at l.tl r⟩
  | .dT kvs, _, _, l, ⟨a, vs, fq, e, h, ef, r⟩ => by subst ef; exact ⟨a, vs, fq, e, (l.a a List.mem_cons_self).trans h, rfl, RepOT.at l.tl r⟩
  | .obj C fs, _, _, l, ⟨a, dx, ws, fq, e, h, ef, r⟩ => by subst ef; exact ⟨a, dx, ws, fq, e, (l.a a List.mem_cons_self).trans h, rfl, RepOF.at l.tl r⟩
  | .dN _ _, _, _, _, h => h.elim
theorem RepOs.at {H H' : Hp} : ∀ {ds : List D} {vs : List V} {fp : List Addr}, At H H' fp → RepOs H ds vs fp → RepOs H' ds vs fp
  | [], _, _, _, h => h
  | d :: r, _, _, l, ⟨v, s, f1, f2, e, ef, h, q⟩ => by subst ef; exact ⟨v, s, f1, f2, e, rfl, RepO.at l.l h, RepOs.at l.r q⟩
theorem RepOK.at {H H' : Hp} : ∀ {ds : List (Key × D)} {vs : List (Key × V)} {fp : List Addr}, At H H' fp → RepOK H ds vs fp → RepOK H' ds vs fp
  | [], _, _, _, h => h
  | (k, d) :: r, _, _, l, ⟨v, s, f1, f2, e, ef, h, q⟩ => by subst ef; exact ⟨v, s, f1, f2, e, rfl, RepO.at l.l h, RepOK.at l.r q⟩
theorem RepOT.at {H H' : Hp} : ∀ {ds : List (List Key × D)} {vs : List (List Key × V)} {fp : List Addr}, At H H' fp → RepOT H ds vs fp → RepOT H' ds vs fp
  | [], _, _, _, h => h
  | (k, d) :: r, _, _, l, ⟨v, s, f1, f2, e, ef, h, q⟩ => by subst ef; exact ⟨v, s, f1, f2, e, rfl, RepO.at l.l h, RepOT.at l.r q⟩
theorem RepOF.at {H H' : Hp} : ∀ {ds : List (Str × D)} {vs : List (Str × V)} {fp : List Addr}, At H H' fp → RepOF H ds vs fp → RepOF H' ds vs fp
  | [], _, _, _, h => h
  | (k, d) :: r, _, _, l, ⟨v, s, f1, f2, e, ef, h, q⟩ => by subst ef; exact ⟨v, s, f1, f2, e, rfl, RepO.at l.l h, RepOF.at l.r q⟩
end
mutual
/-- owned data are data of the region that holds fp and the tuples -/
theorem RepO.rep {H G : Hp} : ∀ {d : D} {v : V} {fp : List Addr}, At H G fp → RepO H d v fp → Rep G d v
  | .non, _, _, _, h => h.1
  | .bl _, _, _, _, h => h.1
  | .int _, _, _, _, h => h.1
  | .str _, _, _, _, h => h.1
  | .tup ds, _, _, l, ⟨a, vs, e, h, r⟩ => ⟨a, vs, e, l.t _ _ h, RepOs.rep l r⟩
  | .lst ds, _, _, l, ⟨a, vs, fq, e, h, ef, r⟩ => by subst ef; exact ⟨a, vs, e, .inl ((l.a a List.mem_cons_self).trans h), RepOs.rep l.tl r⟩
  | .dK kvs, _, _, l, ⟨a, vs, fq, e, h, ef, r⟩ => by subst ef; exact ⟨a, vs, e, .inl ((l.a a List.mem_cons_self).trans h), RepOK.rep l.tl r⟩
  | .dT kvs, _, _, l, ⟨a, vs, fq, e, h, ef, r⟩ => by subst ef; exact ⟨a, vs, e, .inl ((l.a a List.mem_cons_self).trans h), RepOT.rep l.tl r⟩
  | .obj C fs, _, _, l, ⟨a, dx, ws, fq, e, h, ef, r⟩ => by subst ef; exact ⟨a, dx, ws, e, (l.a a List.mem_cons_self).trans h, RepOF.rep l.tl r⟩
  | .dN _ _, _, _, _, h => h.elim
theorem RepOs.rep {H G : Hp} : ∀ {ds : List D} {vs : List V} {fp : List Addr}, At H G fp → RepOs H ds vs fp → Reps G ds vs
  | [], _, _, _, h => h.1
  | d :: r, _, _, l, ⟨v, s, f1, f2, e, ef, h, q⟩ => by subst ef; exact ⟨v, s, e, RepO.rep l.l h, RepOs.rep l.r q⟩
theorem RepOK.rep {H G : Hp} : ∀ {ds : List (Key × D)} {vs : List (Key × V)} {fp : List Addr}, At H G fp → RepOK H ds vs fp → RepK G ds vs
  | [], _, _, _, h => h.1
  | (k, d) :: r, _, _, l, ⟨v, s, f1, f2, e, ef, h, q⟩ => by subst ef; exact ⟨v, s, e, RepO.rep l.l h, RepOK.rep l.r q⟩
theorem RepOT.rep {H G : Hp} : ∀ {ds : List (List Key × D)} {vs : List (List Key × V)} {fp : List Addr}, At H G fp → RepOT H ds vs fp → RepT G ds vs
  | [], _, _, _, h => h.1
  | (k, d) :: r, _, _, l, ⟨v, s, f1, f2, e, ef, h, q⟩ => by subst ef; exact ⟨v, s, e, RepO.rep l.l h, RepOT.rep l.r q⟩
theorem RepOF.rep {H G : Hp} : ∀ {ds : List (Str × D)} {vs : List (Str × V)} {fp : List Addr}, At H G fp → RepOF H ds vs fp → RepF G ds vs
  | [], _, _, _, h => h.1
  | (k, d) :: r, _, _, l, ⟨v, s, f1, f2, e, ef, h, q⟩ => by subst ef; exact ⟨v, s, e, RepO.rep l.l h, RepOF.rep l.r q⟩
end
mutual
/-- each of fp holds a list or a dict -/
theorem RepO.mut {H : Hp} : ∀ {d : D} {v : V} {fp : List Addr}, RepO H d v fp → ∀ p ∈ fp, Mut (H p)
  | .non, _, _, h, p, hp => by rw [h.2] at hp; cases hp
  | .bl _, _, _, h, p, hp => by rw [h.2] at hp; cases hp
  | .int _, _, _, h, p, hp => by rw [h.2] at hp; cases hp
  | .str _, _, _, h, p, hp => by rw [h.2] at hp; cases hp
  | .tup ds, _, _, ⟨a, vs, e, h, r⟩, p, hp => RepOs.mut r p hp
  | .lst ds, _, _, ⟨a, vs, fq, e, h, ef, r⟩, p, hp => by
    subst ef
    rcases List.mem_cons.mp hp with z | hp
    · subst z; rw [h]; trivial
    · exact RepOs.mut r p hp
  | .dK kvs, _, _, ⟨a, vs, fq, e, h, ef, r⟩, p, hp => by
    subst ef
    rcases List.mem_cons.mp hp with z | hp
    · subst z; rw [h]; trivial
    · exact RepOK.mut r p hp
  | .dT kvs, _, _, ⟨a, vs, fq, e, h, ef, r⟩, p, hp => by
    subst ef
    rcases List.mem_cons.mp hp with z | hp
    · subst z; rw [h]; trivial
    · exact RepOT.mut r p hp
  | .obj C fs, _, _, ⟨a, dx, ws, fq, e, h, ef, r⟩, p, hp => by
    subst ef
    rcases List.mem_cons.mp hp with z | hp
    · subst z; rw [h]; trivial
    · exact RepOF.mut r p hp
  | .dN _ _, _, _, h, _, _ => h.elim
theorem RepOs.mut {H : Hp} : ∀ {ds : List D} {vs : List V} {fp : List Addr}, RepOs H ds vs fp → ∀ p ∈ fp, Mut (H p)
  | [], _, _, h, p, hp => by rw [h.2] at hp; cases hp
  | d :: r, _, _, ⟨v, s, f1, f2, e, ef, h, q⟩, p, hp => by
    subst ef
    rcases List.mem_append.mp hp with hp | hp
    · exact RepO.mut h p hp
    · exact RepOs.mut q p hp
theorem RepOK.mut {H : Hp} : ∀ {ds : List (Key × D)} {vs : List (Key × V)} {fp : List Addr}, RepOK H ds vs fp → ∀ p ∈ fp, Mut (H p)
  | [], _, _, h, p, hp => by rw [h.2] at hp; cases hp
  | (k, d) :: r, _, _, ⟨v, s, f1, f2, e, ef, h, q⟩, p, hp => by
    subst ef
    rcases List.mem_append.mp hp with hp | hp
    · exact RepO.mut h p hp
    · exact RepOK.mut q p hp
theorem RepOT.mut {H : Hp} : ∀ {ds : List (List Key × D)} {vs : List (List Key × V)} {fp : List Addr}, RepOT H ds vs fp → ∀ p ∈ fp, Mut (H p)
  | [], _, _, h, p, hp => by rw [h.2] at hp; cases hp
  | (k, d) :: r, _, _, ⟨v, s, f1, f2, e, ef, h, q⟩, p, hp => by
    subst ef
    rcases List.mem_append.mp hp with hp | hp
    · exact RepO.mut h p hp
    · exact RepOT.mut q p hp
theorem RepOF.mut {H : Hp} : ∀ {ds : List (Str × D)} {vs : List (Str × V)} {fp : List Addr}, RepOF H ds vs fp → ∀ p ∈ fp, Mut (H p)
  | [], _, _, h, p, hp => by rw [h.2] at hp; cases hp
  | (k, d) :: r, _, _, ⟨v, s, f1, f2, e, ef, h, q⟩, p, hp => by
    subst ef
    rcases List.mem_append.mp hp with hp | hp
    · exact RepO.mut h p hp
    · exact RepOF.mut q p hp
end
mutual
theorem RepO.of_imm {H : Hp} : ∀ {d : D} {v : V}, imm d = true → Rep H d v → RepO H d v []
  | .non, _, _, h => ⟨h, rfl⟩
  | .bl _, _, _, h => ⟨h, rfl⟩
  | .int _, _, _, h => ⟨h, rfl⟩
  | .str _, _, _, h => ⟨h, rfl⟩
  | .tup ds, _, i, ⟨a, vs, e, h, r⟩ => ⟨a, vs, e, h, RepOs.of_imm (by simpa [DL.imm] using i) r⟩
  | .lst ds, _, i, _ => by simp [DL.imm] at i
  | .dK kvs, _, i, _ => by simp [DL.imm] at i
  | .dT kvs, _, i, _ => by simp [DL.imm] at i
  | .obj C fs, _, i, _ => by simp [DL.imm] at i
  | .dN _ _, _, i, _ => by simp [DL.imm] at i
theorem RepOs.of_imm {H : Hp} : ∀ {ds : List D} {vs : List V}, imms ds = true → Reps H ds vs → RepOs H ds vs []
  | [], _, _, h => ⟨h, rfl⟩
  | d :: r, _, i, ⟨v, s, e, h, q⟩ => by
    have j := i
    simp only [imms, Bool.and_eq_true] at j
    exact ⟨v, s, [], [], e, rfl, RepO.of_imm j.1 h, RepOs.of_imm j.2 q⟩
end
/-- the list or dict at p itself, its items in the region -/
def OwnS (G H : Hp) (p : Addr) : D → Prop
  | .lst ds => ∃ vs, H p = some (.lst vs) ∧ Reps G ds vs
  | .dK kvs => ∃ ws, H p = some (.dK ws) ∧ RepK G kvs ws
  | .dT kvs => ∃ ws, H p = some (.dT ws) ∧ RepT G kvs ws
  | .dN w kvs => ∃ o xs, H p = some (ObjX p o) ∧ DatN w p o xs ∧ RepN G kvs xs
  | _ => False
def OwnK (k : Kd) (G H : Hp) (d : D) (v : V) (fp : List Addr) : Prop := match k with
  | .sh => ∃ p, v = .ref p ∧ fp = [p] ∧ OwnS G H p d
  | .dp => RepO H d v fp ∧ fp.Nodup
  | .pin _ => False
theorem OwnS.at {G G' H H' : Hp} {p : Addr} {d : D} (l : Le G G') (e : H' p = H p) (h : OwnS G H p d) : OwnS G' H' p d := by
  cases d with
  | lst ds => obtain ⟨vs, h1, h2⟩ := h; exact ⟨vs, e.trans h1, h2.le l⟩
  | dK ds => obtain ⟨vs, h1, h2⟩ := h; exact ⟨vs, e.trans h1, h2.le l⟩
  | dT ds => obtain ⟨vs, h1, h2⟩ := h; exact ⟨vs, e.trans h1, h2.le l⟩
  | dN w ds => obtain ⟨o, xs, h1, h2, h3⟩ := h; exact ⟨o, xs, e.trans h1, h2, h3.le l⟩
  | _ => exact h.elim
theorem OwnK.at {k : Kd} {G G' H H' : Hp} {d : D} {v : V} {fp : List Addr} (l : Le G G') (a : At H H' fp) (h : OwnK k G H d v fp) : OwnK k G' H' d v fp := by
  cases k with
  | sh => obtain ⟨p, e, ef, h⟩ := h; subst ef; exact ⟨p, e, rfl, h.at l (a.a p List.mem_cons_self)⟩
  | dp => exact ⟨h.1.at a, h.2⟩
  | pin z => exact h.elim
theorem OwnK.rep {k : Kd} {G G' H : Hp} {d : D} {v : V} {fp : List Addr} (l : Le G G') (a : At H G' fp) (h : OwnK k G H d v fp) : Rep G' d v := by
  cases k with
  | sh =>
    obtain ⟨p, e, ef, h⟩ := h
    subst ef
    have ep := a.a p List.mem_cons_self
    cases d with
    | lst ds => obtain ⟨vs, h1, h2⟩ := h; exact ⟨p, vs, e, .inl (ep.trans h1), h2.le l⟩
    | dK ds => obtain ⟨vs, h1, h2⟩ := h; exact ⟨p, vs, e, .inl (ep.trans h1), h2.le l⟩
    | dT ds => obtain ⟨vs, h1, h2⟩ := h; exact ⟨p, vs, e, .inl (ep.trans h1), h2.le l⟩
    | dN w ds => obtain ⟨o, xs, h1, h2, h3⟩ := h; exact ⟨p, o, xs, e, .inl (ep.trans h1), h2, h3.le l⟩
    | _ => exact h.elim
  | dp => exact h.1.rep a
  | pin z => exact h.elim
theorem OwnK.mut {k : Kd} {G H : Hp} {d : D} {v : V} {fp : List Addr} (h : OwnK k G H d v fp) : ∀ p ∈ fp, Mut (H p) := by
  cases k with
  | sh =>
    obtain ⟨p, e, ef, h⟩ := h
    subst ef
    intro q hq
    have : q = p := by simpa using hq
    subst this
    cases d with
    | lst ds => obtain ⟨vs, h1, h2⟩ := h; rw [h1]; trivial
    | dK ds => obtain ⟨vs, h1, h2⟩ := h; rw [h1]; trivial
    | dT ds => obtain ⟨vs, h1, h2⟩ := h; rw [h1]; trivial
    | dN w ds => obtain ⟨o, xs, h1, h2, h3⟩ := h; rw [h1]; trivial
    | _ => exact h.elim
  | dp => exact h.1.mut
  | pin z => exact h.elim

/-! ### the state within a def -/
abbrev Owns := List (Nat × Kd)
structure SIf (fp : Nat → List Addr) (G0 H0 : Hp) (ow : Owns) (G H : Hp) (σ : L2.St) (ρ : Env) : Prop where
  ext : Ext G0 H0 G H
  len : ρ.length = σ.length
  val : ∀ (i : Nat) (d : D), ρ[i]? = some (some d) → ow.lookup i = none → ∃ v, σ[i]? = some (some v) ∧ Rep G d v
  own : ∀ (i : Nat) (k : Kd) (d : D), ow.lookup i = some k → ρ[i]? = some (some d) → ∃ v, σ[i]? = some (some v) ∧ OwnK k G H d v (fp i)
  fpm : ∀ i p, p ∈ fp i → G p = none ∧ H0 p = none ∧ Mut (H p)
  fpd : ∀ i j p, i ≠ j → p ∈ fp i → p ∉ fp j
  pin : ∀ (i : Nat) (v : V), ow.lookup (i + 1000) = some (.pin v) → ow.lookup i ≠ none → σ[i]? = some (some v)
def SI (G0 H0 : Hp) (own : Owns) (G H : Hp) (σ : L2.St) (ρ : Env) : Prop := ∃ fp, SIf fp G0 H0 own G H σ ρ
def maskE (own : Owns) (ρ : Env) : Env := own.foldl (fun ρ p => ρ.set p.1 none) ρ
/-- the region with all that is new, and the tuples -/
def viewG (H0 G H : Hp) : Hp := fun a => match H0 a, H a with
  | none, o => o
  | some _, some (.tup vs) => some (.tup vs)
  | some _, _ => G a
section
variable {G0 H0 G H G' H' : Hp} {own : Owns} {σ : L2.St} {ρ : Env}
theorem maskE_get : ∀ {own : Owns} {ρ : Env} {i : Nat} {d : D}, (maskE own ρ)[i]? = some (some d) → ρ[i]? = some (some d) ∧ own.lookup i = none
  | [], _, _, _, h => ⟨h, rfl⟩
  | (j, k) :: own, ρ, i, d, h => by
    have h : (maskE own (ρ.set j none))[i]? = some (some d) := h
    obtain ⟨h1, h2⟩ := maskE_get h
    by_cases e : j = i
    · subst e
      by_cases hv : j < ρ.length
      · rw [List.getElem?_set_self hv] at h1; cases h1
      · rw [List.getElem?_eq_none (by simpa using hv)] at h1; cases h1
    · rw [List.getElem?_set_ne e] at h1
      refine ⟨h1, ?_⟩
      rw [List.lookup_cons, show (i == j) = false by simpa using Ne.symm e]
      exact h2
theorem maskE_len : ∀ {own : Owns} {ρ : Env}, (maskE own ρ).length = ρ.length
  | [], _ => rfl
  | (j, k) :: own, ρ => by
    show (maskE own (ρ.set j none)).length = _
    rw [maskE_len, List.length_set]
theorem SIf.sub {fp} (I : SIf fp G0 H0 own G H σ ρ) : Sub G H := I.ext.s
theorem SI.ext (I : SI G0 H0 own G H σ ρ) : Ext G0 H0 G H := let ⟨_, I⟩ := I; I.ext
theorem SI.sub (I : SI G0 H0 own G H σ ρ) : Sub G H := I.ext.s
theorem SI.len (I : SI G0 H0 own G H σ ρ) : ρ.length = σ.length := let ⟨_, I⟩ := I; I.len
/-- reading what is not owned -/
theorem SIf.masked {fp} (I : SIf fp G0 H0 own G H σ ρ) : EnvR G σ (maskE own ρ) := ⟨by rw [maskE_len]; exact I.len, fun i d e => by
  obtain ⟨h1, h2⟩ := maskE_get e
  exact I.val i d h1 h2⟩
theorem view_le (s : Sub G H) : Le G (viewG H0 G H) := Le.of fun a o e => by
  unfold viewG
  split
  · exact s a o e
  · rename_i x q
    have := s a o e
    rw [q] at this; cases this; rfl
  · exact e
theorem view_ext (x : Ext G0 H0 G H) : Ext G0 H0 (viewG H0 G H) H where
  h := x.h
  g := fun a o e => by
    have e2 := x.g a o e
    have e3 := x.s a o e2
    unfold viewG
    split
    · exact e3
    · rename_i q; rw [q] at e3; cases e3; rfl
    · exact e2
  s := fun a o e => by
    unfold viewG at e
    split at e
    · exact e
    · rename_i q; rw [q]; exact e
    · exact x.s a o e
  n := fun a o e => by
    unfold viewG at e
    split at e
    · rename_i q; exact .inr (.inl q)
    · exact .inr (.inr ⟨_, (Option.some.inj e).symm⟩)
    · exact x.n a o e
theorem view_at {fp : List Addr} (h : ∀ p ∈ fp, H0 p = none) : At H (viewG H0 G H) fp := ⟨fun p hp => by unfold viewG; rw [h p hp], fun a vs e => by
  unfold viewG; rw [e]; cases H0 a <;> rfl⟩
/-- reading all slots -/
theorem SIf.view {fp} (I : SIf fp G0 H0 own G H σ ρ) : EnvR (viewG H0 G H) σ ρ := ⟨I.len, fun i d e => by
  cases q : own.lookup i with
  | none =>
    obtain ⟨v, h1, h2⟩ := I.val i d e q
    exact ⟨v, h1, h2.le (view_le I.sub)⟩
  | some k =>
    obtain ⟨v, h1, h2⟩ := I.own i k d q e
    exact ⟨v, h1, h2.rep (view_le I.sub) (view_at fun p hp => (I.fpm i p hp).2.1)⟩⟩
theorem Ext.mutn (x : Ext G H G' H') {p : Addr} (n : G p = none) (m : Mut (H p)) : G' p = none := by
  cases q : G' p with
  | none => rfl
  | some o =>
    rcases x.n p o q with z | z | ⟨vs, z⟩
    · rw [n] at z; cases z
    · rw [z] at m; exact m.elim
    · subst z
      have h1 := x.s _ _ q
      cases r : H p with
      | none => rw [r] at m; exact m.elim
      | some u =>
        have h2 := x.h _ _ r
        rw [h1] at h2; cases h2
        rw [r] at m; exact m.elim
theorem Ext.at (x : Ext G H G' H') {fp : List Addr} (m : ∀ p ∈ fp, Mut (H p)) : At H H' fp := ⟨fun p hp => by
  cases r : H p with
  | none => have := m p hp; rw [r] at this; exact this.elim
  | some u => exact x.h _ _ r, fun a vs e => x.h _ _ e⟩
theorem mut_keep (x : Ext G H G' H') {p : Addr} (m : Mut (H p)) : Mut (H' p) := by
  rw [(x.at (fp := [p]) fun q hq => by rw [show q = p by simpa using hq]; exact m).a p List.mem_cons_self]
  exact m
/-- the heap has grown -/
theorem SIf.grow {fp} (I : SIf fp G0 H0 own G H σ ρ) (x : Ext G H G' H') : SIf fp G0 H0 own G' H' σ ρ where
  ext := I.ext.trans x
  len := I.len
  val := fun i d e q => by
    obtain ⟨v, h1, h2⟩ := I.val i d e q
    exact ⟨v, h1, h2.le x.le⟩
  own := fun i k d q e => by
    obtain ⟨v, h1, h2⟩ := I.own i k d q e
    exact ⟨v, h1, h2.at x.le (x.at fun p hp => (I.fpm i p hp).2.2)⟩
  fpm := fun i p hp => by
    obtain ⟨h1, h2, h3⟩ := I.fpm i p hp
    exact ⟨x.mutn h1 h3, h2, mut_keep x h3⟩
  fpd := I.fpd
  pin := I.pin
/-- a slot that is not owned is set -/
theorem SIf.set {fp} (I : SIf fp G0 H0 own G H σ ρ) {j : Nat} {d : D} {v : V} (hj : own.lookup j = none) (r : Rep G d v) : SIf fp G0 H0 own G H (σ.set j (some v)) (ρ.set j (some d)) where
  ext := I.ext
  len := by simp [I.len]
  val := fun i d' e q => by
    by_cases hi : j = i
    · subst hi
      by_cases hv : j < ρ.length
      · rw [List.getElem?_set_self hv] at e; cases e
        exact ⟨v, List.getElem?_set_self (by rw [← I.len]; exact hv), r⟩
      · rw [List.getElem?_eq_none (by simpa using hv)] at e; cases e
    · rw [List.getElem?_set_ne hi] at e
      obtain ⟨w, h1, h2⟩ := I.val i d' e q
      exact ⟨w, by rw [List.getElem?_set_ne hi]; exact h1, h2⟩
  own := fun i k d' q e => by
    have hi : j ≠ i := fun z => by subst z; rw [hj] at q; cases q
    rw [List.getElem?_set_ne hi] at e
    obtain ⟨w, h1, h2⟩ := I.own i k d' q e
    exact ⟨w, by rw [List.getElem?_set_ne hi]; exact h1, h2⟩
  fpm := I.fpm
  fpd := I.fpd
  pin := fun i w q n => by
    have hi : j ≠ i := fun z => by subst z; exact n hj
    rw [List.getElem?_set_ne hi]
    exact I.pin i w q n
theorem SIf.sets {fp} : ∀ {is : List Nat} {ds : List D} {vs : List V} {σ : L2.St} {ρ : Env}, SIf fp G0 H0 own G H σ ρ → (∀ i ∈ is, own.lookup i = none) → Reps G ds vs → SIf fp G0 H0 own G H (setS σ is vs) (setE ρ is ds)
  | [], _, _, _, _, I, _, _ => by unfold setS setE; exact I
  | i :: is, [], _, _, _, I, _, r => by rw [show _ = [] from r]; exact I
  | i :: is, d :: ds, _, σ, ρ, I, hi, ⟨v, s, e, r1, r2⟩ => by
    subst e
    show SIf fp G0 H0 own G H (setS (σ.set i (some v)) is s) (setE (ρ.set i (some d)) is ds)
    exact SIf.sets (I.set (hi i List.mem_cons_self) r1) (fun j hj => hi j (List.mem_cons_of_mem _ hj)) r2
/-- what is known may be forgotten -/
theorem SIf.weak {fp} (I : SIf fp G0 H0 own G H σ ρ) {ρ' : Env} (hl : ρ'.length = ρ.length) (h : ∀ (i : Nat) (d : D), ρ'[i]? = some (some d) → ρ[i]? = some (some d)) : SIf fp G0 H0 own G H σ ρ' :=
  ⟨I.ext, hl.trans I.len, fun i d e q => I.val i d (h i d e) q, fun i k d q e => I.own i k d q (h i d e), I.fpm, I.fpd, I.pin⟩
theorem SI.weak (I : SI G0 H0 own G H σ ρ) {ρ' : Env} (hl : ρ'.length = ρ.length) (h : ∀ (i : Nat) (d : D), ρ'[i]? = some (some d) → ρ[i]? = some (some d)) : SI G0 H0 own G H σ ρ' := let ⟨fp, I⟩ := I; ⟨fp, I.weak hl h⟩
end
/-- forget slots -/
def forget (ρ : Env) (is : List Nat) : Env := is.foldl (fun ρ i => ρ.set i none) ρ
theorem forget_len : ∀ {is : List Nat} {ρ : Env}, (forget ρ is).length = ρ.length
  | [], _ => rfl
  | i :: is, ρ => by
    show (forget (ρ.set i none) is).length = _
    rw [forget_len, List.length_set]
theorem forget_get : ∀ {is : List Nat} {ρ : Env} {i : Nat} {d : D}, (forget ρ is)[i]? = some (some d) → ρ[i]? = some (some d) ∧ i ∉ is
  | [], _, _, _, h => ⟨h, by simp⟩
  | j :: is, ρ, i, d, h => by
    have h : (forget (ρ.set j none) is)[i]? = some (some d) := h
    obtain ⟨h1, h2⟩ := forget_get h
    by_cases e : j = i
    · subst e
      by_cases hv : j < ρ.length
      · rw [List.getElem?_set_self hv] at h1; cases h1
      · rw [List.getElem?_eq_none (by simpa using hv)] at h1; cases h1
    · rw [List.getElem?_set_ne e] at h1
      exact ⟨h1, by simp only [List.mem_cons, not_or]; exact ⟨fun z => e z.symm, h2⟩⟩

/-! ### owned slots come and go -/
theorem lookup_filter {i j : Nat} : ∀ {own : Owns}, (own.filter fun p => p.1 != i).lookup j = if j = i then none else own.lookup j
  | [] => by simp
  | (a, k) :: r => by
    have ih := @lookup_filter i j r
    by_cases ha : a = i
    · subst ha
      rw [List.filter_cons_of_neg (by simp), ih, List.lookup_cons]
      by_cases hj : j = a
      · simp [hj]
      · rw [if_neg hj, if_neg hj, show (j == a) = false by simpa using hj]
    · rw [List.filter_cons_of_pos (by simpa using ha), List.lookup_cons, List.lookup_cons]
      by_cases hj : j = a
      · subst hj; simp [ha]
      · rw [show (j == a) = false by simpa using hj]; exact ih
def disown (own : Owns) (i : Nat) : Owns := own.filter fun p => p.1 != i
theorem disown_self {own : Owns} {i : Nat} : (disown own i).lookup i = none := by unfold disown; rw [lookup_filter, if_pos rfl]
theorem disown_ne {own : Owns} {i j : Nat} (h : j ≠ i) : (disown own i).lookup j = own.lookup j := by unfold disown; rw [lookup_filter, if_neg h]
section
variable {G0 H0 G H G' H' : Hp} {own : Owns} {σ : L2.St} {ρ : Env}
def fpSet (fp : Nat → List Addr) (j : Nat) (fj : List Addr) : Nat → List Addr := fun i => if i = j then fj else fp i
theorem fpSet_self {fp : Nat → List Addr} {j : Nat} {fj : List Addr} : fpSet fp j fj j = fj := if_pos rfl
theorem fpSet_ne {fp : Nat → List Addr} {i j : Nat} {fj : List Addr} (h : i ≠ j) : fpSet fp j fj i = fp i := if_neg h
theorem fpSet_d {fp : Nat → List Addr} {j : Nat} {fj : List Addr} (h : ∀ i j p, i ≠ j → p ∈ fp i → p ∉ fp j) (hd : ∀ i p, i ≠ j → p ∈ fp i → p ∉ fj) : ∀ i i' p, i ≠ i' → p ∈ fpSet fp j fj i → p ∉ fpSet fp j fj i' := by
  intro i i' p hne hp
  by_cases hi : i = j
  · subst hi
    rw [fpSet_self] at hp
    rw [fpSet_ne (Ne.symm hne)]
    exact fun z => hd i' p (Ne.symm hne) z hp
  · rw [fpSet_ne hi] at hp
    by_cases hi' : i' = j
    · subst hi'; rw [fpSet_self]; exact hd i p hi hp
    · rw [fpSet_ne hi']; exact h i i' p hne hp
/-- slot j takes a value that is owned from now on (what it held is forgotten) -/
theorem SIf.take {fp} (I : SIf fp G0 H0 own G H σ ρ) {j : Nat} {k : Kd} {d : D} {v : V} {fj : List Addr} (o : OwnK k G H d v fj) (hn : ∀ p ∈ fj, G p = none ∧ H0 p = none) (hd : ∀ i p, i ≠ j → p ∈ fp i → p ∉ fj) (hpn : own.lookup (j + 1000) = none) :
    SIf (fpSet fp j fj) G0 H0 ((j, k) :: disown own j) G H (σ.set j (some v)) (ρ.set j (some d)) where
  ext := I.ext
  len := by simp [I.len]
  val := fun i d' e q => by
    have hi : j ≠ i := fun z => by subst z; simp at q
    rw [List.lookup_cons, show (i == j) = false by simpa using Ne.symm hi, disown_ne (Ne.symm hi)] at q
    rw [List.getElem?_set_ne hi] at e
    obtain ⟨w, h1, h2⟩ := I.val i d' e q
    exact ⟨w, by rw [List.getElem?_set_ne hi]; exact h1, h2⟩
  own := fun i k' d' q e => by
    by_cases hi : j = i
    · subst hi
      have ek : k = k' := by simpa using q
      subst ek
      by_cases hv : j < ρ.length
      · rw [List.getElem?_set_self hv] at e; cases e
        exact ⟨v, List.getElem?_set_self (by rw [← I.len]; exact hv), by rw [fpSet_self]; exact o⟩
      · rw [List.getElem?_eq_none (by simpa using hv)] at e; cases e
    · rw [List.lookup_cons, show (i == j) = false by simpa using Ne.symm hi, disown_ne (Ne.symm hi)] at q
      rw [List.getElem?_set_ne hi] at e
      obtain ⟨w, h1, h2⟩ := I.own i k' d' q e
      exact ⟨w, by rw [List.getElem?_set_ne hi]; exact h1, by rw [fpSet_ne (Ne.symm hi)]; exact h2⟩
  fpm := fun i p hp => by
    by_cases hi : i = j
    · subst hi
      rw [fpSet_self] at hp
      exact ⟨(hn p hp).1, (hn p hp).2, o.mut p hp⟩
    · rw [fpSet_ne hi] at hp
      exact I.fpm i p hp
  fpd := fpSet_d I.fpd hd
  pin := fun i w q n => by
    have hi : i ≠ j := fun z => by
      subst z
      rw [List.lookup_cons, show (i + 1000 == i) = false by simp, disown_ne (by omega), hpn] at q
      cases q
    have hi2 : i + 1000 ≠ j := fun z => by
      subst z
      have ek : k = .pin w := by simpa using q
      subst ek
      exact o.elim
    rw [List.lookup_cons, show (i + 1000 == j) = false by simpa using hi2, disown_ne hi2] at q
    rw [List.lookup_cons, show (i == j) = false by simpa using hi, disown_ne hi] at n
    rw [List.getElem?_set_ne (Ne.symm hi)]
    exact I.pin i w q n
/-- what slot j owns is changed -/
theorem SIf.change {fp} (I : SIf fp G0 H0 own G H σ ρ) {j : Nat} {k : Kd} {d : D} {v : V} {fj : List Addr} (hj : own.lookup j = some k) (hv : σ[j]? = some (some v)) (hH : ∀ a, a ∉ fp j → H' a = H a ∨ (H a = none ∧ H0 a = none))
    (o : OwnK k G H' d v fj) (hn : ∀ p ∈ fj, G p = none ∧ H0 p = none) (hd : ∀ i p, i ≠ j → p ∈ fp i → p ∉ fj) (ht : ∀ p ∈ fp j, ∀ vs, H p ≠ some (.tup vs)) :
    SIf (fpSet fp j fj) G0 H0 own G H' σ (ρ.set j (some d)) where
  ext := by
    refine ⟨fun a o e => ?_, I.ext.g, fun a o e => ?_, I.ext.n⟩
    · have e2 := I.ext.h a o e
      have hp : a ∉ fp j := fun z => by rw [(I.fpm j a z).2.1] at e; cases e
      rcases hH a hp with q | q
      · rw [q]; exact e2
      · rw [q.1] at e2; cases e2
    · have e2 := I.ext.s a o e
      have hp : a ∉ fp j := fun z => by rw [(I.fpm j a z).1] at e; cases e
      rcases hH a hp with q | q
      · rw [q]; exact e2
      · rw [q.1] at e2; cases e2
  len := by simp [I.len]
  val := fun i d' e q => by
    have hi : j ≠ i := fun z => by subst z; rw [hj] at q; cases q
    rw [List.getElem?_set_ne hi] at e
    exact I.val i d' e q
  own := fun i k' d' q e => by
    by_cases hi : j = i
    · subst hi
      rw [hj] at q; cases q
      by_cases hl : j < ρ.length
      · rw [List.getElem?_set_self hl] at e; cases e
        exact ⟨v, hv, by rw [fpSet_self]; exact o⟩
      · rw [List.getElem?_eq_none (by simpa using hl)] at e; cases e
    · rw [List.getElem?_set_ne hi] at e
      obtain ⟨w, h1, h2⟩ := I.own i k' d' q e
      refine ⟨w, h1, ?_⟩
      rw [fpSet_ne (Ne.symm hi)]
      refine h2.at (Le.of fun _ _ e => e) ⟨fun p hp => ?_, fun a vs e => ?_⟩
      · rcases hH p (I.fpd i j p (Ne.symm hi) hp) with q | q
        · exact q
        · have := (I.fpm i p hp).2.2
          rw [q.1] at this; exact this.elim
      · by_cases ha : a ∈ fp j
        · exact absurd e (ht a ha vs)
        · rcases hH a ha with q | q
          · rw [q]; exact e
          · rw [q.1] at e; cases e
  fpm := fun i p hp => by
    by_cases hi : i = j
    · subst hi
      rw [fpSet_self] at hp
      exact ⟨(hn p hp).1, (hn p hp).2, o.mut p hp⟩
    · rw [fpSet_ne hi] at hp
      obtain ⟨h1, h2, h3⟩ := I.fpm i p hp
      refine ⟨h1, h2, ?_⟩
      rcases hH p (I.fpd i j p hi hp) with q | q
      · rw [q]; exact h3
      · rw [q.1] at h3; exact h3.elim
  fpd := fpSet_d I.fpd hd
  pin := I.pin
theorem SIf.pinD {fp} (I : SIf fp G0 H0 own G H σ ρ) (j : Nat) (i : Nat) (v : V) (q : (disown own j).lookup (i + 1000) = some (.pin v)) (n : (disown own j).lookup i ≠ none) : σ[i]? = some (some v) := by
  have hi : i ≠ j := fun z => by subst z; exact n disown_self
  have hi2 : i + 1000 ≠ j := fun z => by subst z; rw [disown_self] at q; cases q
  rw [disown_ne hi2] at q
  rw [disown_ne hi] at n
  exact I.pin i v q n
/-- an owned slot is owned no more: what it holds is part of the region -/
def joinG (G H : Hp) (fp : List Addr) : Hp := fun a => match H a with
  | some (.tup vs) => some (.tup vs)
  | o => if a ∈ fp then o else G a
theorem SIf.freeze {fp} (I : SIf fp G0 H0 own G H σ ρ) (j : Nat) : SIf (fpSet fp j []) G0 H0 (disown own j) (joinG G H (fp j)) H σ ρ := by
  have hg : ∀ a o, G a = some o → joinG G H (fp j) a = some o := fun a o e => by
    have e2 := I.sub a o e
    unfold joinG
    split
    · rename_i vs q; rw [q] at e2; cases e2; rfl
    · split
      · exact e2
      · exact e
  have hs : Sub (joinG G H (fp j)) H := fun a o e => by
    unfold joinG at e
    split at e
    · rename_i vs q; rw [q]; exact e
    · split at e
      · exact e
      · exact I.sub a o e
  have hn : ∀ a o, joinG G H (fp j) a = some o → G a = some o ∨ a ∈ fp j ∨ ∃ vs, o = .tup vs := fun a o e => by
    unfold joinG at e
    split at e
    · exact .inr (.inr ⟨_, (Option.some.inj e).symm⟩)
    · split at e
      · rename_i h; exact .inr (.inl h)
      · exact .inl e
  have hat : At H (joinG G H (fp j)) (fp j) := ⟨fun p hp => by
    unfold joinG
    split
    · rename_i vs q; rw [q]
    · rw [if_pos hp], fun a vs e => by unfold joinG; rw [e]⟩
  refine ⟨⟨I.ext.h, fun a o e => hg a o (I.ext.g a o e), hs, fun a o e => ?_⟩, I.len, fun i d e q => ?_, fun i k d q e => ?_, fun i p hp => ?_, ?_, I.pinD j⟩
  · rcases hn a o e with q | q | q
    · exact I.ext.n a o q
    · exact .inr (.inl (I.fpm j a q).2.1)
    · exact .inr (.inr q)
  · by_cases hi : i = j
    · subst hi
      cases r : own.lookup i with
      | none =>
        obtain ⟨v, h1, h2⟩ := I.val i d e r
        exact ⟨v, h1, h2.le (Le.of hg)⟩
      | some k =>
        obtain ⟨v, h1, h2⟩ := I.own i k d r e
        exact ⟨v, h1, h2.rep (Le.of hg) hat⟩
    · rw [disown_ne hi] at q
      obtain ⟨v, h1, h2⟩ := I.val i d e q
      exact ⟨v, h1, h2.le (Le.of hg)⟩
  · have hi : i ≠ j := fun z => by subst z; rw [disown_self] at q; cases q
    rw [disown_ne hi] at q
    obtain ⟨v, h1, h2⟩ := I.own i k d q e
    exact ⟨v, h1, by rw [fpSet_ne hi]; exact h2.at (Le.of hg) ⟨fun _ _ => rfl, fun _ _ e => e⟩⟩
  · by_cases hi : i = j
    · subst hi; rw [fpSet_self] at hp; cases hp
    · rw [fpSet_ne hi] at hp
      obtain ⟨h1, h2, h3⟩ := I.fpm i p hp
      refine ⟨?_, h2, h3⟩
      cases q : joinG G H (fp j) p with
      | none => rfl
      | some o =>
        rcases hn p o q with z | z | ⟨vs, z⟩
        · rw [h1] at z; cases z
        · exact absurd z (I.fpd i j p hi hp)
        · subst z
          rw [hs _ _ q] at h3; exact h3.elim
  · refine fpSet_d I.fpd fun i p hi hp => by simp
/-- an owned slot that is forgotten is owned no more -/
theorem SIf.drop {fp} (I : SIf fp G0 H0 own G H σ ρ) (j : Nat) : SIf fp G0 H0 (disown own j) G H σ (ρ.set j none) where
  ext := I.ext
  len := by simp [I.len]
  val := fun i d e q => by
    by_cases hi : j = i
    · subst hi
      by_cases hl : j < ρ.length
      · rw [List.getElem?_set_self hl] at e; cases e
      · rw [List.getElem?_eq_none (by simpa using hl)] at e; cases e
    · rw [List.getElem?_set_ne hi] at e
      rw [disown_ne (Ne.symm hi)] at q
      exact I.val i d e q
  own := fun i k d q e => by
    have hi : i ≠ j := fun z => by subst z; rw [disown_self] at q; cases q
    rw [disown_ne hi] at q
    rw [List.getElem?_set_ne (Ne.symm hi)] at e
    exact I.own i k d q e
  fpm := I.fpm
  fpd := I.fpd
  pin := I.pinD j
end
end DL

/-! DL6: what statements do to slots. -/
namespace DL
open PySem PySem.Spec PyProof.Rows L2

inductive Out where
  | nx (ρ : Env) | rt (d : D) | bk (ρ : Env) | ct (ρ : Env) | ex (c : Str) (ρ : Env) | no
abbrev DSem := Env → Out
/-- what is handed back: any data of the region; or owned ones, all new -/
def RetOk (rk : Option Kd) (G0 H0 : Hp) (Rt : VK) (d : D) : Prop := match rk with
  | none => ∀ G H v, Ext G0 H0 G H → Rep G d v → Rt v H
  | some k => ∀ G H v fj, Ext G0 H0 G H → OwnK k G H d v fj → (∀ p ∈ fj, G p = none ∧ H0 p = none) → Rt v H
def oxSub (ox own : Owns) : Bool := ox.all fun p => own.lookup p.1 == some p.2
structure Jd where
  W : WX
  L : Owns
  ox : Owns
  rk : Option Kd
def GS (mg : Str → Option Value) (J : Jd) (G0 H0 : Hp) (own' : Owns) (Dn : Ends) : Out → Prop
  | .nx ρ => ∀ G H σ, SI G0 H0 own' G H σ ρ → Dn.nx σ H
  | .rt d => RetOk J.rk G0 H0 Dn.rt d
  | .bk ρ => ∀ G H σ, SI G0 H0 J.L G H σ ρ → Dn.bk σ H
  | .ct ρ => ∀ G H σ, SI G0 H0 J.L G H σ ρ → Dn.ct σ H
  | .ex c ρ => ∀ C own G H σ, oxSub J.ox own = true → mg c = some (.ref C) → SI G0 H0 own G H σ ρ → J.W (.ref C) none σ H
  | .no => False
def DS (X : Cx) (J : Jd) (own own' : Owns) (st : Stmt) (F : DSem) : Prop :=
  ∃ t : TS, PS X st t ∧ ∀ (G0 H0 G H : Hp) (σ : L2.St) (ρ : Env) (Dn : Ends), SI G0 H0 own G H σ ρ → GS X.mg J G0 H0 own' Dn (F ρ) → t Dn σ H
def DSs (X : Cx) (J : Jd) (own own' : Owns) (st : List Stmt) (F : DSem) : Prop :=
  ∃ t : TS, PSs X st t ∧ ∀ (G0 H0 G H : Hp) (σ : L2.St) (ρ : Env) (Dn : Ends), SI G0 H0 own G H σ ρ → GS X.mg J G0 H0 own' Dn (F ρ) → t Dn σ H
section
variable {X : Cx} {J : Jd} {own own1 own2 : Owns} {st : Stmt} {rest : List Stmt} {F F1 F2 : DSem}
def sSeq (F1 F2 : DSem) : DSem := fun ρ => match F1 ρ with
  | .nx ρ' => F2 ρ'
  | o => o
def sNext : DSem := fun ρ => .nx ρ
theorem dss_nil : DSs X J own own [] sNext := ⟨_, pss_nil, fun G0 H0 G H σ ρ Dn I h => h G H σ I⟩
theorem dss_one (d : DS X J own own1 st F) : DSs X J own own1 [st] F := let ⟨t, p, h⟩ := d; ⟨t, pss_one p, h⟩
theorem dss_cons (d1 : DS X J own own1 st F1) (d2 : DSs X J own1 own2 rest F2) : DSs X J own own2 (st :: rest) (sSeq F1 F2) := by
  obtain ⟨t1, p1, h1⟩ := d1
  obtain ⟨t2, p2, h2⟩ := d2
  refine ⟨_, pss_cons p1 p2, fun G0 H0 G H σ ρ Dn I h => ?_⟩
  refine h1 G0 H0 G H σ ρ { Dn with nx := t2 Dn } I ?_
  unfold sSeq at h
  cases q : F1 ρ with
  | nx ρ' => rw [q] at h; exact fun G' H' σ' I' => h2 G0 H0 G' H' σ' ρ' Dn I' h
  | rt d => rw [q] at h; exact h
  | bk d => rw [q] at h; exact h
  | ct d => rw [q] at h; exact h
  | ex c d => rw [q] at h; exact h
  | no => rw [q] at h; exact h
theorem ds_pass {pos : Pos} : DS X J own own (.Pass pos) sNext := ⟨_, ps_pass, fun G0 H0 G H σ ρ Dn I h => h G H σ I⟩
theorem ds_doc {x j pos pos'} : DS X J own own (.Expr (.Constant (.str x) j pos) pos') sNext := ⟨_, ps_doc, fun G0 H0 G H σ ρ Dn I h => h G H σ I⟩
def sBreak : DSem := fun ρ => .bk ρ
def sCont : DSem := fun ρ => .ct ρ
theorem ds_break {pos : Pos} : DS X { J with L := own } own own1 (.Break pos) sBreak := ⟨_, ps_break, fun G0 H0 G H σ ρ Dn I h => h G H σ I⟩
theorem ds_cont {pos : Pos} : DS X { J with L := own } own own1 (.Continue pos) sCont := ⟨_, ps_continue, fun G0 H0 G H σ ρ Dn I h => h G H σ I⟩

/-! ### from an expression's goal to a statement's -/
theorem toP {G0 H0 G H : Hp} {σ : L2.St} {ρ : Env} {Dn : Ends} {α : Type} {r : Res α} {k : α → Out} {P : α → Hp → Hp → Prop} {fp} {G1 : Hp} (hx : oxSub J.ox own = true) (I : SIf fp G0 H0 own G H σ ρ) (h1 : Sub G1 H)
    (h : GS X.mg J G0 H0 own1 Dn (match r with | .ok a => k a | .ex c => .ex c ρ | .no => .no)) (hP : ∀ a, r = .ok a → GS X.mg J G0 H0 own1 Dn (k a) → ∀ G' H', Ext G1 H G' H' → P a G' H') : Gl X.mg J.W G1 H σ P r := by
  cases r with
  | ok a => exact hP a rfl h
  | ex c => exact fun C G' H' m e => h C own G H' σ hx m ⟨fp, I.grow (Ext.up I.sub e.h)⟩
  | no => exact h
end
/-- what an expression's answer does next -/
def andThen {α : Type} (r : Res α) (ρ : Env) (k : α → Out) : Out := match r with
  | .ok a => k a
  | .ex c => .ex c ρ
  | .no => .no
section
variable {X : Cx} {J : Jd} {own own1 own2 : Owns} {st : Stmt} {rest : List Stmt} {e : Expr} {f : Env → Res D} {pos : Pos}
/-- in the region alone: owned slots are not read -/
theorem onMasked {t : TE} {G0 H0 G H : Hp} {σ : L2.St} {ρ : Env} {Dn : Ends} {k : D → Out} {Q : VK} {fp} (hx : oxSub J.ox own = true)
    (h1 : ∀ (G H : Hp) (σ : L2.St) (ρ : Env) (Q : VK), Sub G H → EnvR G σ ρ → GlE X.mg J.W G H σ Q (f ρ) → t σ H Q) (I : SIf fp G0 H0 own G H σ ρ) (h : GS X.mg J G0 H0 own1 Dn (andThen (f (maskE own ρ)) ρ k))
    (hP : ∀ d, GS X.mg J G0 H0 own1 Dn (k d) → ∀ G' H' v, Ext G H G' H' → SIf fp G0 H0 own G' H' σ ρ → Rep G' d v → Q v H') : t σ H Q :=
  h1 G H σ (maskE own ρ) Q I.sub I.masked (toP hx I I.sub h fun d _ hk G' H' e v rv => hP d hk G' H' v e (I.grow e) rv)
/-- in the view: all slots are read; what comes is looked at, not kept -/
theorem onView {t : TE} {G0 H0 G H : Hp} {σ : L2.St} {ρ : Env} {Dn : Ends} {k : D → Out} {Q : VK} {fp} (hx : oxSub J.ox own = true)
    (h1 : ∀ (G H : Hp) (σ : L2.St) (ρ : Env) (Q : VK), Sub G H → EnvR G σ ρ → GlE X.mg J.W G H σ Q (f ρ) → t σ H Q) (I : SIf fp G0 H0 own G H σ ρ) (h : GS X.mg J G0 H0 own1 Dn (andThen (f ρ) ρ k))
    (hP : ∀ d, GS X.mg J G0 H0 own1 Dn (k d) → ∀ G' H' v, Ext (viewG H0 G H) H G' H' → SIf fp G0 H0 own (tupG G H') H' σ ρ → Rep G' d v → (imm d = true → Rep (tupG G H') d v) → Q v H') : t σ H Q := by
  have s := (view_ext I.ext).s
  exact h1 _ H σ ρ Q s I.view (toP hx I s h fun d _ hk G' H' e v rv => hP d hk G' H' v e (I.grow (Ext.tups I.sub e.h)) rv fun hi => Rep.imm (fun a vs q => tupG_tup (e.s _ _ q)) hi rv)

/-! ### name = e -/
/-- in the region -/
def sAsg (own : Owns) (j : Nat) (f : Env → Res D) : DSem := fun ρ => andThen (f (maskE own ρ)) ρ fun d => .nx (ρ.set j (some d))
/-- immutable data -/
def sAsgI (j : Nat) (f : Env → Res D) : DSem := fun ρ => andThen (f ρ) ρ fun d => if imm d = true then .nx (ρ.set j (some d)) else .no
theorem set_none_set {σ : Env} {j : Nat} {x : Option D} : (σ.set j none).set j x = σ.set j x := List.set_set ..
/-- the statement stores the value of f in slot j -/
def AE (X : Cx) (W : WX) (st : Stmt) (j : Nat) (f : Env → Res D) : Prop :=
  ∃ t : TE, PS X st (tAsg t (gName j)) ∧ ∀ (G H : Hp) (σ : L2.St) (ρ : Env) (Q : VK), Sub G H → EnvR G σ ρ → GlE X.mg W G H σ Q (f ρ) → t σ H Q
theorem ae_set {j : Nat} {x : Str} {pos' : Pos} (hN : X.N.Nodup) (hi : X.N[j]? = some x) (hl : Loc X.env.scope x) (d : DE X J.W e f) (hs : swapsWith e (some (.Name x pos')) pos.line X.env = pure false := by rfl) (hf : X.fn x = true ∨ X.env.scope.names.lookup x = some .local := by first | exact .inl rfl | exact .inr rfl | assumption) :
    AE X J.W (.Assign [.Name x pos'] e pos) j f := let ⟨t, p, h⟩ := d; ⟨t, ps_set hN hi hl p hs hf, h⟩
theorem ds_asg {j : Nat} (d : AE X J.W st j f) (hx : oxSub J.ox own = true := by rfl) : DS X J own (disown own j) st (sAsg own j f) := by
  obtain ⟨t, pe, h1⟩ := d
  refine ⟨_, pe, fun G0 H0 G H σ ρ Dn ⟨fp, I⟩ h => ?_⟩
  refine onMasked hx h1 I h fun d hk G' H' v e I' rv => ?_
  have I2 := (I'.drop j).set (j := j) (d := d) (v := v) disown_self rv
  rw [set_none_set] at I2
  exact hk G' H' _ ⟨fp, I2⟩
theorem ds_asgI {j : Nat} (d : AE X J.W st j f) (hx : oxSub J.ox own = true := by rfl) : DS X J own (disown own j) st (sAsgI j f) := by
  obtain ⟨t, pe, h1⟩ := d
  refine ⟨_, pe, fun G0 H0 G H σ ρ Dn ⟨fp, I⟩ h => ?_⟩
  refine onView hx h1 I h fun d hk G' H' v e I' _ rv => ?_
  split at hk
  · rename_i hi
    have I2 := (I'.drop j).set (j := j) (d := d) (v := v) disown_self (rv hi)
    rw [set_none_set] at I2
    exact hk _ H' _ ⟨fp, I2⟩
  · exact hk.elim

/-! ### return -/
def sRet (f : Env → Res D) : DSem := fun ρ => andThen (f ρ) ρ fun d => .rt d
def sRetI (f : Env → Res D) : DSem := fun ρ => andThen (f ρ) ρ fun d => if imm d = true then .rt d else .no
theorem ds_ret (hk : J.rk = none) (d : DE X J.W e f) (hx : oxSub J.ox own = true := by rfl) : DS X J own own1 (.Return (some e) pos) (sRet f) := by
  obtain ⟨t, pe, h1⟩ := d
  refine ⟨_, ps_ret pe, fun G0 H0 G H σ ρ Dn ⟨fp, I⟩ h => ?_⟩
  refine onView hx h1 I h fun d hr G' H' v e I' rv _ => ?_
  have hr : RetOk J.rk G0 H0 Dn.rt d := hr
  unfold RetOk at hr
  rw [hk] at hr
  exact hr G' H' v ((view_ext I.ext).trans e) rv
theorem ds_retI (hk : J.rk = some .dp) (d : DE X J.W e f) (hx : oxSub J.ox own = true := by rfl) : DS X J own own1 (.Return (some e) pos) (sRetI f) := by
  obtain ⟨t, pe, h1⟩ := d
  refine ⟨_, ps_ret pe, fun G0 H0 G H σ ρ Dn ⟨fp, I⟩ h => ?_⟩
  refine onView hx h1 I h fun d hr G' H' v e I' rv _ => ?_
  split at hr
  · rename_i hi
    have hr : RetOk J.rk G0 H0 Dn.rt d := hr
    unfold RetOk at hr
    rw [hk] at hr
    have rv' : Rep H' d v := rv.le (Le.of e.s)
    exact hr G' H' v [] ((view_ext I.ext).trans e) ⟨RepO.of_imm hi rv', List.nodup_nil⟩ fun p hp => by cases hp
  · exact hr.elim
def sRetN : DSem := fun _ => .rt .non
theorem ds_retN (hk : J.rk = none) : DS X J own own1 (.Return none pos) sRetN := by
  refine ⟨_, ps_retN, fun G0 H0 G H σ ρ Dn ⟨fp, I⟩ h => ?_⟩
  have h : RetOk J.rk G0 H0 Dn.rt .non := h
  unfold RetOk at h
  rw [hk] at h
  exact h G H .non I.ext rfl
/-- an owned slot is handed back -/
def sRetO (j : Nat) : DSem := fun ρ => match ρ[j]? with
  | some (some d) => .rt d
  | _ => .no
theorem ds_retO {j : Nat} {x : Str} {pos' : Pos} {k : Kd} (hk : J.rk = some k) (ho : own.lookup j = some k) (p : PE X (.Name x pos') (tVar j)) : DS X J own own1 (.Return (some (.Name x pos')) pos) (sRetO j) := by
  refine ⟨_, ps_ret p, fun G0 H0 G H σ ρ Dn ⟨fp, I⟩ h => ?_⟩
  unfold sRetO at h
  split at h
  · rename_i d q
    obtain ⟨v, h1, h2⟩ := I.own j k d ho q
    have h : RetOk J.rk G0 H0 Dn.rt d := h
    unfold RetOk at h
    rw [hk] at h
    exact ⟨v, h1, h G H v (fp j) I.ext h2 fun p hp => ⟨(I.fpm j p hp).1, (I.fpm j p hp).2.1⟩⟩
  · exact h.elim

/-! ### an expression whose value is dropped -/
def sDrop (f : Env → Res D) : DSem := fun ρ => andThen (f ρ) ρ fun _ => .nx ρ
theorem ds_expr (d : DE X J.W e f) (hx : oxSub J.ox own = true := by rfl) (hs : swapsWith e none pos.line X.env = pure false := by rfl) : DS X J own own (.Expr e pos) (sDrop f) := by
  obtain ⟨t, pe, h1⟩ := d
  refine ⟨_, ps_expr pe hs, fun G0 H0 G H σ ρ Dn ⟨fp, I⟩ h => ?_⟩
  exact onView hx h1 I h fun d hr G' H' v e I' rv _ => hr _ H' σ ⟨fp, I'⟩

/-! ### a, b = e -/
def sUnp (own : Owns) (is : List Nat) (ks : D → Res (List D)) (f : Env → Res D) : DSem := fun ρ => andThen (f (maskE own ρ)) ρ fun d => match ks d with
  | .ok l => .nx (setE ρ is l)
  | _ => .no
def sUnpI (is : List Nat) (ks : D → Res (List D)) (f : Env → Res D) : DSem := fun ρ => andThen (f ρ) ρ fun d => match ks d with
  | .ok l => if imm d = true then .nx (setE ρ is l) else .no
  | _ => .no
theorem ds_unp {tg : Expr} {is : List Nat} {ks : D → Res (List D)} (g : DG X tg is ks) (d : DE X J.W e f) (hi : ∀ i ∈ is, own.lookup i = none) (hx : oxSub J.ox own = true := by rfl) (hs : swapsWithSole [tg] e pos.line X.env = pure false := by rfl) (hw : swappedStores [tg] e X.env = pure none := by rfl)
    (h1 : (assignEach [tg] X.env).map (·.2) = [assign tg X.env] := by rfl) : DS X J own own (.Assign [tg] e pos) (sUnp own is ks f) := by
  obtain ⟨t, pe, h2⟩ := d
  obtain ⟨tg', pg, h3⟩ := g
  refine ⟨_, ps_asg pe pg hs hw h1, fun G0 H0 G H σ ρ Dn ⟨fp, I⟩ h => ?_⟩
  refine onMasked hx h2 I h fun d hk G' H' v e I' rv => ?_
  split at hk
  · rename_i l q
    exact h3 G' H' σ v d _ l I'.sub rv q fun ws rws nws => hk G' H' _ ⟨fp, I'.sets hi rws⟩
  · exact hk.elim
theorem ds_unpI {tg : Expr} {is : List Nat} {ks : D → Res (List D)} (g : DG X tg is ks) (d : DE X J.W e f) (hi : ∀ i ∈ is, own.lookup i = none) (hx : oxSub J.ox own = true := by rfl) (hs : swapsWithSole [tg] e pos.line X.env = pure false := by rfl) (hw : swappedStores [tg] e X.env = pure none := by rfl)
    (h1 : (assignEach [tg] X.env).map (·.2) = [assign tg X.env] := by rfl) : DS X J own own (.Assign [tg] e pos) (sUnpI is ks f) := by
  obtain ⟨t, pe, h2⟩ := d
  obtain ⟨tg', pg, h3⟩ := g
  refine ⟨_, ps_asg pe pg hs hw h1, fun G0 H0 G H σ ρ Dn ⟨fp, I⟩ h => ?_⟩
  refine onView hx h2 I h fun d hk G' H' v e I' _ rv => ?_
  split at hk
  · rename_i l q
    split at hk
    · rename_i him
      exact h3 _ H' σ v d _ l I'.sub (rv him) q fun ws rws nws => hk _ H' _ ⟨fp, I'.sets hi rws⟩
    · exact hk.elim
  · exact hk.elim

/-! ### if -/
def sIf (c : Env → Res Bool) (F1 F2 : DSem) : DSem := fun ρ => andThen (c ρ) ρ fun b => if b = true then F1 ρ else F2 ρ
theorem ds_if {c : Expr} {a b : List Stmt} {fc : Env → Res Bool} {F1 F2 : DSem} (d : DT X J.W c fc) (d1 : DSs X J own own1 a F1) (d2 : DSs X J own own1 b F2) (hx : oxSub J.ox own = true := by rfl) : DS X J own own1 (.If c a b pos) (sIf fc F1 F2) := by
  obtain ⟨t, pt, h1⟩ := d
  obtain ⟨ta, pa, ha⟩ := d1
  obtain ⟨tb, pb, hb⟩ := d2
  refine ⟨_, ps_if pt pa pb, fun G0 H0 G H σ ρ Dn ⟨fp, I⟩ h => ?_⟩
  have s := (view_ext I.ext).s
  refine h1 _ H σ ρ _ s I.view (toP hx I s h fun x _ hk G' H' e => ?_)
  have I' : SI G0 H0 own (tupG G H') H' σ ρ := ⟨fp, I.grow (Ext.tups I.sub e.h)⟩
  cases x with
  | true => exact ha G0 H0 _ H' σ ρ Dn I' hk
  | false => exact hb G0 H0 _ H' σ ρ Dn I' hk

/-! ### the ends of blocks: owned slots given up -/
theorem dss_freeze {sts : List Stmt} {F : DSem} (j : Nat) (d : DSs X J own own1 sts F) : DSs X J own (disown own1 j) sts F := by
  obtain ⟨t, p, h⟩ := d
  refine ⟨t, p, fun G0 H0 G H σ ρ Dn I hg => h G0 H0 G H σ ρ Dn I ?_⟩
  cases q : F ρ with
  | nx ρ' => rw [q] at hg; exact fun G' H' σ' ⟨fp, I'⟩ => hg _ H' σ' ⟨_, I'.freeze j⟩
  | rt d => rw [q] at hg; exact hg
  | bk d => rw [q] at hg; exact hg
  | ct d => rw [q] at hg; exact hg
  | ex c d => rw [q] at hg; exact hg
  | no => rw [q] at hg; exact hg
def sThen (F : DSem) (g : Env → Env) : DSem := fun ρ => match F ρ with
  | .nx ρ' => .nx (g ρ')
  | o => o
theorem dss_drop {sts : List Stmt} {F : DSem} (j : Nat) (d : DSs X J own own1 sts F) : DSs X J own (disown own1 j) sts (sThen F fun ρ => ρ.set j none) := by
  obtain ⟨t, p, h⟩ := d
  refine ⟨t, p, fun G0 H0 G H σ ρ Dn I hg => h G0 H0 G H σ ρ Dn I ?_⟩
  unfold sThen at hg
  cases q : F ρ with
  | nx ρ' => rw [q] at hg; exact fun G' H' σ' ⟨fp, I'⟩ => hg _ H' σ' ⟨_, I'.drop j⟩
  | rt d => rw [q] at hg; exact hg
  | bk d => rw [q] at hg; exact hg
  | ct d => rw [q] at hg; exact hg
  | ex c d => rw [q] at hg; exact hg
  | no => rw [q] at hg; exact hg
theorem ds_freeze {F : DSem} (j : Nat) (d : DS X J (disown own j) own1 st F) : DS X J own own1 st F := by
  obtain ⟨t, p, h⟩ := d
  exact ⟨t, p, fun G0 H0 G H σ ρ Dn ⟨fp, I⟩ hg => h G0 H0 _ H σ ρ Dn ⟨_, I.freeze j⟩ hg⟩
/-- a block's end where it never comes to its end: any owned slots -/
theorem oxSub_nil {own : Owns} : oxSub [] own = true := rfl
end

/-! ### while -/
def whileF (c : Env → Res Bool) (F : DSem) (fg : List Nat) : Nat → DSem
  | 0, _ => .no
  | n + 1, ρ => andThen (c ρ) ρ fun b => if b = true then (match F ρ with
      | .nx ρ' => whileF c F fg n (forget ρ' fg)
      | .ct ρ' => whileF c F fg n (forget ρ' fg)
      | .bk ρ' => .nx (forget ρ' fg)
      | o => o) else .nx ρ
def sWhile (fuel : Nat) (c : Env → Res Bool) (F : DSem) (fg : List Nat) : DSem := fun ρ => whileF c F fg fuel (forget ρ fg)
/-! ### for -/
def forF (is : List Nat) (ks : D → Res (List D)) (F : DSem) (fg : List Nat) : List D → DSem
  | [], ρ => .nx ρ
  | d :: r, ρ => match ks d with
    | .ok l => (match F (setE ρ is l) with
      | .nx ρ' => forF is ks F fg r (forget ρ' fg)
      | .ct ρ' => forF is ks F fg r (forget ρ' fg)
      | .bk ρ' => .nx (forget ρ' fg)
      | o => o)
    | _ => .no
def sFor (own : Owns) (fi : Env → Res (List D)) (is : List Nat) (ks : D → Res (List D)) (F : DSem) (fg : List Nat) : DSem := fun ρ => andThen (fi (maskE own ρ)) ρ fun ds => forF is ks F fg ds (forget ρ fg)
def sForV (fi : Env → Res (List D)) (is : List Nat) (ks : D → Res (List D)) (F : DSem) (fg : List Nat) : DSem := fun ρ => andThen (fi ρ) ρ fun ds => forF is ks F fg ds (forget ρ fg)
section
variable {X : Cx} {J : Jd} {own : Owns} {pos : Pos} {G0 H0 : Hp}
theorem SI.forget {G H : Hp} {σ : L2.St} {ρ : Env} (I : SI G0 H0 own G H σ ρ) (is : List Nat) : SI G0 H0 own G H σ (DL.forget ρ is) := I.weak forget_len fun i d e => (forget_get e).1
theorem ds_while {c : Expr} {body : List Stmt} {fc : Env → Res Bool} {F : DSem} {fuel : Nat} {fg : List Nat} (hp : PassesOwn (model X.prog X.w) X.A X.env X.xe) (d : DT X J.W c fc) (d1 : DSs X { J with L := own } own own body F) (hx : oxSub J.ox own = true := by rfl) :
    DS X J own own (.While c body [] pos) (sWhile fuel fc F fg) := by
  obtain ⟨t, pt, h1⟩ := d
  obtain ⟨tb, pb, hb⟩ := d1
  refine ⟨_, ps_while hp pt pb, fun G0 H0 G H σ ρ Dn I h => ?_⟩
  refine ⟨fun m σ H => ∃ G ρ, SI G0 H0 own G H σ ρ ∧ GS X.mg J G0 H0 own Dn (whileF fc F fg m ρ), ⟨fuel, G, _, I.forget fg, h⟩, ?_⟩
  rintro m σ H ⟨G, ρ, ⟨fp, I⟩, h⟩
  cases m with
  | zero => exact h.elim
  | succ n =>
    have s := (view_ext I.ext).s
    refine h1 _ H σ ρ _ s I.view (toP hx I s h fun b _ hk G' H' e => ?_)
    have I' : SI G0 H0 own (tupG G H') H' σ ρ := ⟨fp, I.grow (Ext.tups I.sub e.h)⟩
    cases b with
    | false => exact hk _ H' σ I'
    | true =>
      show ite _ _ _
      rw [if_pos rfl] at hk ⊢
      refine ⟨_, fun σ' H' w => ⟨n, Nat.lt_succ_self n, w⟩, hb G0 H0 _ H' σ ρ _ I' ?_⟩
      cases q : F ρ with
      | nx ρ' => rw [q] at hk; exact fun G2 H2 σ2 I2 => ⟨G2, _, I2.forget fg, hk⟩
      | ct ρ' => rw [q] at hk; exact fun G2 H2 σ2 I2 => ⟨G2, _, I2.forget fg, hk⟩
      | bk ρ' => rw [q] at hk; exact fun G2 H2 σ2 I2 => hk G2 H2 σ2 (I2.forget fg)
      | rt d => rw [q] at hk; exact hk
      | ex c d => rw [q] at hk; exact hk
      | no => rw [q] at hk; exact hk
/-- a new ground: the region and heap as they stand, less what is owned -/
noncomputable def holeH (H : Hp) (fp : Nat → List Addr) : Hp := fun a => open Classical in if ∃ i, a ∈ fp i then none else H a
theorem hole_none {H : Hp} {fp : Nat → List Addr} {a : Addr} (h : holeH H fp a = none) : H a = none ∨ ∃ i, a ∈ fp i := by
  unfold holeH at h
  split at h
  · rename_i q; exact .inr q
  · exact .inl h
theorem hole_some {H : Hp} {fp : Nat → List Addr} {a : Addr} {o : HO} (h : holeH H fp a = some o) : H a = some o := by
  unfold holeH at h
  split at h
  · cases h
  · exact h
theorem hole_in {H : Hp} {fp : Nat → List Addr} {a : Addr} {i : Nat} (h : a ∈ fp i) : holeH H fp a = none := by unfold holeH; rw [if_pos ⟨i, h⟩]
theorem hole_out {H : Hp} {fp : Nat → List Addr} {a : Addr} (h : ∀ i, a ∉ fp i) : holeH H fp a = H a := by unfold holeH; rw [if_neg fun ⟨i, q⟩ => h i q]
theorem SIf.ground {fp} {G H : Hp} {σ : L2.St} {ρ : Env} (I : SIf fp G0 H0 own G H σ ρ) : SIf fp G (holeH H fp) own G H σ ρ where
  ext := ⟨fun a o e => hole_some e, fun _ _ e => e, I.sub, fun a o e => .inl e⟩
  len := I.len
  val := I.val
  own := I.own
  fpm := fun i p hp => ⟨(I.fpm i p hp).1, hole_in hp, (I.fpm i p hp).2.2⟩
  fpd := I.fpd
  pin := I.pin
theorem Ext.unground {fp} {G H G' H' : Hp} {σ : L2.St} {ρ : Env} (I : SIf fp G0 H0 own G H σ ρ) (x : Ext G (holeH H fp) G' H') : Ext G0 H0 G' H' where
  h := fun a o e => x.h a o (by
    rw [hole_out fun i hp => by rw [(I.fpm i a hp).2.1] at e; cases e]
    exact I.ext.h a o e)
  g := fun a o e => x.g a o (I.ext.g a o e)
  s := x.s
  n := fun a o e => by
    rcases x.n a o e with q | q | q
    · exact I.ext.n a o q
    · rcases hole_none q with z | ⟨i, z⟩
      · exact .inr (.inl (I.ext.free z))
      · exact .inr (.inl (I.fpm i a z).2.1)
    · exact .inr (.inr q)
theorem unground_none {fp} {G H : Hp} {σ : L2.St} {ρ : Env} (I : SIf fp G0 H0 own G H σ ρ) {p : Addr} (h : holeH H fp p = none) : H0 p = none := by
  rcases hole_none h with z | ⟨i, z⟩
  · exact I.ext.free z
  · exact (I.fpm i p z).2.1
theorem SI.unground {fp} {G H G' H' : Hp} {σ σ' : L2.St} {ρ ρ' : Env} {own' : Owns} (I : SIf fp G0 H0 own G H σ ρ) (I' : SI G (holeH H fp) own' G' H' σ' ρ') : SI G0 H0 own' G' H' σ' ρ' := by
  obtain ⟨fq, I'⟩ := I'
  exact ⟨fq, ⟨Ext.unground I I'.ext, I'.len, I'.val, I'.own, fun i p hp => ⟨(I'.fpm i p hp).1, unground_none I (I'.fpm i p hp).2.1, (I'.fpm i p hp).2.2⟩, I'.fpd, I'.pin⟩⟩
theorem RetOk.ground {fp} {G H : Hp} {σ : L2.St} {ρ : Env} {rk : Option Kd} {Rt : VK} {d : D} (I : SIf fp G0 H0 own G H σ ρ) (h : RetOk rk G0 H0 Rt d) : RetOk rk G (holeH H fp) Rt d := by
  unfold RetOk at h ⊢
  cases rk with
  | none => exact fun G' H' v x r => h G' H' v (Ext.unground I x) r
  | some k => exact fun G' H' v fj x o n => h G' H' v fj (Ext.unground I x) o fun p hp => ⟨(n p hp).1, unground_none I (n p hp).2⟩
theorem GS.ground {fp} {G H : Hp} {σ : L2.St} {ρ : Env} {own' : Owns} {Dn : Ends} {o : Out} (I : SIf fp G0 H0 own G H σ ρ) (h : GS X.mg J G0 H0 own' Dn o) : GS X.mg J G (holeH H fp) own' Dn o := by
  cases o with
  | nx ρ' => exact fun G' H' σ' I' => h G' H' σ' (SI.unground I I')
  | bk ρ' => exact fun G' H' σ' I' => h G' H' σ' (SI.unground I I')
  | ct ρ' => exact fun G' H' σ' I' => h G' H' σ' (SI.unground I I')
  | rt d => exact RetOk.ground I h
  | ex c ρ' => exact fun C own2 G' H' σ' hx m I' => h C own2 G' H' σ' hx m (SI.unground I I')
  | no => exact h
theorem for_run {tb : TS} {F : DSem} {fg is : List Nat} {ks : D → Res (List D)} {ds : List D} {It' : It} {tg : TG} {G H : Hp} {σ : L2.St} {ρ : Env} {Dn : Ends}
    (h3 : ∀ (G H : Hp) (σ : L2.St) (v : V) (d : D) (Q : L2.St → Hp → Prop) (l : List D), Sub G H → Rep G d v → ks d = .ok l → (∀ ws, Reps G l ws → ws.length = is.length → Q (setS σ is ws) H) → tg v σ H Q)
    (hb : ∀ (G0 H0 G H : Hp) (σ : L2.St) (ρ : Env) (Dn : Ends), SI G0 H0 own G H σ ρ → GS X.mg { J with L := own } G0 H0 own Dn (F ρ) → tb Dn σ H)
    (hi : ∀ i ∈ is, own.lookup i = none) (I : SI G H0 own G H σ ρ) (hJ : ∀ (G2 H2 : Hp) (i : Nat), (∀ a o, G a = some o → G2 a = some o) → Sub G2 H2 → (∀ d, ds[i]? = some d → It'.go i H2 ∧ ∀ x H', It'.yld i H2 x H' → ∃ G', Ext G2 H2 G' H' ∧ Rep G' d x) ∧ (ds.length ≤ i → It'.stop i H2))
    (h : GS X.mg J G H0 own Dn (forF is ks F fg ds ρ)) :
    ∃ W : Nat → Nat → L2.St → Hp → Prop, (∃ m, W 0 m σ H) ∧ ∀ i m σ H, W i m σ H →
      (It'.stop i H ∧ Dn.nx σ H) ∨ (It'.go i H ∧ ∃ N : L2.St → Hp → Prop, (∀ σ' H', N σ' H' → ∃ m', m' < m ∧ W (i + 1) m' σ' H') ∧ ∀ x H', It'.yld i H x H' → tg x σ H' fun σ2 H2 => tb { Dn with nx := N, ct := N, bk := Dn.nx } σ2 H2) := by
  refine ⟨fun i m σ H => m = ds.length - i ∧ i ≤ ds.length ∧ ∃ G' ρ, SI G H0 own G' H σ ρ ∧ GS X.mg J G H0 own Dn (forF is ks F fg (ds.drop i) ρ), ⟨ds.length, by simp, Nat.zero_le _, G, ρ, I, h⟩, ?_⟩
  rintro i m σ H ⟨rfl, hle, G1, ρ1, I1, h1⟩
  obtain ⟨hgo, hstop⟩ := hJ G1 H i I1.ext.g I1.sub
  by_cases hlt : i < ds.length
  · refine .inr ?_
    have hd : ds.drop i = ds[i] :: ds.drop (i + 1) := List.drop_eq_getElem_cons hlt
    rw [hd] at h1
    obtain ⟨go, yl⟩ := hgo ds[i] (by simp [hlt])
    refine ⟨go, _, fun σ' H' w => ⟨ds.length - (i + 1), by omega, rfl, hlt, w⟩, fun x H' y => ?_⟩
    obtain ⟨G2, ex, rx⟩ := yl x H' y
    unfold forF at h1
    split at h1
    · rename_i l q
      refine h3 G2 H' σ x ds[i] _ l ex.s rx q fun ws rws nws => ?_
      obtain ⟨fp, I1⟩ := I1
      have I2 : SI G H0 own G2 H' (setS σ is ws) (setE ρ1 is l) := ⟨fp, (I1.grow ex).sets hi rws⟩
      refine hb G H0 G2 H' _ _ _ I2 ?_
      cases q : F (setE ρ1 is l) with
      | nx ρ' => rw [q] at h1; exact fun G3 H3 σ3 I3 => ⟨G3, _, I3.forget fg, h1⟩
      | ct ρ' => rw [q] at h1; exact fun G3 H3 σ3 I3 => ⟨G3, _, I3.forget fg, h1⟩
      | bk ρ' => rw [q] at h1; exact fun G3 H3 σ3 I3 => h1 G3 H3 σ3 (I3.forget fg)
      | rt d => rw [q] at h1; exact h1
      | ex c d => rw [q] at h1; exact h1
      | no => rw [q] at h1; exact h1
    · exact h1.elim
  · exact .inl ⟨hstop (by omega), by
      have e : i = ds.length := by omega
      subst e
      rw [List.drop_length] at h1
      exact h1 G1 H σ I1⟩
theorem ds_for {tg it : Expr} {body : List Stmt} {fi : Env → Res (List D)} {is fg : List Nat} {ks : D → Res (List D)} {F : DSem} (hp : PassesOwn (model X.prog X.w) X.A X.env X.xe) (hc : X.calm = true) (di : DI X J.W tg it fi) (dg : DG X tg is ks) (db : DSs X { J with L := own } own own body F)
    (hi : ∀ i ∈ is, own.lookup i = none) (hx : oxSub J.ox own = true := by rfl) (hs : ∀ x, foldedSetIterable it X.env x = pure x := by intro _; rfl) : DS X J own own (.For tg it body [] pos) (sFor own fi is ks F fg) := by
  obtain ⟨wi, pi, h1⟩ := di
  obtain ⟨tg', pg, h3⟩ := dg
  obtain ⟨tb, pb, hb⟩ := db
  refine ⟨_, ps_for hp hc pi pg pb hs, fun G0 H0 G H σ ρ Dn ⟨fp, I⟩ h => ?_⟩
  refine h1 G H σ (maskE own ρ) _ I.sub I.masked (toP hx I I.sub h fun ds _ hk G' H' e It' hJ => ?_)
  have I1 := I.grow e
  have I2 := I1.ground
  exact for_run h3 hb hi (SI.forget ⟨fp, I2⟩ fg) hJ (hk.ground I1)
end

/-! ### walks that lean on no region -/
def DIv (X : Cx) (W : WX) (tg it : Expr) (f : Env → Res (List D)) : Prop :=
  ∃ wi : TI, PI X tg it wi ∧ ∀ (G H : Hp) (σ : L2.St) (ρ : Env) (R : It → Hp → Prop), Sub G H → EnvR G σ ρ → Gl X.mg W G H σ (fun ds G' H' => ∀ J, (∀ G2, ItD J G2 ds) → R J H') (f ρ) → wi σ H R
section
variable {X : Cx} {W : WX} {tg e e2 : Expr} {f g : Env → Res D} {p pos : Pos}
theorem div_range1 (hg : L2.Gl X "range") (hm : X.mg "range" = none) (d : DE X W e f) (hs : starEach [e] X.env = [(false, eval e X.env)] := by rfl) : DIv X W tg (.Call (.Name "range" p) [e] [] pos) (iRange1 f) := by
  obtain ⟨t, pe, h1⟩ := d
  refine ⟨_, pi_range1 hg hm (pa_cons pe pa_nil hs) hs, fun G H σ ρ R s e h => ?_⟩
  refine h1 G H σ ρ _ s e (Gl.imp (fun x G1 H1 _ e1 k v rv => ?_) (Gl.bind h))
  cases x with
  | int j =>
    have e2 : v = .int j := rv
    subst e2
    simp only at k
    split at k
    · rename_i z
      exact ⟨j, rfl, z.1, z.2, k G1 H1 (Ext.refl e1.s) _ fun _ => itd_rng⟩
    · exact k.elim
  | _ => exact k.elim
theorem div_range2 (hg : L2.Gl X "range") (hm : X.mg "range" = none) (d : DE X W e f) (d2 : DE X W e2 g) (hs : starEach [e, e2] X.env = [(false, eval e X.env), (false, eval e2 X.env)] := by rfl) (hs2 : starEach [e2] X.env = [(false, eval e2 X.env)] := by rfl) :
    DIv X W tg (.Call (.Name "range" p) [e, e2] [] pos) (iRange2 f g) := by
  obtain ⟨t, pe, h1⟩ := d
  obtain ⟨t2, pe2, h2⟩ := d2
  refine ⟨_, pi_range2 hg hm (pa_cons pe (pa_cons pe2 pa_nil hs2) (by rw [hs, hs2])) hs hs2, fun G H σ ρ R s e h => ?_⟩
  refine h1 G H σ ρ _ s e (Gl.imp (fun x G1 H1 _ e1 k v rv => ?_) (Gl.bind h))
  refine h2 G1 H1 σ ρ _ e1.s (e.le e1.le) (Gl.imp (fun y G2 H2 _ e2 k w rw' => ?_) (Gl.bind k))
  cases x with
  | int i =>
    cases y with
    | int j =>
      have e3 : v = .int i := rv
      have e4 : w = .int j := rw'
      subst e3 e4
      simp only at k
      split at k
      · rename_i z
        exact ⟨i, j, rfl, z, k G2 H2 (Ext.refl e2.s) _ fun _ => itd_rng⟩
      · exact k.elim
    | _ => exact k.elim
  | _ => exact k.elim
end
theorem ds_forV {X : Cx} {J : Jd} {own : Owns} {pos : Pos} {tg it : Expr} {body : List Stmt} {fi : Env → Res (List D)} {is fg : List Nat} {ks : D → Res (List D)} {F : DSem} (hp : PassesOwn (model X.prog X.w) X.A X.env X.xe) (hc : X.calm = true) (di : DIv X J.W tg it fi) (dg : DG X tg is ks) (db : DSs X { J with L := own } own own body F)
    (hi : ∀ i ∈ is, own.lookup i = none) (hx : oxSub J.ox own = true := by rfl) (hs : ∀ x, foldedSetIterable it X.env x = pure x := by intro _; rfl) : DS X J own own (.For tg it body [] pos) (sForV fi is ks F fg) := by
  obtain ⟨wi, pi, h1⟩ := di
  obtain ⟨tg', pg, h3⟩ := dg
  obtain ⟨tb, pb, hb⟩ := db
  refine ⟨_, ps_for hp hc pi pg pb hs, fun G0 H0 G H σ ρ Dn ⟨fp, I⟩ h => ?_⟩
  have s := (view_ext I.ext).s
  refine h1 _ H σ ρ _ s I.view (toP hx I s h fun ds _ hk G' H' e It' hJ => ?_)
  have I1 := I.grow (Ext.tups I.sub e.h)
  have I2 := I1.ground
  exact for_run h3 hb hi (SI.forget ⟨fp, I2⟩ fg) (hJ _) (hk.ground I1)

/-! ### defs -/
def startE (n : Nat) (ds : List D) : Env := ds.map some ++ List.replicate (n - ds.length) none
/-- what a def hands back -/
def runF (n : Nat) (F : DSem) (ds : List D) : Res D := match F (startE n ds) with
  | .rt d => .ok d
  | .nx _ => .ok .non
  | .ex c _ => .ex c
  | _ => .no
/-- the promise: its answer is f of the arguments -/
def spK (mg : Str → Option Value) (rk : Option Kd) (n : Nat) (f : List D → Res D) : Sp := fun vs H Q E => vs.length = n ∧ ∃ G ds, Sub G H ∧ Reps G ds vs ∧ match f ds with
  | .ok d => RetOk rk G H Q d
  | .ex c => ∀ C G' H', mg c = some (.ref C) → Ext G H G' H' → E (.ref C) none H'
  | .no => False
theorem startR {G : Hp} {N : List Str} : ∀ {ds : List D} {vs : List V}, Reps G ds vs → EnvR G (L2.start N vs) (startE N.length ds) := by
  intro ds vs r
  refine ⟨by simp [startE, L2.start, r.length], fun i d e => ?_⟩
  unfold startE at e
  by_cases hi : i < ds.length
  · rw [List.getElem?_append_left (by simpa using hi), List.getElem?_map] at e
    cases q : ds[i]? with
    | none => rw [q] at e; cases e
    | some x =>
      rw [q] at e
      have e : x = d := by simpa using e
      subst e
      obtain ⟨v, h1, h2⟩ := r.get q
      refine ⟨v, ?_, h2⟩
      unfold L2.start
      rw [List.getElem?_append_left (by rw [List.length_map, r.length]; exact hi), List.getElem?_map, h1]
      rfl
  · rw [List.getElem?_append_right (by simpa using hi), List.getElem?_replicate] at e
    split at e <;> cases e
section
variable {P : Program} {w : World} {K : PySem.W.Frag} {mg : Str → Option Value} {base : Heap}
theorem def_ok {x qual : Str} {st : Stmt} {f : Addr} {fd : FuncData} {N ps : List Str} {k : Nat} {rk : Option Kd} {F : DSem} (Fn : Fun K x qual st f fd) (S : FnScope N ps (defScope st)) {own' : Owns} (hend : rk = none ∨ rk = some .dp)
    (hb : ∀ (cdv : Value) (A : Around) (outer : List PySem.Env) (s : Shared) (H : Hp) (E : XK), Room k (A.deeper (envOfC qual (defScope st) s.heap.objs.size f cdv)) →
      Takes (cxOf (L2.CX P w) P w K mg base N qual (defScope st) f cdv A outer s H E) (fun cls d _ H => E cls d H) →
      PassesOwn (model P w) (cxOf (L2.CX P w) P w K mg base N qual (defScope st) f cdv A outer s H E).A (cxOf (L2.CX P w) P w K mg base N qual (defScope st) f cdv A outer s H E).env (cxOf (L2.CX P w) P w K mg base N qual (defScope st) f cdv A outer s H E).xe →
      DSs (cxOf (L2.CX P w) P w K mg base N qual (defScope st) f cdv A outer s H E) ⟨fun cls d _ H => E cls d H, [], [], rk⟩ [] own' (defBody st) F) :
    FnOk P w K mg base (L2.CX P w) (k + 1) f fd ps (spK mg rk ps.length (runF N.length F)) := by
  refine Fn.okX S (fun vs H Q E h => h.1) fun cdv A outer s H vs Q E hr h => ?_
  obtain ⟨t, pt, ht⟩ := hb cdv A outer s H E hr (takes_of rfl rfl rfl rfl) (passes_of rfl)
  obtain ⟨hl, G, ds, sb, rs, hq⟩ := h
  refine ⟨t, pt, ?_⟩
  have er := startR (N := N) rs
  refine ht G H G H (L2.start N vs) (startE N.length ds) _ ⟨fun _ => [], ⟨Ext.refl sb, er.len, fun i d e _ => er.val i d e, fun i k d q => by simp at q, fun i p hp => by simp at hp, fun i j p _ hp => by simp at hp, fun i v q => by simp at q⟩⟩ ?_
  unfold runF at hq
  cases q : F (startE N.length ds) with
  | nx ρ' =>
    rw [q] at hq
    intro G' H' σ' I'
    have hq : RetOk rk G H Q .non := hq
    unfold RetOk at hq
    rcases hend with e | e
    · rw [e] at hq; exact hq G' H' .non I'.ext rfl
    · rw [e] at hq; exact hq G' H' .non [] I'.ext ⟨⟨rfl, rfl⟩, List.nodup_nil⟩ fun p hp => by cases hp
  | rt d => rw [q] at hq; exact hq
  | ex c ρ' => rw [q] at hq; exact fun C own G' H' σ' _ m I' => hq C G' H' m I'.ext
  | bk ρ' => rw [q] at hq; exact hq.elim
  | ct ρ' => rw [q] at hq; exact hq.elim
  | no => rw [q] at hq; exact hq.elim
end
end DL

/-! DL7: calls of own defs, new things, changes of what is owned. -/
namespace DL
open PySem PySem.Spec PyProof.Rows L2

/-! ### what is new and owned -/
theorem RepOs.append {H : Hp} : ∀ {ds es : List D} {vs ws : List V} {f g : List Addr}, RepOs H ds vs f → RepOs H es ws g → RepOs H (ds ++ es) (vs ++ ws) (f ++ g)
  | [], _, _, _, _, _, h, q => by rw [h.1, h.2]; exact q
  | d :: r, _, _, _, _, _, ⟨v, s, f1, f2, e, ef, h, q⟩, q2 => by
    subst ef
    exact ⟨v, s ++ _, f1, f2 ++ _, by rw [e]; rfl, by simp, h, RepOs.append q q2⟩
theorem joinG_le {G H : Hp} (s : Sub G H) (fj : List Addr) : ∀ a o, G a = some o → joinG G H fj a = some o := fun a o e => by
  have e2 := s a o e
  unfold joinG
  split
  · rename_i vs q; rw [q] at e2; cases e2; rfl
  · split
    · exact e2
    · exact e
theorem joinG_sub {G H : Hp} (s : Sub G H) (fj : List Addr) : Sub (joinG G H fj) H := fun a o e => by
  unfold joinG at e
  split at e
  · rename_i vs q; rw [q]; exact e
  · split at e
    · exact e
    · exact s a o e
theorem joinG_at {G H : Hp} {fj : List Addr} : At H (joinG G H fj) fj := ⟨fun p hp => by
  unfold joinG
  split
  · rename_i vs q; rw [q]
  · rw [if_pos hp], fun a vs e => by unfold joinG; rw [e]⟩
theorem joinG_ext {G H G' H' : Hp} {fj : List Addr} (x : Ext G H G' H') (hn : ∀ p ∈ fj, H p = none) : Ext G H (joinG G' H' fj) H' where
  h := x.h
  g := fun a o e => joinG_le x.s fj a o (x.g a o e)
  s := joinG_sub x.s fj
  n := fun a o e => by
    unfold joinG at e
    split at e
    · exact .inr (.inr ⟨_, (Option.some.inj e).symm⟩)
    · split at e
      · rename_i h; exact .inr (.inl (hn a h))
      · exact x.n a o e
abbrev GlF (mg : Str → Option Value) (W : WX) (k : Kd) (G H : Hp) (σ : L2.St) (Q : VK) : Res D → Prop := Gl mg W G H σ fun d G' H' => ∀ v fj, OwnK k G' H' d v fj → (∀ p ∈ fj, G' p = none ∧ H p = none) → Q v H'
def DF (X : Cx) (W : WX) (k : Kd) (e : Expr) (f : Env → Res D) : Prop :=
  ∃ t : TE, PE X e t ∧ ∀ (G H : Hp) (σ : L2.St) (ρ : Env) (Q : VK), Sub G H → EnvR G σ ρ → GlF X.mg W k G H σ Q (f ρ) → t σ H Q
theorem DF.de {X : Cx} {W : WX} {k : Kd} {e : Expr} {f : Env → Res D} (d : DF X W k e f) : DE X W e f := by
  obtain ⟨t, p, h1⟩ := d
  refine ⟨t, p, fun G H σ ρ Q s e h => h1 G H σ ρ Q s e ?_⟩
  cases q : f ρ with
  | ok d =>
    rw [q] at h
    intro G1 H1 e1 v fj o hn
    exact h _ H1 (joinG_ext e1 fun p hp => (hn p hp).2) v (o.rep (Le.of (joinG_le e1.s fj)) joinG_at)
  | ex c => rw [q] at h; exact h
  | no => rw [q] at h; exact h

/-! ### calls of own defs -/
section
variable {X : Cx} {W : WX} {k : Nat} {f : Addr} {fd : FuncData} {ps : List Str} {rk : Option Kd} {n : Nat} {fn : List D → Res D} {x : Str} {p pos : Pos} {e : Expr} {es : List Expr} {g : Env → Res (List D)}
theorem Ext.freeM {G H G1 H1 : Hp} (e1 : Ext G H G1 H1) {q : Addr} (h : H1 q = none) : H q = none := e1.free h
theorem call_rep {G H : Hp} {σ : L2.St} {Q : VK} {ds : List D} {vs : List V} (s : Sub G H) (r : Reps G ds vs) (hl : vs.length = n) (h : GlE X.mg W G H σ Q (fn ds)) : spK X.mg rk n fn vs H Q (WE W σ) := by
  refine ⟨hl, G, ds, s, r, ?_⟩
  cases q : fn ds with
  | ok d =>
    rw [q] at h
    show RetOk rk G H Q d
    unfold RetOk
    cases rk with
    | none => exact fun G' H' v e rv => h G' H' e v rv
    | some k => exact fun G' H' v fj e o hn => h _ H' (joinG_ext e fun p hp => (hn p hp).2) v (o.rep (Le.of (joinG_le e.s fj)) joinG_at)
  | ex c => rw [q] at h; exact fun C G' H' m e => h C G' H' m e
  | no => rw [q] at h; exact h
theorem call_own {kd : Kd} {G H H0 : Hp} {σ : L2.St} {Q : VK} {ds : List D} {vs : List V} (s : Sub G H) (r : Reps G ds vs) (hl : vs.length = n) (h0 : ∀ a, H a = none → H0 a = none)
    (h : Gl X.mg W G H σ (fun d G' H' => ∀ v fj, OwnK kd G' H' d v fj → (∀ p ∈ fj, G' p = none ∧ H0 p = none) → Q v H') (fn ds)) : spK X.mg (some kd) n fn vs H Q (WE W σ) := by
  refine ⟨hl, G, ds, s, r, ?_⟩
  cases q : fn ds with
  | ok d =>
    rw [q] at h
    exact fun G' H' v fj e o hn => h G' H' e v fj o fun p hp => ⟨(hn p hp).1, h0 p (hn p hp).2⟩
  | ex c => rw [q] at h; exact fun C G' H' m e => h C G' H' m e
  | no => rw [q] at h; exact h
/-- the answer, where it is told of n arguments -/
def vCallN (n : Nat) (fn : List D → Res D) (g : Env → Res (List D)) : Env → Res D := fun ρ => g ρ >>= fun ds => if ds.length = n then fn ds else .no
theorem de_call (F : FnOk X.prog X.w X.K X.mg X.base (L2.CX X.prog X.w) k f fd ps (spK X.mg rk n fn)) (tk : Takes X W) (hr : Room k X.A) (hg : L2.Gl X x) (hm : X.mg x = some (.ref f)) (hk : PySem.W.keepIn X.K (.ref f) = true) (hb : Binds X.K fd ps [])
    (d : DA X W (e :: es) g) (hdb : (x == ("__debug__" : Str)) = false := by decide) (he : starEach (e :: es) X.env = (false, eval e X.env) :: starEach es X.env := by rfl) (hpl : (backTo pos (starEach es X.env)).any (·.1) = false := by rfl) :
    DE X W (.Call (.Name x p) (e :: es) [] pos) (vCallN n fn g) := by
  obtain ⟨t, pa, h1⟩ := d
  refine ⟨_, pe_callS F hr hg hm hk hb (fun σ => passAt tk σ) pa hdb he hpl, fun G H σ ρ Q s e h => ?_⟩
  refine h1 G H σ ρ _ s e (Gl.imp (fun ds G1 H1 _ e1 k vs rv => ?_) (Gl.bind h))
  split at k
  · rename_i hl
    exact call_rep e1.s rv (by rw [rv.length]; exact hl) k
  · exact k.elim
theorem df_call {kd : Kd} (F : FnOk X.prog X.w X.K X.mg X.base (L2.CX X.prog X.w) k f fd ps (spK X.mg (some kd) n fn)) (tk : Takes X W) (hr : Room k X.A) (hg : L2.Gl X x) (hm : X.mg x = some (.ref f)) (hk : PySem.W.keepIn X.K (.ref f) = true) (hb : Binds X.K fd ps [])
    (d : DA X W (e :: es) g) (hdb : (x == ("__debug__" : Str)) = false := by decide) (he : starEach (e :: es) X.env = (false, eval e X.env) :: starEach es X.env := by rfl) (hpl : (backTo pos (starEach es X.env)).any (·.1) = false := by rfl) :
    DF X W kd (.Call (.Name x p) (e :: es) [] pos) (vCallN n fn g) := by
  obtain ⟨t, pa, h1⟩ := d
  refine ⟨_, pe_callS F hr hg hm hk hb (fun σ => passAt tk σ) pa hdb he hpl, fun G H σ ρ Q s e h => ?_⟩
  refine h1 G H σ ρ _ s e (Gl.imp (fun ds G1 H1 _ e1 k vs rv => ?_) (Gl.bind h))
  split at k
  · rename_i hl
    exact call_own e1.s rv (by rw [rv.length]; exact hl) (fun a q => e1.free q) k
  · exact k.elim
/-- without arguments -/
def vCall0 (fn : List D → Res D) : Env → Res D := fun _ => fn []
theorem pe_callS0 {sp : Sp} {CX : CXT} {E : L2.St → XK} (F : FnOk X.prog X.w X.K X.mg X.base CX k f fd ps sp) (hr : Room k X.A) (hg : L2.Gl X x) (hm : X.mg x = some (.ref f)) (hk : PySem.W.keepIn X.K (.ref f) = true) (hb : Binds X.K fd ps []) (hx : ∀ σ, PassesAt CX X σ (E σ))
    (hdb : (x == ("__debug__" : Str)) = false := by decide) : PE X (.Call (.Name x p) [] [] pos) (fun σ H Q => sp [] H Q (E σ)) := by
  refine ⟨fun pins s σ H Q I h => ?_⟩
  refine wpAny_Call_Name_kw (ld_glob I hg hm ?_ hdb)
  exact PySem.W.callWith_K0 I.kIn hk (run_fnS (us := []) F hr hb (hx σ) I .nil h)
theorem de_call0 (F : FnOk X.prog X.w X.K X.mg X.base (L2.CX X.prog X.w) k f fd ps (spK X.mg rk 0 fn)) (tk : Takes X W) (hr : Room k X.A) (hg : L2.Gl X x) (hm : X.mg x = some (.ref f)) (hk : PySem.W.keepIn X.K (.ref f) = true) (hb : Binds X.K fd ps []) (hdb : (x == ("__debug__" : Str)) = false := by decide) :
    DE X W (.Call (.Name x p) [] [] pos) (vCall0 fn) :=
  ⟨_, pe_callS0 F hr hg hm hk hb (fun σ => passAt tk σ) hdb, fun G H σ ρ Q s e h => call_rep s (ds := []) rfl rfl h⟩
end

/-! ### new lists -/
abbrev GlN (mg : Str → Option Value) (W : WX) (G H : Hp) (σ : L2.St) (Q : VK) : Res (List D) → Prop := Gl mg W G H σ fun ds G' H' => ∀ p vs, G' p = none → H' p = some (.lst vs) → (∀ a o, H a = some o → a ≠ p) → Reps G' ds vs → Q (.ref p) H'
/-- e makes a new list -/
def DN (X : Cx) (W : WX) (e : Expr) (f : Env → Res (List D)) : Prop :=
  ∃ t : TE, PE X e t ∧ ∀ (G H : Hp) (σ : L2.St) (ρ : Env) (Q : VK), Sub G H → EnvR G σ ρ → GlN X.mg W G H σ Q (f ρ) → t σ H Q
def vLstOf (f : Env → Res (List D)) : Env → Res D := fun ρ => f ρ >>= fun ds => .ok (.lst ds)
def vLstI (f : Env → Res (List D)) : Env → Res D := fun ρ => f ρ >>= fun ds => if imms ds = true then .ok (.lst ds) else .no
theorem none_of_ne {H : Hp} {p : Addr} (h : ∀ a o, H a = some o → a ≠ p) : H p = none := by
  cases q : H p with
  | none => rfl
  | some o => exact absurd rfl (h p o q)
section
variable {X : Cx} {W : WX} {e e1 e2 : Expr} {es : List Expr} {f : Env → Res (List D)} {pos : Pos}
theorem DN.sh (d : DN X W e f) : DF X W .sh e (vLstOf f) := by
  obtain ⟨t, p, h1⟩ := d
  refine ⟨t, p, fun G H σ ρ Q s e h => h1 G H σ ρ Q s e ?_⟩
  unfold vLstOf at h
  cases q : f ρ with
  | ok ds =>
    rw [q] at h
    intro G1 H1 e1 p vs gp hp hn r
    exact h G1 H1 e1 (.ref p) [p] ⟨p, rfl, rfl, vs, hp, r⟩ fun a ha => by rw [show a = p by simpa using ha]; exact ⟨gp, none_of_ne hn⟩
  | ex c => rw [q] at h; exact h
  | no => rw [q] at h; exact h
theorem DN.dp (d : DN X W e f) : DF X W .dp e (vLstI f) := by
  obtain ⟨t, p, h1⟩ := d
  refine ⟨t, p, fun G H σ ρ Q s e h => h1 G H σ ρ Q s e ?_⟩
  unfold vLstI at h
  cases q : f ρ with
  | ok ds =>
    rw [q, Res.bind_ok] at h
    split at h
    · rename_i hi
      intro G1 H1 e1 p vs gp hp hn r
      exact h G1 H1 e1 (.ref p) [p] ⟨⟨p, vs, [], rfl, hp, rfl, RepOs.of_imm hi (r.le (Le.of e1.s))⟩, by simp⟩ fun a ha => by rw [show a = p by simpa using ha]; exact ⟨gp, none_of_ne hn⟩
    · exact h.elim
  | ex c => rw [q] at h; exact h
  | no => rw [q] at h; exact h
theorem DN.de (d : DN X W e f) : DE X W e (vLstOf f) := d.sh.de
/-- the end of a rule that makes a list at p -/
theorem GlN.end {G H G1 H1 : Hp} {Q : VK} {ds : List D} {vs : List V} {p : Addr} (e1 : Ext G H G1 H1) (np : H1 p = none) (r : Reps G1 ds vs) (h : ∀ G' H', Ext G H G' H' → ∀ p vs, G' p = none → H' p = some (.lst vs) → (∀ a o, H a = some o → a ≠ p) → Reps G' ds vs → Q (.ref p) H') : Q (.ref p) (upd H1 p (.lst vs)) := by
  refine h G1 _ (e1.trans (Ext.hid e1.s np)) p vs ?_ upd_same (fun a o q z => ?_) r
  · cases q : G1 p with
    | none => rfl
    | some o => rw [e1.s _ _ q] at np; cases np
  · subst z; rw [e1.h _ _ q] at np; cases np
def nLst (g : Env → Res (List D)) : Env → Res (List D) := fun ρ => g ρ >>= fun xs => if xs.length ≤ sizeLine then .ok xs else .no
theorem dn_lst {g : Env → Res (List D)} (d : DA X W es g) : DN X W (.List es pos) (nLst g) := by
  obtain ⟨t1, p1, h1⟩ := d
  refine ⟨_, pe_lst p1, fun G H σ ρ Q s e h => ?_⟩
  refine h1 G H σ ρ _ s e ?_
  unfold nLst at h
  cases q : g ρ with
  | ok xs =>
    rw [q, Res.bind_ok] at h
    intro G1 H1 e1 vs rvs
    split at h
    · rename_i z
      exact ⟨by rw [rvs.length]; exact z, fun p np => GlN.end e1 np rvs h⟩
    · exact h.elim
  | ex c => rw [q] at h; exact h
  | no => rw [q] at h; exact h
def nCat (f g : Env → Res D) : Env → Res (List D) := fun ρ => f ρ >>= fun x => g ρ >>= fun y => match x, y with
  | .lst xs, .lst ys => if xs.length + ys.length ≤ sizeLine then .ok (xs ++ ys) else .no
  | _, _ => .no
theorem dn_cat {f g : Env → Res D} (d1 : DE X W e1 f) (d2 : DE X W e2 g) : DN X W (.BinOp e1 .Add e2 pos) (nCat f g) := by
  obtain ⟨t1, p1, h1⟩ := d1
  obtain ⟨t2, p2, h2⟩ := d2
  refine ⟨_, pe_op op_catR p1 p2, fun G H σ ρ Q s e h => ?_⟩
  refine h1 G H σ ρ _ s e ?_
  unfold nCat at h
  cases q : f ρ with
  | ok x =>
    rw [q, Res.bind_ok] at h
    intro G1 H1 e1 v rv
    refine h2 G1 H1 σ ρ _ e1.s (e.le e1.le) ?_
    cases q2 : g ρ with
    | ok y =>
      rw [q2, Res.bind_ok] at h
      intro G2 H2 e2 w rw'
      have rv := rv.le e2.le
      cases x with
      | lst xs =>
        cases y with
        | lst ys =>
          simp only at h
          split at h
          · rename_i z
            obtain ⟨a, vs, rfl, ha, ra⟩ := rv
            obtain ⟨b, ws, rfl, hb, rb⟩ := rw'
            exact ⟨a, b, vs, ws, rfl, rfl, e2.s.rd ha, e2.s.rd hb, by rw [ra.length, rb.length]; exact z, fun p np => GlN.end (e1.trans e2) np (ra.append rb) h⟩
          · exact h.elim
        | _ => exact h.elim
      | _ => exact h.elim
    | ex c => rw [q2] at h; exact fun C G' H' m x => h C G' H' m (e1.trans x)
    | no => rw [q2] at h; exact h
  | ex c => rw [q] at h; exact h
  | no => rw [q] at h; exact h
def nSl (f : Env → Res D) (lo hi : Env → Res (Option Int)) : Env → Res (List D) := fun ρ => f ρ >>= fun x => lo ρ >>= fun l => hi ρ >>= fun u => match x with
  | .lst xs => .ok (cutA xs l u)
  | _ => .no
theorem dn_sl {f : Env → Res D} {lo hi : Option Expr} {fl fh : Env → Res (Option Int)} {p2 : Pos} (d : DE X W e f) (dl : DO X W lo fl) (dh : DO X W hi fh) : DN X W (.Subscript e (.Slice lo hi none p2) pos) (nSl f fl fh) := by
  obtain ⟨t1, p1, h1⟩ := d
  obtain ⟨t2, p2, h2⟩ := dl
  obtain ⟨t3, p3, h3⟩ := dh
  refine ⟨_, pe_slice sl_list p1 p2 p3, fun G H σ ρ Q s e h => ?_⟩
  unfold nSl at h
  refine h1 G H σ ρ _ s e ?_
  cases q : f ρ with
  | ok x =>
    rw [q, Res.bind_ok] at h
    intro G1 H1 e1 v rv
    refine h2 G1 H1 σ ρ _ e1.s (e.le e1.le) ?_
    cases q2 : fl ρ with
    | ok l =>
      rw [q2, Res.bind_ok] at h
      intro G2 H2 e2
      refine h3 G2 H2 σ ρ _ e2.s ((e.le e1.le).le e2.le) ?_
      cases q3 : fh ρ with
      | ok u =>
        rw [q3, Res.bind_ok] at h
        intro G3 H3 e3
        have rv := (rv.le e2.le).le e3.le
        cases x with
        | lst xs =>
          obtain ⟨a, vs, rfl, ha, ra⟩ := rv
          exact ⟨a, vs, rfl, e3.s.sqL ha, fun p np => GlN.end ((e1.trans e2).trans e3) np (ra.cut l u) h⟩
        | _ => exact h.elim
      | ex c => rw [q3] at h; exact fun C G' H' m x => h C G' H' m ((e1.trans e2).trans x)
      | no => rw [q3] at h; exact h
    | ex c => rw [q2] at h; exact fun C G' H' m x => h C G' H' m (e1.trans x)
    | no => rw [q2] at h; exact h
  | ex c => rw [q] at h; exact h
  | no => rw [q] at h; exact h
def nList (f : Env → Res D) : Env → Res (List D) := fun ρ => f ρ >>= seqOf
theorem dn_list {f : Env → Res D} {p : Pos} (hg : L2.Gl X "list") (hm : X.mg "list" = none) (d : DE X W e f) (he : starEach (e :: []) X.env = (false, eval e X.env) :: starEach [] X.env := by rfl) (hpl : (backTo pos (starEach [] X.env)).any (·.1) = false := by rfl) :
    DN X W (.Call (.Name "list" p) [e] [] pos) (nList f) := by
  obtain ⟨t1, p1, h1⟩ := d
  refine ⟨_, pe_callTy call_list_of hg hm (by decide +kernel) (pa_cons p1 pa_nil he) (by decide) (by decide) he hpl, fun G H σ ρ Q s e h => ?_⟩
  refine h1 G H σ ρ _ s e ?_
  unfold nList at h
  cases q : f ρ with
  | ok x =>
    rw [q, Res.bind_ok] at h
    intro G1 H1 e1 v rv
    cases x with
    | lst xs =>
      obtain ⟨a, vs, rfl, ha, ra⟩ := rv
      exact ⟨a, vs, rfl, .inl (e1.s.sqL ha), fun p np => GlN.end e1 np ra h⟩
    | tup xs =>
      obtain ⟨a, vs, rfl, ha, ra⟩ := rv
      exact ⟨a, vs, rfl, .inr (e1.s.sqT ha), fun p np => GlN.end e1 np ra h⟩
    | _ => exact h.elim
  | ex c => rw [q] at h; exact h
  | no => rw [q] at h; exact h
end

/-! ### comprehensions make new lists -/
section
variable {X : Cx} {W : WX} {elt tg iter : Expr} {ifs : List Expr} {scope : Scope} {own : List (Str × Nat)} {is : List Nat} {ks : D → Res (List D)} {fi : Env → Res (List D)} {ft : Env → Res Bool} {fe : Env → Res D} {pos : Pos}
theorem lc_N {wi : TI} {vs : List Nat} (h1 : ∀ (G H : Hp) (σ : L2.St) (ρ : Env) (R : It → Hp → Prop), Sub G H → EnvR G σ ρ → GlI X.mg W G H σ R (fi ρ) → wi σ H R) (hv : ∀ i ∈ is, i ∈ vs)
    (G H : Hp) (σ : L2.St) (ρ : Env) (Q : VK) (s : Sub G H) (e : EnvR G σ ρ) (h : GlN X.mg W G H σ Q (nComp fi is ks ft fe vs ρ)) : tLc wi (rdG is ks) (rdT X.mg W0 ft) (rdE X.mg W0 fe) vs σ H Q := by
  refine h1 G H σ ρ _ s e ?_
  unfold nComp at h
  cases q : fi ρ with
  | ok ds =>
    rw [q, Res.bind_ok] at h
    intro G1 H1 e1 J hJ Da nDa
    cases q2 : compL is ks ft fe (wipeE ρ vs) ds with
    | ok ys =>
      rw [q2] at h
      simp only [noEx, Res.bind_ok] at h
      split at h
      · rename_i hz
        exact lc_run (W := W) hv (e.le e1.le) e1.s hJ nDa q2 hz fun G2 H2 acc e2 gD hD r => h G2 H2 (e1.trans e2) Da acc gD hD (fun a o q z => by subst z; rw [e1.h _ _ q] at nDa; cases nDa) r
      · exact h.elim
    | ex c => rw [q2] at h; exact h.elim
    | no => rw [q2] at h; exact h.elim
  | ex c => rw [q] at h; exact h
  | no => rw [q] at h; exact h
theorem dn_comp (hc : X.calm = true) (hN : X.N.Nodup) (di : DI X W tg iter fi) (ok : BlkOk X.N X.env.scope scope own)
    (dg : ∀ (s : Shared) (H : Hp) (C : Addr) (cl : List (Str × Addr)) (fp : List Addr), DG (X.blk s H scope (compEnvC scope cl C X.env) fp) tg is ks)
    (dt : ∀ (s : Shared) (H : Hp) (C : Addr) (cl : List (Str × Addr)) (fp : List Addr), DTs (X.blk s H scope (compEnvC scope cl C X.env) fp) W0 ifs ft)
    (de : ∀ (s : Shared) (H : Hp) (C : Addr) (cl : List (Str × Addr)) (fp : List Addr), DE (X.blk s H scope (compEnvC scope cl C X.env) fp) W0 elt fe)
    (hv : ∀ i ∈ is, i ∈ own.map (·.2)) (hs : ∀ x, foldedSetIterable iter X.env x = pure x := by intro _; rfl) : DN X W (.ListComp elt [⟨tg, iter, ifs, 0⟩] scope pos) (nComp fi is ks ft fe (own.map (·.2))) := by
  obtain ⟨wi, pi, h1⟩ := di
  exact ⟨_, pe_lc (te := rdE X.mg W0 fe) (tt := rdT X.mg W0 ft) (g := rdG is ks) hc hN pi ok (fun s H C cl fp => (dg s H C cl fp).pg) (fun s H C cl fp => (dt s H C cl fp).pts) (fun s H C cl fp => (de s H C cl fp).pe) hs, lc_N h1 hv⟩
/-- the statement stores a new list in slot j -/
def AN (X : Cx) (W : WX) (st : Stmt) (j : Nat) (f : Env → Res (List D)) : Prop :=
  ∃ t : TE, PS X st (tAsg t (gName j)) ∧ ∀ (G H : Hp) (σ : L2.St) (ρ : Env) (Q : VK), Sub G H → EnvR G σ ρ → GlN X.mg W G H σ Q (f ρ) → t σ H Q
def AF (X : Cx) (W : WX) (k : Kd) (st : Stmt) (j : Nat) (f : Env → Res D) : Prop :=
  ∃ t : TE, PS X st (tAsg t (gName j)) ∧ ∀ (G H : Hp) (σ : L2.St) (ρ : Env) (Q : VK), Sub G H → EnvR G σ ρ → GlF X.mg W k G H σ Q (f ρ) → t σ H Q
theorem an_comp {i : Nat} {y : Str} {py spos : Pos} (hc : X.calm = true) (hN : X.N.Nodup) (hy : X.N[i]? = some y) (hyl : X.env.scope.names.lookup y = some .local)
    (hsw : swapsWith (.ListComp elt [⟨tg, iter, ifs, 0⟩] scope pos) (some (.Name y py)) spos.line X.env = pure true) (di : DI X W tg iter fi) (ok : BlkOk X.N X.env.scope scope own)
    (dg : ∀ (s : Shared) (H : Hp) (C : Addr) (cl : List (Str × Addr)) (fp : List Addr), DG (X.blk s H scope (compEnvC scope cl C X.env) fp) tg is ks)
    (dt : ∀ (s : Shared) (H : Hp) (C : Addr) (cl : List (Str × Addr)) (fp : List Addr), DTs (X.blk s H scope (compEnvC scope cl C X.env) fp) W0 ifs ft)
    (de : ∀ (s : Shared) (H : Hp) (C : Addr) (cl : List (Str × Addr)) (fp : List Addr), DE (X.blk s H scope (compEnvC scope cl C X.env) fp) W0 elt fe)
    (hv : ∀ i ∈ is, i ∈ own.map (·.2)) (hs : ∀ x, foldedSetIterable iter X.env x = pure x := by intro _; rfl) : AN X W (.Assign [.Name y py] (.ListComp elt [⟨tg, iter, ifs, 0⟩] scope pos) spos) i (nComp fi is ks ft fe (own.map (·.2))) := by
  obtain ⟨wi, pi, h1⟩ := di
  exact ⟨_, ps_setLc (te := rdE X.mg W0 fe) (tt := rdT X.mg W0 ft) (g := rdG is ks) hc hN hy hyl hsw pi ok (fun s H C cl fp => (dg s H C cl fp).pg) (fun s H C cl fp => (dt s H C cl fp).pts) (fun s H C cl fp => (de s H C cl fp).pe) hs, lc_N h1 hv⟩
end
section
variable {X : Cx} {W : WX} {st : Stmt} {j : Nat} {f : Env → Res (List D)}
theorem AN.sh (d : AN X W st j f) : AF X W .sh st j (vLstOf f) := by
  obtain ⟨t, p, h1⟩ := d
  refine ⟨t, p, fun G H σ ρ Q s e h => h1 G H σ ρ Q s e ?_⟩
  unfold vLstOf at h
  cases q : f ρ with
  | ok ds =>
    rw [q] at h
    intro G1 H1 e1 p vs gp hp hn r
    exact h G1 H1 e1 (.ref p) [p] ⟨p, rfl, rfl, vs, hp, r⟩ fun a ha => by rw [show a = p by simpa using ha]; exact ⟨gp, none_of_ne hn⟩
  | ex c => rw [q] at h; exact h
  | no => rw [q] at h; exact h
theorem AN.dp (d : AN X W st j f) : AF X W .dp st j (vLstI f) := by
  obtain ⟨t, p, h1⟩ := d
  refine ⟨t, p, fun G H σ ρ Q s e h => h1 G H σ ρ Q s e ?_⟩
  unfold vLstI at h
  cases q : f ρ with
  | ok ds =>
    rw [q, Res.bind_ok] at h
    split at h
    · rename_i hi
      intro G1 H1 e1 p vs gp hp hn r
      exact h G1 H1 e1 (.ref p) [p] ⟨⟨p, vs, [], rfl, hp, rfl, RepOs.of_imm hi (r.le (Le.of e1.s))⟩, by simp⟩ fun a ha => by rw [show a = p by simpa using ha]; exact ⟨gp, none_of_ne hn⟩
    · exact h.elim
  | ex c => rw [q] at h; exact h
  | no => rw [q] at h; exact h
theorem AF.ae {k : Kd} {f : Env → Res D} (d : AF X W k st j f) : AE X W st j f := by
  obtain ⟨t, p, h1⟩ := d
  refine ⟨t, p, fun G H σ ρ Q s e h => h1 G H σ ρ Q s e ?_⟩
  cases q : f ρ with
  | ok d =>
    rw [q] at h
    intro G1 H1 e1 v fj o hn
    exact h _ H1 (joinG_ext e1 fun p hp => (hn p hp).2) v (o.rep (Le.of (joinG_le e1.s fj)) joinG_at)
  | ex c => rw [q] at h; exact h
  | no => rw [q] at h; exact h
theorem AN.ae (d : AN X W st j f) : AE X W st j (vLstOf f) := d.sh.ae
end
section
variable {X : Cx} {W : WX} {e : Expr} {j : Nat} {x : Str} {pos pos' : Pos}
theorem af_set {k : Kd} {f : Env → Res D} (hN : X.N.Nodup) (hi : X.N[j]? = some x) (hl : Loc X.env.scope x) (d : DF X W k e f) (hs : swapsWith e (some (.Name x pos')) pos.line X.env = pure false := by rfl) (hf : X.fn x = true ∨ X.env.scope.names.lookup x = some .local := by first | exact .inl rfl | exact .inr rfl | assumption) :
    AF X W k (.Assign [.Name x pos'] e pos) j f := let ⟨t, p, h⟩ := d; ⟨t, ps_set hN hi hl p hs hf, h⟩
end

/-! ### new dicts -/
section
variable {X : Cx} {W : WX} {pos : Pos}
theorem upd_none {G H : Hp} (s : Sub G H) {p : Addr} (np : H p = none) : G p = none := by
  cases q : G p with
  | none => rfl
  | some o => rw [s _ _ q] at np; cases np
theorem df_newK {k : Kd} (hk : k.pl = true := by rfl) : DF X W k (.Dict [] [] pos) (vC (.dK [])) := by
  refine ⟨_, pe_dnewK, fun G H σ ρ Q s e h p np => ?_⟩
  refine h G _ (Ext.hid s np) (.ref p) [p] ?_ fun a ha => by rw [show a = p by simpa using ha]; exact ⟨upd_none s np, np⟩
  cases k with
  | sh => exact ⟨p, rfl, rfl, [], upd_same, rfl⟩
  | dp => exact ⟨⟨p, [], [], rfl, upd_same, rfl, rfl, rfl⟩, by simp⟩
  | pin z => cases hk
theorem df_newT {k : Kd} (hk : k.pl = true := by rfl) : DF X W k (.Dict [] [] pos) (vC (.dT [])) := by
  refine ⟨_, pe_dnewT, fun G H σ ρ Q s e h p np => ?_⟩
  refine h G _ (Ext.hid s np) (.ref p) [p] ?_ fun a ha => by rw [show a = p by simpa using ha]; exact ⟨upd_none s np, np⟩
  cases k with
  | sh => exact ⟨p, rfl, rfl, [], upd_same, rfl⟩
  | dp => exact ⟨⟨p, [], [], rfl, upd_same, rfl, rfl, rfl⟩, by simp⟩
  | pin z => cases hk
end

/-! ### displays of owned parts -/
/-- arguments each of which is immutable or owned and new -/
def DFs (X : Cx) (W : WX) (es : List Expr) (f : Env → Res (List D)) : Prop :=
  ∃ t : TA, PA X es t ∧ ∀ (G H : Hp) (σ : L2.St) (ρ : Env) (Q : List V → Hp → Prop), Sub G H → EnvR G σ ρ →
    Gl X.mg W G H σ (fun ds G' H' => ∀ vs fj, RepOs H' ds vs fj → fj.Nodup → (∀ p ∈ fj, G' p = none ∧ H p = none) → Q vs H') (f ρ) → t σ H Q
def aConsI (f : Env → Res D) (g : Env → Res (List D)) : Env → Res (List D) := fun ρ => f ρ >>= fun x => if imm x = true then g ρ >>= fun xs => .ok (x :: xs) else .no
section
variable {X : Cx} {W : WX} {e : Expr} {es : List Expr} {f : Env → Res D} {g : Env → Res (List D)} {pos : Pos}
theorem dfs_nil : DFs X W [] aNil := ⟨_, pa_nil, fun G H σ ρ Q s e h => h G H (Ext.refl s) [] [] ⟨rfl, rfl⟩ List.nodup_nil fun p hp => by cases hp⟩
theorem dfs_imm (d1 : DE X W e f) (d2 : DFs X W es g) (hs : starEach (e :: es) X.env = (false, eval e X.env) :: starEach es X.env := by rfl) : DFs X W (e :: es) (aConsI f g) := by
  obtain ⟨t1, p1, h1⟩ := d1
  obtain ⟨t2, p2, h2⟩ := d2
  refine ⟨_, pa_cons p1 p2 hs, fun G H σ ρ Q s e h => ?_⟩
  unfold aConsI at h
  refine h1 G H σ ρ _ s e ?_
  cases q : f ρ with
  | ok x =>
    rw [q, Res.bind_ok] at h
    split at h
    · rename_i hi
      intro G1 H1 e1 v rv
      refine h2 G1 H1 σ ρ _ e1.s (e.le e1.le) ?_
      cases q2 : g ρ with
      | ok xs =>
        rw [q2, Res.bind_ok] at h
        intro G2 H2 e2 vs fj rvs nd hn
        refine h G2 H2 (e1.trans e2) (v :: vs) fj ⟨v, vs, [], fj, rfl, rfl, RepO.of_imm hi ((rv.le e2.le).le (Le.of e2.s)), rvs⟩ nd fun p hp => ⟨(hn p hp).1, e1.free (hn p hp).2⟩
      | ex c => rw [q2] at h; exact fun C G' H' m x => h C G' H' m (e1.trans x)
      | no => rw [q2] at h; exact h
    · exact h.elim
  | ex c => rw [q] at h; exact h
  | no => rw [q] at h; exact h
theorem dfs_own (d1 : DF X W .dp e f) (d2 : DFs X W es g) (hs : starEach (e :: es) X.env = (false, eval e X.env) :: starEach es X.env := by rfl) : DFs X W (e :: es) (aCons f g) := by
  obtain ⟨t1, p1, h1⟩ := d1
  obtain ⟨t2, p2, h2⟩ := d2
  refine ⟨_, pa_cons p1 p2 hs, fun G H σ ρ Q s e h => ?_⟩
  unfold aCons at h
  refine h1 G H σ ρ _ s e ?_
  cases q : f ρ with
  | ok x =>
    rw [q, Res.bind_ok] at h
    intro G1 H1 e1 v f1 o1 n1
    refine h2 G1 H1 σ ρ _ e1.s (e.le e1.le) ?_
    cases q2 : g ρ with
    | ok xs =>
      rw [q2, Res.bind_ok] at h
      intro G2 H2 e2 vs fj rvs nd hn
      have m1 := o1.1.mut
      have o2 : RepO H2 x v f1 := o1.1.at (e2.at m1)
      refine h G2 H2 (e1.trans e2) (v :: vs) (f1 ++ fj) ⟨v, vs, f1, fj, rfl, rfl, o2, rvs⟩ ?_ fun p hp => ?_
      · refine List.nodup_append.mpr ⟨o1.2, nd, fun a ha b hb z => ?_⟩
        subst z
        have := m1 a ha
        rw [(hn a hb).2] at this
        exact this
      · rcases List.mem_append.mp hp with hp | hp
        · exact ⟨e2.mutn (n1 p hp).1 (m1 p hp), (n1 p hp).2⟩
        · exact ⟨(hn p hp).1, e1.free (hn p hp).2⟩
    | ex c => rw [q2] at h; exact fun C G' H' m x => h C G' H' m (e1.trans x)
    | no => rw [q2] at h; exact h
  | ex c => rw [q] at h; exact h
  | no => rw [q] at h; exact h
theorem upd_at {H : Hp} {p : Addr} {o : HO} {fj : List Addr} (np : H p = none) (hm : ∀ q ∈ fj, Mut (H q)) : At H (upd H p o) fj := ⟨fun q hq => upd_ne fun z => by
  subst z
  have := hm q hq
  rw [np] at this
  exact this, fun a vs e => by rw [upd_ne (ne_of_none e np)]; exact e⟩
theorem df_tup {x1} (d : DFs X W es g) : DF X W .dp (.Tuple es x1 pos) (vTup g) := by
  obtain ⟨t1, p1, h1⟩ := d
  refine ⟨_, pe_tup p1, fun G H σ ρ Q s e h => ?_⟩
  unfold vTup at h
  refine h1 G H σ ρ _ s e ?_
  cases q : g ρ with
  | ok xs =>
    rw [q, Res.bind_ok] at h
    intro G1 H1 e1 vs fj rvs nd hn
    split at h
    · rename_i z
      have hl : vs.length = xs.length := (rvs.rep (G := H1) ⟨fun _ _ => rfl, fun _ _ e => e⟩).length
      refine ⟨by rw [hl]; exact z, fun p np => ?_⟩
      have ex : Ext G1 H1 (upd G1 p (.tup vs)) (upd H1 p (.tup vs)) := Ext.new e1.s np
      refine h _ _ (e1.trans ex) (.ref p) fj ⟨⟨p, vs, rfl, upd_same, rvs.at (upd_at np rvs.mut)⟩, nd⟩ fun a ha => ⟨?_, (hn a ha).2⟩
      rw [upd_ne]
      · exact (hn a ha).1
      · intro z2
        subst z2
        have := rvs.mut a ha
        rw [np] at this
        exact this
    · exact h.elim
  | ex c => rw [q] at h; exact h
  | no => rw [q] at h; exact h
theorem df_lst (d : DFs X W es g) : DF X W .dp (.List es pos) (vLst g) := by
  obtain ⟨t1, p1, h1⟩ := d
  refine ⟨_, pe_lst p1, fun G H σ ρ Q s e h => ?_⟩
  unfold vLst at h
  refine h1 G H σ ρ _ s e ?_
  cases q : g ρ with
  | ok xs =>
    rw [q, Res.bind_ok] at h
    intro G1 H1 e1 vs fj rvs nd hn
    split at h
    · rename_i z
      have hl : vs.length = xs.length := (rvs.rep (G := H1) ⟨fun _ _ => rfl, fun _ _ e => e⟩).length
      refine ⟨by rw [hl]; exact z, fun p np => ?_⟩
      have ex : Ext G1 H1 G1 (upd H1 p (.lst vs)) := Ext.hid e1.s np
      have pn : p ∉ fj := fun hp => by
        have := rvs.mut p hp
        rw [np] at this
        exact this
      refine h _ _ (e1.trans ex) (.ref p) (p :: fj) ⟨⟨p, vs, fj, rfl, upd_same, rfl, rvs.at (upd_at np rvs.mut)⟩, List.nodup_cons.mpr ⟨pn, nd⟩⟩ fun a ha => ?_
      rcases List.mem_cons.mp ha with z2 | ha
      · subst z2; exact ⟨upd_none e1.s np, e1.free np⟩
      · exact hn a ha
    · exact h.elim
  | ex c => rw [q] at h; exact h
  | no => rw [q] at h; exact h
end
end DL

/-! DL8: new things stored; changes of what is owned. -/
namespace DL
open PySem PySem.Spec PyProof.Rows L2

section
variable {X : Cx} {J : Jd} {own own1 own2 : Owns} {st : Stmt} {e : Expr} {f : Env → Res D} {pos : Pos}
/-- from a goal of a new thing -/
theorem toF {G0 H0 G H : Hp} {σ : L2.St} {ρ : Env} {Dn : Ends} {k : D → Out} {kd : Kd} {Q : VK} {fp} {G1 : Hp} {r : Res D} (hx : oxSub J.ox own = true) (I : SIf fp G0 H0 own G H σ ρ) (h1 : Sub G1 H)
    (h : GS X.mg J G0 H0 own1 Dn (andThen r ρ k)) (hP : ∀ d, GS X.mg J G0 H0 own1 Dn (k d) → ∀ G' H', Ext G1 H G' H' → ∀ v fj, OwnK kd G' H' d v fj → (∀ p ∈ fj, G' p = none ∧ H p = none) → Q v H') : GlF X.mg J.W kd G1 H σ Q r := by
  cases r with
  | ok a => exact fun G' H' e => hP a h G' H' e
  | ex c => exact fun C G' H' m e => h C own G H' σ hx m ⟨fp, I.grow (Ext.up I.sub e.h)⟩
  | no => exact h
theorem own_new {G0 H0 G H : Hp} {σ : L2.St} {ρ : Env} {fp} (I : SIf fp G0 H0 own G H σ ρ) {fj : List Addr} (hn : ∀ p ∈ fj, H p = none) : ∀ i p, p ∈ fp i → p ∉ fj := fun i p hp hq => by
  have := (I.fpm i p hp).2.2
  rw [hn p hq] at this
  exact this
/-- name = a new list or dict whose items stand in the region -/
theorem ds_asgS {j : Nat} (d : AF X J.W .sh st j f) (hx : oxSub J.ox own = true := by rfl) (hpn : own.lookup (j + 1000) = none := by rfl) : DS X J own ((j, .sh) :: disown own j) st (sAsg own j f) := by
  obtain ⟨t, pe, h1⟩ := d
  refine ⟨_, pe, fun G0 H0 G H σ ρ Dn ⟨fp, I⟩ h => ?_⟩
  refine h1 G H σ (maskE own ρ) _ I.sub I.masked (toF hx I I.sub h fun d hk G' H' e v fj o hn => ?_)
  exact hk G' H' _ ⟨_, (I.grow e).take o (fun p hp => ⟨(hn p hp).1, I.ext.free (hn p hp).2⟩) (fun i p _ hp => own_new I (fun p hp => (hn p hp).2) i p hp) hpn⟩
/-- name = new data, owned throughout -/
def sAsgV (j : Nat) (f : Env → Res D) : DSem := fun ρ => andThen (f ρ) ρ fun d => .nx (ρ.set j (some d))
theorem ds_asgD {j : Nat} (d : AF X J.W .dp st j f) (hx : oxSub J.ox own = true := by rfl) (hpn : own.lookup (j + 1000) = none := by rfl) : DS X J own ((j, .dp) :: disown own j) st (sAsgV j f) := by
  obtain ⟨t, pe, h1⟩ := d
  refine ⟨_, pe, fun G0 H0 G H σ ρ Dn ⟨fp, I⟩ h => ?_⟩
  have s := (view_ext I.ext).s
  refine h1 _ H σ ρ _ s I.view (toF hx I s h fun d hk G' H' e v fj o hn => ?_)
  have o' : OwnK .dp (tupG G H') H' d v fj := o
  refine hk _ H' _ ⟨_, (I.grow (Ext.tups I.sub e.h)).take o' (fun p hp => ⟨?_, I.ext.free (hn p hp).2⟩) (fun i p _ hp => own_new I (fun p hp => (hn p hp).2) i p hp) hpn⟩
  have m := o.mut p hp
  have gp : G p = none := upd_none I.sub (hn p hp).2
  unfold tupG
  split
  · rename_i vs q; rw [q] at m; exact m.elim
  · exact gp
/-- return of new data -/
theorem ds_retF {k : Kd} (hk : J.rk = some k) (d : DF X J.W k e f) (hx : oxSub J.ox own = true := by rfl) : DS X J own own1 (.Return (some e) pos) (sRet f) := by
  obtain ⟨t, pe, h1⟩ := d
  refine ⟨_, ps_ret pe, fun G0 H0 G H σ ρ Dn ⟨fp, I⟩ h => ?_⟩
  have s := (view_ext I.ext).s
  refine h1 _ H σ ρ _ s I.view (toF hx I s h fun d hr G' H' e v fj o hn => ?_)
  have hr : RetOk J.rk G0 H0 Dn.rt d := hr
  unfold RetOk at hr
  rw [hk] at hr
  exact hr G' H' v fj ((view_ext I.ext).trans e) o fun p hp => ⟨(hn p hp).1, I.ext.free (hn p hp).2⟩

/-! ### x.append(e) -/
/-- the list of an owned slot gets one more item -/
theorem OwnK.app {kd : Kd} {G H : Hp} {ds : List D} {d : D} {v y : V} {fj : List Addr} (hs : Sub G H) (o : OwnK kd G H (.lst ds) v fj) (hd : kd = .sh ∨ imm d = true) (rd : Rep G d y) :
    ∃ p vs, v = .ref p ∧ p ∈ fj ∧ H p = some (.lst vs) ∧ vs.length = ds.length ∧ OwnK kd G (upd H p (.lst (vs ++ [y]))) (.lst (ds ++ [d])) v fj := by
  cases kd with
  | pin z => exact o.elim
  | sh =>
    obtain ⟨p, e, ef, vs, hp, r⟩ := o
    subst ef
    exact ⟨p, vs, e, List.mem_cons_self, hp, r.length, ⟨p, e, rfl, vs ++ [y], upd_same, r.append (.one rd)⟩⟩
  | dp =>
    have him : imm d = true := by rcases hd with q | q; · cases q
                                  · exact q
    obtain ⟨⟨p, vs, fq, e, hp, ef, r⟩, nd⟩ := o
    subst ef
    have pn : p ∉ fq := (List.nodup_cons.mp nd).1
    have at' : At H (upd H p (.lst (vs ++ [y]))) fq := ⟨fun q hq => upd_ne fun z => pn (z ▸ hq), fun a ws q => by rw [upd_ne (ne_of q hp (by intro z; cases z))]; exact q⟩
    refine ⟨p, vs, e, List.mem_cons_self, hp, (r.rep (G := H) ⟨fun _ _ => rfl, fun _ _ e => e⟩).length, ⟨p, vs ++ [y], fq, e, upd_same, rfl, ?_⟩, nd⟩
    have r1 := r.at at'
    have r2 : RepO (upd H p (.lst (vs ++ [y]))) d y [] := RepO.of_imm him (Rep.imm (fun a ws q => at'.t _ _ (hs _ _ q)) him rd)
    have r3 : RepOs (upd H p (.lst (vs ++ [y]))) [d] [y] [] := ⟨y, [], [], [], rfl, rfl, r2, rfl, rfl⟩
    have := r1.append r3
    rwa [List.append_nil] at this
theorem OwnK.lst {kd : Kd} {G H : Hp} {ds : List D} {v : V} {fj : List Addr} (o : OwnK kd G H (.lst ds) v fj) : ∃ p vs, v = .ref p ∧ p ∈ fj ∧ H p = some (.lst vs) ∧ vs.length = ds.length := by
  cases kd with
  | pin z => exact o.elim
  | sh => obtain ⟨p, e, ef, vs, hp, r⟩ := o; subst ef; exact ⟨p, vs, e, List.mem_cons_self, hp, r.length⟩
  | dp => obtain ⟨⟨p, vs, fq, e, hp, ef, r⟩, nd⟩ := o; subst ef; exact ⟨p, vs, e, List.mem_cons_self, hp, (r.rep (G := H) ⟨fun _ _ => rfl, fun _ _ e => e⟩).length⟩
/-- an owned object at p is written -/
theorem SIf.write {fp} {G0 H0 G H : Hp} {σ : L2.St} {ρ : Env} (I : SIf fp G0 H0 own G H σ ρ) {j : Nat} {k : Kd} {d : D} {v : V} {p : Addr} {o' : HO} (hj : own.lookup j = some k) (hv : σ[j]? = some (some v)) (hp : p ∈ fp j)
    (o : OwnK k G (upd H p o') d v (fp j)) : SI G0 H0 own G (upd H p o') σ (ρ.set j (some d)) :=
  ⟨_, I.change hj hv (fun a ha => .inl (upd_ne fun z => ha (z ▸ hp))) o (fun q hq => ⟨(I.fpm j q hq).1, (I.fpm j q hq).2.1⟩) (fun i q hne hq => I.fpd i j q hne hq) fun q hq vs z => by
    have := (I.fpm j q hq).2.2
    rw [z] at this
    exact this⟩
def appD (ρ : Env) (j : Nat) (d : D) : Out := match ρ[j]? with
  | some (some (.lst ds)) => if ds.length < sizeLine then .nx (ρ.set j (some (.lst (ds ++ [d])))) else .no
  | _ => .no
def isLst (ρ : Env) (j : Nat) : Bool := match ρ[j]? with
  | some (some (.lst _)) => true
  | _ => false
def sApp (own : Owns) (j : Nat) (f : Env → Res D) : DSem := fun ρ => if isLst ρ j = true then andThen (f (maskE own ρ)) ρ fun d => appD ρ j d else .no
def sAppI (j : Nat) (f : Env → Res D) : DSem := fun ρ => if isLst ρ j = true then andThen (f ρ) ρ fun d => if imm d = true then appD ρ j d else .no else .no
theorem isLst_get {ρ : Env} {j : Nat} (h : isLst ρ j = true) : ∃ ds, ρ[j]? = some (some (.lst ds)) := by
  unfold isLst at h
  split at h
  · rename_i ds q; exact ⟨ds, q⟩
  · cases h
theorem app_end {kd : Kd} {G0 H0 G H : Hp} {σ : L2.St} {ρ : Env} {Dn : Ends} {fp} {j : Nat} {d : D} {v0 y : V} (I : SIf fp G0 H0 own G H σ ρ) (hj : own.lookup j = some kd) (hv : σ[j]? = some (some v0)) (hd : kd = .sh ∨ imm d = true) (rd : Rep G d y)
    (h : GS X.mg J G0 H0 own Dn (appD ρ j d)) : rAppend v0 [y] H (fun _ H' => Dn.nx σ H') := by
  unfold appD at h
  split at h
  · rename_i ds q
    split at h
    · rename_i hz
      obtain ⟨v, hv', o⟩ := I.own j kd _ hj q
      rw [hv] at hv'; cases hv'
      obtain ⟨p, vs, e, hp, hH, hl, o'⟩ := o.app I.sub hd rd
      subst e
      exact ⟨p, vs, y, rfl, rfl, hH, by rw [hl]; exact hz, h G _ σ (I.write hj hv hp o')⟩
    · exact h.elim
  · exact h.elim
theorem lst_ty {kd : Kd} {G0 H0 G H : Hp} {σ : L2.St} {ρ : Env} {fp} {j : Nat} (I : SIf fp G0 H0 own G H σ ρ) (hj : own.lookup j = some kd) (hl : isLst ρ j = true) : ∃ v, σ[j]? = some (some v) ∧ tyV X.K "list" v H := by
  obtain ⟨ds, q⟩ := isLst_get hl
  obtain ⟨v, hv, o⟩ := I.own j kd _ hj q
  obtain ⟨p, vs, rfl, hp, hH, _⟩ := o.lst
  exact ⟨_, hv, .inl ⟨rfl, vs, SqL.of hH⟩⟩
theorem ds_app {j : Nat} {x : Str} {p1 apos cpos : Pos} (hj : own.lookup j = some .sh) (pn : PE X (.Name x p1) (tVar j)) (d : DE X J.W e f) (hx : oxSub J.ox own = true := by rfl)
    (pe : ∀ {t : TE}, PE X e t → PE X (.Call (.Attribute (.Name x p1) "append" apos) [e] [] cpos) (tBM X.K "list" rAppend (tVar j) (tCons t tNil))) (hs : swapsWith (.Call (.Attribute (.Name x p1) "append" apos) [e] [] cpos) none pos.line X.env = pure false := by rfl) :
    DS X J own own (.Expr (.Call (.Attribute (.Name x p1) "append" apos) [e] [] cpos) pos) (sApp own j f) := by
  obtain ⟨t, p, h1⟩ := d
  refine ⟨_, ps_expr (pe p) hs, fun G0 H0 G H σ ρ Dn ⟨fp, I⟩ h => ?_⟩
  unfold sApp at h
  split at h
  · rename_i hl
    obtain ⟨v, hv, ty⟩ := lst_ty (X := X) I hj hl
    refine ⟨v, hv, ty, ?_⟩
    exact onMasked hx h1 I h fun d hk G' H' y e I' ry => app_end I' hj hv (.inl rfl) ry hk
  · exact h.elim
theorem ds_appI {kd : Kd} {j : Nat} {x : Str} {p1 apos cpos : Pos} (hj : own.lookup j = some kd) (pn : PE X (.Name x p1) (tVar j)) (d : DE X J.W e f) (hx : oxSub J.ox own = true := by rfl)
    (pe : ∀ {t : TE}, PE X e t → PE X (.Call (.Attribute (.Name x p1) "append" apos) [e] [] cpos) (tBM X.K "list" rAppend (tVar j) (tCons t tNil))) (hs : swapsWith (.Call (.Attribute (.Name x p1) "append" apos) [e] [] cpos) none pos.line X.env = pure false := by rfl) :
    DS X J own own (.Expr (.Call (.Attribute (.Name x p1) "append" apos) [e] [] cpos) pos) (sAppI j f) := by
  obtain ⟨t, p, h1⟩ := d
  refine ⟨_, ps_expr (pe p) hs, fun G0 H0 G H σ ρ Dn ⟨fp, I⟩ h => ?_⟩
  unfold sAppI at h
  split at h
  · rename_i hl
    obtain ⟨v, hv, ty⟩ := lst_ty (X := X) I hj hl
    refine ⟨v, hv, ty, ?_⟩
    refine onView hx h1 I h fun d hk G' H' y e I' _ ry => ?_
    split at hk
    · rename_i hi
      exact app_end I' hj hv (.inr hi) (ry hi) hk
    · exact hk.elim
  · exact h.elim
/-- the item is new and owned, so is the list -/
theorem OwnK.appF {G H : Hp} {ds : List D} {d : D} {v y : V} {fj fd : List Addr} (o : OwnK .dp G H (.lst ds) v fj) (od : RepO H d y fd) (nd : fd.Nodup) (dj : ∀ p ∈ fj, p ∉ fd) :
    ∃ p vs, v = .ref p ∧ p ∈ fj ∧ H p = some (.lst vs) ∧ vs.length = ds.length ∧ OwnK .dp G (upd H p (.lst (vs ++ [y]))) (.lst (ds ++ [d])) v (fj ++ fd) := by
  obtain ⟨⟨p, vs, fq, e, hp, ef, r⟩, nj⟩ := o
  subst ef
  have pn : p ∉ fq := (List.nodup_cons.mp nj).1
  have pd : p ∉ fd := dj p List.mem_cons_self
  have at' : ∀ {fz : List Addr}, p ∉ fz → At H (upd H p (.lst (vs ++ [y]))) fz := fun hz => ⟨fun q hq => upd_ne fun z => hz (z ▸ hq), fun a ws q => by rw [upd_ne (ne_of q hp (by intro z; cases z))]; exact q⟩
  refine ⟨p, vs, e, List.mem_cons_self, hp, (r.rep (G := H) ⟨fun _ _ => rfl, fun _ _ e => e⟩).length, ⟨p, vs ++ [y], fq ++ fd, e, upd_same, by simp, ?_⟩, ?_⟩
  · refine (r.at (at' pn)).append ⟨y, [], fd, [], rfl, by simp, od.at (at' pd), rfl, rfl⟩
  · exact List.nodup_append.mpr ⟨nj, nd, fun a ha b hb z => dj a ha (z ▸ hb)⟩
def sAppF (j : Nat) (f : Env → Res D) : DSem := fun ρ => if isLst ρ j = true then andThen (f ρ) ρ fun d => appD ρ j d else .no
theorem ds_appF {j : Nat} {x : Str} {p1 apos cpos : Pos} (hj : own.lookup j = some .dp) (pn : PE X (.Name x p1) (tVar j)) (d : DF X J.W .dp e f) (hx : oxSub J.ox own = true := by rfl)
    (pe : ∀ {t : TE}, PE X e t → PE X (.Call (.Attribute (.Name x p1) "append" apos) [e] [] cpos) (tBM X.K "list" rAppend (tVar j) (tCons t tNil))) (hs : swapsWith (.Call (.Attribute (.Name x p1) "append" apos) [e] [] cpos) none pos.line X.env = pure false := by rfl) :
    DS X J own own (.Expr (.Call (.Attribute (.Name x p1) "append" apos) [e] [] cpos) pos) (sAppF j f) := by
  obtain ⟨t, p, h1⟩ := d
  refine ⟨_, ps_expr (pe p) hs, fun G0 H0 G H σ ρ Dn ⟨fp, I⟩ h => ?_⟩
  unfold sAppF at h
  split at h
  · rename_i hl
    obtain ⟨v, hv, ty⟩ := lst_ty (X := X) I hj hl
    refine ⟨v, hv, ty, ?_⟩
    have s := (view_ext I.ext).s
    refine h1 _ H σ ρ _ s I.view (toF hx I s h fun d hk G' H' e y fd od hn => ?_)
    have I1 := I.grow (Ext.tups I.sub e.h)
    unfold appD at hk
    split at hk
    · rename_i ds q
      split at hk
      · rename_i hz
        obtain ⟨v', hv', o⟩ := I1.own j .dp _ hj q
        rw [hv] at hv'; cases hv'
        have dj : ∀ i p, p ∈ fp i → p ∉ fd := own_new I fun p hp => (hn p hp).2
        obtain ⟨p, vs, e2, hp, hH, hll, o'⟩ := o.appF od.1 od.2 (dj j)
        subst e2
        refine ⟨p, vs, y, rfl, rfl, hH, by rw [hll]; exact hz, hk _ _ σ ⟨_, I1.change hj hv (fun a ha => .inl (upd_ne fun z => ha (z ▸ hp))) o' (fun q hq => ?_) (fun i q hne hq => ?_) fun q hq ws z => ?_⟩⟩
        · rcases List.mem_append.mp hq with hq | hq
          · exact ⟨(I1.fpm j q hq).1, (I1.fpm j q hq).2.1⟩
          · refine ⟨?_, I.ext.free (hn q hq).2⟩
            have m := od.mut q hq
            have gp : G q = none := upd_none I.sub (hn q hq).2
            unfold tupG
            split
            · rename_i ws qq; rw [qq] at m; exact m.elim
            · exact gp
        · intro hq2
          rcases List.mem_append.mp hq2 with hq2 | hq2
          · exact I1.fpd i j q hne hq hq2
          · exact dj i q hq hq2
        · have := (I1.fpm j q hq).2.2
          rw [z] at this
          exact this
      · exact hk.elim
    · exact hk.elim
  · exact h.elim

/-! ### x[k] = e, x an owned dict -/
def putD : D → D → D → Res D
  | .dK kvs, k, v => match keyD k with
    | some k => if kvs.length < sizeLine then .ok (.dK (putA kvs k v)) else .no
    | none => .no
  | .dT kvs, .tup ks, v => match keysD ks with
    | some ks => if kvs.length < sizeLine then .ok (.dT (putA kvs ks v)) else .no
    | none => .no
  | _, _, _ => .no
def putO (ρ : Env) (j : Nat) (k d : D) : Out := match ρ[j]? with
  | some (some c) => (match putD c k d with
    | .ok c' => .nx (ρ.set j (some c'))
    | _ => .no)
  | _ => .no
def hasE (ρ : Env) (j : Nat) : Bool := match ρ[j]? with
  | some (some _) => true
  | _ => false
theorem hasE_get {ρ : Env} {j : Nat} (h : hasE ρ j = true) : ∃ d, ρ[j]? = some (some d) := by
  unfold hasE at h
  split at h
  · rename_i d q; exact ⟨d, q⟩
  · cases h
def sPut (own : Owns) (j : Nat) (fk fv : Env → Res D) : DSem := fun ρ => if hasE ρ j = true then andThen (fv (maskE own ρ)) ρ fun d => andThen (fk ρ) ρ fun k => putO ρ j k d else .no
def sPutI (j : Nat) (fk fv : Env → Res D) : DSem := fun ρ => if hasE ρ j = true then andThen (fv ρ) ρ fun d => if imm d = true then andThen (fk ρ) ρ fun k => putO ρ j k d else .no else .no
theorem RepOK.of_imm {H : Hp} : ∀ {kvs : List (Key × D)} {ws : List (Key × V)} {fq : List Addr} {k : Key} {d : D} {y : V}, imm d = true → RepO H d y [] → RepOK H kvs ws fq → ∃ fq', RepOK H (kvs.map fun kv => if kv.1 = k then (kv.1, d) else kv) (ws.map fun kv => if kv.1 = k then (kv.1, y) else kv) fq' ∧ (∀ p ∈ fq', p ∈ fq) ∧ (fq.Nodup → fq'.Nodup)
  | [], _, _, _, _, _, _, _, h => by obtain ⟨e1, e2⟩ := h; subst e1 e2; exact ⟨[], ⟨rfl, rfl⟩, fun _ h => h, id⟩
  | (k', d') :: r, _, _, k, d, y, hi, ho, ⟨v, s, f1, f2, e, ef, h, q⟩ => by
    subst e ef
    obtain ⟨fq', h1, h2, h3⟩ := RepOK.of_imm (k := k) hi ho q
    rw [List.map_cons, List.map_cons]
    by_cases hk : k' = k
    · rw [if_pos hk, if_pos hk]
      exact ⟨fq', ⟨y, _, [], fq', rfl, rfl, ho, h1⟩, fun p hp => List.mem_append_right _ (h2 p hp), fun nd => h3 (List.nodup_append.mp nd).2.1⟩
    · rw [if_neg hk, if_neg hk]
      refine ⟨f1 ++ fq', ⟨v, _, f1, fq', rfl, rfl, h, h1⟩, fun p hp => ?_, fun nd => ?_⟩
      · rcases List.mem_append.mp hp with hp | hp
        · exact List.mem_append_left _ hp
        · exact List.mem_append_right _ (h2 p hp)
      · have n := List.nodup_append.mp nd
        exact List.nodup_append.mpr ⟨n.1, h3 n.2.1, fun a ha b hb => n.2.2 a ha b (h2 b hb)⟩
/-- an owned dict (items in the region) takes a value -/
theorem OwnS.put {G : Hp} {p : Addr} {c c' k d : D} {y kv : V} {H3 : Hp} {G3 : Hp} (s3 : Sub G3 H3) (o : OwnS G H3 p c) (rk : Rep G3 k kv) (rd : Rep G d y) (h : putD c k d = .ok c') :
    ∃ o', DPut H3 p kv y (upd H3 p o') ∧ OwnS G (upd H3 p o') p c' := by
  cases c with
  | dK kvs =>
    have h : (match keyD k with
      | some k => if kvs.length < sizeLine then Res.ok (D.dK (putA kvs k d)) else .no
      | none => .no) = .ok c' := by cases k <;> exact h
    obtain ⟨ws, hp, r⟩ := o
    split at h
    · rename_i kk ek
      split at h
      · rename_i hz
        cases h
        have r2 := repK_iff.mpr ((repK_iff.mp r).put (k := kk) rd)
        refine ⟨_, ?_, putK ws kk y, upd_same, r2⟩
        rw [keyD_rep ek rk]
        exact DPut.k hp (by rw [(repK_iff.mp r).length]; exact hz)
      · cases h
    · cases h
  | dT kvs =>
    cases k with
    | tup ks =>
      simp only [putD] at h
      obtain ⟨ws, hp, r⟩ := o
      split at h
      · rename_i kk ek
        split at h
        · rename_i hz
          cases h
          obtain ⟨a, vs, e, ha, rs⟩ := rk
          subst e
          have r2 := repT_iff.mpr ((repT_iff.mp r).put (k := kk) rd)
          refine ⟨_, DPut.t hp (by rw [← keysD_rep ek rs]; exact s3 _ _ ha) (by rw [(repT_iff.mp r).length]; exact hz), putK ws kk y, upd_same, r2⟩
        · cases h
      · cases h
    | _ => cases h
  | _ => cases k <;> cases h
theorem put_end {G0 H0 G H G3 : Hp} {σ : L2.St} {ρ : Env} {Dn : Ends} {fp} {j : Nat} {k d : D} {kv y : V} (I : SIf fp G0 H0 own G H σ ρ) (hj : own.lookup j = some .sh) (s3 : Sub G3 H) (rk : Rep G3 k kv) (rd : Rep G d y) {v : V} (hv : σ[j]? = some (some v))
    (h : GS X.mg J G0 H0 own Dn (putO ρ j k d)) : ∃ a H4, v = .ref a ∧ DPut H a kv y H4 ∧ Dn.nx σ H4 := by
  unfold putO at h
  split at h
  · rename_i c q
    split at h
    · rename_i c' e
      obtain ⟨v', hv', p, e2, ef, o⟩ := I.own j .sh _ hj q
      rw [hv] at hv'; cases hv'
      obtain ⟨o', h1, h2⟩ := o.put s3 rk rd e
      refine ⟨p, _, e2, h1, h G _ σ (I.write hj hv (by rw [ef]; exact List.mem_cons_self) ⟨p, e2, ef, h2⟩)⟩
    · exact h.elim
  · exact h.elim
theorem ds_put {i value : Expr} {j : Nat} {x : Str} {p1 pos' : Pos} {fk fv : Env → Res D} (hu : X.A.units + 1 < cLine) (hj : own.lookup j = some .sh) (pn : PE X (.Name x p1) (tVar j)) (dk : DE X J.W i fk) (dv : DE X J.W value fv) (hx : oxSub J.ox own = true := by rfl)
    (hs : swapsWith value (some (.Subscript (.Name x p1) i pos')) pos.line X.env = pure false := by rfl) : DS X J own own (.Assign [.Subscript (.Name x p1) i pos'] value pos) (sPut own j fk fv) := by
  obtain ⟨tk, pk, hk⟩ := dk
  obtain ⟨tv, pv, hv⟩ := dv
  refine ⟨_, ps_dput hu pn pk pv hs, fun G0 H0 G H σ ρ Dn ⟨fp, I⟩ h => ?_⟩
  unfold sPut at h
  split at h
  · rename_i hh
    obtain ⟨c, q⟩ := hasE_get hh
    refine onMasked hx hv I h fun d hd G1 H1 y e I1 ry => ?_
    obtain ⟨v, hv, _⟩ := I1.own j .sh c hj q
    refine ⟨v, hv, ?_⟩
    have s := (view_ext I1.ext).s
    refine hk _ H1 σ ρ _ s I1.view (toP hx I1 s hd fun k _ hk' G2 H2 e2 kv rk => ?_)
    have I2 := I1.grow (Ext.up I1.sub e2.h)
    exact put_end I2 hj e2.s rk ry hv hk'
  · exact h.elim
theorem ds_putI {i value : Expr} {j : Nat} {x : Str} {p1 pos' : Pos} {fk fv : Env → Res D} (hu : X.A.units + 1 < cLine) (hj : own.lookup j = some .sh) (pn : PE X (.Name x p1) (tVar j)) (dk : DE X J.W i fk) (dv : DE X J.W value fv) (hx : oxSub J.ox own = true := by rfl)
    (hs : swapsWith value (some (.Subscript (.Name x p1) i pos')) pos.line X.env = pure false := by rfl) : DS X J own own (.Assign [.Subscript (.Name x p1) i pos'] value pos) (sPutI j fk fv) := by
  obtain ⟨tk, pk, hk⟩ := dk
  obtain ⟨tv, pv, hv⟩ := dv
  refine ⟨_, ps_dput hu pn pk pv hs, fun G0 H0 G H σ ρ Dn ⟨fp, I⟩ h => ?_⟩
  unfold sPutI at h
  split at h
  · rename_i hh
    obtain ⟨c, q⟩ := hasE_get hh
    refine onView hx hv I h fun d hd G1 H1 y e I1 _ ry => ?_
    split at hd
    · rename_i hi
      obtain ⟨v, hv, _⟩ := I1.own j .sh c hj q
      refine ⟨v, hv, ?_⟩
      have s := (view_ext I1.ext).s
      refine hk _ H1 σ ρ _ s I1.view (toP hx I1 s hd fun k _ hk' G2 H2 e2 kv rk => ?_)
      have I2 := I1.grow (Ext.up I1.sub e2.h)
      exact put_end I2 hj e2.s rk (ry hi) hv hk'
    · exact hd.elim
  · exact h.elim

/-! ### xs[i] = e, xs an owned list -/
def setD (c k d : D) : Res D := match c, k with
  | .lst ds, .int i => (match ixN ds.length i with
    | some n => .ok (.lst (ds.set n d))
    | none => .no)
  | _, _ => .no
def setO (ρ : Env) (j : Nat) (k d : D) : Out := match ρ[j]? with
  | some (some c) => (match setD c k d with
    | .ok c' => .nx (ρ.set j (some c'))
    | _ => .no)
  | _ => .no
def sSetL (own : Owns) (j : Nat) (fk fv : Env → Res D) : DSem := fun ρ => if hasE ρ j = true then andThen (fv (maskE own ρ)) ρ fun d => andThen (fk ρ) ρ fun k => setO ρ j k d else .no
theorem ds_setL {i value : Expr} {j : Nat} {x : Str} {p1 pos' : Pos} {fk fv : Env → Res D} (hj : own.lookup j = some .sh) (pn : PE X (.Name x p1) (tVar j)) (dk : DE X J.W i fk) (dv : DE X J.W value fv) (hx : oxSub J.ox own = true := by rfl)
    (hs : swapsWithSole [.Subscript (.Name x p1) i pos'] value pos.line X.env = pure false := by rfl) (hw : swappedStores [.Subscript (.Name x p1) i pos'] value X.env = pure none := by rfl)
    (h1 : (assignEach [.Subscript (.Name x p1) i pos'] X.env).map (·.2) = [assign (.Subscript (.Name x p1) i pos') X.env] := by rfl)
    (ha : ∀ v, assign (.Subscript (.Name x p1) i pos') X.env v = (do
      let ov ← holding [v] (eval (.Name x p1) X.env)
      let iv ← holding [v, ov] (eval i X.env)
      standAt pos'
      holding [v, ov, iv] (setItem ov iv v)
      release [v, ov, iv] []) := by intro _; rfl) : DS X J own own (.Assign [.Subscript (.Name x p1) i pos'] value pos) (sSetL own j fk fv) := by
  obtain ⟨tk, pk, hk⟩ := dk
  obtain ⟨tv, pv, hv⟩ := dv
  refine ⟨_, ps_asg pv (pg_sub pn pk set_list ha) hs hw h1, fun G0 H0 G H σ ρ Dn ⟨fp, I⟩ h => ?_⟩
  unfold sSetL at h
  split at h
  · rename_i hh
    obtain ⟨c, q⟩ := hasE_get hh
    refine onMasked hx hv I h fun d hd G1 H1 y e I1 ry => ?_
    obtain ⟨v, hv, _⟩ := I1.own j .sh c hj q
    refine ⟨v, hv, ?_⟩
    have s := (view_ext I1.ext).s
    refine hk _ H1 σ ρ _ s I1.view (toP hx I1 s hd fun k _ hk' G2 H2 e2 kv rk => ?_)
    have I2 := I1.grow (Ext.up I1.sub e2.h)
    unfold setO at hk'
    rw [q] at hk'
    simp only at hk'
    split at hk'
    · rename_i c' ec
      obtain ⟨v', hv', p, ep, ef, o⟩ := I2.own j .sh _ hj q
      rw [hv] at hv'; cases hv'
      unfold setD at ec
      split at ec
      · rename_i ds n eqk o9
        split at ec
        · rename_i m em
          cases ec
          obtain ⟨vs, hp, r⟩ := o
          refine ⟨p, vs, n, m, ep, rk, hp, by rw [r.length]; exact em, ?_⟩
          exact hk' G1 _ σ (I2.write hj hv (by rw [ef]; exact List.mem_cons_self) ⟨p, ep, ef, _, upd_same, r.set m ry⟩)
        · cases ec
      · cases ec
    · exact hk'.elim
  · exact h.elim
end

section
variable {X : Cx} {J : Jd} {own : Owns} {pos : Pos}
def sSetLI (j : Nat) (fk fv : Env → Res D) : DSem := fun ρ => if hasE ρ j = true then andThen (fv ρ) ρ fun d => if imm d = true then andThen (fk ρ) ρ fun k => setO ρ j k d else .no else .no
theorem RepOs.set {H : Hp} : ∀ {ds : List D} {vs : List V} {fq : List Addr} {d : D} {y : V} (n : Nat), RepO H d y [] → RepOs H ds vs fq → ∃ fq', RepOs H (ds.set n d) (vs.set n y) fq' ∧ (∀ p ∈ fq', p ∈ fq) ∧ (fq.Nodup → fq'.Nodup)
  | [], _, _, _, _, n, _, h => by obtain ⟨e1, e2⟩ := h; subst e1 e2; exact ⟨[], ⟨by simp, rfl⟩, fun _ h => h, id⟩
  | d' :: r, _, _, d, y, 0, ho, ⟨v, s, f1, f2, e, ef, h, q⟩ => by
    subst e ef
    exact ⟨f2, ⟨y, s, [], f2, rfl, rfl, ho, q⟩, fun p hp => List.mem_append_right _ hp, fun nd => (List.nodup_append.mp nd).2.1⟩
  | d' :: r, _, _, d, y, n + 1, ho, ⟨v, s, f1, f2, e, ef, h, q⟩ => by
    subst e ef
    obtain ⟨fq', h1, h2, h3⟩ := RepOs.set n ho q
    refine ⟨f1 ++ fq', ⟨v, s.set n y, f1, fq', rfl, rfl, h, h1⟩, fun p hp => ?_, fun nd => ?_⟩
    · rcases List.mem_append.mp hp with hp | hp
      · exact List.mem_append_left _ hp
      · exact List.mem_append_right _ (h2 p hp)
    · have n := List.nodup_append.mp nd
      exact List.nodup_append.mpr ⟨n.1, h3 n.2.1, fun a ha b hb => n.2.2 a ha b (h2 b hb)⟩
/-- an owned object at p is written; what it owns grows no more -/
theorem SIf.writeLe {fp} {G0 H0 G H : Hp} {σ : L2.St} {ρ : Env} (I : SIf fp G0 H0 own G H σ ρ) {j : Nat} {k : Kd} {d : D} {v : V} {p : Addr} {o' : HO} {fj : List Addr} (hj : own.lookup j = some k) (hv : σ[j]? = some (some v)) (hp : p ∈ fp j)
    (o : OwnK k G (upd H p o') d v fj) (hle : ∀ q ∈ fj, q ∈ fp j) : SI G0 H0 own G (upd H p o') σ (ρ.set j (some d)) :=
  ⟨_, I.change hj hv (fun a ha => .inl (upd_ne fun z => ha (z ▸ hp))) o (fun q hq => ⟨(I.fpm j q (hle q hq)).1, (I.fpm j q (hle q hq)).2.1⟩) (fun i q hne hq hq2 => I.fpd i j q hne hq (hle q hq2)) fun q hq vs z => by
    have := (I.fpm j q hq).2.2
    rw [z] at this
    exact this⟩
theorem OwnK.setL {kd : Kd} {G H : Hp} {ds : List D} {d : D} {v y : V} {fj : List Addr} (n : Nat) (hs : Sub G H) (o : OwnK kd G H (.lst ds) v fj) (hi : imm d = true) (rd : Rep G d y) :
    ∃ p vs fj', v = .ref p ∧ p ∈ fj ∧ H p = some (.lst vs) ∧ vs.length = ds.length ∧ OwnK kd G (upd H p (.lst (vs.set n y))) (.lst (ds.set n d)) v fj' ∧ ∀ q ∈ fj', q ∈ fj := by
  cases kd with
  | pin z => exact o.elim
  | sh =>
    obtain ⟨p, e, ef, vs, hp, r⟩ := o
    subst ef
    exact ⟨p, vs, [p], e, List.mem_cons_self, hp, r.length, ⟨p, e, rfl, _, upd_same, r.set n rd⟩, fun _ h => h⟩
  | dp =>
    obtain ⟨⟨p, vs, fq, e, hp, ef, r⟩, nd⟩ := o
    subst ef
    have pn : p ∉ fq := (List.nodup_cons.mp nd).1
    have at' : At H (upd H p (.lst (vs.set n y))) fq := ⟨fun q hq => upd_ne fun z => pn (z ▸ hq), fun a ws q => by rw [upd_ne (ne_of q hp (by intro z; cases z))]; exact q⟩
    have r2 : RepO (upd H p (.lst (vs.set n y))) d y [] := RepO.of_imm hi (Rep.imm (fun a ws q => at'.t _ _ (hs _ _ q)) hi rd)
    obtain ⟨fq', h1, h2, h3⟩ := RepOs.set n r2 (r.at at')
    refine ⟨p, vs, p :: fq', e, List.mem_cons_self, hp, (r.rep (G := H) ⟨fun _ _ => rfl, fun _ _ e => e⟩).length, ⟨⟨p, _, fq', e, upd_same, rfl, h1⟩, List.nodup_cons.mpr ⟨fun z => pn (h2 p z), h3 (List.nodup_cons.mp nd).2⟩⟩, fun q hq => ?_⟩
    rcases List.mem_cons.mp hq with z | hq
    · subst z; exact List.mem_cons_self
    · exact List.mem_cons_of_mem _ (h2 q hq)
theorem ds_setLI {kd : Kd} {i value : Expr} {j : Nat} {x : Str} {p1 pos' : Pos} {fk fv : Env → Res D} (hj : own.lookup j = some kd) (pn : PE X (.Name x p1) (tVar j)) (dk : DE X J.W i fk) (dv : DE X J.W value fv) (hx : oxSub J.ox own = true := by rfl)
    (hs : swapsWithSole [.Subscript (.Name x p1) i pos'] value pos.line X.env = pure false := by rfl) (hw : swappedStores [.Subscript (.Name x p1) i pos'] value X.env = pure none := by rfl)
    (h1 : (assignEach [.Subscript (.Name x p1) i pos'] X.env).map (·.2) = [assign (.Subscript (.Name x p1) i pos') X.env] := by rfl)
    (ha : ∀ v, assign (.Subscript (.Name x p1) i pos') X.env v = (do
      let ov ← holding [v] (eval (.Name x p1) X.env)
      let iv ← holding [v, ov] (eval i X.env)
      standAt pos'
      holding [v, ov, iv] (setItem ov iv v)
      release [v, ov, iv] []) := by intro _; rfl) : DS X J own own (.Assign [.Subscript (.Name x p1) i pos'] value pos) (sSetLI j fk fv) := by
  obtain ⟨tk, pk, hk⟩ := dk
  obtain ⟨tv, pv, hv⟩ := dv
  refine ⟨_, ps_asg pv (pg_sub pn pk set_list ha) hs hw h1, fun G0 H0 G H σ ρ Dn ⟨fp, I⟩ h => ?_⟩
  unfold sSetLI at h
  split at h
  · rename_i hh
    obtain ⟨c, q⟩ := hasE_get hh
    refine onView hx hv I h fun d hd G1 H1 y e I1 _ ry => ?_
    split at hd
    · rename_i hi
      obtain ⟨v, hv, _⟩ := I1.own j kd c hj q
      refine ⟨v, hv, ?_⟩
      have s := (view_ext I1.ext).s
      refine hk _ H1 σ ρ _ s I1.view (toP hx I1 s hd fun k _ hk' G2 H2 e2 kv rk => ?_)
      have I2 := I1.grow (Ext.up I1.sub e2.h)
      unfold setO at hk'
      rw [q] at hk'
      simp only at hk'
      split at hk'
      · rename_i c' ec
        obtain ⟨v', hv', o⟩ := I2.own j kd _ hj q
        rw [hv] at hv'; cases hv'
        unfold setD at ec
        split at ec
        · rename_i ds n eqk o9
          split at ec
          · rename_i m em
            cases ec
            obtain ⟨p, vs, fj', ep, hpm, hp, hl, o', hle⟩ := o.setL m I2.sub hi (ry hi)
            refine ⟨p, vs, n, m, ep, rk, hp, by rw [hl]; exact em, ?_⟩
            exact hk' _ _ σ (I2.writeLe hj hv hpm o' hle)
          · cases ec
        · cases ec
      · exact hk'.elim
    · exact hd.elim
  · exact h.elim

/-! ### x.clear() -/
def sClear (j : Nat) : DSem := fun ρ => if isLst ρ j = true then .nx (ρ.set j (some (.lst []))) else .no
theorem ds_clear {kd : Kd} {j : Nat} {x : Str} {p1 apos cpos : Pos} (hj : own.lookup j = some kd) (pn : PE X (.Name x p1) (tVar j))
    (hbase : attributeBase (.Name x p1) "clear" X.env (eval (.Name x p1) X.env) = eval (.Name x p1) X.env := by rfl) (hline : (apos.endLine == cpos.line) = true := by rfl)
    (hs : swapsWith (.Call (.Attribute (.Name x p1) "clear" apos) [] [] cpos) none pos.line X.env = pure false := by rfl) : DS X J own own (.Expr (.Call (.Attribute (.Name x p1) "clear" apos) [] [] cpos) pos) (sClear j) := by
  refine ⟨_, ps_expr (pe_bm0 PySem.F.plainAttrs_list PySem.F.slot_list_clear PySem.F.type_list_clear mt_clear pn hbase hline) hs, fun G0 H0 G H σ ρ Dn ⟨fp, I⟩ h => ?_⟩
  unfold sClear at h
  split at h
  · rename_i hl
    obtain ⟨v, hv, ty⟩ := lst_ty (X := X) I hj hl
    obtain ⟨ds, q⟩ := isLst_get hl
    obtain ⟨v', hv', o⟩ := I.own j kd _ hj q
    rw [hv] at hv'; cases hv'
    refine ⟨v, hv, ty, ?_⟩
    obtain ⟨p, vs, ep, hpm, hp, _⟩ := o.lst
    refine ⟨p, vs, ep, rfl, hp, h G _ σ (I.writeLe (fj := [p]) hj hv hpm ?_ fun q hq => by rw [show q = p by simpa using hq]; exact hpm)⟩
    cases kd with
    | pin z => exact o.elim
    | sh => exact ⟨p, ep, rfl, [], upd_same, rfl⟩
    | dp => exact ⟨⟨p, [], [], ep, upd_same, rfl, rfl, rfl⟩, by simp⟩
  · exact h.elim
end

/-! ### room -/
theorem hu1 {A : Around} {k : Nat} (hr : Room k A) : A.units + 1 < cLine := by have := hr.un; omega
theorem hu64 {A : Around} {k : Nat} (hr : Room k A) : A.units + 64 < cLine := by have := hr.un; omega
theorem hu65 {A : Around} {k : Nat} (hr : Room k A) : A.units + 65 < cLine := by have := hr.un; omega
theorem pe_append {X : Cx} {x : Str} {p1 apos cpos : Pos} {e : Expr} {j : Nat} (pn : PE X (.Name x p1) (tVar j)) (hbase : attributeBase (.Name x p1) "append" X.env (eval (.Name x p1) X.env) = eval (.Name x p1) X.env := by rfl)
    (hfew : ((backTo cpos (starEach (e :: []) X.env)).all (fun x => !x.1) && (backToKw cpos (keywordEach [] X.env)).all (fun x => x.1.isSome)
      && decide ((e :: ([] : List Expr)).length + ([] : List Keyword).length + (if ([] : List Keyword).isEmpty then 0 else 1) < 30)) = true := by rfl)
    (hline : (apos.endLine == cpos.line) = true := by rfl) (hs : starEach (e :: []) X.env = (false, eval e X.env) :: starEach [] X.env := by rfl) (hplain : (backTo cpos (starEach [] X.env)).any (·.1) = false := by rfl) {t : TE} (p : PE X e t) :
    PE X (.Call (.Attribute (.Name x p1) "append" apos) [e] [] cpos) (tBM X.K "list" rAppend (tVar j) (tCons t tNil)) :=
  pe_bm PySem.F.plainAttrs_list PySem.F.slot_list_append PySem.F.type_list_append mt_append pn (pa_cons p pa_nil hs) hbase hfew hline hs hplain
end DL

/-! DL9: the law's own end. -/
namespace DL
open PySem PySem.Spec PyProof.Rows L2
def spLaw : Sp := fun vs H Q _ => ∃ (a : Addr) (ns : List Int), vs = [.ref a] ∧ Rd H a (.lst (ns.map V.int)) ∧ ns.length ≤ 63 ∧ ∀ H', Q (.bl true) H'
theorem reps_ints {G : Hp} : ∀ ns : List Int, Reps G (ns.map D.int) (ns.map V.int)
  | [] => rfl
  | n :: r => ⟨.int n, r.map V.int, rfl, rfl, reps_ints r⟩
section
variable {P : Program} {w : World} {K : PySem.W.Frag} {mg : Str → Option Value} {base : Heap}
theorem law_ok {k : Nat} {f : Addr} {fd : FuncData} {x : Str} {m : List D → Res D} (F : FnOk P w K mg base (L2.CX P w) k f fd [x] (spK mg none 1 m)) (h : ∀ ns : List Int, ns.length ≤ 63 → m [.lst (ns.map D.int)] = .ok (.bl true)) : FnOk P w K mg base (L2.CX P w) k f fd [x] spLaw :=
  F.imp fun vs H Q E ⟨a, ns, e, hr, hl, q⟩ => by
    subst e
    refine ⟨rfl, H, [.lst (ns.map D.int)], fun _ _ e => e, ⟨.ref a, [], rfl, ⟨a, _, rfl, hr, reps_ints ns⟩, rfl⟩, ?_⟩
    rw [h ns hl]
    intro G' H' v _ rv
    have e : v = .bl true := rv
    subst e
    exact q H'
theorem spLaw_start {H : Hp} {a : Addr} {ns : List Int} {E : XK} (hl : ns.length ≤ 63) (hS : SqL K H a (ns.map V.int)) (hK : ∀ o, K.lookup a = some o → o.cls ≠ .type "list") : spLaw [.ref a] H (fun v _ => v = .bl true) E := by
  rcases hS with h | ⟨o, _, _, h, c, _⟩
  · exact ⟨a, ns, rfl, h, hl, fun _ => rfl⟩
  · exact absurd c (hK o h)
theorem cx_never {P : Program} {w : World} {outer : List PySem.Env} {H : Hp} {s : Shared} {e : Value} {s' : Shared} (h : L2.CX P w outer H s (fun _ _ _ => False) e s') : False := by
  obtain ⟨_, _, _, _, _, _, _, _, _, _, _, _, z⟩ := h
  exact z
theorem mem_look {α β : Type} [BEq α] [LawfulBEq α] {a : α} {o : β} (K : List (α × β)) (h : K.lookup a = some o) : (a, o) ∈ K := by
  induction K with
  | nil => cases h
  | cons p r ih =>
    obtain ⟨b, u⟩ := p
    rw [List.lookup_cons] at h
    cases q : a == b with
    | true => rw [q] at h; have e : a = b := by simpa using q
              subst e; cases h; exact List.mem_cons_self
    | false => rw [q] at h; exact List.mem_cons_of_mem _ (ih h)
/-- none of these objects is a list -/
theorem noList {K : PySem.W.Frag} (h : K.all (fun p => p.2.cls != .type "list") = true) (a : Addr) (o : Obj) (e : K.lookup a = some o) : o.cls ≠ .type "list" := by
  have hm : (a, o) ∈ K := mem_look K e
  have := List.all_eq_true.mp h _ hm
  simpa using this
end
end DL

/-! DM1: reckoning with mirrors: equations for simp; what is not known yet is not looked into. -/
namespace DL
open PySem L2

/-! ### answers in a row -/
def Res.thn {α β : Type} (r : Res α) (k : α → Res β) : Res β := r >>= k
section
variable {α β : Type} {k : α → Res β}
@[simp] theorem thn_ok {a : α} : Res.thn (.ok a) k = k a := rfl
@[simp] theorem thn_ex {c : Str} : Res.thn (.ex c) k = .ex c := rfl
@[simp] theorem thn_no : Res.thn .no k = .no := rfl
theorem thn_if {c : Prop} [Decidable c] {a b : Res α} : Res.thn (if c then a else b) k = if c then Res.thn a k else Res.thn b k := by split <;> rfl
end
def Out.thn (o : Out) (k : DSem) : Out := match o with
  | .nx ρ => k ρ
  | o => o
section
variable {k : DSem} {ρ : Env}
@[simp] theorem othn_nx : Out.thn (.nx ρ) k = k ρ := rfl
@[simp] theorem othn_rt {d : D} : Out.thn (.rt d) k = .rt d := rfl
@[simp] theorem othn_bk : Out.thn (.bk ρ) k = .bk ρ := rfl
@[simp] theorem othn_ct : Out.thn (.ct ρ) k = .ct ρ := rfl
@[simp] theorem othn_ex {c : Str} : Out.thn (.ex c ρ) k = .ex c ρ := rfl
@[simp] theorem othn_no : Out.thn .no k = .no := rfl
theorem othn_if {c : Prop} [Decidable c] {a b : Out} : Out.thn (if c then a else b) k = if c then Out.thn a k else Out.thn b k := by split <;> rfl
end
section
variable {α : Type} {ρ : Env} {k : α → Out}
@[simp] theorem andThen_ok {a : α} : andThen (.ok a) ρ k = k a := rfl
@[simp] theorem andThen_ex {c : Str} : andThen (.ex c) ρ k = .ex c ρ := rfl
@[simp] theorem andThen_no : andThen .no ρ k = .no := rfl
theorem andThen_if {c : Prop} [Decidable c] {a b : Res α} : andThen (if c then a else b) ρ k = if c then andThen a ρ k else andThen b ρ k := by split <;> rfl
end
/-- what is handed back by an outcome -/
def Out.res : Out → Res D
  | .rt d => .ok d
  | .nx _ => .ok .non
  | .ex c _ => .ex c
  | _ => .no
@[simp] theorem res_rt {d : D} : Out.res (.rt d) = .ok d := rfl
@[simp] theorem res_nx {ρ : Env} : Out.res (.nx ρ) = .ok .non := rfl
@[simp] theorem res_ex {c : Str} {ρ : Env} : Out.res (.ex c ρ) = .ex c := rfl
@[simp] theorem runF_eq (n : Nat) (F : DSem) (ds : List D) : runF n F ds = (F (startE n ds)).res := by unfold runF Out.res; rfl
@[simp] theorem bif_true {α : Type} {a b : α} : (if True then a else b) = a := if_pos trivial

/-! ### equations -/
section
variable {ρ : Env} {f g h : Env → Res D} {c c' : Env → Res Bool} {F G : DSem} {own : Owns} {i j n : Nat}
def getR : Option (Option D) → Res D
  | some (some d) => .ok d
  | _ => .no
@[simp] theorem getR_some {d : D} : getR (some (some d)) = .ok d := rfl
@[simp] theorem getR_none : getR none = .no := rfl
@[simp] theorem getR_none' : getR (some none) = .no := rfl
@[simp] theorem e_var : vVar i ρ = getR ρ[i]? := by unfold vVar getR; rfl
@[simp] theorem e_C {d : D} : vC d ρ = .ok d := rfl
@[simp] theorem e_v2 {o : D → D → Res D} : v2 o f g ρ = (f ρ).thn fun x => (g ρ).thn fun y => o x y := rfl
@[simp] theorem e_v1 {o : D → Res D} : v1 o f ρ = (f ρ).thn o := rfl
@[simp] theorem e_B : vB f ρ = (f ρ).thn bOf := rfl
@[simp] theorem e_aNil : aNil ρ = .ok [] := rfl
@[simp] theorem e_aCons {a : Env → Res (List D)} : aCons f a ρ = (f ρ).thn fun x => (a ρ).thn fun xs => .ok (x :: xs) := rfl
@[simp] theorem e_aConsI {a : Env → Res (List D)} : aConsI f a ρ = (f ρ).thn fun x => if imm x = true then (a ρ).thn fun xs => .ok (x :: xs) else .no := rfl
@[simp] theorem e_tup {a : Env → Res (List D)} : vTup a ρ = (a ρ).thn fun xs => if xs.length ≤ sizeLine then .ok (.tup xs) else .no := rfl
@[simp] theorem e_lst {a : Env → Res (List D)} : vLst a ρ = (a ρ).thn fun xs => if xs.length ≤ sizeLine then .ok (.lst xs) else .no := rfl
@[simp] theorem e_lstOf {a : Env → Res (List D)} : vLstOf a ρ = (a ρ).thn fun ds => .ok (.lst ds) := rfl
@[simp] theorem e_lstI {a : Env → Res (List D)} : vLstI a ρ = (a ρ).thn fun ds => if imms ds = true then .ok (.lst ds) else .no := rfl
@[simp] theorem e_nLst {a : Env → Res (List D)} : nLst a ρ = (a ρ).thn fun xs => if xs.length ≤ sizeLine then .ok xs else .no := rfl
@[simp] theorem e_nList : nList f ρ = (f ρ).thn seqOf := rfl
def catR : D → D → Res (List D)
  | .lst xs, .lst ys => if xs.length + ys.length ≤ sizeLine then .ok (xs ++ ys) else .no
  | _, _ => .no
@[simp] theorem e_nCat : nCat f g ρ = (f ρ).thn fun x => (g ρ).thn fun y => catR x y := by unfold nCat Res.thn; congr 1
def slR : D → Option Int → Option Int → Res (List D)
  | .lst xs, l, u => .ok (cutA xs l u)
  | _, _, _ => .no
@[simp] theorem e_nSl {lo hi : Env → Res (Option Int)} : nSl f lo hi ρ = (f ρ).thn fun x => (lo ρ).thn fun l => (hi ρ).thn fun u => slR x l u := by
  unfold nSl Res.thn
  congr 1
  funext x
  cases x <;> rfl
@[simp] theorem e_sl {lo hi : Env → Res (Option Int)} : vSl f lo hi ρ = (f ρ).thn fun x => (lo ρ).thn fun l => (hi ρ).thn fun u => g_sl x l u := rfl
@[simp] theorem e_oNone : oNone ρ = .ok none := rfl
@[simp] theorem e_oSome : oSome f ρ = (f ρ).thn iOf := rfl
@[simp] theorem e_call {o : List D → Res D} {a : Env → Res (List D)} : vCall o a ρ = (a ρ).thn o := rfl
@[simp] theorem e_callN {o : List D → Res D} {a : Env → Res (List D)} : vCallN n o a ρ = (a ρ).thn fun ds => if ds.length = n then o ds else .no := rfl
@[simp] theorem e_call0 {o : List D → Res D} : vCall0 o ρ = o [] := rfl
@[simp] theorem e_and : vAnd f g ρ = (f ρ).thn fun x => (bOf x).thn fun b => if b = true then g ρ else .ok (.bl false) := by unfold vAnd Res.thn; cases f ρ <;> rfl
@[simp] theorem e_or : vOr f g ρ = (f ρ).thn fun x => (bOf x).thn fun b => if b = true then .ok (.bl true) else g ρ := by unfold vOr Res.thn; cases f ρ <;> rfl
@[simp] theorem e_not : vNot f ρ = (f ρ).thn fun x => (bOf x).thn fun b => .ok (.bl (!b)) := by unfold vNot Res.thn; cases f ρ <;> rfl
@[simp] theorem e_if : vIf c f g ρ = (c ρ).thn fun b => if b = true then f ρ else g ρ := rfl
@[simp] theorem e_notD : tNotD c ρ = (c ρ).thn fun b => .ok (!b) := rfl
@[simp] theorem e_andD : tAndD c c' ρ = (c ρ).thn fun b => if b = true then c' ρ else .ok false := rfl
@[simp] theorem e_orD : tOrD c c' ρ = (c ρ).thn fun b => if b = true then .ok true else c' ρ := rfl
@[simp] theorem e_true : tTrue ρ = .ok true := rfl
@[simp] theorem e_dic : vDic f ρ = (f ρ).thn dicOf := rfl
@[simp] theorem e_get2 : vGet2 f g h ρ = (f ρ).thn fun d => (g ρ).thn fun k => (h ρ).thn fun x => (getD? d k).thn fun o => .ok (o.getD x) := rfl
@[simp] theorem e_get1 : vGet1 f g ρ = (f ρ).thn fun d => (g ρ).thn fun k => (getD? d k).thn fun o => .ok (o.getD .non) := rfl
@[simp] theorem e_iSeq : iSeq f ρ = (f ρ).thn seqOf := rfl
def rng1 : D → Res (List D)
  | .int j => if -(2 ^ 62) ≤ j ∧ j < 2 ^ 62 then .ok (rangeD 0 j.toNat) else .no
  | _ => .no
def rng2 : D → D → Res (List D)
  | .int i, .int j => if -(2 ^ 62) ≤ i ∧ i < 2 ^ 62 ∧ -(2 ^ 62) ≤ j ∧ j < 2 ^ 62 then .ok (rangeD i (j - i).toNat) else .no
  | _, _ => .no
@[simp] theorem e_range1 : iRange1 f ρ = (f ρ).thn rng1 := by unfold iRange1 Res.thn; congr 1
@[simp] theorem e_range2 : iRange2 f g ρ = (f ρ).thn fun x => (g ρ).thn fun y => rng2 x y := by unfold iRange2 Res.thn; congr 1
@[simp] theorem e_enum : iEnumD f ρ = (f ρ).thn fun x => (lstOf x).thn fun ds => .ok (enumD ds) := by unfold iEnumD Res.thn; cases f ρ <;> rfl
@[simp] theorem e_rev : iRevD f ρ = (f ρ).thn fun x => (lstOf x).thn fun ds => .ok ds.reverse := by unfold iRevD Res.thn; cases f ρ <;> rfl
@[simp] theorem e_zip : iZipD f g ρ = (f ρ).thn fun x => (g ρ).thn fun y => (lstOf x).thn fun ds => (lstOf y).thn fun es => .ok (zipD ds es) := rfl
@[simp] theorem e_comp {fi : Env → Res (List D)} {is vs : List Nat} {ks : D → Res (List D)} {ft : Env → Res Bool} : nComp fi is ks ft f vs ρ = (fi ρ).thn fun ds => (noEx (compL is ks ft f (wipeE ρ vs) ds)).thn fun ys => if ys.length ≤ sizeLine then .ok ys else .no := rfl
@[simp] theorem s_seq : sSeq F G ρ = (F ρ).thn G := by unfold sSeq Out.thn; rfl
@[simp] theorem s_next : sNext ρ = .nx ρ := rfl
@[simp] theorem s_asg : sAsg own j f ρ = andThen (f (maskE own ρ)) ρ fun d => .nx (ρ.set j (some d)) := rfl
@[simp] theorem s_asgI : sAsgI j f ρ = andThen (f ρ) ρ fun d => if imm d = true then .nx (ρ.set j (some d)) else .no := rfl
@[simp] theorem s_asgV : sAsgV j f ρ = andThen (f ρ) ρ fun d => .nx (ρ.set j (some d)) := rfl
@[simp] theorem s_ret : sRet f ρ = andThen (f ρ) ρ fun d => .rt d := rfl
@[simp] theorem s_retI : sRetI f ρ = andThen (f ρ) ρ fun d => if imm d = true then .rt d else .no := rfl
@[simp] theorem s_retN : sRetN ρ = .rt .non := rfl
def retO : Option (Option D) → Out
  | some (some d) => .rt d
  | _ => .no
@[simp] theorem retO_some {d : D} : retO (some (some d)) = .rt d := rfl
@[simp] theorem s_retO : sRetO j ρ = retO ρ[j]? := by unfold sRetO retO; rfl
@[simp] theorem s_drop : sDrop f ρ = andThen (f ρ) ρ fun _ => .nx ρ := rfl
def ifK (F G : DSem) (ρ : Env) (b : Bool) : Out := if b = true then F ρ else G ρ
@[simp] theorem ifK_true : ifK F G ρ true = F ρ := rfl
@[simp] theorem ifK_false : ifK F G ρ false = G ρ := rfl
@[simp] theorem s_if : sIf c F G ρ = andThen (c ρ) ρ (ifK F G ρ) := rfl
def unpR (ρ : Env) (is : List Nat) : Res (List D) → Out
  | .ok l => .nx (setE ρ is l)
  | _ => .no
@[simp] theorem unpR_ok {is : List Nat} {l : List D} : unpR ρ is (.ok l) = .nx (setE ρ is l) := rfl
@[simp] theorem s_unp {is : List Nat} {ks : D → Res (List D)} : sUnp own is ks f ρ = andThen (f (maskE own ρ)) ρ fun d => unpR ρ is (ks d) := by
  unfold sUnp; congr 1
@[simp] theorem s_unpI {is : List Nat} {ks : D → Res (List D)} : sUnpI is ks f ρ = andThen (f ρ) ρ fun d => if imm d = true then unpR ρ is (ks d) else .no := by
  unfold sUnpI; congr 1; funext d; cases ks d <;> simp [unpR]
@[simp] theorem s_then {g : Env → Env} : sThen F g ρ = (F ρ).thn fun ρ' => .nx (g ρ') := by unfold sThen Out.thn; rfl
@[simp] theorem s_app : sApp own j f ρ = if isLst ρ j = true then andThen (f (maskE own ρ)) ρ fun d => appD ρ j d else .no := rfl
@[simp] theorem s_appI : sAppI j f ρ = if isLst ρ j = true then andThen (f ρ) ρ fun d => if imm d = true then appD ρ j d else .no else .no := rfl
@[simp] theorem s_appF : sAppF j f ρ = if isLst ρ j = true then andThen (f ρ) ρ fun d => appD ρ j d else .no := rfl
@[simp] theorem s_put : sPut own j f g ρ = if hasE ρ j = true then andThen (g (maskE own ρ)) ρ fun d => andThen (f ρ) ρ fun k => putO ρ j k d else .no := rfl
@[simp] theorem s_putI : sPutI j f g ρ = if hasE ρ j = true then andThen (g ρ) ρ fun d => if imm d = true then andThen (f ρ) ρ fun k => putO ρ j k d else .no else .no := rfl
@[simp] theorem s_setL : sSetL own j f g ρ = if hasE ρ j = true then andThen (g (maskE own ρ)) ρ fun d => andThen (f ρ) ρ fun k => setO ρ j k d else .no := rfl
@[simp] theorem s_setLI : sSetLI j f g ρ = if hasE ρ j = true then andThen (g ρ) ρ fun d => if imm d = true then andThen (f ρ) ρ fun k => setO ρ j k d else .no else .no := rfl
@[simp] theorem s_clear : sClear j ρ = if isLst ρ j = true then .nx (ρ.set j (some (.lst []))) else .no := rfl
@[simp] theorem s_for {fi : Env → Res (List D)} {is fg : List Nat} {ks : D → Res (List D)} : sFor own fi is ks F fg ρ = andThen (fi (maskE own ρ)) ρ fun ds => forF is ks F fg ds (forget ρ fg) := rfl
@[simp] theorem s_forV {fi : Env → Res (List D)} {is fg : List Nat} {ks : D → Res (List D)} : sForV fi is ks F fg ρ = andThen (fi ρ) ρ fun ds => forF is ks F fg ds (forget ρ fg) := rfl
end
@[simp] theorem isLst_ok {ρ : Env} {j : Nat} {ds : List D} (h : ρ[j]? = some (some (.lst ds))) : isLst ρ j = true := by unfold isLst; rw [h]
@[simp] theorem hasE_ok {ρ : Env} {j : Nat} {d : D} (h : ρ[j]? = some (some d)) : hasE ρ j = true := by unfold hasE; rw [h]

/-! ### values -/
@[simp] theorem g_add_int (i j : Int) : g_add (.int i) (.int j) = .ok (.int (i + j)) := rfl
@[simp] theorem g_sub_int (i j : Int) : g_sub (.int i) (.int j) = .ok (.int (i - j)) := rfl
theorem g_mul_int {i j : Int} (h : (-18446744073709551616 < i ∧ i < 18446744073709551616) ∨ (-18446744073709551616 < j ∧ j < 18446744073709551616)) : g_mul (.int i) (.int j) = .ok (.int (i * j)) := by
  have h : CMul i j := h
  simp [g_mul, h]
theorem g_mod_int {i j : Int} (h : 0 < j) : g_mod (.int i) (.int j) = .ok (.int (i % j)) := by simp [g_mod, h]
theorem g_fdiv_int {i j : Int} (h : 0 < j) (h2 : j < 18446744073709551616) : g_fdiv (.int i) (.int j) = .ok (.int (i / j)) := by
  have : CDivW i j := wide_div (b := 64) h (by omega) (by omega) (by omega)
  simp [g_fdiv, this]
@[simp] theorem gI_int (p : Int → Int → Bool) (i j : Int) : gI p (.int i) (.int j) = .ok (.bl (p i j)) := rfl
@[simp] theorem bOf_bl (b : Bool) : bOf (.bl b) = .ok b := rfl
@[simp] theorem iOf_int (i : Int) : iOf (.int i) = .ok (some i) := rfl
@[simp] theorem seqOf_lst (xs : List D) : seqOf (.lst xs) = .ok xs := rfl
@[simp] theorem seqOf_tup (xs : List D) : seqOf (.tup xs) = .ok xs := rfl
@[simp] theorem lstOf_lst (xs : List D) : lstOf (.lst xs) = .ok xs := rfl
@[simp] theorem c_len_lst (xs : List D) : c_len [.lst xs] = .ok (.int xs.length) := rfl
@[simp] theorem c_len_tup (xs : List D) : c_len [.tup xs] = .ok (.int xs.length) := rfl
@[simp] theorem kName_ok (d : D) : kName d = .ok [d] := rfl
@[simp] theorem g_sl_tup (xs : List D) (l u : Option Int) : g_sl (.tup xs) l u = .ok (.tup (cutA xs l u)) := rfl
@[simp] theorem g_sl_lst (xs : List D) (l u : Option Int) : g_sl (.lst xs) l u = .ok (.lst (cutA xs l u)) := rfl
@[simp] theorem maskE_nil (ρ : Env) : maskE [] ρ = ρ := rfl
theorem sz (n : Nat) (h : n ≤ 16777216) : (n ≤ sizeLine) = True := by have : sizeLine = 16777216 := rfl; rw [this]; exact eq_true h
end DL

/-! DM2: equality of data, loops by folds, slices. -/
namespace DL
open PySem L2

/-! ### == of data without truths -/
mutual
/-- no truths, no dicts, so deep at most -/
def nb : Nat → D → Bool
  | _, .non => true
  | _, .int _ => true
  | _, .str x => PyData.strOk x
  | n, .tup xs => match n with | 0 => false | n + 1 => nbs n xs
  | n, .lst xs => match n with | 0 => false | n + 1 => nbs n xs
  | _, _ => false
def nbs : Nat → List D → Bool
  | _, [] => true
  | n, x :: r => nb n x && nbs n r
end
mutual
theorem nb_lay : ∀ (x : D) (n : Nat), nb n x = true → (py x).canLay0 = true ∧ (py x).depth ≤ n
  | .non, n, _ => ⟨rfl, Nat.zero_le _⟩
  | .int _, n, _ => ⟨rfl, Nat.zero_le _⟩
  | .str x, n, h => ⟨by show PyData.strOk x = true; simpa [nb] using h, Nat.zero_le _⟩
  | .bl _, n, h => by simp [nb] at h
  | .dK _, n, h => by simp [nb] at h
  | .dT _, n, h => by simp [nb] at h
  | .obj _ _, n, h => by simp [nb] at h
  | .dN _ _, n, h => by simp [nb] at h
  | .tup xs, 0, h => by simp [nb] at h
  | .tup xs, n + 1, h => by
    have q := nbs_lay xs n (by simpa [nb] using h)
    exact ⟨by simpa [py, PyData.canLay0] using q.1, by have := q.2; simp only [py, PyData.depth]; omega⟩
  | .lst xs, 0, h => by simp [nb] at h
  | .lst xs, n + 1, h => by
    have q := nbs_lay xs n (by simpa [nb] using h)
    exact ⟨by simpa [py, PyData.canLay0] using q.1, by have := q.2; simp only [py, PyData.depth]; omega⟩
theorem nbs_lay : ∀ (xs : List D) (n : Nat), nbs n xs = true → PyData.canLayAll0 (pys xs) = true ∧ PyData.depthAll (pys xs) ≤ n
  | [], n, _ => ⟨rfl, Nat.zero_le _⟩
  | x :: r, n, h => by
    have h2 : nb n x = true ∧ nbs n r = true := by simpa [nbs] using h
    have q1 := nb_lay x n h2.1
    have q2 := nbs_lay r n h2.2
    refine ⟨by simp only [pys, PyData.canLayAll0, Bool.and_eq_true]; exact ⟨q1.1, q2.1⟩, ?_⟩
    simp only [pys, PyData.depthAll]
    omega
end
mutual
theorem nb_eqv : ∀ (x y : D) (n m : Nat), nb n x = true → nb m y = true → (PyData.eqv (py x) (py y) = true ↔ x = y)
  | .bl _, _, n, _, h, _ => by simp [nb] at h
  | .dK _, _, n, _, h, _ => by simp [nb] at h
  | .dT _, _, n, _, h, _ => by simp [nb] at h
  | .obj _ _, _, n, _, h, _ => by simp [nb] at h
  | .dN _ _, _, n, _, h, _ => by simp [nb] at h
  | _, .bl _, _, n, _, h => by simp [nb] at h
  | _, .dK _, _, n, _, h => by simp [nb] at h
  | _, .dT _, _, n, _, h => by simp [nb] at h
  | _, .obj _ _, _, n, _, h => by simp [nb] at h
  | _, .dN _ _, _, n, _, h => by simp [nb] at h
  | .non, .non, _, _, _, _ => by simp [py, PyData.eqv]
  | .non, .int _, _, _, _, _ => by simp [py, PyData.eqv]
  | .non, .str _, _, _, _, _ => by simp [py, PyData.eqv]
  | .non, .tup _, _, _, _, _ => by simp [py, PyData.eqv]
  | .non, .lst _, _, _, _, _ => by simp [py, PyData.eqv]
  | .int _, .non, _, _, _, _ => by simp [py, PyData.eqv]
  | .int _, .int _, _, _, _, _ => by simp [py, PyData.eqv]
  | .int _, .str _, _, _, _, _ => by simp [py, PyData.eqv]
  | .int _, .tup _, _, _, _, _ => by simp [py, PyData.eqv]
  | .int _, .lst _, _, _, _, _ => by simp [py, PyData.eqv]
  | .str _, .non, _, _, _, _ => by simp [py, PyData.eqv]
  | .str _, .int _, _, _, _, _ => by simp [py, PyData.eqv]
  | .str _, .str _, _, _, _, _ => by simp [py, PyData.eqv]
  | .str _, .tup _, _, _, _, _ => by simp [py, PyData.eqv]
  | .str _, .lst _, _, _, _, _ => by simp [py, PyData.eqv]
  | .tup _, .non, _, _, _, _ => by simp [py, PyData.eqv]
  | .tup _, .int _, _, _, _, _ => by simp [py, PyData.eqv]
  | .tup _, .str _, _, _, _, _ => by simp [py, PyData.eqv]
  | .tup _, .lst _, _, _, _, _ => by simp [py, PyData.eqv]
  | .lst _, .non, _, _, _, _ => by simp [py, PyData.eqv]
  | .lst _, .int _, _, _, _, _ => by simp [py, PyData.eqv]
  | .lst _, .str _, _, _, _, _ => by simp [py, PyData.eqv]
  | .lst _, .tup _, _, _, _, _ => by simp [py, PyData.eqv]
  | .tup xs, .tup ys, 0, _, h, _ => by simp [nb] at h
  | .tup xs, .tup ys, _ + 1, 0, _, h => by simp [nb] at h
  | .tup xs, .tup ys, n + 1, m + 1, h, h2 => by
    have := nbs_eqv xs ys n m (by simpa [nb] using h) (by simpa [nb] using h2)
    simp only [py, PyData.eqv, this, D.tup.injEq]
  | .lst xs, .lst ys, 0, _, h, _ => by simp [nb] at h
  | .lst xs, .lst ys, _ + 1, 0, _, h => by simp [nb] at h
  | .lst xs, .lst ys, n + 1, m + 1, h, h2 => by
    have := nbs_eqv xs ys n m (by simpa [nb] using h) (by simpa [nb] using h2)
    simp only [py, PyData.eqv, this, D.lst.injEq]
theorem nbs_eqv : ∀ (xs ys : List D) (n m : Nat), nbs n xs = true → nbs m ys = true → (PyData.eqvAll (pys xs) (pys ys) = true ↔ xs = ys)
  | [], [], _, _, _, _ => by simp [pys, PyData.eqvAll]
  | [], _ :: _, _, _, _, _ => by simp [pys, PyData.eqvAll]
  | _ :: _, [], _, _, _, _ => by simp [pys, PyData.eqvAll]
  | x :: xs, y :: ys, n, m, h, h2 => by
    have a : nb n x = true ∧ nbs n xs = true := by simpa [nbs] using h
    have b : nb m y = true ∧ nbs m ys = true := by simpa [nbs] using h2
    simp only [pys, PyData.eqvAll, Bool.and_eq_true, nb_eqv x y n m a.1 b.1, nbs_eqv xs ys n m a.2 b.2, List.cons.injEq]
end
open Classical in
theorem deq_nb {x y : D} {n m : Nat} (hx : nb n x = true) (hy : nb m y = true) (hn : n ≤ 64) (hm : m ≤ 64) : deq x y = .ok (decide (x = y)) := by
  have q1 := nb_lay x n hx
  have q2 := nb_lay y m hy
  have s1 : SeqAt.shaped (py x) = true := by unfold SeqAt.shaped; rw [q1.1]; simp; omega
  have s2 : SeqAt.shaped (py y) = true := by unfold SeqAt.shaped; rw [q2.1]; simp; omega
  unfold deq
  rw [if_pos ⟨s1, s2⟩]
  congr 1
  have := nb_eqv x y n m hx hy
  by_cases e : x = y
  · rw [decide_eq_true e]; exact this.mpr e
  · rw [decide_eq_false e]
    cases q : PyData.eqv (py x) (py y) with
    | true => exact absurd (this.mp q) e
    | false => rfl
open Classical in
theorem deq_true {x y : D} {n m : Nat} (hx : nb n x = true) (hy : nb m y = true) (hn : n ≤ 64) (hm : m ≤ 64) (e : x = y) : deq x y = .ok true := by rw [deq_nb hx hy hn hm, decide_eq_true e]
open Classical in
theorem deq_false {x y : D} {n m : Nat} (hx : nb n x = true) (hy : nb m y = true) (hn : n ≤ 64) (hm : m ≤ 64) (e : x ≠ y) : deq x y = .ok false := by rw [deq_nb hx hy hn hm, decide_eq_false e]
theorem deq_int (i j : Int) : deq (.int i) (.int j) = .ok (decide (i = j)) := by
  rw [deq_nb (n := 0) (m := 0) rfl rfl (by omega) (by omega)]
  simp
theorem g_eq_int (i j : Int) : g_eq (.int i) (.int j) = .ok (.bl (decide (i = j))) := by unfold g_eq; rw [deq_int]; rfl
theorem g_ne_int (i j : Int) : g_ne (.int i) (.int j) = .ok (.bl (!decide (i = j))) := by unfold g_ne; rw [deq_int]; rfl
theorem nbs_map {α : Type} {f : α → D} {n : Nat} (h : ∀ x, nb n (f x) = true) : ∀ xs : List α, nbs n (xs.map f) = true
  | [] => rfl
  | x :: r => by simp only [List.map_cons, nbs, h x, nbs_map h r, Bool.and_self]
theorem nbs_map' {α : Type} {f : α → D} {n : Nat} : ∀ {xs : List α}, (∀ x ∈ xs, nb n (f x) = true) → nbs n (xs.map f) = true
  | [], _ => rfl
  | x :: r, h => by simp only [List.map_cons, nbs, h x List.mem_cons_self, nbs_map' fun y hy => h y (List.mem_cons_of_mem _ hy), Bool.and_self]
@[simp] theorem nb_int (n : Nat) (i : Int) : nb n (.int i) = true := by unfold nb; rfl
@[simp] theorem nb_non (n : Nat) : nb n .non = true := by unfold nb; rfl
@[simp] theorem nb_tup (n : Nat) (xs : List D) : nb (n + 1) (.tup xs) = nbs n xs := by simp [nb]
@[simp] theorem nb_lst (n : Nat) (xs : List D) : nb (n + 1) (.lst xs) = nbs n xs := by simp [nb]
@[simp] theorem nbs_nil (n : Nat) : nbs n [] = true := rfl
@[simp] theorem nbs_cons (n : Nat) (x : D) (r : List D) : nbs n (x :: r) = (nb n x && nbs n r) := rfl
@[simp] theorem nbs_ints (n : Nat) (xs : List Int) : nbs n (xs.map D.int) = true := nbs_map (fun x => nb_int n x) xs
theorem nbs_append (n : Nat) : ∀ (xs ys : List D), nbs n (xs ++ ys) = (nbs n xs && nbs n ys)
  | [], ys => by simp
  | x :: r, ys => by simp only [List.cons_append, nbs, nbs_append n r ys, Bool.and_assoc]
theorem int_inj {xs ys : List Int} : xs.map D.int = ys.map D.int ↔ xs = ys := by
  constructor
  · intro h
    induction xs generalizing ys with
    | nil => cases ys with
      | nil => rfl
      | cons _ _ => simp at h
    | cons x r ih => cases ys with
      | nil => simp at h
      | cons y s =>
        simp only [List.map_cons, List.cons.injEq, D.int.injEq] at h
        rw [h.1, ih h.2]
  · intro h; rw [h]

/-! ### imm -/
theorem imms_map {α : Type} {f : α → D} (h : ∀ x, imm (f x) = true) : ∀ xs : List α, imms (xs.map f) = true
  | [] => rfl
  | x :: r => by simp only [List.map_cons, imms, h x, imms_map h r, Bool.and_self]
@[simp] theorem imm_int (i : Int) : imm (.int i) = true := by unfold imm; rfl
@[simp] theorem imm_bl (i : Bool) : imm (.bl i) = true := by unfold imm; rfl
@[simp] theorem imm_str (i : Str) : imm (.str i) = true := by unfold imm; rfl
@[simp] theorem imm_non : imm .non = true := by unfold imm; rfl
@[simp] theorem imm_tup (xs : List D) : imm (.tup xs) = imms xs := by simp [imm]
@[simp] theorem imm_lst (xs : List D) : imm (.lst xs) = false := by simp [imm]
@[simp] theorem imms_nil : imms [] = true := rfl
@[simp] theorem imms_cons (x : D) (r : List D) : imms (x :: r) = (imm x && imms r) := rfl
@[simp] theorem imms_ints (xs : List Int) : imms (xs.map D.int) = true := imms_map (fun x => imm_int x) xs
theorem imms_append : ∀ (xs ys : List D), imms (xs ++ ys) = (imms xs && imms ys)
  | [], ys => by simp
  | x :: r, ys => by simp only [List.cons_append, imms, imms_append r ys, Bool.and_assoc]

/-! ### places -/
theorem atI_map {α : Type} (f : α → D) (xs : List α) (k : Nat) (h : k < xs.length) : atI (xs.map f) ((k : Nat) : Int) = some (f xs[k]) := atI_nat (by simp [h])
theorem g_ix_lst {α : Type} (f : α → D) (xs : List α) (k : Nat) (h : k < xs.length) : g_ix (.lst (xs.map f)) (.int ((k : Nat) : Int)) = .ok (f xs[k]) := by simp only [g_ix, atI_map f xs k h]
theorem g_ix_lst' {α : Type} (f : α → D) (xs : List α) (i : Int) (h0 : 0 ≤ i) (h : i < xs.length) : g_ix (.lst (xs.map f)) (.int i) = .ok (f (xs[i.toNat]'(by omega))) := by
  obtain ⟨k, rfl⟩ := Int.eq_ofNat_of_zero_le h0
  exact g_ix_lst f xs k (by omega)
theorem g_ix_nat (xs : List D) (k : Nat) (h : k < xs.length) : g_ix (.lst xs) (.int ((k : Nat) : Int)) = .ok xs[k] := by
  have : atI xs ((k : Nat) : Int) = some xs[k] := atI_nat (by simp [h])
  simp only [g_ix, this]
theorem g_ix_cons0 (x : D) (r : List D) : g_ix (.lst (x :: r)) (.int 0) = .ok x := g_ix_nat (x :: r) 0 (by simp)
theorem g_ix_t0 (x : D) (r : List D) : g_ix (.tup (x :: r)) (.int 0) = .ok x := by
  have : atI (x :: r) ((0 : Nat) : Int) = some x := atI_nat rfl
  simp only [g_ix]; rw [show (0 : Int) = ((0 : Nat) : Int) from rfl, this]
theorem g_ix_t1 (x y : D) (r : List D) : g_ix (.tup (x :: y :: r)) (.int 1) = .ok y := by
  have : atI (x :: y :: r) ((1 : Nat) : Int) = some y := atI_nat rfl
  simp only [g_ix]; rw [show (1 : Int) = ((1 : Nat) : Int) from rfl, this]
theorem g_ix_t2 (x y z : D) (r : List D) : g_ix (.tup (x :: y :: z :: r)) (.int 2) = .ok z := by
  have : atI (x :: y :: z :: r) ((2 : Nat) : Int) = some z := atI_nat rfl
  simp only [g_ix]; rw [show (2 : Int) = ((2 : Nat) : Int) from rfl, this]
theorem g_ix_t3 (x y z u : D) (r : List D) : g_ix (.tup (x :: y :: z :: u :: r)) (.int 3) = .ok u := by
  have : atI (x :: y :: z :: u :: r) ((3 : Nat) : Int) = some u := atI_nat rfl
  simp only [g_ix]; rw [show (3 : Int) = ((3 : Nat) : Int) from rfl, this]

/-! ### slices -/
theorem cutA_to {α : Type} (xs : List α) (k : Nat) : cutA xs none (some (k : Int)) = xs.take k := by
  unfold cutA
  rw [HT.sIx_none, HT.sIx_nat]
  simp [List.take_eq_take_iff]
theorem cutA_from {α : Type} (xs : List α) (k : Nat) : cutA xs (some (k : Int)) none = xs.drop k := by
  unfold cutA
  rw [HT.sIx_none, HT.sIx_nat]
  by_cases h : k ≤ xs.length
  · rw [Nat.min_eq_left h, List.take_of_length_le (by simp)]
  · rw [Nat.min_eq_right (by omega), List.drop_eq_nil_of_le (Nat.le_refl _), List.drop_eq_nil_of_le (by omega)]; simp
theorem cutA_mid {α : Type} (xs : List α) (k m : Nat) : cutA xs (some (k : Int)) (some (m : Int)) = (xs.drop k).take (m - k) := by
  unfold cutA
  rw [HT.sIx_nat, HT.sIx_nat]
  by_cases h : k ≤ xs.length
  · rw [Nat.min_eq_left h, List.take_eq_take_iff, List.length_drop]; omega
  · rw [Nat.min_eq_right (show xs.length ≤ k by omega), List.drop_eq_nil_of_le (Nat.le_refl _), List.drop_eq_nil_of_le (show xs.length ≤ k by omega)]; simp
theorem cutA_map {α β : Type} (f : α → β) (xs : List α) (l u : Option Int) : cutA (xs.map f) l u = (cutA xs l u).map f := by
  unfold cutA
  simp [List.map_take, List.map_drop]

/-! ### loops -/
theorem compL_map {α : Type} {is : List Nat} {ks : D → Res (List D)} {ft : Env → Res Bool} {fe : Env → Res D} {ρ : Env} (enc g : α → D) : ∀ {xs : List α}, (∀ x ∈ xs, ∃ l, ks (enc x) = .ok l ∧ ft (setE ρ is l) = .ok true ∧ fe (setE ρ is l) = .ok (g x)) →
    compL is ks ft fe ρ (xs.map enc) = .ok (xs.map g)
  | [], _ => rfl
  | x :: r, h => by
    obtain ⟨l, h1, h2, h3⟩ := h x List.mem_cons_self
    have ih := compL_map enc g fun y hy => h y (List.mem_cons_of_mem _ hy)
    simp only [List.map_cons, compL, h1, h2, h3, noEx, Res.bind_ok, if_pos, ih]
theorem compL_filter {α : Type} {is : List Nat} {ks : D → Res (List D)} {ft : Env → Res Bool} {fe : Env → Res D} {ρ : Env} (enc g : α → D) (p : α → Bool) : ∀ {xs : List α}, (∀ x ∈ xs, ∃ l, ks (enc x) = .ok l ∧ ft (setE ρ is l) = .ok (p x) ∧ (p x = true → fe (setE ρ is l) = .ok (g x))) →
    compL is ks ft fe ρ (xs.map enc) = .ok ((xs.filter p).map g)
  | [], _ => rfl
  | x :: r, h => by
    obtain ⟨l, h1, h2, h3⟩ := h x List.mem_cons_self
    have ih := compL_filter enc g p fun y hy => h y (List.mem_cons_of_mem _ hy)
    cases q : p x with
    | true => rw [List.filter_cons_of_pos q]; simp only [List.map_cons, compL, h1, h2, q, h3 q, noEx, Res.bind_ok, if_pos, ih]
    | false => rw [List.filter_cons_of_neg (by simp [q])]; simp only [List.map_cons, compL, h1, h2, q, noEx, Res.bind_ok, Bool.false_eq_true, if_false, ih]
theorem forF_fold {α S : Type} {is fg : List Nat} {ks : D → Res (List D)} {F : DSem} (enc : α → D) (φ : S → Env) (step : S → α → S) (Iv : Nat → S → Prop) (xs : List α) :
    ∀ (n : Nat) (s : S), (∀ i s x, xs[i]? = some x → Iv (n + i) s → ∃ l ρ', ks (enc x) = .ok l ∧ (F (setE (φ s) is l) = .nx ρ' ∨ F (setE (φ s) is l) = .ct ρ') ∧ forget ρ' fg = φ (step s x) ∧ Iv (n + i + 1) (step s x)) → Iv n s →
      forF is ks F fg (xs.map enc) (φ s) = .nx (φ (xs.foldl step s)) ∧ Iv (n + xs.length) (xs.foldl step s) := by
  induction xs with
  | nil => intro n s _ h; exact ⟨rfl, h⟩
  | cons x r ih =>
    intro n s hs h
    obtain ⟨l, ρ', h1, h2, h3, h4⟩ := hs 0 s x rfl h
    have := ih (n + 1) (step s x) (fun i s' x' e iv => by
      have := hs (i + 1) s' x' (by simpa using e) (by rwa [show n + (i + 1) = n + 1 + i by omega])
      rwa [show n + (i + 1) = n + 1 + i by omega] at this) h4
    rw [List.map_cons, List.foldl_cons, List.length_cons, show n + (r.length + 1) = n + 1 + r.length by omega]
    refine ⟨?_, this.2⟩
    unfold forF
    rw [h1]
    rcases h2 with h2 | h2
    · simp only [h2, h3]; exact this.1
    · simp only [h2, h3]; exact this.1
theorem enumD_map {α : Type} (f : α → D) (xs : List α) : enumD (xs.map f) = xs.zipIdx.map fun p => D.tup [.int (p.2 : Int), f p.1] := by
  unfold enumD
  rw [List.zipIdx_map, List.map_map]
  rfl
theorem rangeD_eq (n : Nat) : rangeD 0 n = (List.range n).map fun (k : Nat) => D.int (k : Int) := by
  unfold rangeD
  simp
theorem rng1_ok {j : Int} (h0 : 0 ≤ j) (h : j < 4611686018427387904) : rng1 (.int j) = .ok ((List.range j.toNat).map fun (k : Nat) => D.int (k : Int)) := by
  show (if -(2 ^ 62) ≤ j ∧ j < 2 ^ 62 then Res.ok (rangeD 0 j.toNat) else Res.no) = _
  rw [if_pos ⟨by omega, by omega⟩, rangeD_eq]
theorem foldl_filter {α β : Type} (p : α → Bool) (g : α → β) : ∀ (xs : List α) (s : List β), xs.foldl (fun s x => if p x then s ++ [g x] else s) s = s ++ (xs.filter p).map g
  | [], s => by simp
  | x :: r, s => by
    rw [List.foldl_cons, foldl_filter p g r]
    cases q : p x with
    | true => simp [List.filter_cons_of_pos q]
    | false => simp [List.filter_cons_of_neg (by simp [q] : ¬ p x = true)]
theorem range_zipIdx {α β : Type} (d : α) (f : α → Nat → β) (xs : List α) : (List.range xs.length).map (fun k => f (xs.getD k d) k) = xs.zipIdx.map fun p => f p.1 p.2 := by
  apply List.ext_getElem?
  intro i
  rw [List.getElem?_map, List.getElem?_map, List.getElem?_zipIdx]
  by_cases h : i < xs.length
  · simp [h]
  · simp [h]
end DL

/-! DM4: isinstance. -/
namespace DL
open PySem L2
theorem kb_NoneType_int : kitB "NoneType" "int" = some false := by decide +kernel
@[simp] theorem isi_int_non  : g_isi "int" (.non ) = .ok (.bl false) := by show (match kitB "NoneType" "int" with | some b => Res.ok (D.bl b) | none => .no) = _; rw [kb_NoneType_int]
theorem kb_bool_int : kitB "bool" "int" = some true := by decide +kernel
@[simp] theorem isi_int_bl (b : Bool) : g_isi "int" (.bl b) = .ok (.bl true) := by show (match kitB "bool" "int" with | some b => Res.ok (D.bl b) | none => .no) = _; rw [kb_bool_int]
theorem kb_int_int : kitB "int" "int" = some true := by decide +kernel
@[simp] theorem isi_int_int (i : Int) : g_isi "int" (.int i) = .ok (.bl true) := by show (match kitB "int" "int" with | some b => Res.ok (D.bl b) | none => .no) = _; rw [kb_int_int]
theorem kb_str_int : kitB "str" "int" = some false := by decide +kernel
@[simp] theorem isi_int_str (x : Str) : g_isi "int" (.str x) = .ok (.bl false) := by show (match kitB "str" "int" with | some b => Res.ok (D.bl b) | none => .no) = _; rw [kb_str_int]
theorem kb_tuple_int : kitB "tuple" "int" = some false := by decide +kernel
@[simp] theorem isi_int_tup (xs : List D) : g_isi "int" (.tup xs) = .ok (.bl false) := by show (match kitB "tuple" "int" with | some b => Res.ok (D.bl b) | none => .no) = _; rw [kb_tuple_int]
theorem kb_list_int : kitB "list" "int" = some false := by decide +kernel
@[simp] theorem isi_int_lst (xs : List D) : g_isi "int" (.lst xs) = .ok (.bl false) := by show (match kitB "list" "int" with | some b => Res.ok (D.bl b) | none => .no) = _; rw [kb_list_int]
theorem kb_dict_int : kitB "dict" "int" = some false := by decide +kernel
@[simp] theorem isi_int_dK (xs : List (Key × D)) : g_isi "int" (.dK xs) = .ok (.bl false) := by show (match kitB "dict" "int" with | some b => Res.ok (D.bl b) | none => .no) = _; rw [kb_dict_int]
@[simp] theorem isi_int_dT (xs : List (List Key × D)) : g_isi "int" (.dT xs) = .ok (.bl false) := by show (match kitB "dict" "int" with | some b => Res.ok (D.bl b) | none => .no) = _; rw [kb_dict_int]
theorem kb_NoneType_bool : kitB "NoneType" "bool" = some false := by decide +kernel
@[simp] theorem isi_bool_non  : g_isi "bool" (.non ) = .ok (.bl false) := by show (match kitB "NoneType" "bool" with | some b => Res.ok (D.bl b) | none => .no) = _; rw [kb_NoneType_bool]
theorem kb_bool_bool : kitB "bool" "bool" = some true := by decide +kernel
@[simp] theorem isi_bool_bl (b : Bool) : g_isi "bool" (.bl b) = .ok (.bl true) := by show (match kitB "bool" "bool" with | some b => Res.ok (D.bl b) | none => .no) = _; rw [kb_bool_bool]
theorem kb_int_bool : kitB "int" "bool" = some false := by decide +kernel
@[simp] theorem isi_bool_int (i : Int) : g_isi "bool" (.int i) = .ok (.bl false) := by show (match kitB "int" "bool" with | some b => Res.ok (D.bl b) | none => .no) = _; rw [kb_int_bool]
theorem kb_str_bool : kitB "str" "bool" = some false := by decide +kernel
@[simp] theorem isi_bool_str (x : Str) : g_isi "bool" (.str x) = .ok (.bl false) := by show (match kitB "str" "bool" with | some b => Res.ok (D.bl b) | none => .no) = _; rw [kb_str_bool]
theorem kb_tuple_bool : kitB "tuple" "bool" = some false := by decide +kernel
@[simp] theorem isi_bool_tup (xs : List D) : g_isi "bool" (.tup xs) = .ok (.bl false) := by show (match kitB "tuple" "bool" with | some b => Res.ok (D.bl b) | none => .no) = _; rw [kb_tuple_bool]
theorem kb_list_bool : kitB "list" "bool" = some false := by decide +kernel
@[simp] theorem isi_bool_lst (xs : List D) : g_isi "bool" (.lst xs) = .ok (.bl false) := by show (match kitB "list" "bool" with | some b => Res.ok (D.bl b) | none => .no) = _; rw [kb_list_bool]
theorem kb_dict_bool : kitB "dict" "bool" = some false := by decide +kernel
@[simp] theorem isi_bool_dK (xs : List (Key × D)) : g_isi "bool" (.dK xs) = .ok (.bl false) := by show (match kitB "dict" "bool" with | some b => Res.ok (D.bl b) | none => .no) = _; rw [kb_dict_bool]
@[simp] theorem isi_bool_dT (xs : List (List Key × D)) : g_isi "bool" (.dT xs) = .ok (.bl false) := by show (match kitB "dict" "bool" with | some b => Res.ok (D.bl b) | none => .no) = _; rw [kb_dict_bool]
theorem kb_NoneType_str : kitB "NoneType" "str" = some false := by decide +kernel
@[simp] theorem isi_str_non  : g_isi "str" (.non ) = .ok (.bl false) := by show (match kitB "NoneType" "str" with | some b => Res.ok (D.bl b) | none => .no) = _; rw [kb_NoneType_str]
theorem kb_bool_str : kitB "bool" "str" = some false := by decide +kernel
@[simp] theorem isi_str_bl (b : Bool) : g_isi "str" (.bl b) = .ok (.bl false) := by show (match kitB "bool" "str" with | some b => Res.ok (D.bl b) | none => .no) = _; rw [kb_bool_str]
theorem kb_int_str : kitB "int" "str" = some false := by decide +kernel
@[simp] theorem isi_str_int (i : Int) : g_isi "str" (.int i) = .ok (.bl false) := by show (match kitB "int" "str" with | some b => Res.ok (D.bl b) | none => .no) = _; rw [kb_int_str]
theorem kb_str_str : kitB "str" "str" = some true := by decide +kernel
@[simp] theorem isi_str_str (x : Str) : g_isi "str" (.str x) = .ok (.bl true) := by show (match kitB "str" "str" with | some b => Res.ok (D.bl b) | none => .no) = _; rw [kb_str_str]
theorem kb_tuple_str : kitB "tuple" "str" = some false := by decide +kernel
@[simp] theorem isi_str_tup (xs : List D) : g_isi "str" (.tup xs) = .ok (.bl false) := by show (match kitB "tuple" "str" with | some b => Res.ok (D.bl b) | none => .no) = _; rw [kb_tuple_str]
theorem kb_list_str : kitB "list" "str" = some false := by decide +kernel
@[simp] theorem isi_str_lst (xs : List D) : g_isi "str" (.lst xs) = .ok (.bl false) := by show (match kitB "list" "str" with | some b => Res.ok (D.bl b) | none => .no) = _; rw [kb_list_str]
theorem kb_dict_str : kitB "dict" "str" = some false := by decide +kernel
@[simp] theorem isi_str_dK (xs : List (Key × D)) : g_isi "str" (.dK xs) = .ok (.bl false) := by show (match kitB "dict" "str" with | some b => Res.ok (D.bl b) | none => .no) = _; rw [kb_dict_str]
@[simp] theorem isi_str_dT (xs : List (List Key × D)) : g_isi "str" (.dT xs) = .ok (.bl false) := by show (match kitB "dict" "str" with | some b => Res.ok (D.bl b) | none => .no) = _; rw [kb_dict_str]
theorem kb_NoneType_list : kitB "NoneType" "list" = some false := by decide +kernel
@[simp] theorem isi_list_non  : g_isi "list" (.non ) = .ok (.bl false) := by show (match kitB "NoneType" "list" with | some b => Res.ok (D.bl b) | none => .no) = _; rw [kb_NoneType_list]
theorem kb_bool_list : kitB "bool" "list" = some false := by decide +kernel
@[simp] theorem isi_list_bl (b : Bool) : g_isi "list" (.bl b) = .ok (.bl false) := by show (match kitB "bool" "list" with | some b => Res.ok (D.bl b) | none => .no) = _; rw [kb_bool_list]
theorem kb_int_list : kitB "int" "list" = some false := by decide +kernel
@[simp] theorem isi_list_int (i : Int) : g_isi "list" (.int i) = .ok (.bl false) := by show (match kitB "int" "list" with | some b => Res.ok (D.bl b) | none => .no) = _; rw [kb_int_list]
theorem kb_str_list : kitB "str" "list" = some false := by decide +kernel
@[simp] theorem isi_list_str (x : Str) : g_isi "list" (.str x) = .ok (.bl false) := by show (match kitB "str" "list" with | some b => Res.ok (D.bl b) | none => .no) = _; rw [kb_str_list]
theorem kb_tuple_list : kitB "tuple" "list" = some false := by decide +kernel
@[simp] theorem isi_list_tup (xs : List D) : g_isi "list" (.tup xs) = .ok (.bl false) := by show (match kitB "tuple" "list" with | some b => Res.ok (D.bl b) | none => .no) = _; rw [kb_tuple_list]
theorem kb_list_list : kitB "list" "list" = some true := by decide +kernel
@[simp] theorem isi_list_lst (xs : List D) : g_isi "list" (.lst xs) = .ok (.bl true) := by show (match kitB "list" "list" with | some b => Res.ok (D.bl b) | none => .no) = _; rw [kb_list_list]
theorem kb_dict_list : kitB "dict" "list" = some false := by decide +kernel
@[simp] theorem isi_list_dK (xs : List (Key × D)) : g_isi "list" (.dK xs) = .ok (.bl false) := by show (match kitB "dict" "list" with | some b => Res.ok (D.bl b) | none => .no) = _; rw [kb_dict_list]
@[simp] theorem isi_list_dT (xs : List (List Key × D)) : g_isi "list" (.dT xs) = .ok (.bl false) := by show (match kitB "dict" "list" with | some b => Res.ok (D.bl b) | none => .no) = _; rw [kb_dict_list]
theorem kb_NoneType_tuple : kitB "NoneType" "tuple" = some false := by decide +kernel
@[simp] theorem isi_tuple_non  : g_isi "tuple" (.non ) = .ok (.bl false) := by show (match kitB "NoneType" "tuple" with | some b => Res.ok (D.bl b) | none => .no) = _; rw [kb_NoneType_tuple]
theorem kb_bool_tuple : kitB "bool" "tuple" = some false := by decide +kernel
@[simp] theorem isi_tuple_bl (b : Bool) : g_isi "tuple" (.bl b) = .ok (.bl false) := by show (match kitB "bool" "tuple" with | some b => Res.ok (D.bl b) | none => .no) = _; rw [kb_bool_tuple]
theorem kb_int_tuple : kitB "int" "tuple" = some false := by decide +kernel
@[simp] theorem isi_tuple_int (i : Int) : g_isi "tuple" (.int i) = .ok (.bl false) := by show (match kitB "int" "tuple" with | some b => Res.ok (D.bl b) | none => .no) = _; rw [kb_int_tuple]
theorem kb_str_tuple : kitB "str" "tuple" = some false := by decide +kernel
@[simp] theorem isi_tuple_str (x : Str) : g_isi "tuple" (.str x) = .ok (.bl false) := by show (match kitB "str" "tuple" with | some b => Res.ok (D.bl b) | none => .no) = _; rw [kb_str_tuple]
theorem kb_tuple_tuple : kitB "tuple" "tuple" = some true := by decide +kernel
@[simp] theorem isi_tuple_tup (xs : List D) : g_isi "tuple" (.tup xs) = .ok (.bl true) := by show (match kitB "tuple" "tuple" with | some b => Res.ok (D.bl b) | none => .no) = _; rw [kb_tuple_tuple]
theorem kb_list_tuple : kitB "list" "tuple" = some false := by decide +kernel
@[simp] theorem isi_tuple_lst (xs : List D) : g_isi "tuple" (.lst xs) = .ok (.bl false) := by show (match kitB "list" "tuple" with | some b => Res.ok (D.bl b) | none => .no) = _; rw [kb_list_tuple]
theorem kb_dict_tuple : kitB "dict" "tuple" = some false := by decide +kernel
@[simp] theorem isi_tuple_dK (xs : List (Key × D)) : g_isi "tuple" (.dK xs) = .ok (.bl false) := by show (match kitB "dict" "tuple" with | some b => Res.ok (D.bl b) | none => .no) = _; rw [kb_dict_tuple]
@[simp] theorem isi_tuple_dT (xs : List (List Key × D)) : g_isi "tuple" (.dT xs) = .ok (.bl false) := by show (match kitB "dict" "tuple" with | some b => Res.ok (D.bl b) | none => .no) = _; rw [kb_dict_tuple]
theorem kb_NoneType_dict : kitB "NoneType" "dict" = some false := by decide +kernel
@[simp] theorem isi_dict_non  : g_isi "dict" (.non ) = .ok (.bl false) := by show (match kitB "NoneType" "dict" with | some b => Res.ok (D.bl b) | none => .no) = _; rw [kb_NoneType_dict]
theorem kb_bool_dict : kitB "bool" "dict" = some false := by decide +kernel
@[simp] theorem isi_dict_bl (b : Bool) : g_isi "dict" (.bl b) = .ok (.bl false) := by show (match kitB "bool" "dict" with | some b => Res.ok (D.bl b) | none => .no) = _; rw [kb_bool_dict]
theorem kb_int_dict : kitB "int" "dict" = some false := by decide +kernel
@[simp] theorem isi_dict_int (i : Int) : g_isi "dict" (.int i) = .ok (.bl false) := by show (match kitB "int" "dict" with | some b => Res.ok (D.bl b) | none => .no) = _; rw [kb_int_dict]
theorem kb_str_dict : kitB "str" "dict" = some false := by decide +kernel
@[simp] theorem isi_dict_str (x : Str) : g_isi "dict" (.str x) = .ok (.bl false) := by show (match kitB "str" "dict" with | some b => Res.ok (D.bl b) | none => .no) = _; rw [kb_str_dict]
theorem kb_tuple_dict : kitB "tuple" "dict" = some false := by decide +kernel
@[simp] theorem isi_dict_tup (xs : List D) : g_isi "dict" (.tup xs) = .ok (.bl false) := by show (match kitB "tuple" "dict" with | some b => Res.ok (D.bl b) | none => .no) = _; rw [kb_tuple_dict]
theorem kb_list_dict : kitB "list" "dict" = some false := by decide +kernel
@[simp] theorem isi_dict_lst (xs : List D) : g_isi "dict" (.lst xs) = .ok (.bl false) := by show (match kitB "list" "dict" with | some b => Res.ok (D.bl b) | none => .no) = _; rw [kb_list_dict]
theorem kb_dict_dict : kitB "dict" "dict" = some true := by decide +kernel
@[simp] theorem isi_dict_dK (xs : List (Key × D)) : g_isi "dict" (.dK xs) = .ok (.bl true) := by show (match kitB "dict" "dict" with | some b => Res.ok (D.bl b) | none => .no) = _; rw [kb_dict_dict]
@[simp] theorem isi_dict_dT (xs : List (List Key × D)) : g_isi "dict" (.dT xs) = .ok (.bl true) := by show (match kitB "dict" "dict" with | some b => Res.ok (D.bl b) | none => .no) = _; rw [kb_dict_dict]
end DL

/-! DM3: more for simp. -/
namespace DL
open PySem L2
section
variable {ρ : Env}
@[simp] theorem forget_nil : forget ρ [] = ρ := rfl
@[simp] theorem forget_cons {i : Nat} {r : List Nat} : forget ρ (i :: r) = forget (ρ.set i none) r := rfl
@[simp] theorem wipeE_nil : wipeE ρ [] = ρ := rfl
@[simp] theorem wipeE_cons {v : Nat} {vs : List Nat} : wipeE ρ (v :: vs) = (wipeE ρ vs).set v none := rfl
@[simp] theorem setE_nil {ds : List D} : setE ρ [] ds = ρ := by unfold setE; rfl
@[simp] theorem setE_cons {i : Nat} {is : List Nat} {d : D} {ds : List D} : setE ρ (i :: is) (d :: ds) = setE (ρ.set i (some d)) is ds := rfl
@[simp] theorem startE_eq {n : Nat} {ds : List D} : startE n ds = ds.map some ++ List.replicate (n - ds.length) none := rfl
@[simp] theorem maskE_cons {i : Nat} {k : Kd} {own : Owns} : maskE ((i, k) :: own) ρ = maskE own (ρ.set i none) := rfl
@[simp] theorem ksNil_nil : ksNil [] = .ok [] := rfl
@[simp] theorem ksCons_cons {k : D → Res (List D)} {ks : List D → Res (List D)} {d : D} {r : List D} : ksCons k ks (d :: r) = (k d).thn fun l => (ks r).thn fun m => .ok (l ++ m) := rfl
@[simp] theorem kTup_tup {n : Nat} {ks : List D → Res (List D)} {ds : List D} : kTup n ks (.tup ds) = if ds.length = n then ks ds else .no := rfl
@[simp] theorem lenZ : sizeLine = 16777216 := rfl
@[simp] theorem imms_app (xs ys : List D) : imms (xs ++ ys) = (imms xs && imms ys) := imms_append xs ys
@[simp] theorem nbs_app (n : Nat) (xs ys : List D) : nbs n (xs ++ ys) = (nbs n xs && nbs n ys) := nbs_append n xs ys
theorem le_sz {n : Nat} (h : n ≤ 16777216) : n ≤ sizeLine := h
end
/-- an item of a row behind an index -/
@[simp] theorem appD_eq {ρ : Env} {j : Nat} {d : D} : appD ρ j d = (match ρ[j]? with | some (some (.lst ds)) => if ds.length < sizeLine then .nx (ρ.set j (some (.lst (ds ++ [d])))) else .no | _ => .no) := rfl
@[simp] theorem isLst_eq {ρ : Env} {j : Nat} : isLst ρ j = (match ρ[j]? with | some (some (.lst _)) => true | _ => false) := rfl
@[simp] theorem catR_lst {xs ys : List D} : catR (.lst xs) (.lst ys) = if xs.length + ys.length ≤ sizeLine then .ok (xs ++ ys) else .no := rfl
end DL
namespace DL
open PySem L2
noncomputable instance instDecD : DecidableEq D := fun a b => Classical.propDecidable (a = b)
@[simp] theorem deq_S {x y : D} (hx : nb 20 x = true) (hy : nb 20 y = true) : deq x y = .ok (decide (x = y)) := by
  rw [deq_nb hx hy (by omega) (by omega)]
@[simp] theorem g_eq_S {x y : D} (hx : nb 20 x = true) (hy : nb 20 y = true) : g_eq x y = .ok (.bl (decide (x = y))) := by
  unfold g_eq; rw [deq_S hx hy]; rfl
@[simp] theorem g_ne_S {x y : D} (hx : nb 20 x = true) (hy : nb 20 y = true) : g_ne x y = .ok (.bl (!decide (x = y))) := by
  unfold g_ne; rw [deq_S hx hy]; rfl
theorem nbs_S {n : Nat} {α : Type} {f : α → D} {xs : List α} (h : ∀ x ∈ xs, nb n (f x) = true) : nbs n (xs.map f) = true := nbs_map' h
@[simp] theorem nb_bl (n : Nat) (b : Bool) : nb n (.bl b) = false := by unfold nb; rfl
@[simp] theorem ixt0 (x : D) (r : List D) : g_ix (.tup (x :: r)) (.int 0) = .ok x := g_ix_t0 x r
@[simp] theorem ixt1 (x y : D) (r : List D) : g_ix (.tup (x :: y :: r)) (.int 1) = .ok y := g_ix_t1 x y r
@[simp] theorem ixt2 (x y z : D) (r : List D) : g_ix (.tup (x :: y :: z :: r)) (.int 2) = .ok z := g_ix_t2 x y z r
@[simp] theorem ixt3 (x y z u : D) (r : List D) : g_ix (.tup (x :: y :: z :: u :: r)) (.int 3) = .ok u := g_ix_t3 x y z u r
@[simp] theorem ixl0 (x : D) (r : List D) : g_ix (.lst (x :: r)) (.int 0) = .ok x := g_ix_cons0 x r
@[simp] theorem ixl1 (x y : D) (r : List D) : g_ix (.lst (x :: y :: r)) (.int 1) = .ok y := g_ix_nat (x :: y :: r) 1 (by simp)
theorem bind_thn {α β : Type} (r : Res α) (k : α → Res β) : (r >>= k) = r.thn k := rfl
example (xs : List Int) : nb 20 (.lst [.int 3, .tup [.lst (xs.map .int)]]) = true := by simp
end DL
namespace DL
open PySem L2
/-! ### loops, turn by turn -/
/-- one turn: the slots behind it, or how the loop ends -/
def turn (is : List Nat) (ks : D → Res (List D)) (F : DSem) (fg : List Nat) (d : D) (ρ : DL.Env) : Sum DL.Env Out := match ks d with
  | .ok l => (match F (setE ρ is l) with
    | .nx ρ' => .inl (forget ρ' fg)
    | .ct ρ' => .inl (forget ρ' fg)
    | .bk ρ' => .inr (.nx (forget ρ' fg))
    | .rt d => .inr (.rt d)
    | .ex c ρ' => .inr (.ex c ρ')
    | .no => .inr .no)
  | _ => .inr .no
def turnO (fg : List Nat) : Out → Sum DL.Env Out
  | .nx ρ' => .inl (forget ρ' fg)
  | .ct ρ' => .inl (forget ρ' fg)
  | .bk ρ' => .inr (.nx (forget ρ' fg))
  | .rt d => .inr (.rt d)
  | .ex c ρ' => .inr (.ex c ρ')
  | .no => .inr .no
section
variable {fg : List Nat} {ρ : DL.Env} {d : D} {c : Str}
@[simp] theorem turnO_nx : turnO fg (.nx ρ) = .inl (forget ρ fg) := rfl
@[simp] theorem turnO_ct : turnO fg (.ct ρ) = .inl (forget ρ fg) := rfl
@[simp] theorem turnO_bk : turnO fg (.bk ρ) = .inr (.nx (forget ρ fg)) := rfl
@[simp] theorem turnO_rt : turnO fg (.rt d) = .inr (.rt d) := rfl
@[simp] theorem turnO_ex : turnO fg (.ex c ρ) = .inr (.ex c ρ) := rfl
def turnK (is : List Nat) (F : DSem) (fg : List Nat) (ρ : DL.Env) : Res (List D) → Sum DL.Env Out
  | .ok l => turnO fg (F (setE ρ is l))
  | _ => .inr .no
@[simp] theorem turnK_ok {is : List Nat} {F : DSem} {l : List D} : turnK is F fg ρ (.ok l) = turnO fg (F (setE ρ is l)) := rfl
@[simp] theorem turn_eq {is : List Nat} {ks : D → Res (List D)} {F : DSem} : turn is ks F fg d ρ = turnK is F fg ρ (ks d) := by
  unfold turn turnK
  cases ks d with
  | ok l => simp only; cases F (setE ρ is l) <;> rfl
  | ex c => rfl
  | no => rfl
end
theorem forF_cons {is fg : List Nat} {ks : D → Res (List D)} {F : DSem} {d : D} {r : List D} {ρ : DL.Env} : forF is ks F fg (d :: r) ρ = (match turn is ks F fg d ρ with
    | .inl ρ' => forF is ks F fg r ρ'
    | .inr o => o) := by
  unfold turn
  conv => lhs; unfold forF
  cases ks d with
  | ok l => simp only; cases F (setE ρ is l) <;> rfl
  | ex c => rfl
  | no => rfl
def foldO {α S : Type} (φ : S → DL.Env) (step : S → α → Sum S Out) : List α → S → Out
  | [], s => .nx (φ s)
  | x :: r, s => match step s x with
    | .inl s' => foldO φ step r s'
    | .inr o => o
def mapL {S : Type} (φ : S → DL.Env) : Sum S Out → Sum DL.Env Out
  | .inl s => .inl (φ s)
  | .inr o => .inr o
@[simp] theorem mapL_l {S : Type} {φ : S → DL.Env} {s : S} : mapL φ (.inl s) = .inl (φ s) := rfl
@[simp] theorem mapL_r {S : Type} {φ : S → DL.Env} {o : Out} : mapL φ (.inr o) = .inr o := rfl
theorem mapL_if {S : Type} {φ : S → DL.Env} {c : Prop} [Decidable c] {a b : Sum S Out} : mapL φ (if c then a else b) = if c then mapL φ a else mapL φ b := by split <;> rfl
/-- a loop by its turns, an invariant by the number of turns -/
theorem forF_gen {α S : Type} {is fg : List Nat} {ks : D → Res (List D)} {F : DSem} {enc : α → D} {ρ : DL.Env} (φ : S → DL.Env) (step : S → α → Sum S Out) (Iv : Nat → S → Prop) : ∀ {xs : List α} {s : S} (n : Nat),
    (∀ i s x, xs[i]? = some x → Iv (n + i) s → turn is ks F fg (enc x) (φ s) = mapL φ (step s x) ∧ ∀ s', step s x = .inl s' → Iv (n + i + 1) s') → Iv n s → ρ = φ s →
      forF is ks F fg (xs.map enc) ρ = foldO φ step xs s
  | [], s, n, _, _, e => by rw [e]; rfl
  | x :: r, s, n, hs, h, e => by
    obtain ⟨h1, h2⟩ := hs 0 s x rfl h
    rw [List.map_cons, forF_cons, e, h1]
    unfold foldO
    cases q : step s x with
    | inr o => rfl
    | inl s' =>
      simp only [mapL]
      exact forF_gen φ step Iv (n + 1) (fun i s2 x2 e2 iv => by
        have := hs (i + 1) s2 x2 (by simpa using e2) (by rwa [show n + (i + 1) = n + 1 + i by omega])
        rwa [show n + (i + 1) = n + 1 + i by omega] at this) (h2 s' q) rfl
theorem foldO_inl {α S : Type} {φ : S → DL.Env} {step : S → α → S} : ∀ {xs : List α} {s : S}, foldO φ (fun s x => .inl (step s x)) xs s = .nx (φ (xs.foldl step s))
  | [], _ => rfl
  | x :: r, s => by unfold foldO; exact foldO_inl
/-- a loop that goes to its end -/
theorem forF_eq {α S : Type} {is fg : List Nat} {ks : D → Res (List D)} {F : DSem} {enc : α → D} {ρ : DL.Env} (φ : S → DL.Env) (step : S → α → S) (Iv : Nat → S → Prop) {xs : List α} {s : S}
    (hs : ∀ i s x, xs[i]? = some x → Iv i s → turn is ks F fg (enc x) (φ s) = .inl (φ (step s x)) ∧ Iv (i + 1) (step s x)) (h : Iv 0 s) (e : ρ = φ s) :
      forF is ks F fg (xs.map enc) ρ = .nx (φ (xs.foldl step s)) := by
  rw [forF_gen φ (fun s x => .inl (step s x)) Iv 0 (fun i s x e iv => ?_) h e, foldO_inl]
  have := hs i s x e (by simpa using iv)
  exact ⟨this.1, fun s' q => by cases q; simpa using this.2⟩
/-- a loop that only looks -/
theorem forF_skip {α : Type} {is fg : List Nat} {ks : D → Res (List D)} {F : DSem} {enc : α → D} {ρ : DL.Env} {xs : List α} (hs : ∀ x ∈ xs, turn is ks F fg (enc x) ρ = .inl ρ) : forF is ks F fg (xs.map enc) ρ = .nx ρ := by
  rw [forF_eq (S := Unit) (fun _ => ρ) (fun _ _ => ()) (fun _ _ => True) (s := ()) (fun i s x e _ => ⟨hs x (List.mem_of_getElem? e), trivial⟩) trivial rfl]
end DL
namespace DL
@[simp] theorem if_ok {α : Type} {P : Prop} [Decidable P] {a b : α} : (if P then Res.ok a else Res.ok b) = Res.ok (if P then a else b) := by split <;> rfl
@[simp] theorem dicOf_K {kvs} : dicOf (.dK kvs) = .ok (.dK kvs) := rfl
@[simp] theorem dicOf_T {kvs} : dicOf (.dT kvs) = .ok (.dT kvs) := rfl
theorem mem_getElem? {α : Type} {xs : List α} {i : Nat} {x : α} (h : xs[i]? = some x) : x ∈ xs := List.mem_of_getElem? h
theorem idx_lt {α : Type} {xs : List α} {i : Nat} {x : α} (h : xs[i]? = some x) : i < xs.length := (List.getElem?_eq_some_iff.mp h).1
theorem zipIdx_get {α : Type} {xs : List α} {i : Nat} {p : α × Nat} (h : xs.zipIdx[i]? = some p) : p.2 = i ∧ xs[i]? = some p.1 := by
  rw [List.getElem?_zipIdx, Option.map_eq_some_iff] at h
  obtain ⟨x, h1, rfl⟩ := h
  exact ⟨by simp, h1⟩
end DL
namespace DL
open PySem L2
/-- one item of a comprehension without a test -/
def elt1 (is : List Nat) (ks : D → Res (List D)) (fe : DL.Env → Res D) (ρ : DL.Env) (d : D) : Res D := (ks d).thn fun l => fe (setE ρ is l)
theorem compL_ex {α β : Type} {is : List Nat} {ks : D → Res (List D)} {fe : DL.Env → Res D} {ρ : DL.Env} {enc : α → D} (g : β → D) (P : α → β → Prop) : ∀ {xs : List α}, (∀ x ∈ xs, ∃ y, elt1 is ks fe ρ (enc x) = .ok (g y) ∧ P x y) →
    ∃ ys : List β, compL is ks tTrue fe ρ (xs.map enc) = .ok (ys.map g) ∧ ys.length = xs.length ∧ ∀ y ∈ ys, ∃ x ∈ xs, P x y
  | [], _ => ⟨[], rfl, rfl, fun y hy => by cases hy⟩
  | x :: r, h => by
    obtain ⟨y, h1, h2⟩ := h x List.mem_cons_self
    obtain ⟨ys, i1, i2, i3⟩ := compL_ex g P fun z hz => h z (List.mem_cons_of_mem _ hz)
    unfold elt1 at h1
    cases q : ks (enc x) with
    | ok l =>
      rw [q, thn_ok] at h1
      refine ⟨y :: ys, ?_, by simp [i2], fun z hz => ?_⟩
      · simp only [List.map_cons, compL, q, Res.bind_ok, tTrue, noEx, if_pos, h1, i1]
      · rcases List.mem_cons.mp hz with e | hz
        · exact ⟨x, List.mem_cons_self, by rw [e]; exact h2⟩
        · obtain ⟨w, h3, h4⟩ := i3 z hz; exact ⟨w, List.mem_cons_of_mem _ h3, h4⟩
    | ex c => rw [q] at h1; cases h1
    | no => rw [q] at h1; cases h1
@[simp] theorem elt1_eq {is : List Nat} {ks : D → Res (List D)} {fe : DL.Env → Res D} {ρ : DL.Env} {d : D} : elt1 is ks fe ρ d = (ks d).thn fun l => fe (setE ρ is l) := rfl
@[simp] theorem noEx_ok' {α : Type} {a : α} : noEx (.ok a) = .ok a := rfl
@[simp high] theorem cutA_map' {α β : Type} (f : α → β) (xs : List α) (l u : Option Int) : cutA (xs.map f) l u = (cutA xs l u).map f := cutA_map f xs l u
theorem cutA_mem {α : Type} {xs : List α} {l u : Option Int} {x : α} (h : x ∈ cutA xs l u) : x ∈ xs := List.mem_of_mem_drop (List.mem_of_mem_take h)
theorem cutA_len {α : Type} {xs : List α} {l u : Option Int} : (cutA xs l u).length ≤ xs.length := by unfold cutA; simp; omega
theorem emod_rng (a : Int) {m : Int} (h : 0 < m) : 0 ≤ a % m ∧ a % m < m := ⟨Int.emod_nonneg _ (by omega), Int.emod_lt_of_pos _ h⟩
theorem compL_eq {α : Type} {is : List Nat} {ks : D → Res (List D)} {fe : DL.Env → Res D} {ρ : DL.Env} {enc : α → D} (g : α → D) {xs : List α} (h : ∀ x ∈ xs, elt1 is ks fe ρ (enc x) = .ok (g x)) : compL is ks tTrue fe ρ (xs.map enc) = .ok (xs.map g) := by
  refine compL_map enc g fun x hx => ?_
  have := h x hx
  unfold elt1 at this
  cases q : ks (enc x) with
  | ok l => rw [q, thn_ok] at this; exact ⟨l, rfl, rfl, this⟩
  | ex c => rw [q] at this; cases this
  | no => rw [q] at this; cases this
/-- with a test: what is kept -/
def test1 (is : List Nat) (ks : D → Res (List D)) (ft : DL.Env → Res Bool) (ρ : DL.Env) (d : D) : Res Bool := (ks d).thn fun l => ft (setE ρ is l)
@[simp] theorem test1_eq {is : List Nat} {ks : D → Res (List D)} {ft : DL.Env → Res Bool} {ρ : DL.Env} {d : D} : test1 is ks ft ρ d = (ks d).thn fun l => ft (setE ρ is l) := rfl
theorem compL_if {α : Type} {is : List Nat} {ks : D → Res (List D)} {ft : DL.Env → Res Bool} {fe : DL.Env → Res D} {ρ : DL.Env} {enc : α → D} (p : α → Bool) (g : α → D) {xs : List α} (h : ∀ x ∈ xs, test1 is ks ft ρ (enc x) = .ok (p x)) (h2 : ∀ x ∈ xs, p x = true → elt1 is ks fe ρ (enc x) = .ok (g x)) :
    compL is ks ft fe ρ (xs.map enc) = .ok ((xs.filter p).map g) := by
  refine compL_filter enc g p fun x hx => ?_
  have h1 := h x hx
  have h2 := h2 x hx
  unfold test1 at h1
  unfold elt1 at h2
  cases q : ks (enc x) with
  | ok l => rw [q, thn_ok] at h1 h2; exact ⟨l, rfl, h1, h2⟩
  | ex c => rw [q] at h1; cases h1
  | no => rw [q] at h1; cases h1
theorem boolsOf_map {α : Type} (f : α → Bool) : ∀ xs : List α, boolsOf (xs.map fun x => D.bl (f x)) = some (xs.map f)
  | [] => rfl
  | x :: r => by simp [boolsOf, boolsOf_map f r]
@[simp] theorem c_all_map {α : Type} (f : α → Bool) (xs : List α) : c_all [.lst (xs.map fun x => D.bl (f x))] = .ok (.bl ((xs.map f).all id)) := by simp [c_all, boolsOf_map]
@[simp] theorem c_any_map {α : Type} (f : α → Bool) (xs : List α) : c_any [.lst (xs.map fun x => D.bl (f x))] = .ok (.bl ((xs.map f).any id)) := by simp [c_any, boolsOf_map]
end DL
namespace DL
open PySem L2
theorem forF_exh {α S : Type} {is fg : List Nat} {ks : D → Res (List D)} {F : DSem} {enc : α → D} {ρ : DL.Env} {o : Out} (φ : S → DL.Env) (Iv : Nat → S → Prop) : ∀ {xs : List α}, forF is ks F fg (xs.map enc) ρ = o → ∀ (s : S) (n : Nat), Iv n s → ρ = φ s →
    (∀ i s x, xs[i]? = some x → Iv (n + i) s → ∃ s2, turn is ks F fg (enc x) (φ s) = .inl (φ s2) ∧ Iv (n + i + 1) s2) → ∃ s', o = .nx (φ s') ∧ Iv (n + xs.length) s'
  | [], hF, s, n, h, e, _ => ⟨s, by rw [← hF, e]; rfl, h⟩
  | x :: r, hF, s, n, h, e, hs => by
    obtain ⟨s2, h1, h2⟩ := hs 0 s x rfl h
    rw [List.map_cons, forF_cons, e, h1] at hF
    obtain ⟨s', h3, h4⟩ := forF_exh φ Iv hF s2 (n + 1) h2 rfl (fun i s2 x2 e2 iv => by
        have := hs (i + 1) s2 x2 (by simpa using e2) (by rwa [show n + (i + 1) = n + 1 + i by omega])
        rwa [show n + (i + 1) = n + 1 + i by omega] at this)
    exact ⟨s', h3, by rw [List.length_cons, show n + (r.length + 1) = n + 1 + r.length by omega]; exact h4⟩
theorem forF_inv {α S : Type} {is fg : List Nat} {ks : D → Res (List D)} {F : DSem} {enc : α → D} {ρ : DL.Env} {o : Out} {xs : List α} (hF : forF is ks F fg (xs.map enc) ρ = o) (φ : S → DL.Env) (Iv : Nat → S → Prop) (s : S) (h : Iv 0 s) (e : ρ = φ s)
    (hs : ∀ i s x, xs[i]? = some x → Iv i s → ∃ s2, turn is ks F fg (enc x) (φ s) = .inl (φ s2) ∧ Iv (i + 1) s2) : ∃ s', o = .nx (φ s') ∧ Iv xs.length s' := by
  have := forF_exh φ Iv hF s 0 h e (fun i s x hx iv => by simpa using hs i s x hx (by simpa using iv))
  simpa using this
theorem compL_exh {α β : Type} {is : List Nat} {ks : D → Res (List D)} {fe : DL.Env → Res D} {ρ : DL.Env} {enc : α → D} {o : Res (List D)} {xs : List α} (hC : compL is ks tTrue fe ρ (xs.map enc) = o) (g : β → D) (P : α → β → Prop) (h : ∀ x ∈ xs, ∃ y, elt1 is ks fe ρ (enc x) = .ok (g y) ∧ P x y) :
    ∃ ys : List β, o = .ok (ys.map g) ∧ ys.length = xs.length ∧ ∀ y ∈ ys, ∃ x ∈ xs, P x y := by
  rw [← hC]; exact compL_ex g P h
end DL
namespace DL
open PySem L2
@[simp] theorem g_add_lst (xs ys : List D) : g_add (.lst xs) (.lst ys) = if xs.length + ys.length ≤ sizeLine then .ok (.lst (xs ++ ys)) else .no := rfl
@[simp] theorem g_add_tup (xs ys : List D) : g_add (.tup xs) (.tup ys) = if xs.length + ys.length ≤ sizeLine then .ok (.tup (xs ++ ys)) else .no := rfl
@[simp] theorem g_add_str (xs ys : Str) : g_add (.str xs) (.str ys) = if xs.length + ys.length ≤ sizeLine then .ok (.str (xs ++ ys)) else .no := rfl
theorem foldl_cong {α S : Type} {f g : S → α → S} : ∀ {xs : List α} {s : S}, (∀ x ∈ xs, ∀ s, f s x = g s x) → xs.foldl f s = xs.foldl g s
  | [], _, _ => rfl
  | x :: r, s, h => by
    rw [List.foldl_cons, List.foldl_cons, h x List.mem_cons_self]
    exact foldl_cong fun y hy => h y (List.mem_cons_of_mem _ hy)
theorem foldl_range {α S : Type} (f : S → α × Nat → S) (xs : List α) (s : S) : (List.range xs.length).foldl (fun s k => (xs[k]?).elim s fun r => f s (r, k)) s = xs.zipIdx.foldl f s := by
  have : List.range xs.length = xs.zipIdx.map Prod.snd := by simp [List.zipIdx_map_snd, List.range_eq_range']
  rw [this, List.foldl_map]
  refine foldl_cong fun p hp s => ?_
  obtain ⟨i, hi⟩ := List.getElem?_of_mem hp
  obtain ⟨e1, e2⟩ := zipIdx_get hi
  rw [e1, e2, ← e1]
  rfl
theorem range_get {n i x : Nat} (h : (List.range n)[i]? = some x) : x = i ∧ i < n := by
  have hi := idx_lt h
  simp at hi
  rw [List.getElem?_range (by simpa using hi)] at h
  exact ⟨(Option.some.inj h).symm, hi⟩
end DL
namespace DL
@[simp] theorem all_tt {α : Type} (xs : List α) : (xs.all fun _ => true) = true := by simp
@[simp] theorem any_ff {α : Type} (xs : List α) : (xs.any fun _ => false) = false := by simp
end DL
namespace DL
open PySem L2
@[simp] theorem ixN_0 (n : Nat) : ixN (n + 1) 0 = some 0 := by unfold ixN; simp
theorem ixN_ok {n : Nat} {i : Int} (h0 : 0 ≤ i) (h : i < n) : ixN n i = some i.toNat := by unfold ixN; rw [if_pos h0, if_pos h]
end DL

/-! DM5: dicts, membership. -/
namespace DL
open PySem L2
section
variable {κ α : Type} [DecidableEq κ]
theorem getA_nil (k : κ) : getA ([] : List (κ × α)) k = none := rfl
theorem getA_cons (k' k : κ) (v : α) (r : List (κ × α)) : getA ((k', v) :: r) k = if k' = k then some v else getA r k := by
  unfold getA
  by_cases h : k' = k <;> simp [List.find?_cons, h]
theorem getA_append (a b : List (κ × α)) (k : κ) : getA (a ++ b) k = (getA a k).or (getA b k) := by
  induction a with
  | nil => simp [getA_nil]
  | cons p r ih =>
    obtain ⟨k', v⟩ := p
    rw [List.cons_append, getA_cons, getA_cons, ih]
    by_cases h : k' = k <;> simp [h]
theorem getA_isSome (kvs : List (κ × α)) (k : κ) : (getA kvs k).isSome = (kvs.any fun kv => decide (kv.1 = k)) := by
  induction kvs with
  | nil => rfl
  | cons p r ih =>
    obtain ⟨k', v⟩ := p
    rw [getA_cons, List.any_cons]
    by_cases h : k' = k <;> simp [h, ih]
theorem getA_map (kvs : List (κ × α)) (k j : κ) (v : α) : getA (kvs.map fun kv => if kv.1 = k then (kv.1, v) else kv) j = if j = k then (if (getA kvs k).isSome = true then some v else none) else getA kvs j := by
  induction kvs with
  | nil => simp [getA_nil]
  | cons p r ih =>
    obtain ⟨k', x⟩ := p
    rw [List.map_cons, getA_cons]
    by_cases h : k' = k
    · subst h
      rw [if_pos rfl]
      rw [getA_cons]
      by_cases hj : k' = j
      · subst hj; simp
      · rw [if_neg hj, ih, if_neg (Ne.symm hj), if_neg (Ne.symm hj)]
        rw [getA_cons, if_neg hj]
    · rw [if_neg h, getA_cons, ih]
      by_cases hj : j = k
      · subst hj; rw [if_neg h]; simp [getA_cons, h]
      · rw [if_neg hj, if_neg hj]; simp [getA_cons]
theorem getA_put (kvs : List (κ × α)) (k j : κ) (v : α) : getA (putA kvs k v) j = if j = k then some v else getA kvs j := by
  unfold putA
  rw [← getA_isSome]
  by_cases h : (getA kvs k).isSome = true
  · rw [if_pos h, getA_map, if_pos h]
  · rw [if_neg h, getA_append, getA_cons]
    have hn : getA kvs k = none := by simpa using h
    by_cases hj : j = k
    · subst hj; rw [hn]; simp
    · rw [if_neg hj, if_neg (Ne.symm hj), getA_nil]; simp
theorem length_putA (kvs : List (κ × α)) (k : κ) (v : α) : (putA kvs k v).length ≤ kvs.length + 1 := by
  unfold putA
  split <;> simp
theorem getA_foldl {β : Type} (key : β → κ) (val : β → α) : ∀ (xs : List β) (m : List (κ × α)) (k : κ), (getA (xs.foldl (fun m x => putA m (key x) (val x)) m) k).isSome = ((getA m k).isSome || xs.any fun x => decide (key x = k))
  | [], m, k => by simp
  | x :: r, m, k => by
    rw [List.foldl_cons, getA_foldl key val r, getA_put, List.any_cons]
    by_cases h : k = key x
    · subst h; simp
    · rw [if_neg h]; simp [Ne.symm h]
theorem length_foldl {β : Type} (key : β → κ) (val : β → α) : ∀ (xs : List β) (m : List (κ × α)), (xs.foldl (fun m x => putA m (key x) (val x)) m).length ≤ m.length + xs.length
  | [], m => by simp
  | x :: r, m => by
    rw [List.foldl_cons]
    have := length_foldl key val r (putA m (key x) (val x))
    have := length_putA m (key x) (val x)
    simp; omega
end
theorem any_py {x : D} : ∀ {ys : List D}, nb 19 x = true → nbs 19 ys = true → ((pys ys).any fun z => PyData.eqv z (py x)) = decide (x ∈ ys)
  | [], _, _ => by simp [pys]
  | y :: r, hx, hy => by
    have h2 : nb 19 y = true ∧ nbs 19 r = true := by simpa [nbs] using hy
    have := nb_eqv y x 19 19 h2.1 hx
    rw [pys, List.any_cons, any_py hx h2.2]
    by_cases e : y = x
    · subst e; rw [this.mpr rfl]; simp
    · have e2 : PyData.eqv (py y) (py x) = false := by
        cases q : PyData.eqv (py y) (py x) with
        | true => exact absurd (this.mp q) e
        | false => rfl
      rw [e2]
      simp [Ne.symm e]
theorem shaped_of {x : D} {n : Nat} (h : nb n x = true) (hn : n ≤ 64) : SeqAt.shaped (py x) = true := by
  have q := nb_lay x n h
  unfold SeqAt.shaped; rw [q.1]; simp; omega
@[simp] theorem inD_lst {x : D} {ys : List D} (hx : nb 19 x = true) (hy : nbs 19 ys = true) : inD x (.lst ys) = .ok (decide (x ∈ ys)) := by
  show (if SeqAt.shaped (py x) = true ∧ SeqAt.shaped (py (.lst ys)) = true then Res.ok ((pys ys).any fun z => PyData.eqv z (py x)) else .no) = _
  rw [if_pos ⟨shaped_of hx (by omega), shaped_of (n := 20) (by simpa using hy) (by omega)⟩, any_py hx hy]
@[simp] theorem inD_dT {ks : List D} {kk : List Key} {kvs : List (List Key × D)} (h : keysD ks = some kk) : inD (.tup ks) (.dT kvs) = .ok (getA kvs kk).isSome := by
  show (match keysD ks with | some ks => Res.ok (getA kvs ks).isSome | none => .no) = _
  rw [h]
@[simp] theorem inD_dK {x : D} {kk : Key} {kvs : List (Key × D)} (h : keyD x = some kk) : inD x (.dK kvs) = .ok (getA kvs kk).isSome := by
  show (match keyD x with | some k => Res.ok (getA kvs k).isSome | none => .no) = _
  rw [h]
@[simp] theorem g_in_eq (x y : D) : g_in x y = (inD x y).thn fun b => .ok (.bl b) := rfl
@[simp] theorem g_notin_eq (x y : D) : g_notin x y = (inD x y).thn fun b => .ok (.bl (!b)) := rfl
@[simp] theorem keyD_int (i : Int) : keyD (.int i) = some (.inl i) := rfl
@[simp] theorem keyD_str (i : Str) : keyD (.str i) = some (.inr i) := rfl
@[simp] theorem keysD_nil : keysD [] = some [] := rfl
@[simp] theorem keysD_int (i : Int) (r : List D) : keysD (.int i :: r) = (keysD r).map fun ks => .inl i :: ks := by
  show (match keyD (.int i), keysD r with | some k, some ks => some (k :: ks) | _, _ => none) = _
  cases keysD r <;> rfl
@[simp] theorem putD_dT {ks : List D} {kk : List Key} {kvs : List (List Key × D)} {v : D} (h : keysD ks = some kk) : putD (.dT kvs) (.tup ks) v = if kvs.length < sizeLine then .ok (.dT (putA kvs kk v)) else .no := by
  show (match keysD ks with | some ks => if kvs.length < sizeLine then Res.ok (D.dT (putA kvs ks v)) else .no | none => .no) = _
  rw [h]
theorem putD_dK' {k v : D} {kvs : List (Key × D)} : putD (.dK kvs) k v = (match keyD k with | some k => if kvs.length < sizeLine then Res.ok (D.dK (putA kvs k v)) else .no | none => .no) := by cases k <;> rfl
@[simp] theorem putD_dK {k : D} {kk : Key} {kvs : List (Key × D)} {v : D} (h : keyD k = some kk) : putD (.dK kvs) k v = if kvs.length < sizeLine then .ok (.dK (putA kvs kk v)) else .no := by rw [putD_dK', h]
@[simp] theorem getD_dT {ks : List D} {kk : List Key} {kvs : List (List Key × D)} (h : keysD ks = some kk) : getD? (.dT kvs) (.tup ks) = .ok (getA kvs kk) := by
  show (match keysD ks with | some ks => Res.ok (getA kvs ks) | none => .no) = _
  rw [h]
@[simp] theorem getD_dK {k : D} {kk : Key} {kvs : List (Key × D)} (h : keyD k = some kk) : getD? (.dK kvs) k = .ok (getA kvs kk) := by
  have : getD? (.dK kvs) k = (match keyD k with | some k => .ok (getA kvs k) | none => .no) := by cases k <;> rfl
  rw [this, h]
@[simp] theorem hasE_eq {ρ : DL.Env} {j : Nat} : hasE ρ j = (match ρ[j]? with | some (some _) => true | _ => false) := rfl
@[simp] theorem putO_eq {ρ : DL.Env} {j : Nat} {k d : D} : putO ρ j k d = (match ρ[j]? with | some (some c) => (match putD c k d with | .ok c' => .nx (ρ.set j (some c')) | _ => .no) | _ => .no) := rfl
@[simp] theorem setO_eq {ρ : DL.Env} {j : Nat} {k d : D} : setO ρ j k d = (match ρ[j]? with | some (some c) => (match setD c k d with | .ok c' => .nx (ρ.set j (some c')) | _ => .no) | _ => .no) := rfl
/-! ### raise, try, places -/
end DL

/-! DL10: raise; try with clauses that bind no name. -/
namespace DL
open PySem PySem.Spec PyProof.Rows L2
/-! ### statements read canonically -/
def rdS (mg : Str → Option Value) (J : Jd) (own own' : Owns) (F : DSem) : TS := fun Dn σ H => ∃ G0 H0 G ρ, SI G0 H0 own G H σ ρ ∧ GS mg J G0 H0 own' Dn (F ρ)
theorem DSs.pss {X : Cx} {J : Jd} {own own' : Owns} {st : List Stmt} {F : DSem} (d : DSs X J own own' st F) : PSs X st (rdS X.mg J own own' F) := by
  obtain ⟨t, p, h⟩ := d
  exact ⟨fun pins s σ H D I ⟨G0, H0, G, ρ, si, g⟩ => p.run pins s σ H D I (h G0 H0 G H σ ρ D si g)⟩

/-! ### raise -/
def sRaise (c : Str) : DSem := fun ρ => .ex c ρ
theorem ds_raise {X : Cx} {J : Jd} {own own1 : Owns} {pos : Pos} {e : Expr} {c : Str} {C : Addr} (hc : X.calm = true) (tk : Takes X J.W) (pm : PMk X e (fun _ H Q => Q (.ref C) none H)) (hm : X.mg c = some (.ref C)) (hx : oxSub J.ox own = true := by rfl) :
    DS X J own own1 (.Raise (some e) none pos) (sRaise c) :=
  ⟨_, ps_raise hc tk pm, fun G0 H0 G H σ ρ Dn I h => h C own G H σ hx hm I⟩

/-! ### what is owned, owned no more -/
theorem SIf.congr {fp} {G0 H0 G H : Hp} {own own' : Owns} {σ : L2.St} {ρ : Env} (I : SIf fp G0 H0 own G H σ ρ) (h : ∀ i, own'.lookup i = own.lookup i) : SIf fp G0 H0 own' G H σ ρ :=
  ⟨I.ext, I.len, fun i d e q => I.val i d e (by rw [← h]; exact q), fun i k d q e => I.own i k d (by rw [← h]; exact q) e, I.fpm, I.fpd, fun i v q n => I.pin i v (by rw [← h]; exact q) (by rw [← h]; exact n)⟩
theorem lookup_fst {own : Owns} {i : Nat} {k : Kd} (h : own.lookup i = some k) : i ∈ own.map (·.1) := by
  induction own with
  | nil => cases h
  | cons p r ih =>
    obtain ⟨j, k'⟩ := p
    rw [List.lookup_cons] at h
    by_cases e : i = j
    · subst e; simp
    · rw [show (i == j) = false by simpa using e] at h
      simp only [List.map_cons, List.mem_cons]
      exact .inr (ih h)
theorem SI.freezeAll {G0 H0 H : Hp} {σ : L2.St} {ρ : Env} : ∀ (js : List Nat) {own : Owns} {G : Hp}, SI G0 H0 own G H σ ρ → ∃ own' G', SI G0 H0 own' G' H σ ρ ∧ ∀ i, own'.lookup i = if i ∈ js then none else own.lookup i
  | [], own, G, I => ⟨own, G, I, fun i => by simp⟩
  | j :: js, own, G, ⟨fp, I⟩ => by
    obtain ⟨own', G', I', h⟩ := SI.freezeAll js (own := disown own j) ⟨_, I.freeze j⟩
    refine ⟨own', G', I', fun i => ?_⟩
    rw [h i]
    by_cases hj : i = j
    · subst hj; rw [disown_self]; simp
    · rw [disown_ne hj]; simp [hj]
theorem oxSub_look {ox own : Owns} (h : oxSub ox own = true) {i : Nat} {k : Kd} (e : ox.lookup i = some k) : own.lookup i = some k := by
  have hm : (i, k) ∈ ox := mem_look ox e
  have := List.all_eq_true.mp h _ hm
  simpa using this
theorem SI.toOwn {G0 H0 G H : Hp} {own own2 : Owns} {σ : L2.St} {ρ : Env} (hx : oxSub own own2 = true) (I : SI G0 H0 own2 G H σ ρ) : ∃ G', SI G0 H0 own G' H σ ρ := by
  obtain ⟨own', G', I', h⟩ := I.freezeAll ((own2.map (·.1)).filter fun i => (own.lookup i).isNone)
  obtain ⟨fp, I'⟩ := I'
  refine ⟨G', fp, I'.congr fun i => ?_⟩
  rw [h i]
  cases q : own.lookup i with
  | some k =>
    rw [if_neg (by simp [q]), oxSub_look hx q]
  | none =>
    cases q2 : own2.lookup i with
    | none => simp
    | some k => rw [if_pos (List.mem_filter.mpr ⟨lookup_fst q2, by simp [q]⟩)]
theorem oxSub_trans {a b c : Owns} (h1 : oxSub a b = true) (h2 : oxSub b c = true) : oxSub a c = true := by
  refine List.all_eq_true.mpr fun p hp => ?_
  have h3 := List.all_eq_true.mp h1 p hp
  have h4 : b.lookup p.1 = some p.2 := by simpa using h3
  have := oxSub_look h2 h4
  simpa using this

/-! ### try -/
/-- which of the classes a clause takes -/
def TblOk (mg : Str → Option Value) (K : PySem.W.Frag) (hv : Value) (l : List (Str × Bool)) : Prop := ∀ c b, l.lookup c = some b → ∀ C, mg c = some (.ref C) → PySem.W.exmOne K (.ref C) hv = some b
theorem tbl_nil {mg : Str → Option Value} {K : PySem.W.Frag} {hv : Value} : TblOk mg K hv [] := fun _ _ h => by cases h
theorem tbl_cons {mg : Str → Option Value} {K : PySem.W.Frag} {hv : Value} {c : Str} {b : Bool} {l : List (Str × Bool)} {C0 : Addr} (hm : mg c = some (.ref C0)) (he : PySem.W.exmOne K (.ref C0) hv = some b) (r : TblOk mg K hv l) : TblOk mg K hv ((c, b) :: l) := fun c' b' h C m => by
  rw [List.lookup_cons] at h
  by_cases e : c' = c
  · subst e
    rw [show (c' == c') = true by simp] at h
    cases h
    rw [hm] at m; cases m
    exact he
  · rw [show (c' == c) = false by simpa using e] at h
    exact r c' b' h C m
def noExO : Out → Out
  | .ex _ _ => .no
  | o => o
def hdsF (c : Str) (ρ : Env) : List (List (Str × Bool) × DSem) → Out
  | [] => .ex c ρ
  | (tbl, F) :: r => match tbl.lookup c with
    | some true => noExO (F ρ)
    | some false => hdsF c ρ r
    | none => .no
def sTry (F1 : DSem) (hs : List (List (Str × Bool) × DSem)) : DSem := fun ρ => match F1 ρ with
  | .ex c ρ' => hdsF c ρ' hs
  | o => o
/-- the clauses: each suite lets nothing out -/
inductive DHds (X : Cx) (J : Jd) (own own1 : Owns) : List ExceptHandler → List (List (Str × Bool) × DSem) → Prop
  | nil : DHds X J own own1 [] []
  | cons {x : Str} {hv : Value} {tbl : List (Str × Bool)} {F : DSem} {b0 : Stmt} {suite : List Stmt} {np pos' : Pos} {hds : List ExceptHandler} {l : List (List (Str × Bool) × DSem)} (hc : Names X x hv) (tb : TblOk X.mg X.K hv tbl)
      (d : ∀ (a : Addr) (oe : Obj) (cls : Value) (dd : Option Addr) (pn : List (Addr × Obj)), Zc cls dd oe → (∃ vs, oe.data = .fields vs) → DSs (X.suite a ((a, oe) :: pn)) ⟨W0, J.L, [], J.rk⟩ own own1 (b0 :: suite) F) (r : DHds X J own own1 hds l) :
      DHds X J own own1 (.ExceptHandler (some (.Name x np)) none (b0 :: suite) pos' :: hds) ((tbl, F) :: l)
theorem GS.noEx {mg : Str → Option Value} {J : Jd} {G0 H0 : Hp} {own1 : Owns} {Dn : Ends} {o : Out} (h : GS mg J G0 H0 own1 Dn (noExO o)) : GS mg ⟨W0, J.L, [], J.rk⟩ G0 H0 own1 Dn o := by
  cases o with
  | ex c ρ => exact h.elim
  | nx ρ => exact h
  | rt d => exact h
  | bk ρ => exact h
  | ct ρ => exact h
  | no => exact h
theorem hds_ok {X : Cx} {J : Jd} {own own1 : Owns} {hds : List ExceptHandler} {l : List (List (Str × Bool) × DSem)} (d : DHds X J own own1 hds l) : ∃ l2 : List (Value × (Addr → Value → Option Addr → TS)), HdsOk X hds l2 ∧
    ∀ (G0 H0 G H : Hp) (σ : L2.St) (ρ : Env) (Dn : Ends) (c : Str) (C : Addr) (own2 : Owns), oxSub J.ox own = true → X.mg c = some (.ref C) → oxSub own own2 = true → SI G0 H0 own2 G H σ ρ → GS X.mg J G0 H0 own1 Dn (hdsF c ρ l) → wMany X.K J.W Dn l2 (.ref C) none σ H := by
  induction d with
  | nil => exact ⟨[], .nil, fun G0 H0 G H σ ρ Dn c C own2 hx m hs I h => h C own2 G H σ (oxSub_trans hx hs) m I⟩
  | @cons x hv tbl F b0 suite np pos' hds l hc tb d r ih =>
    obtain ⟨l2, h1, h2⟩ := ih
    refine ⟨(hv, fun _ _ _ => rdS X.mg ⟨W0, J.L, [], J.rk⟩ own own1 F) :: l2, .cons hc (fun a oe cls dd pn z v => (d a oe cls dd pn z v).pss) h1, fun G0 H0 G H σ ρ Dn c C own2 hx m hs I h => ?_⟩
    unfold hdsF at h
    cases q : tbl.lookup c with
    | none => rw [q] at h; exact h.elim
    | some b =>
      rw [q] at h
      refine ⟨b, tb c b q C m, fun e a _ => ?_, fun e => ?_⟩
      · subst e
        obtain ⟨G', I'⟩ := I.toOwn hs
        exact ⟨G0, H0, G', ρ, I', h.noEx⟩
      · subst e
        exact h2 G0 H0 G H σ ρ Dn c C own2 hx m hs I h
theorem ds_try {X : Cx} {J : Jd} {own own1 : Owns} {body : List Stmt} {h0 : ExceptHandler} {hds : List ExceptHandler} {l : List (List (Str × Bool) × DSem)} {F1 : DSem} {pos : Pos} (hs : X.stack = X.env :: X.outer) (hf : X.env.frame = some X.env.locals) (tk : Takes X J.W)
    (hb : ∀ (W : WX) (pn : List (Addr × Obj)) (xe : Value → Shared → Prop), Takes (X.tr pn xe) W → PassesOwn (model X.prog X.w) X.A X.env xe → DSs (X.tr pn xe) ⟨W, J.L, own, J.rk⟩ own own1 body F1)
    (hh : DHds X J own own1 (h0 :: hds) l) (hx : oxSub J.ox own = true := by rfl) : DS X J own own1 (.Try body (h0 :: hds) [] [] pos) (sTry F1 l) := by
  obtain ⟨l2, h1, h2⟩ := hds_ok hh
  refine ⟨_, ps_try_many (tb := fun W => rdS X.mg ⟨W, J.L, own, J.rk⟩ own own1 F1) hs hf tk (fun W pn xe t p => (hb W pn xe t p).pss) h1, fun G0 H0 G H σ ρ Dn I h => ?_⟩
  refine ⟨G0, H0, G, ρ, I, ?_⟩
  unfold sTry at h
  cases q : F1 ρ with
  | ex c ρ' =>
    rw [q] at h
    exact fun C own2 G' H' σ' hx2 m I' => h2 G0 H0 G' H' σ' ρ' Dn c C own2 hx m hx2 I' h
  | nx ρ' => rw [q] at h; exact h
  | rt d => rw [q] at h; exact h
  | bk ρ' => rw [q] at h; exact h
  | ct ρ' => rw [q] at h; exact h
  | no => rw [q] at h; exact h
end DL

/-! DL11: paths into what a slot owns throughout; changes at their ends. -/
namespace DL
open PySem PySem.Spec PyProof.Rows L2

/-! ### owned pairs, whatever the keys -/
def RepOP {κ : Type} (H : Hp) : List (κ × D) → List (κ × V) → List Addr → Prop
  | [], vs, fp => vs = [] ∧ fp = []
  | (k, d) :: r, vs, fp => ∃ v s f1 f2, vs = (k, v) :: s ∧ fp = f1 ++ f2 ∧ RepO H d v f1 ∧ RepOP H r s f2
theorem repOK_iff {H : Hp} : ∀ {kvs : List (Key × D)} {ws : List (Key × V)} {fp : List Addr}, RepOK H kvs ws fp ↔ RepOP H kvs ws fp
  | [], _, _ => Iff.rfl
  | (k, d) :: r, ws, fp => by
    unfold RepOK RepOP
    constructor
    · rintro ⟨v, s, f1, f2, e, ef, h, q⟩; exact ⟨v, s, f1, f2, e, ef, h, repOK_iff.mp q⟩
    · rintro ⟨v, s, f1, f2, e, ef, h, q⟩; exact ⟨v, s, f1, f2, e, ef, h, repOK_iff.mpr q⟩
theorem repOT_iff {H : Hp} : ∀ {kvs : List (List Key × D)} {ws : List (List Key × V)} {fp : List Addr}, RepOT H kvs ws fp ↔ RepOP H kvs ws fp
  | [], _, _ => Iff.rfl
  | (k, d) :: r, ws, fp => by
    unfold RepOT RepOP
    constructor
    · rintro ⟨v, s, f1, f2, e, ef, h, q⟩; exact ⟨v, s, f1, f2, e, ef, h, repOT_iff.mp q⟩
    · rintro ⟨v, s, f1, f2, e, ef, h, q⟩; exact ⟨v, s, f1, f2, e, ef, h, repOT_iff.mpr q⟩
theorem At.sub {H H' : Hp} {f f' : List Addr} (h : At H H' f) (s : ∀ p ∈ f', p ∈ f) : At H H' f' := ⟨fun p hp => h.a p (s p hp), h.t⟩
theorem At.up {H H' : Hp} {f : List Addr} (h : ∀ a o, H a = some o → H' a = some o) (m : ∀ p ∈ f, Mut (H p)) : At H H' f := ⟨fun p hp => by
  cases r : H p with
  | none => have := m p hp; rw [r] at this; exact this.elim
  | some u => exact h _ _ r, fun a vs e => h _ _ e⟩
section
variable {κ : Type} [DecidableEq κ]
theorem RepOP.at {H H' : Hp} : ∀ {kvs : List (κ × D)} {ws : List (κ × V)} {fp : List Addr}, At H H' fp → RepOP H kvs ws fp → RepOP H' kvs ws fp
  | [], _, _, _, h => h
  | (k, d) :: r, _, _, l, ⟨v, s, f1, f2, e, ef, h, q⟩ => by subst ef; exact ⟨v, s, f1, f2, e, rfl, RepO.at l.l h, RepOP.at l.r q⟩
theorem RepOP.mut {H : Hp} : ∀ {kvs : List (κ × D)} {ws : List (κ × V)} {fp : List Addr}, RepOP H kvs ws fp → ∀ p ∈ fp, Mut (H p)
  | [], _, _, h, p, hp => by rw [h.2] at hp; cases hp
  | (k, d) :: r, _, _, ⟨v, s, f1, f2, e, ef, h, q⟩, p, hp => by
    subst ef
    rcases List.mem_append.mp hp with hp | hp
    · exact RepO.mut h p hp
    · exact RepOP.mut q p hp
theorem RepOP.rep {H G : Hp} : ∀ {kvs : List (κ × D)} {ws : List (κ × V)} {fp : List Addr}, At H G fp → RepOP H kvs ws fp → RepP G kvs ws
  | [], _, _, _, h => h.1
  | (k, d) :: r, _, _, l, ⟨v, s, f1, f2, e, ef, h, q⟩ => by subst ef; exact ⟨v, s, e, RepO.rep l.l h, RepOP.rep l.r q⟩
theorem RepOP.append {H : Hp} : ∀ {ds es : List (κ × D)} {vs ws : List (κ × V)} {f g : List Addr}, RepOP H ds vs f → RepOP H es ws g → RepOP H (ds ++ es) (vs ++ ws) (f ++ g)
  | [], _, _, _, _, _, h, q => by rw [h.1, h.2]; exact q
  | (k, d) :: r, _, _, _, _, _, ⟨v, s, f1, f2, e, ef, h, q⟩, q2 => by
    subst ef
    exact ⟨v, s ++ _, f1, f2 ++ _, by rw [e]; rfl, by simp, h, RepOP.append q q2⟩
theorem RepOP.mapImm {H : Hp} : ∀ {kvs : List (κ × D)} {ws : List (κ × V)} {fq : List Addr} {k : κ} {d : D} {y : V}, RepO H d y [] → RepOP H kvs ws fq → ∃ fq', RepOP H (kvs.map fun kv => if kv.1 = k then (kv.1, d) else kv) (ws.map fun kv => if kv.1 = k then (kv.1, y) else kv) fq' ∧ (∀ p ∈ fq', p ∈ fq) ∧ (fq.Nodup → fq'.Nodup)
  | [], _, _, _, _, _, _, h => by obtain ⟨e1, e2⟩ := h; subst e1 e2; exact ⟨[], ⟨rfl, rfl⟩, fun _ h => h, id⟩
  | (k', d') :: r, _, _, k, d, y, ho, ⟨v, s, f1, f2, e, ef, h, q⟩ => by
    subst e ef
    obtain ⟨fq', h1, h2, h3⟩ := RepOP.mapImm (k := k) ho q
    rw [List.map_cons, List.map_cons]
    by_cases hk : k' = k
    · rw [if_pos hk, if_pos hk]
      exact ⟨fq', ⟨y, _, [], fq', rfl, rfl, ho, h1⟩, fun p hp => List.mem_append_right _ (h2 p hp), fun nd => h3 (List.nodup_append.mp nd).2.1⟩
    · rw [if_neg hk, if_neg hk]
      refine ⟨f1 ++ fq', ⟨v, _, f1, fq', rfl, rfl, h, h1⟩, fun p hp => ?_, fun nd => ?_⟩
      · rcases List.mem_append.mp hp with hp | hp
        · exact List.mem_append_left _ hp
        · exact List.mem_append_right _ (h2 p hp)
      · have n := List.nodup_append.mp nd
        exact List.nodup_append.mpr ⟨n.1, h3 n.2.1, fun a ha b hb => n.2.2 a ha b (h2 b hb)⟩
theorem RepOP.any {H : Hp} {k : κ} {kvs : List (κ × D)} {ws : List (κ × V)} {fq : List Addr} (r : RepOP H kvs ws fq) : (ws.any fun kv => decide (kv.1 = k)) = (kvs.any fun kv => decide (kv.1 = k)) :=
  (r.rep (G := H) ⟨fun _ _ => rfl, fun _ _ e => e⟩).any
/-- a value put: immutable, or new under a new key -/
theorem RepOP.put {H : Hp} {kvs : List (κ × D)} {ws : List (κ × V)} {fq fd : List Addr} {k : κ} {d : D} {y : V} (ho : RepO H d y fd) (hc : fd = [] ∨ getA kvs k = none) (r : RepOP H kvs ws fq) (nd : fq.Nodup) (ndd : fd.Nodup) (dj : ∀ p ∈ fq, p ∉ fd) :
    ∃ fq', RepOP H (putA kvs k d) (putK ws k y) fq' ∧ (∀ p ∈ fq', p ∈ fq ∨ p ∈ fd) ∧ fq'.Nodup := by
  have ea := r.any (k := k)
  have eg : (kvs.any fun kv => decide (kv.1 = k)) = (getA kvs k).isSome := by
    unfold getA
    rw [Option.isSome_map]
    cases q : kvs.find? fun kv => decide (kv.1 = k) with
    | none => rw [List.find?_eq_none] at q; simpa using q
    | some z =>
      have := List.find?_some q
      have hm := List.mem_of_find?_eq_some q
      simp only [Option.isSome_some, List.any_eq_true]
      exact ⟨z, hm, this⟩
  unfold putA putK
  rw [ea]
  by_cases q : (kvs.any fun kv => decide (kv.1 = k)) = true
  · rw [if_pos q, if_pos q]
    rcases hc with e | e
    · subst e
      obtain ⟨fq', h1, h2, h3⟩ := RepOP.mapImm (k := k) ho r
      exact ⟨fq', h1, fun p hp => .inl (h2 p hp), h3 nd⟩
    · rw [eg, e] at q; cases q
  · rw [if_neg q, if_neg q]
    refine ⟨fq ++ fd, r.append ⟨y, [], fd, [], rfl, by simp, ho, rfl, rfl⟩, fun p hp => List.mem_append.mp hp, List.nodup_append.mpr ⟨nd, ndd, fun a ha b hb z => dj a ha (z ▸ hb)⟩⟩
def setA (kvs : List (κ × D)) (k : κ) (d : D) : List (κ × D) := match kvs with
  | [] => []
  | (k', x) :: r => if k' = k then (k', d) :: r else (k', x) :: setA r k d
theorem RepOP.focus {H : Hp} : ∀ {kvs : List (κ × D)} {ws : List (κ × V)} {fq : List Addr} {k : κ} {d' : D}, RepOP H kvs ws fq → getA kvs k = some d' →
    ∃ v' f1 f f2, fq = f1 ++ (f ++ f2) ∧ valV ws k = some v' ∧ RepO H d' v' f ∧ ∀ (H' : Hp) (d'' : D) (f' : List Addr), At H H' (f1 ++ f2) → RepO H' d'' v' f' → RepOP H' (setA kvs k d'') ws (f1 ++ (f' ++ f2))
  | [], _, _, _, _, _, e => by simp [getA] at e
  | (k', x) :: r, _, _, k, d', ⟨v, s, f1, f2, e, ef, h, q⟩, g => by
    subst e ef
    by_cases hk : k' = k
    · have gx : x = d' := by simpa [getA, hk] using g
      subst gx
      refine ⟨v, [], f1, f2, rfl, valV_pos hk, h, fun H' d'' f' a o => ?_⟩
      unfold setA
      rw [if_pos hk]
      exact ⟨v, s, f', f2, rfl, rfl, o, q.at (a.sub fun p hp => by simpa using hp)⟩
    · have g2 : getA r k = some d' := by rw [← g]; simp [getA, List.find?_cons, hk]
      obtain ⟨v', g1, gf, gg, e1, e2, e3, e4⟩ := RepOP.focus q g2
      subst e1
      refine ⟨v', f1 ++ g1, gf, gg, by simp, by rw [valV_neg (p := (k', v)) hk]; exact e2, e3, fun H' d'' f' a o => ?_⟩
      unfold setA
      rw [if_neg hk]
      exact ⟨v, s, f1, g1 ++ (f' ++ gg), rfl, by simp, h.at (a.sub fun p hp => by simp [hp]), e4 H' d'' f' (a.sub fun p hp => by
        rcases List.mem_append.mp hp with hp | hp <;> simp [hp]) o⟩
end
theorem RepOs.focus {H : Hp} : ∀ {ds : List D} {vs : List V} {fq : List Addr} {n : Nat} {d' : D}, RepOs H ds vs fq → ds[n]? = some d' →
    ∃ v' f1 f f2, fq = f1 ++ (f ++ f2) ∧ vs[n]? = some v' ∧ RepO H d' v' f ∧ ∀ (H' : Hp) (d'' : D) (f' : List Addr), At H H' (f1 ++ f2) → RepO H' d'' v' f' → RepOs H' (ds.set n d'') vs (f1 ++ (f' ++ f2))
  | [], _, _, _, _, _, e => by simp at e
  | x :: r, _, _, 0, d', ⟨v, s, f1, f2, e, ef, h, q⟩, g => by
    subst e ef
    have gx : x = d' := by simpa using g
    subst gx
    exact ⟨v, [], f1, f2, rfl, rfl, h, fun H' d'' f' a o => ⟨v, s, f', f2, rfl, rfl, o, q.at (a.sub fun p hp => by simpa using hp)⟩⟩
  | x :: r, _, _, n + 1, d', ⟨v, s, f1, f2, e, ef, h, q⟩, g => by
    subst e ef
    obtain ⟨v', g1, gf, gg, e1, e2, e3, e4⟩ := RepOs.focus (n := n) q (by simpa using g)
    subst e1
    exact ⟨v', f1 ++ g1, gf, gg, by simp, by simpa using e2, e3, fun H' d'' f' a o => ⟨v, s, f1, g1 ++ (f' ++ gg), rfl, by simp, h.at (a.sub fun p hp => by simp [hp]), e4 H' d'' f' (a.sub fun p hp => by
        rcases List.mem_append.mp hp with hp | hp <;> simp [hp]) o⟩⟩

theorem repOF_iff {H : Hp} : ∀ {kvs : List (Str × D)} {ws : List (Str × V)} {fp : List Addr}, RepOF H kvs ws fp ↔ RepOP H kvs ws fp
  | [], _, _ => Iff.rfl
  | (k, d) :: r, ws, fp => by
    unfold RepOF RepOP
    constructor
    · rintro ⟨v, s, f1, f2, e, ef, h, q⟩; exact ⟨v, s, f1, f2, e, ef, h, repOF_iff.mp q⟩
    · rintro ⟨v, s, f1, f2, e, ef, h, q⟩; exact ⟨v, s, f1, f2, e, ef, h, repOF_iff.mpr q⟩
/-! ### paths -/
inductive Stp where
  | ix (n : Nat) | kK (k : Key) | kT (k : List Key) | fld (x : Str)
def getS : D → Stp → Option D
  | .tup xs, .ix n => xs[n]?
  | .lst xs, .ix n => xs[n]?
  | .dK kvs, .kK k => getA kvs k
  | .dT kvs, .kT k => getA kvs k
  | .obj _ fs, .fld x => getA fs x
  | _, _ => none
def setSt (d : D) (s : Stp) (x : D) : D := match d, s with
  | .tup xs, .ix n => .tup (xs.set n x)
  | .lst xs, .ix n => .lst (xs.set n x)
  | .dK kvs, .kK k => .dK (setA kvs k x)
  | .dT kvs, .kT k => .dT (setA kvs k x)
  | .obj C fs, .fld y => .obj C (setA fs y x)
  | d, _ => d
def getP : D → List Stp → Option D
  | d, [] => some d
  | d, s :: p => (getS d s).bind fun e => getP e p
def setP : D → List Stp → D → D
  | _, [], x => x
  | d, s :: p, x => match getS d s with
    | some e => setSt d s (setP e p x)
    | none => d
def StpV (H : Hp) (v : V) (s : Stp) (v' : V) : Prop := ∃ a, v = .ref a ∧ match s with
  | .ix n => ∃ vs, (H a = some (.tup vs) ∨ H a = some (.lst vs)) ∧ vs[n]? = some v'
  | .kK k => ∃ ws, H a = some (.dK ws) ∧ valV ws k = some v'
  | .kT k => ∃ ws, H a = some (.dT ws) ∧ valV ws k = some v'
  | .fld x => ∃ C dx ws, H a = some (.ins C dx ws) ∧ valV ws x = some v'
def AtV (H : Hp) : V → List Stp → V → Prop
  | v, [], v' => v' = v
  | v, s :: p, v' => ∃ w, StpV H v s w ∧ AtV H w p v'
theorem StpV.up {H H' : Hp} (h : ∀ a o, H a = some o → H' a = some o) {v : V} {s : Stp} {v' : V} (q : StpV H v s v') : StpV H' v s v' := by
  obtain ⟨a, e, q⟩ := q
  refine ⟨a, e, ?_⟩
  cases s with
  | ix n => obtain ⟨vs, q, g⟩ := q; exact ⟨vs, q.imp (h _ _) (h _ _), g⟩
  | kK k => obtain ⟨vs, q, g⟩ := q; exact ⟨vs, h _ _ q, g⟩
  | kT k => obtain ⟨vs, q, g⟩ := q; exact ⟨vs, h _ _ q, g⟩
  | fld x => obtain ⟨C, dx, vs, q, g⟩ := q; exact ⟨C, dx, vs, h _ _ q, g⟩
theorem AtV.up {H H' : Hp} (h : ∀ a o, H a = some o → H' a = some o) : ∀ {p : List Stp} {v v' : V}, AtV H v p v' → AtV H' v p v'
  | [], _, _, q => q
  | _ :: _, _, _, ⟨w, q, r⟩ => ⟨w, q.up h, AtV.up h r⟩
theorem StpV.fn {H : Hp} {v : V} {s : Stp} {v1 v2 : V} (q : StpV H v s v1) (r : StpV H v s v2) : v1 = v2 := by
  obtain ⟨a, e, q⟩ := q
  obtain ⟨b, e2, r⟩ := r
  subst e
  cases e2
  cases s with
  | ix n =>
    obtain ⟨vs, q, g⟩ := q
    obtain ⟨ws, r, g2⟩ := r
    have : vs = ws := by
      rcases q with q | q <;> rcases r with r | r <;> rw [q] at r <;> cases r <;> rfl
    subst this
    rw [g] at g2; cases g2; rfl
  | kK k => obtain ⟨vs, q, g⟩ := q; obtain ⟨ws, r, g2⟩ := r; rw [q] at r; cases r; rw [g] at g2; cases g2; rfl
  | kT k => obtain ⟨vs, q, g⟩ := q; obtain ⟨ws, r, g2⟩ := r; rw [q] at r; cases r; rw [g] at g2; cases g2; rfl
  | fld x => obtain ⟨C, dx, vs, q, g⟩ := q; obtain ⟨C', dx', ws, r, g2⟩ := r; rw [q] at r; cases r; rw [g] at g2; cases g2; rfl
theorem AtV.fn {H : Hp} : ∀ {p : List Stp} {v v1 v2 : V}, AtV H v p v1 → AtV H v p v2 → v1 = v2
  | [], _, _, _, q, r => q.trans r.symm
  | _ :: _, _, _, _, ⟨w, q, r⟩, ⟨w2, q2, r2⟩ => by
    have e := q.fn q2
    subst e
    exact AtV.fn r r2
theorem AtV.snoc {H : Hp} {s : Stp} : ∀ {p : List Stp} {v w v' : V}, AtV H v p w → StpV H w s v' → AtV H v (p ++ [s]) v'
  | [], _, _, _, q, r => by rw [show _ = _ from q] at r; exact ⟨_, r, rfl⟩
  | _ :: _, _, _, _, ⟨w, q, r⟩, r2 => ⟨w, q, AtV.snoc r r2⟩
theorem RepO.step {H : Hp} {d d' : D} {v : V} {fp : List Addr} {s : Stp} (h : RepO H d v fp) (g : getS d s = some d') :
    ∃ v' f1 f f2, fp = f1 ++ (f ++ f2) ∧ StpV H v s v' ∧ RepO H d' v' f ∧ ∀ (H' : Hp) (d'' : D) (f' : List Addr), At H H' (f1 ++ f2) → RepO H' d'' v' f' → RepO H' (setSt d s d'') v (f1 ++ (f' ++ f2)) ∧ StpV H' v s v' := by
  cases d with
  | tup ds =>
    cases s with
    | ix n =>
      obtain ⟨a, vs, e, ha, r⟩ := h
      obtain ⟨v', f1, f, f2, e1, e2, e3, e4⟩ := r.focus g
      exact ⟨v', f1, f, f2, e1, ⟨a, e, vs, .inl ha, e2⟩, e3, fun H' d'' f' at' o => ⟨⟨a, vs, e, at'.t _ _ ha, e4 H' d'' f' at' o⟩, a, e, vs, .inl (at'.t _ _ ha), e2⟩⟩
    | _ => cases g
  | lst ds =>
    cases s with
    | ix n =>
      obtain ⟨a, vs, fq, e, ha, ef, r⟩ := h
      obtain ⟨v', f1, f, f2, e1, e2, e3, e4⟩ := r.focus g
      subst ef e1
      exact ⟨v', a :: f1, f, f2, rfl, ⟨a, e, vs, .inr ha, e2⟩, e3, fun H' d'' f' at' o => ⟨⟨a, vs, _, e, (at'.a a (by simp)).trans ha, rfl, e4 H' d'' f' (at'.sub fun p hp => List.mem_cons_of_mem _ hp) o⟩, a, e, vs, .inr ((at'.a a (by simp)).trans ha), e2⟩⟩
    | _ => cases g
  | dK kvs =>
    cases s with
    | kK k =>
      obtain ⟨a, ws, fq, e, ha, ef, r⟩ := h
      obtain ⟨v', f1, f, f2, e1, e2, e3, e4⟩ := (repOK_iff.mp r).focus g
      subst ef e1
      exact ⟨v', a :: f1, f, f2, rfl, ⟨a, e, ws, ha, e2⟩, e3, fun H' d'' f' at' o => ⟨⟨a, ws, _, e, (at'.a a (by simp)).trans ha, rfl, repOK_iff.mpr (e4 H' d'' f' (at'.sub fun p hp => List.mem_cons_of_mem _ hp) o)⟩, a, e, ws, (at'.a a (by simp)).trans ha, e2⟩⟩
    | _ => cases g
  | dT kvs =>
    cases s with
    | kT k =>
      obtain ⟨a, ws, fq, e, ha, ef, r⟩ := h
      obtain ⟨v', f1, f, f2, e1, e2, e3, e4⟩ := (repOT_iff.mp r).focus g
      subst ef e1
      exact ⟨v', a :: f1, f, f2, rfl, ⟨a, e, ws, ha, e2⟩, e3, fun H' d'' f' at' o => ⟨⟨a, ws, _, e, (at'.a a (by simp)).trans ha, rfl, repOT_iff.mpr (e4 H' d'' f' (at'.sub fun p hp => List.mem_cons_of_mem _ hp) o)⟩, a, e, ws, (at'.a a (by simp)).trans ha, e2⟩⟩
    | _ => cases g
  | obj C fs =>
    cases s with
    | fld x =>
      obtain ⟨a, dx, ws, fq, e, ha, ef, r⟩ := h
      obtain ⟨v', f1, f, f2, e1, e2, e3, e4⟩ := (repOF_iff.mp r).focus g
      subst ef e1
      exact ⟨v', a :: f1, f, f2, rfl, ⟨a, e, C, dx, ws, ha, e2⟩, e3, fun H' d'' f' at' o => ⟨⟨a, dx, ws, _, e, (at'.a a (by simp)).trans ha, rfl, repOF_iff.mpr (e4 H' d'' f' (at'.sub fun p hp => List.mem_cons_of_mem _ hp) o)⟩, a, e, C, dx, ws, (at'.a a (by simp)).trans ha, e2⟩⟩
    | _ => cases g
  | _ => cases s <;> cases g
theorem RepO.path {H : Hp} : ∀ {p : List Stp} {d d' : D} {v : V} {fp : List Addr}, RepO H d v fp → getP d p = some d' →
    ∃ v' f1 f f2, fp = f1 ++ (f ++ f2) ∧ AtV H v p v' ∧ RepO H d' v' f ∧ ∀ (H' : Hp) (d'' : D) (f' : List Addr), At H H' (f1 ++ f2) → RepO H' d'' v' f' → RepO H' (setP d p d'') v (f1 ++ (f' ++ f2)) ∧ AtV H' v p v'
  | [], d, d', v, fp, h, g => by
    have e : d = d' := by simpa [getP] using g
    subst e
    exact ⟨v, [], fp, [], by simp, rfl, h, fun H' d'' f' _ o => ⟨by simpa [setP] using o, rfl⟩⟩
  | s :: p, d, d', v, fp, h, g => by
    obtain ⟨e, g1, g2⟩ := Option.bind_eq_some_iff.mp g
    obtain ⟨w, f1, f, f2, e1, e2, e3, e4⟩ := h.step g1
    obtain ⟨v', h1, hf, h2, k1, k2, k3, k4⟩ := RepO.path e3 g2
    subst e1 k1
    refine ⟨v', f1 ++ h1, hf, h2 ++ f2, by simp, ⟨w, e2, k2⟩, k3, fun H' d'' f' at' o => ?_⟩
    have o2 := k4 H' d'' f' (at'.sub fun q hq => by rcases List.mem_append.mp hq with hq | hq <;> simp [hq]) o
    have := e4 H' (setP e p d'') (h1 ++ (f' ++ h2)) (at'.sub fun q hq => by rcases List.mem_append.mp hq with hq | hq <;> simp [hq]) o2.1
    refine ⟨?_, w, this.2, o2.2⟩
    rw [show f1 ++ h1 ++ (f' ++ (h2 ++ f2)) = f1 ++ (h1 ++ (f' ++ h2) ++ f2) by simp]
    show RepO H' (match getS d s with | some e => setSt d s (setP e p d'') | none => d) v _
    rw [g1]
    exact this.1

/-- what slot j owns is changed at the end of a path: within f, and by new things -/
theorem SIf.pathWrite {fp} {G0 H0 G H H' : Hp} {own : Owns} {σ : L2.St} {ρ : Env} (I : SIf fp G0 H0 own G H σ ρ) {j : Nat} {d1 d'' : D} {v0 v' : V} {p : List Stp} {f1 f f2 f' : List Addr} (hj : own.lookup j = some .dp) (hv : σ[j]? = some (some v0)) (nd : (fp j).Nodup) (ef : fp j = f1 ++ (f ++ f2))
    (up : ∀ (H' : Hp) (d'' : D) (f' : List Addr), At H H' (f1 ++ f2) → RepO H' d'' v' f' → RepO H' (setP d1 p d'') v0 (f1 ++ (f' ++ f2)) ∧ AtV H' v0 p v') (o : RepO H' d'' v' f') (nd' : f'.Nodup) (hf : ∀ q ∈ f', q ∈ f ∨ (G q = none ∧ H0 q = none ∧ ∀ i, q ∉ fp i))
    (hH : ∀ a, a ∉ f → H' a = H a ∨ (H a = none ∧ H0 a = none)) : (∃ fpn, SIf fpn G0 H0 own G H' σ (ρ.set j (some (setP d1 p d''))) ∧ ∀ i q, q ∈ fpn i → q ∈ fp i ∨ q ∈ f') ∧ AtV H' v0 p v' := by
  have nd1 := List.nodup_append.mp (ef ▸ nd)
  have nd2 := List.nodup_append.mp nd1.2.1
  have nf : ∀ q, q ∈ f1 ++ f2 → q ∉ f := fun q hq hq2 => by
    rcases List.mem_append.mp hq with hq | hq
    · exact nd1.2.2 q hq q (List.mem_append_left _ hq2) rfl
    · exact nd2.2.2 q hq2 q hq rfl
  have inj : ∀ q, q ∈ f1 ++ f2 → q ∈ fp j := fun q hq => by rw [ef]; rcases List.mem_append.mp hq with hq | hq <;> simp [hq]
  have inf : ∀ q, q ∈ f → q ∈ fp j := fun q hq => by rw [ef]; simp [hq]
  have tup : ∀ a vs, H a = some (.tup vs) → H' a = some (.tup vs) := fun a vs e => by
    have hna : a ∉ f := fun hq => by have := (I.fpm j a (inf a hq)).2.2; rw [e] at this; exact this
    rcases hH a hna with q | q
    · rw [q]; exact e
    · rw [q.1] at e; cases e
  have at' : At H H' (f1 ++ f2) := ⟨fun q hq => by
    rcases hH q (nf q hq) with z | z
    · exact z
    · have := (I.fpm j q (inj q hq)).2.2; rw [z.1] at this; exact this.elim, tup⟩
  have o2 := up H' d'' f' at' o
  have fresh : ∀ q ∈ f', q ∉ f1 ++ f2 := fun q hq hq2 => by
    rcases hf q hq with z | z
    · exact nf q hq2 z
    · exact z.2.2 j (inj q hq2)
  have ndn : (f1 ++ (f' ++ f2)).Nodup := List.nodup_append.mpr ⟨nd1.1, List.nodup_append.mpr ⟨nd', nd2.2.1, fun a ha b hb z => fresh a ha (by subst z; simp [hb])⟩, fun a ha b hb z => by
    subst z
    rcases List.mem_append.mp hb with hb | hb
    · exact fresh a hb (by simp [ha])
    · exact nd1.2.2 a ha a (by simp [hb]) rfl⟩
  have src : ∀ q ∈ f1 ++ (f' ++ f2), q ∈ fp j ∨ (G q = none ∧ H0 q = none ∧ ∀ i, q ∉ fp i) := fun q hq => by
    rcases List.mem_append.mp hq with hq | hq
    · exact .inl (inj q (by simp [hq]))
    · rcases List.mem_append.mp hq with hq | hq
      · rcases hf q hq with z | z
        · exact .inl (inf q z)
        · exact .inr z
      · exact .inl (inj q (by simp [hq]))
  refine ⟨⟨_, I.change (k := .dp) (fj := f1 ++ (f' ++ f2)) hj hv (fun a ha => hH a fun z => ha (inf a z)) ⟨o2.1, ndn⟩ (fun q hq => ?_) (fun i q hne hq hq2 => ?_) fun q hq vs z => ?_, fun i q hq => ?_⟩, o2.2⟩
  · rcases src q hq with z | z
    · exact ⟨(I.fpm j q z).1, (I.fpm j q z).2.1⟩
    · exact ⟨z.1, z.2.1⟩
  · rcases src q hq2 with z | z
    · exact I.fpd i j q hne hq z
    · exact z.2.2 i hq
  · have := (I.fpm j q hq).2.2
    rw [z] at this
    exact this
  · by_cases hi : i = j
    · subst hi
      rw [fpSet_self] at hq
      rcases List.mem_append.mp hq with hq | hq
      · exact .inl (inj q (by simp [hq]))
      · rcases List.mem_append.mp hq with hq | hq
        · exact .inr hq
        · exact .inl (inj q (by simp [hq]))
    · rw [fpSet_ne hi] at hq
      exact .inl hq
theorem SIf.pathWriteS {fp} {G0 H0 G H H' : Hp} {own : Owns} {σ : L2.St} {ρ : Env} (I : SIf fp G0 H0 own G H σ ρ) {j : Nat} {d1 d'' : D} {v0 v' : V} {p : List Stp} {f1 f f2 f' : List Addr} (hj : own.lookup j = some .dp) (hv : σ[j]? = some (some v0)) (nd : (fp j).Nodup) (ef : fp j = f1 ++ (f ++ f2))
    (up : ∀ (H' : Hp) (d'' : D) (f' : List Addr), At H H' (f1 ++ f2) → RepO H' d'' v' f' → RepO H' (setP d1 p d'') v0 (f1 ++ (f' ++ f2)) ∧ AtV H' v0 p v') (o : RepO H' d'' v' f') (nd' : f'.Nodup) (hf : ∀ q ∈ f', q ∈ f ∨ (G q = none ∧ H0 q = none ∧ ∀ i, q ∉ fp i))
    (hH : ∀ a, a ∉ f → H' a = H a ∨ (H a = none ∧ H0 a = none)) : SI G0 H0 own G H' σ (ρ.set j (some (setP d1 p d''))) :=
  let ⟨⟨fpn, W, _⟩, _⟩ := I.pathWrite hj hv nd ef up o nd' hf hH
  ⟨fpn, W⟩
end DL

/-! DL12: expressions that name a place in what a slot owns; statements that change it. -/
namespace DL
open PySem PySem.Spec PyProof.Rows L2

/-! ### d.setdefault(k, x), whatever the keys -/
section
variable {X : Cx} {pins : List (Addr × Obj)} {σ : L2.St} {H : Hp} {s : Shared} {a b : Addr} {u r : Value} {d : V} {A : Around} {E : Value → Shared → Prop}
theorem d_setdT {kvs : List (List Key × V)} {k : List Key} {Q : Value → Shared → Prop} (hu : A.units + 1 < cLine) (I : Inv X pins σ H s) (e : H a = some (.dT kvs)) (eb : H b = some (.tup (k.map kV))) (rd : RelV d r) (l : kvs.length < sizeLine)
    (h1 : ∀ v, valV kvs k = some v → ∀ (w' : Value) (s' : Shared), Inv X pins σ H s' → RelV v w' → Q w' s') (h2 : valV kvs k = none → ∀ (w' : Value) (s' : Shared), Inv X pins σ (upd H a (.dT (putK kvs k d))) s' → RelV d w' → Q w' s') :
    wpAny (model X.prog X.w) A (call (.builtin "dict.setdefault") [.ref a, .ref b, r]) Q E s := by
  obtain ⟨z, hd, xs, rel, dd⟩ := dt_of I.hok e
  have hz : xs.length ≤ sizeLine := by rw [← Paired.length rel]; exact z
  have hl : (putK kvs k d).length ≤ sizeLine := by have := length_putK kvs k d; omega
  refine PySem.call_setdefault_heap (hsz := hz) (tupleKind_room_in1 hu) (key_of I.hok eb) hd dd (fun p hp => ?_) fun hn h' dd' hs => ?_
  · have q := rel.val k
    rw [hp] at q
    cases q0 : valV kvs k with
    | none => rw [q0] at q; exact (show False from q).elim
    | some v0 => rw [q0] at q; exact h1 v0 q0 _ _ (I.tok _) q
  · have q := rel.val k
    rw [hn] at q
    cases q0 : valV kvs k with
    | some v0 => rw [q0] at q; exact (show False from q).elim
    | none =>
      obtain ⟨q, es, ep, hq, h3, h4, h5, _, h6⟩ := dd'
      refine h2 q0 _ _ (d_write I (by rw [e]; exact True.intro) hs ⟨q, hq⟩ ⟨hl, hd, _, (rel.put k eb rd).keeps fun c ys ec => ?_, q, es, ep, hq, h3, h4, h5, h6⟩) rd
      rw [upd_ne (ne_of ec e (fun z => nomatch z))]
      exact ec
end
def DSetd (H : Hp) (a : Addr) (y z : V) (Q : VK) : Prop :=
  (∃ (kvs : List (Key × V)) (k : Key), H a = some (.dK kvs) ∧ y = kV k ∧ kvs.length < sizeLine ∧ (∀ v, valV kvs k = some v → Q v H) ∧ (valV kvs k = none → Q z (upd H a (.dK (putK kvs k z))))) ∨
  ∃ (kvs : List (List Key × V)) (k : List Key) (b : Addr), H a = some (.dT kvs) ∧ y = .ref b ∧ H b = some (.tup (k.map kV)) ∧ kvs.length < sizeLine ∧ (∀ v, valV kvs k = some v → Q v H) ∧ (valV kvs k = none → Q z (upd H a (.dT (putK kvs k z))))
def tSetdA (td ty tx : TE) : TE := fun σ H Q => td σ H fun x H1 => ∃ a, x = .ref a ∧ IsD H1 a ∧ ty σ H1 fun y H2 => tx σ H2 fun z H3 => DSetd H3 a y z Q
theorem pe_setdA {X : Cx} {o e f : Expr} {td ty tx : TE} {apos cpos : Pos} (hu : X.A.units + 1 < cLine) (ho : PE X o td) (he : PE X e ty) (hf : PE X f tx) (m : M2 X o "setdefault" apos e f cpos) : PE X (.Call (.Attribute o "setdefault" apos) [e, f] [] cpos) (tSetdA td ty tx) := by
  refine ⟨fun pins s σ H Q I h => ?_⟩
  refine wpAny_Call_method m.base m.few m.line PySem.F.plainAttrs_dict PySem.F.slot_dict_setdefault PySem.F.type_dict_setdefault (thn (ho.run pins s σ H _ I h) fun u s1 ⟨x, H1, I1, rx, a, ex, d, q1⟩ => ?_)
  subst ex
  obtain rfl : u = Value.ref a := rx
  obtain ⟨t1, t2, _⟩ := isD_at I1 d
  refine ⟨t1, t2, ?_⟩
  rw [m.trees]
  refine Calls.callWith_builtin rfl (Calls.evalArgs_plain (Calls.spliced_cons (thn (he.run pins s1 σ H1 _ I1 q1) fun iv s2 ⟨y, H2, I2, ry, q2⟩ =>
    Calls.spliced_cons (thn (hf.run pins s2 σ H2 _ I2 q2) fun fv s3 ⟨z, H3, I3, rz, q3⟩ => Calls.spliced_nil ?_))))
  rcases q3 with ⟨kvs, k, ea, ey, hl, q3, q4⟩ | ⟨kvs, k, b, ea, ey, eb, hl, q3, q4⟩
  · subst ey
    exact d_setd I3 ea ry rz hl (fun v hv w' s4 I4 rw' => ⟨v, _, I4, rw', q3 v hv⟩) fun hn w' s4 I4 rw' => ⟨z, _, I4, rw', q4 hn⟩
  · subst ey
    cases (show iv = Value.ref b from ry)
    exact d_setdT hu I3 ea eb rz hl (fun v hv w' s4 I4 rw' => ⟨v, _, I4, rw', q3 v hv⟩) fun hn w' s4 I4 rw' => ⟨z, _, I4, rw', q4 hn⟩

/-! ### places -/
abbrev Sel := Env → Res (D × List Stp)
/-- what stays while a place is looked at -/
structure DPk (j : Nat) (fp fp' : Nat → List Addr) (G H G' H' : Hp) : Prop where
  keep : ∀ a o, H a = some o → a ∉ fp j → H' a = some o
  fps : ∀ i q, q ∈ fp' i → q ∈ fp i ∨ q ∈ fp j ∨ H q = none
  reg : ∀ q o, G' q = some o → G q = some o ∨ H q = none ∨ ∃ vs, o = .tup vs
  le : ∀ q o, G q = some o → G' q = some o
theorem DPk.refl {j : Nat} {fp : Nat → List Addr} {G H : Hp} : DPk j fp fp G H G H := ⟨fun _ _ e _ => e, fun i _ h => .inl h, fun _ _ e => .inl e, fun _ _ e => e⟩
theorem DPk.up {j : Nat} {fp fp' : Nat → List Addr} {G H G' H' H2 : Hp} (k : DPk j fp fp' G H G' H') (h : ∀ a o, H' a = some o → H2 a = some o) : DPk j fp fp' G H G' H2 := ⟨fun a o e n => h a o (k.keep a o e n), k.fps, k.reg, k.le⟩
/-- e names a place in what slot j owns (which may change while e is looked at) -/
def DP (X : Cx) (own : Owns) (j : Nat) (e : Expr) (sel : Sel) : Prop :=
  ∃ t : TE, PE X e t ∧ ∀ (fp : Nat → List Addr) (G0 H0 G H : Hp) (σ : L2.St) (ρ : Env) (Q : VK), SIf fp G0 H0 own G H σ ρ →
    (∃ d1 p, sel ρ = .ok (d1, p) ∧ ∀ (fp' : Nat → List Addr) (G' H' : Hp) (v0 v' : V), DPk j fp fp' G H G' H' → SIf fp' G0 H0 own G' H' σ (ρ.set j (some d1)) → σ[j]? = some (some v0) → AtV H' v0 p v' → Q v' H') → t σ H Q
def stpOf : D → D → Option Stp
  | .lst xs, .int i => (ixN xs.length i).map .ix
  | .tup xs, .int i => (ixN xs.length i).map .ix
  | .dK _, k => (keyD k).map .kK
  | .dT _, .tup ks => (keysD ks).map .kT
  | _, _ => none
def pName (j : Nat) : Sel := fun ρ => match ρ[j]? with
  | some (some d) => .ok (d, [])
  | _ => .no
def noEx2 {α : Type} : Res α → Option α
  | .ok a => some a
  | _ => none
def stepTo (d1 : D) (p : List Stp) (k : D) : Res (D × List Stp) := match getP d1 p with
  | some c => (match stpOf c k with
    | some s => if (getS c s).isSome = true then .ok (d1, p ++ [s]) else .no
    | none => .no)
  | none => .no
def pIx (j : Nat) (sel : Sel) (f : Env → Res D) : Sel := fun ρ => noEx (sel ρ) >>= fun x => noEx (f (ρ.set j (some x.1))) >>= fun k => stepTo x.1 x.2 k
theorem set_self {ρ : Env} {j : Nat} {x : Option D} (h : ρ[j]? = some x) : ρ.set j x = ρ := by
  apply List.ext_getElem?
  intro i
  by_cases hi : j = i
  · subst hi
    have := (List.getElem?_eq_some_iff.mp h).1
    rw [List.getElem?_set_self this, h]
  · rw [List.getElem?_set_ne hi]
theorem get_set {ρ : Env} {j : Nat} {d d1 : D} (h : ρ[j]? = some (some d)) : (ρ.set j (some d1))[j]? = some (some d1) := List.getElem?_set_self (List.getElem?_eq_some_iff.mp h).1
section
variable {X : Cx} {J : Jd} {own own1 : Owns} {j : Nat} {e e2 e3 : Expr} {sel : Sel} {f f3 : Env → Res D} {pos : Pos}
theorem dp_name {x : Str} (hj : own.lookup j = some .dp) (pn : PE X (.Name x pos) (tVar j)) : DP X own j (.Name x pos) (pName j) := by
  refine ⟨_, pn, fun fp G0 H0 G H σ ρ Q I ⟨d1, p, e, q⟩ => ?_⟩
  unfold pName at e
  split at e
  · rename_i d h
    cases e
    obtain ⟨v, hv, o⟩ := I.own j .dp _ hj h
    exact ⟨v, hv, q fp G H v v .refl (by rw [set_self h]; exact I) hv rfl⟩
  · cases e
theorem glE_ok {W : WX} {G H : Hp} {σ : L2.St} {Q : VK} {r : Res D} {d : D} (h : r = .ok d) (q : ∀ G' H' v, Ext G H G' H' → Rep G' d v → Q v H') : GlE X.mg W G H σ Q r := by
  rw [h]; exact fun G' H' e v rv => q G' H' v e rv
/-- what stands at the place -/
theorem SIf.place {fp} {G0 H0 G H : Hp} {σ : L2.St} {ρ : Env} {d1 d' : D} {v0 v' : V} {p : List Stp} (I : SIf fp G0 H0 own G H σ ρ) (hj : own.lookup j = some .dp) (hd : ρ[j]? = some (some d1)) (hv : σ[j]? = some (some v0)) (ha : AtV H v0 p v') (g : getP d1 p = some d') :
    ∃ f1 f f2, (fp j).Nodup ∧ fp j = f1 ++ (f ++ f2) ∧ RepO H d' v' f ∧ ∀ (H' : Hp) (d'' : D) (f' : List Addr), At H H' (f1 ++ f2) → RepO H' d'' v' f' → RepO H' (setP d1 p d'') v0 (f1 ++ (f' ++ f2)) ∧ AtV H' v0 p v' := by
  obtain ⟨v, hv', o, nd⟩ := I.own j .dp _ hj hd
  rw [hv] at hv'; cases hv'
  obtain ⟨w, f1, f, f2, e1, e2, e3, e4⟩ := o.path g
  have := e2.fn ha
  subst this
  exact ⟨f1, f, f2, nd, e1, e3, e4⟩
theorem step_ix {H G2 : Hp} {c k : D} {s : Stp} {v' kv : V} {fq : List Addr} {d' : D} {Q : VK} (s2 : Sub G2 H) (rc : RepO H c v' fq) (rk : Rep G2 k kv) (es : stpOf c k = some s) (eg : getS c s = some d') (qq : ∀ w, StpV H v' s w → Q w H) : rIxAny X.K v' kv H Q := by
  obtain ⟨w, f1, f, f2, e1, e2, e3, e4⟩ := rc.step eg
  have q := qq w e2
  obtain ⟨a, ea, e2⟩ := e2
  clear e3 e4
  cases c with
  | lst ds =>
    cases k with
    | int i =>
      simp only [stpOf, Option.map_eq_some_iff] at es
      obtain ⟨n, hn, rfl⟩ := es
      obtain ⟨vs, hvs, gv⟩ := e2
      obtain ⟨a2, vs2, fq2, ea2, ha2, _, r⟩ := rc
      rw [ea] at ea2; cases ea2
      have : vs = vs2 := by rcases hvs with z | z <;> rw [z] at ha2 <;> cases ha2; rfl
      subst this
      have hl : vs.length = ds.length := (r.rep (G := H) ⟨fun _ _ => rfl, fun _ _ e => e⟩).length
      exact .inl ⟨a, vs, i, w, ea, rk, SqL.of ha2, by unfold L2.atI; rw [hl, hn]; exact gv, q⟩
    | _ => cases es
  | tup ds =>
    cases k with
    | int i =>
      simp only [stpOf, Option.map_eq_some_iff] at es
      obtain ⟨n, hn, rfl⟩ := es
      obtain ⟨vs, hvs, gv⟩ := e2
      obtain ⟨a2, vs2, ea2, ha2, r⟩ := rc
      rw [ea] at ea2; cases ea2
      have : vs = vs2 := by rcases hvs with z | z <;> rw [z] at ha2 <;> cases ha2; rfl
      subst this
      have hl : vs.length = ds.length := (r.rep (G := H) ⟨fun _ _ => rfl, fun _ _ e => e⟩).length
      exact .inr (.inl ⟨a, vs, i, w, ea, rk, SqT.of ha2, by unfold L2.atI; rw [hl, hn]; exact gv, q⟩)
    | _ => cases es
  | dK kvs =>
    have es : (keyD k).map Stp.kK = some s := by cases k <;> exact es
    obtain ⟨kk, hk, rfl⟩ := Option.map_eq_some_iff.mp es
    obtain ⟨ws, hws, gv⟩ := e2
    exact .inr (.inr (.inr ⟨a, w, ea, by rw [keyD_rep hk rk, ← gv]; exact DGet.k hws, q⟩))
  | dT kvs =>
    cases k with
    | tup ks =>
      simp only [stpOf, Option.map_eq_some_iff] at es
      obtain ⟨kk, hk, rfl⟩ := es
      obtain ⟨ws, hws, gv⟩ := e2
      obtain ⟨b, vs, eb, hb, rs⟩ := rk
      subst eb
      refine .inr (.inr (.inr ⟨a, w, ea, ?_, q⟩))
      rw [← gv]
      exact DGet.t hws (by rw [← keysD_rep hk rs]; exact s2 _ _ hb)
    | _ => cases es
  | _ => cases k <;> cases es
theorem dp_ix (hu : X.A.units + 1 < cLine) (hj : own.lookup j = some .dp) (d1 : DP X own j e sel) (d2 : DE X W0 e2 f) (hs : PlainIx e2) : DP X own j (.Subscript e e2 pos) (pIx j sel f) := by
  obtain ⟨t1, p1, h1⟩ := d1
  obtain ⟨t2, p2, h2⟩ := d2
  refine ⟨_, pe_ix (ix_any hu) p1 p2 hs, fun fp G0 H0 G H σ ρ Q I ⟨dd, p, es, q⟩ => ?_⟩
  unfold pIx at es
  obtain ⟨⟨dx, px⟩, e1, es⟩ := bind_ok' es
  obtain ⟨k, e2, es⟩ := bind_ok' es
  have e1 := noEx_ok e1
  have e2 := noEx_ok e2
  unfold stepTo at es
  split at es
  · rename_i c gc
    split at es
    · rename_i s ss
      split at es
      · rename_i gs
        cases es
        obtain ⟨d', eg⟩ := Option.isSome_iff_exists.mp gs
        refine h1 fp G0 H0 G H σ ρ _ I ⟨_, px, e1, fun fp' G' H' v0 v' kp I' hv ha => ?_⟩
        have hr : (ρ.set j (some dx))[j]? = some (some dx) := by
          have hl : j < ρ.length := by have := (List.getElem?_eq_some_iff.mp hv).1; have := I.len; omega
          exact List.getElem?_set_self hl
        refine h2 _ H' σ _ _ (view_ext I'.ext).s I'.view (glE_ok e2 fun G2 H2 kv ex rk => ?_)
        have I2 := I'.grow (Ext.up I'.sub ex.h)
        have ha2 := ha.up ex.h
        obtain ⟨f1, f, f2, nd, ef, o, _⟩ := I2.place hj hr hv ha2 gc
        exact step_ix ex.s o rk ss eg fun w hw => q fp' G' H2 v0 w (kp.up ex.h) I2 hv (ha2.snoc hw)
      · cases es
    · cases es
  · cases es
end

/-! ### d.setdefault(k, new) as a place -/
def setdTo (d1 : D) (p : List Stp) (k x : D) : Res (D × List Stp) := match getP d1 p with
  | some (.dK kvs) => (match keyD k with
    | some kk => if kvs.length < sizeLine then (match getA kvs kk with
      | some _ => .ok (d1, p ++ [.kK kk])
      | none => .ok (setP d1 p (.dK (putA kvs kk x)), p ++ [.kK kk])) else .no
    | none => .no)
  | some (.dT kvs) => (match k with
    | .tup ks => (match keysD ks with
      | some kk => if kvs.length < sizeLine then (match getA kvs kk with
        | some _ => .ok (d1, p ++ [.kT kk])
        | none => .ok (setP d1 p (.dT (putA kvs kk x)), p ++ [.kT kk])) else .no
      | none => .no)
    | _ => .no)
  | _ => .no
def isDicP (d1 : D) (p : List Stp) : Bool := match getP d1 p with
  | some d => isDic d
  | none => false
def pSetd (j : Nat) (sel : Sel) (f f3 : Env → Res D) : Sel := fun ρ => noEx (sel ρ) >>= fun x => if isDicP x.1 x.2 = true then noEx (f (ρ.set j (some x.1))) >>= fun k => noEx (f3 (ρ.set j (some x.1))) >>= fun y => setdTo x.1 x.2 k y else .no
theorem dic_isD {H : Hp} {d : D} {v : V} {fq : List Addr} (o : RepO H d v fq) (h : isDic d = true) : ∃ a, v = .ref a ∧ IsD H a ∧ a ∈ fq := by
  cases d with
  | dK kvs => obtain ⟨a, ws, fr, e, ha, ef, _⟩ := o; subst ef; exact ⟨a, e, .inl ⟨ws, .inl ha⟩, List.mem_cons_self⟩
  | dT kvs => obtain ⟨a, ws, fr, e, ha, ef, _⟩ := o; subst ef; exact ⟨a, e, .inr ⟨ws, .inl ha⟩, List.mem_cons_self⟩
  | _ => cases h
section
variable {X : Cx} {J : Jd} {own own1 : Owns} {j : Nat} {e e2 e3 : Expr} {sel : Sel} {f f3 : Env → Res D} {pos apos : Pos}
/-- an owned thing made new, beside what slots own -/
theorem new_beside {fp} {G0 H0 G H Gv H1 H2 : Hp} {σ : L2.St} {ρ : Env} {fy : List Addr} (I : SIf fp G0 H0 own G H σ ρ) (hn : ∀ q ∈ fy, H q = none) : ∀ i q, q ∈ fp i → q ∉ fy := fun i q hq hq2 => by
  have := (I.fpm i q hq).2.2
  rw [hn q hq2] at this
  exact this
theorem dp_setd (hu : X.A.units + 1 < cLine) (hj : own.lookup j = some .dp) (d1 : DP X own j e sel) (d2 : DE X W0 e2 f) (d3 : DF X W0 .dp e3 f3) (m : M2 X e "setdefault" apos e2 e3 pos) : DP X own j (.Call (.Attribute e "setdefault" apos) [e2, e3] [] pos) (pSetd j sel f f3) := by
  obtain ⟨t1, p1, h1⟩ := d1
  obtain ⟨t2, p2, h2⟩ := d2
  obtain ⟨t3, p3, h3⟩ := d3
  refine ⟨_, pe_setdA hu p1 p2 p3 m, fun fp G0 H0 G H σ ρ Q I ⟨dd, p, es, q⟩ => ?_⟩
  unfold pSetd at es
  obtain ⟨⟨dx, px⟩, e1, es⟩ := bind_ok' es
  split at es
  · rename_i hdic
    obtain ⟨k, e2, es⟩ := bind_ok' es
    obtain ⟨y, e3, es⟩ := bind_ok' es
    have e1 := noEx_ok e1
    have e2 := noEx_ok e2
    have e3 := noEx_ok e3
    refine h1 fp G0 H0 G H σ ρ _ I ⟨_, px, e1, fun fp' G' H' v0 v' kp I' hv ha => ?_⟩
    have hr : (ρ.set j (some dx))[j]? = some (some dx) := by
      have hl : j < ρ.length := by have := (List.getElem?_eq_some_iff.mp hv).1; have := I.len; omega
      exact List.getElem?_set_self hl
    unfold isDicP at hdic
    cases gc : getP dx px with
    | none => rw [gc] at hdic; cases hdic
    | some c =>
      rw [gc] at hdic
      obtain ⟨_, _, _, _, _, oc, _⟩ := I'.place hj hr hv ha gc
      obtain ⟨a, ea, hD, _⟩ := dic_isD oc hdic
      refine ⟨a, ea, hD, ?_⟩
      have hsv := (view_ext I'.ext).s
      refine h2 _ H' σ _ _ hsv I'.view (glE_ok e2 fun G2 H2 kv ex rk => ?_)
      have I2 := I'.grow (Ext.up I'.sub ex.h)
      have hsv2 := (view_ext I2.ext).s
      refine h3 _ H2 σ _ _ hsv2 I2.view ?_
      rw [e3]
      intro G3 H3 ex3 yv fy oy hny
      have I3 := I2.grow (Ext.up I2.sub ex3.h)
      have ha3 := (ha.up ex.h).up ex3.h
      obtain ⟨f1, fc, f2, nd, ef, oc3, upd3⟩ := I3.place hj hr hv ha3 gc
      have rk3 : Rep H3 k kv := (rk.le (Le.of ex.s)).le (Le.of ex3.h)
      have nb := new_beside (Gv := G) (H1 := H) (H2 := H) I2 fun q hq => (hny q hq).2
      have inc : ∀ q ∈ fc, q ∈ fp' j := fun q hq => by rw [ef]; simp [hq]
      have ndc : fc.Nodup := (List.nodup_append.mp (List.nodup_append.mp (ef ▸ nd)).2.1).1
      have fyF : ∀ q ∈ fy, G' q = none ∧ H0 q = none ∧ ∀ i, q ∉ fp' i := fun q hq => ⟨upd_none I2.sub (hny q hq).2, I2.ext.free (hny q hq).2, fun i z => nb i q z hq⟩
      have fin : ∀ (o' : HO) (c' : D) (s : Stp) (a2 : Addr) (fc' : List Addr), a2 ∈ fc → RepO (upd H3 a2 o') c' v' fc' → fc'.Nodup → (∀ q ∈ fc', q ∈ fc ∨ q ∈ fy) → StpV (upd H3 a2 o') v' s yv → dd = setP dx px c' → p = px ++ [s] → Q yv (upd H3 a2 o') := by
        intro o' c' s a2 fc' hm oc' nd' hsub hst hdd hp
        have W := I3.pathWrite (H' := upd H3 a2 o') (d'' := c') (v' := v') hj hv nd ef upd3 oc' nd' (fun q hq => (hsub q hq).imp id fun z => fyF q z) (fun b hb => .inl (upd_ne fun z => hb (z ▸ hm)))
        obtain ⟨⟨fpn, W, hfp⟩, hat⟩ := W
        subst hp
        rw [List.set_set, ← hdd] at W
        refine q fpn _ _ v0 yv ⟨fun a o e n => ?_, fun i q hq => ?_, kp.reg, kp.le⟩ W hv (hat.snoc hst)
        · have e3 := ((kp.up ex.h).up ex3.h).keep a o e n
          rw [upd_ne]
          · exact e3
          · intro z
            subst z
            rcases kp.fps j a (inc a hm) with z | z | z
            · exact n z
            · exact n z
            · rw [z] at e; cases e
        · rcases hfp i q hq with z | z
          · exact kp.fps i q z
          · rcases hsub q z with z | z
            · exact .inr ((kp.fps j q (inc q z)).elim .inl id)
            · by_cases hj2 : q ∈ fp j
              · exact .inr (.inl hj2)
              · refine .inr (.inr ?_)
                cases r : H q with
                | none => rfl
                | some u =>
                  have := (kp.up ex.h).keep q u r hj2
                  rw [(hny q z).2] at this; cases this
      have ndy := oy.2
      have oyr := oy.1
      cases c with
      | dK kvs =>
        obtain ⟨a3, ws, fq, ea3, ha4, efc, r⟩ := oc3
        rw [ea] at ea3; cases ea3
        unfold setdTo at es
        rw [gc] at es
        simp only at es
        split at es
        · rename_i kk ek
          split at es
          · rename_i hz
            have ekv := keyD_rep ek rk3
            have rp := (repOK_iff.mp r)
            have lw : ws.length = kvs.length := (rp.rep (G := H3) ⟨fun _ _ => rfl, fun _ _ e => e⟩).length
            have gv := (rp.rep (G := H3) ⟨fun _ _ => rfl, fun _ _ e => e⟩).get (k := kk)
            refine .inl ⟨ws, kk, ha4, ekv, by rw [lw]; exact hz, fun v hvv => ?_, fun hvn => ?_⟩
            · rcases gv with ⟨_, z⟩ | ⟨x, v2, z1, z2, _⟩
              · rw [z] at hvv; cases hvv
              · rw [z1] at es
                cases es
                exact q fp' G' H3 v0 v ((kp.up ex.h).up ex3.h) I3 hv (ha3.snoc ⟨a, ea, ws, ha4, hvv⟩)
            · rcases gv with ⟨z, _⟩ | ⟨x, v2, z1, z2, _⟩
              · rw [z] at es
                cases es
                have na : a ∉ fq := (List.nodup_cons.mp (efc ▸ ndc)).1
                have nfy : a ∉ fy := fun hm => nb j a (inc a (by rw [efc]; simp)) hm
                have at1 : ∀ {fz : List Addr}, a ∉ fz → At H3 (upd H3 a (.dK (putK ws kk yv))) fz := fun hz => ⟨fun y hy => upd_ne fun z => hz (z ▸ hy), fun y ws' e => by rw [upd_ne (ne_of e ha4 (by intro z; cases z))]; exact e⟩
                obtain ⟨fq', p1', p2', p3'⟩ := (rp.at (at1 na)).put (k := kk) (oyr.at (at1 nfy)) (.inr z) (List.nodup_cons.mp (efc ▸ ndc)).2 ndy (fun q hq hq2 => nb j q (inc q (by rw [efc]; simp [hq])) hq2)
                refine fin _ (.dK (putA kvs kk y)) (.kK kk) a (a :: fq') (by rw [efc]; simp) ⟨a, _, fq', ea, upd_same, rfl, repOK_iff.mpr p1'⟩ (List.nodup_cons.mpr ⟨fun hm => (p2' a hm).elim na nfy, p3'⟩) (fun q hq => ?_) ⟨a, ea, _, upd_same, by rw [valV_put, if_pos rfl]⟩ rfl rfl
                rcases List.mem_cons.mp hq with z | hq
                · subst z; exact .inl (by rw [efc]; simp)
                · exact (p2' q hq).imp (fun z => by rw [efc]; simp [z]) id
              · rw [z2] at hvn; cases hvn
          · cases es
        · cases es
      | dT kvs =>
        obtain ⟨a3, ws, fq, ea3, ha4, efc, r⟩ := oc3
        rw [ea] at ea3; cases ea3
        unfold setdTo at es
        rw [gc] at es
        simp only at es
        split at es
        rotate_left
        · cases es
        rename_i ks
        obtain ⟨bk, vks, ebk, hbk, rsk⟩ := rk3
        split at es
        · rename_i kk ek
          split at es
          · rename_i hz
            have hb4 : H3 bk = some (.tup (kk.map kV)) := by rw [← keysD_rep ek rsk]; exact hbk
            have rp := (repOT_iff.mp r)
            have lw : ws.length = kvs.length := (rp.rep (G := H3) ⟨fun _ _ => rfl, fun _ _ e => e⟩).length
            have gv := (rp.rep (G := H3) ⟨fun _ _ => rfl, fun _ _ e => e⟩).get (k := kk)
            refine .inr ⟨ws, kk, bk, ha4, ebk, hb4, by rw [lw]; exact hz, fun v hvv => ?_, fun hvn => ?_⟩
            · rcases gv with ⟨_, z⟩ | ⟨x, v2, z1, z2, _⟩
              · rw [z] at hvv; cases hvv
              · rw [z1] at es
                cases es
                exact q fp' G' H3 v0 v ((kp.up ex.h).up ex3.h) I3 hv (ha3.snoc ⟨a, ea, ws, ha4, hvv⟩)
            · rcases gv with ⟨z, _⟩ | ⟨x, v2, z1, z2, _⟩
              · rw [z] at es
                cases es
                have na : a ∉ fq := (List.nodup_cons.mp (efc ▸ ndc)).1
                have nfy : a ∉ fy := fun hm => nb j a (inc a (by rw [efc]; simp)) hm
                have at1 : ∀ {fz : List Addr}, a ∉ fz → At H3 (upd H3 a (.dT (putK ws kk yv))) fz := fun hz => ⟨fun y hy => upd_ne fun z => hz (z ▸ hy), fun y ws' e => by rw [upd_ne (ne_of e ha4 (by intro z; cases z))]; exact e⟩
                obtain ⟨fq', p1', p2', p3'⟩ := (rp.at (at1 na)).put (k := kk) (oyr.at (at1 nfy)) (.inr z) (List.nodup_cons.mp (efc ▸ ndc)).2 ndy (fun q hq hq2 => nb j q (inc q (by rw [efc]; simp [hq])) hq2)
                refine fin _ (.dT (putA kvs kk y)) (.kT kk) a (a :: fq') (by rw [efc]; simp) ⟨a, _, fq', ea, upd_same, rfl, repOT_iff.mpr p1'⟩ (List.nodup_cons.mpr ⟨fun hm => (p2' a hm).elim na nfy, p3'⟩) (fun q hq => ?_) ⟨a, ea, _, upd_same, by rw [valV_put, if_pos rfl]⟩ rfl rfl
                rcases List.mem_cons.mp hq with z | hq
                · subst z; exact .inl (by rw [efc]; simp)
                · exact (p2' q hq).imp (fun z => by rw [efc]; simp [z]) id
              · rw [z2] at hvn; cases hvn
          · cases es
        · cases es
      | _ => cases hdic
  · cases es
end
end DL

/-! DL13: statements that change what stands at a place. -/
namespace DL
open PySem PySem.Spec PyProof.Rows L2
mutual
theorem RepO.imm_nil {H : Hp} : ∀ {d : D} {v : V} {fp : List Addr}, imm d = true → RepO H d v fp → fp = []
  | .non, _, _, _, h => h.2
  | .bl _, _, _, _, h => h.2
  | .int _, _, _, _, h => h.2
  | .str _, _, _, _, h => h.2
  | .tup ds, _, _, i, ⟨a, vs, e, h, r⟩ => RepOs.imm_nil (by simpa [DL.imm] using i) r
  | .lst ds, _, _, i, _ => by simp [DL.imm] at i
  | .dK kvs, _, _, i, _ => by simp [DL.imm] at i
  | .dT kvs, _, _, i, _ => by simp [DL.imm] at i
  | .obj C fs, _, _, i, _ => by simp [DL.imm] at i
  | .dN _ _, _, _, i, _ => by simp [DL.imm] at i
theorem RepOs.imm_nil {H : Hp} : ∀ {ds : List D} {vs : List V} {fp : List Addr}, imms ds = true → RepOs H ds vs fp → fp = []
  | [], _, _, _, h => h.2
  | d :: r, _, _, i, ⟨v, s, f1, f2, e, ef, h, q⟩ => by
    have j : imm d = true ∧ imms r = true := by simpa [imms] using i
    rw [ef, RepO.imm_nil j.1 h, RepOs.imm_nil j.2 q]; rfl
end
section
variable {X : Cx} {J : Jd} {own own1 : Owns} {j : Nat} {e e2 e3 o : Expr} {sel : Sel} {f f3 : Env → Res D} {pos apos cpos : Pos}
theorem hasJ {fp} {G0 H0 G H : Hp} {σ : L2.St} {ρ : Env} {v0 : V} {x : D} (I : SIf fp G0 H0 own G H σ (ρ.set j (some x))) (hv : σ[j]? = some (some v0)) : (ρ.set j (some x))[j]? = some (some x) := by
  have hl : j < ρ.length := by have := (List.getElem?_eq_some_iff.mp hv).1; have := I.len; simp at this; omega
  exact List.getElem?_set_self hl

/-! ### P.append(e) -/
def pApp (j : Nat) (ρ : Env) (d1 : D) (p : List Stp) (d : D) : Out := match getP d1 p with
  | some (.lst ds) => if ds.length < sizeLine then .nx (ρ.set j (some (setP d1 p (.lst (ds ++ [d]))))) else .no
  | _ => .no
def isLstP (d1 : D) (p : List Stp) : Bool := match getP d1 p with
  | some (.lst _) => true
  | _ => false
def atSel (r : Res (D × List Stp)) (k : D → List Stp → Out) : Out := match r with
  | .ok (d1, p) => k d1 p
  | _ => .no
def sPAppI (j : Nat) (sel : Sel) (f : Env → Res D) : DSem := fun ρ => atSel (sel ρ) fun d1 p => if isLstP d1 p = true then andThen (f (ρ.set j (some d1))) (ρ.set j (some d1)) fun d => if imm d = true then pApp j (ρ.set j (some d1)) d1 p d else .no else .no
def sPAppF (j : Nat) (sel : Sel) (f : Env → Res D) : DSem := fun ρ => atSel (sel ρ) fun d1 p => if isLstP d1 p = true then andThen (f (ρ.set j (some d1))) (ρ.set j (some d1)) fun d => pApp j (ρ.set j (some d1)) d1 p d else .no
theorem lst_at {fp} {G0 H0 G H : Hp} {σ : L2.St} {ρ : Env} {v0 v' : V} {d1 : D} {p : List Stp} (I : SIf fp G0 H0 own G H σ (ρ.set j (some d1))) (hj : own.lookup j = some .dp) (hv : σ[j]? = some (some v0)) (ha : AtV H v0 p v') (hl : isLstP d1 p = true) : tyV X.K "list" v' H := by
  unfold isLstP at hl
  split at hl
  · rename_i ds g
    obtain ⟨_, _, _, _, _, o, _⟩ := I.place hj (hasJ I hv) hv ha g
    obtain ⟨a, vs, fq, ea, hH, _, _⟩ := o
    subst ea
    exact .inl ⟨rfl, vs, SqL.of hH⟩
  · cases hl
theorem papp_end {fp} {G0 H0 G H : Hp} {σ : L2.St} {ρ : Env} {Dn : Ends} {v0 v' y : V} {d1 d : D} {p : List Stp} {fd : List Addr} (I : SIf fp G0 H0 own G H σ (ρ.set j (some d1))) (hj : own.lookup j = some .dp) (hv : σ[j]? = some (some v0)) (ha : AtV H v0 p v')
    (od : RepO H d y fd) (nd : fd.Nodup) (hf : ∀ q ∈ fd, G q = none ∧ H0 q = none ∧ ∀ i, q ∉ fp i) (h : GS X.mg J G0 H0 own Dn (pApp j (ρ.set j (some d1)) d1 p d)) : rAppend v' [y] H (fun _ H' => Dn.nx σ H') := by
  unfold pApp at h
  split at h
  · rename_i ds g
    split at h
    · rename_i hz
      obtain ⟨f1, fc, f2, ndj, ef, oc, upd'⟩ := I.place hj (hasJ I hv) hv ha g
      obtain ⟨a, vs, fq, ea, hH, efc, r⟩ := oc
      subst ea efc
      have hl : vs.length = ds.length := (r.rep (G := H) ⟨fun _ _ => rfl, fun _ _ e => e⟩).length
      have ndc : (a :: fq).Nodup := (List.nodup_append.mp (List.nodup_append.mp (ef ▸ ndj)).2.1).1
      have na : a ∉ fq := (List.nodup_cons.mp ndc).1
      have inc : ∀ q ∈ a :: fq, q ∈ fp j := fun q hq => by rw [ef]; exact List.mem_append_right _ (List.mem_append_left _ hq)
      have nfd : a ∉ fd := fun z => (hf a z).2.2 j (inc a List.mem_cons_self)
      have at1 : ∀ {fz : List Addr}, a ∉ fz → At H (upd H a (.lst (vs ++ [y]))) fz := fun hz => ⟨fun q hq => upd_ne fun z => hz (z ▸ hq), fun b ws e => by rw [upd_ne (ne_of e hH (by intro z; cases z))]; exact e⟩
      have oc' : RepO (upd H a (.lst (vs ++ [y]))) (.lst (ds ++ [d])) (.ref a) (a :: (fq ++ fd)) := ⟨a, _, fq ++ fd, rfl, upd_same, rfl, (r.at (at1 na)).append ⟨y, [], fd, [], rfl, by simp, od.at (at1 nfd), rfl, rfl⟩⟩
      have W := I.pathWriteS (H' := upd H a (.lst (vs ++ [y]))) hj hv ndj ef upd' oc' (List.nodup_cons.mpr ⟨fun z => (List.mem_append.mp z).elim na nfd, List.nodup_append.mpr ⟨(List.nodup_cons.mp ndc).2, nd, fun x hx z hz e => (hf z hz).2.2 j (inc z (by rw [← e]; exact List.mem_cons_of_mem _ hx))⟩⟩)
        (fun q hq => by
          rcases List.mem_cons.mp hq with z | hq
          · exact .inl (by rw [z]; exact List.mem_cons_self)
          · rcases List.mem_append.mp hq with hq | hq
            · exact .inl (List.mem_cons_of_mem _ hq)
            · exact .inr (hf q hq)) (fun b hb => .inl (upd_ne fun z => hb (by rw [z]; exact List.mem_cons_self)))
      exact ⟨a, vs, y, rfl, rfl, hH, by rw [hl]; exact hz, h G _ σ W⟩
    · exact h.elim
  · exact h.elim
theorem ds_pappI (hj : own.lookup j = some .dp) (dp : DP X own j o sel) (d : DE X J.W e f) (hbase : attributeBase o "append" X.env (eval o X.env) = eval o X.env := by rfl)
    (hfew : ((backTo cpos (starEach (e :: []) X.env)).all (fun x => !x.1) && (backToKw cpos (keywordEach [] X.env)).all (fun x => x.1.isSome)
      && decide ((e :: ([] : List Expr)).length + ([] : List Keyword).length + (if ([] : List Keyword).isEmpty then 0 else 1) < 30)) = true := by rfl)
    (hline : (apos.endLine == cpos.line) = true := by rfl) (hs1 : starEach (e :: []) X.env = (false, eval e X.env) :: starEach [] X.env := by rfl) (hplain : (backTo cpos (starEach [] X.env)).any (·.1) = false := by rfl)
    (hs : swapsWith (.Call (.Attribute o "append" apos) [e] [] cpos) none pos.line X.env = pure false := by rfl) (hx : oxSub J.ox own = true := by rfl) : DS X J own own (.Expr (.Call (.Attribute o "append" apos) [e] [] cpos) pos) (sPAppI j sel f) := by
  obtain ⟨t1, p1, h1⟩ := dp
  obtain ⟨t, p, h2⟩ := d
  refine ⟨_, ps_expr (pe_bm PySem.F.plainAttrs_list PySem.F.slot_list_append PySem.F.type_list_append mt_append p1 (pa_cons p pa_nil hs1) hbase hfew hline hs1 hplain) hs, fun G0 H0 G H σ ρ Dn ⟨fp, I⟩ h => ?_⟩
  unfold sPAppI atSel at h
  split at h <;> (try simp only at h)
  · rename_i d1 pp es
    split at h
    · rename_i hl
      refine h1 fp G0 H0 G H σ ρ _ I ⟨d1, pp, es, fun fp' G' H' v0 v' kp I' hv ha => ⟨lst_at I' hj hv ha hl, ?_⟩⟩
      refine onView hx h2 I' h fun d hk G2 H2 y ex I2 _ ry => ?_
      split at hk
      · rename_i hi
        have I2' := I'.grow (Ext.up I'.sub ex.h)
        exact papp_end I2 hj hv (ha.up ex.h) (RepO.of_imm hi ((ry hi).le (Le.of I2.sub))) List.nodup_nil (fun q hq => by cases hq) hk
      · exact hk.elim
    · exact h.elim
  · exact h.elim
theorem ds_pappF (hj : own.lookup j = some .dp) (dp : DP X own j o sel) (d : DF X J.W .dp e f) (hbase : attributeBase o "append" X.env (eval o X.env) = eval o X.env := by rfl)
    (hfew : ((backTo cpos (starEach (e :: []) X.env)).all (fun x => !x.1) && (backToKw cpos (keywordEach [] X.env)).all (fun x => x.1.isSome)
      && decide ((e :: ([] : List Expr)).length + ([] : List Keyword).length + (if ([] : List Keyword).isEmpty then 0 else 1) < 30)) = true := by rfl)
    (hline : (apos.endLine == cpos.line) = true := by rfl) (hs1 : starEach (e :: []) X.env = (false, eval e X.env) :: starEach [] X.env := by rfl) (hplain : (backTo cpos (starEach [] X.env)).any (·.1) = false := by rfl)
    (hs : swapsWith (.Call (.Attribute o "append" apos) [e] [] cpos) none pos.line X.env = pure false := by rfl) (hx : oxSub J.ox own = true := by rfl) : DS X J own own (.Expr (.Call (.Attribute o "append" apos) [e] [] cpos) pos) (sPAppF j sel f) := by
  obtain ⟨t1, p1, h1⟩ := dp
  obtain ⟨t, p, h2⟩ := d
  refine ⟨_, ps_expr (pe_bm PySem.F.plainAttrs_list PySem.F.slot_list_append PySem.F.type_list_append mt_append p1 (pa_cons p pa_nil hs1) hbase hfew hline hs1 hplain) hs, fun G0 H0 G H σ ρ Dn ⟨fp, I⟩ h => ?_⟩
  unfold sPAppF atSel at h
  split at h <;> (try simp only at h)
  · rename_i d1 pp es
    split at h
    · rename_i hl
      refine h1 fp G0 H0 G H σ ρ _ I ⟨d1, pp, es, fun fp' G' H' v0 v' kp I' hv ha => ⟨lst_at I' hj hv ha hl, ?_⟩⟩
      have s := (view_ext I'.ext).s
      refine h2 _ H' σ _ _ s I'.view (toF hx I' s h fun d hk G2 H2 ex y fd od hn => ?_)
      have I2 := I'.grow (Ext.up I'.sub ex.h)
      exact papp_end I2 hj hv (ha.up ex.h) od.1 od.2 (fun q hq => ⟨upd_none I'.sub (hn q hq).2, I'.ext.free (hn q hq).2, fun i z => own_new I' (fun q hq => (hn q hq).2) i q z hq⟩) hk
    · exact h.elim
  · exact h.elim

/-! ### P.clear() -/
def sPClear (j : Nat) (sel : Sel) : DSem := fun ρ => atSel (sel ρ) fun d1 p => if isLstP d1 p = true then .nx (ρ.set j (some (setP d1 p (.lst [])))) else .no
theorem ds_pclear (hj : own.lookup j = some .dp) (dp : DP X own j o sel) (hbase : attributeBase o "clear" X.env (eval o X.env) = eval o X.env := by rfl) (hline : (apos.endLine == cpos.line) = true := by rfl)
    (hs : swapsWith (.Call (.Attribute o "clear" apos) [] [] cpos) none pos.line X.env = pure false := by rfl) : DS X J own own (.Expr (.Call (.Attribute o "clear" apos) [] [] cpos) pos) (sPClear j sel) := by
  obtain ⟨t1, p1, h1⟩ := dp
  refine ⟨_, ps_expr (pe_bm0 PySem.F.plainAttrs_list PySem.F.slot_list_clear PySem.F.type_list_clear mt_clear p1 hbase hline) hs, fun G0 H0 G H σ ρ Dn ⟨fp, I⟩ h => ?_⟩
  unfold sPClear atSel at h
  split at h <;> (try simp only at h)
  · rename_i d1 pp es
    split at h
    · rename_i hl
      refine h1 fp G0 H0 G H σ ρ _ I ⟨d1, pp, es, fun fp' G' H' v0 v' kp I' hv ha => ⟨lst_at I' hj hv ha hl, ?_⟩⟩
      unfold isLstP at hl
      split at hl
      · rename_i ds g
        obtain ⟨f1, fc, f2, ndj, ef, oc, upd'⟩ := I'.place hj (hasJ I' hv) hv ha g
        obtain ⟨a, vs, fq, ea, hH, efc, r⟩ := oc
        subst ea efc
        have oc' : RepO (upd H' a (.lst [])) (.lst []) (.ref a) [a] := ⟨a, [], [], rfl, upd_same, rfl, rfl, rfl⟩
        have W := I'.pathWriteS (H' := upd H' a (.lst [])) hj hv ndj ef upd' oc' (by simp) (fun q hq => .inl (by rw [show q = a by simpa using hq]; exact List.mem_cons_self)) (fun b hb => .inl (upd_ne fun z => hb (by rw [z]; exact List.mem_cons_self)))
        rw [List.set_set] at W
        exact ⟨a, vs, rfl, rfl, hH, h G' _ σ W⟩
      · cases hl
    · exact h.elim
  · exact h.elim

/-! ### P[k] = e -/
/-- what a list or dict becomes -/
def putAt (c k d : D) : Option D := match c with
  | .lst ds => (match k with
    | .int i => (ixN ds.length i).map fun n => .lst (ds.set n d)
    | _ => none)
  | .dK kvs => (match keyD k with
    | some kk => if kvs.length < sizeLine ∧ (imm d = true ∨ getA kvs kk = none) then some (.dK (putA kvs kk d)) else none
    | none => none)
  | .dT kvs => (match k with
    | .tup ks => (match keysD ks with
      | some kk => if kvs.length < sizeLine ∧ (imm d = true ∨ getA kvs kk = none) then some (.dT (putA kvs kk d)) else none
      | none => none)
    | _ => none)
  | _ => none
def pPut (j : Nat) (ρ : Env) (d1 : D) (p : List Stp) (k d : D) : Out := match getP d1 p with
  | some c => (match putAt c k d with
    | some c' => .nx (ρ.set j (some (setP d1 p c')))
    | none => .no)
  | none => .no
def isDicPP (d1 : D) (p : List Stp) : Bool := isDicP d1 p
def sPPutI (j : Nat) (sel : Sel) (fk fv : Env → Res D) : DSem := fun ρ => andThen (fv ρ) ρ fun d => if imm d = true then atSel (sel ρ) fun d1 p => if isDicP d1 p = true then andThen (fk (ρ.set j (some d1))) (ρ.set j (some d1)) fun k => pPut j (ρ.set j (some d1)) d1 p k d else .no else .no
def sPPutF (j : Nat) (sel : Sel) (fk fv : Env → Res D) : DSem := fun ρ => andThen (fv ρ) ρ fun d => atSel (sel ρ) fun d1 p => if isDicP d1 p = true then andThen (fk (ρ.set j (some d1))) (ρ.set j (some d1)) fun k => pPut j (ρ.set j (some d1)) d1 p k d else .no
theorem pput_end {fp} {G0 H0 G H G3 : Hp} {σ : L2.St} {ρ : Env} {Dn : Ends} {v0 v' kv y : V} {d1 k d : D} {p : List Stp} {fd : List Addr} (I : SIf fp G0 H0 own G H σ (ρ.set j (some d1))) (hj : own.lookup j = some .dp) (hv : σ[j]? = some (some v0)) (ha : AtV H v0 p v') (s3 : Sub G3 H) (rk : Rep G3 k kv)
    (od : RepO H d y fd) (nd : fd.Nodup) (hi : imm d = true → fd = []) (hf : ∀ q ∈ fd, G q = none ∧ H0 q = none ∧ ∀ i, q ∉ fp i) (hd : isDicP d1 p = true) (h : GS X.mg J G0 H0 own Dn (pPut j (ρ.set j (some d1)) d1 p k d)) : ∃ a H4, v' = .ref a ∧ DPut H a kv y H4 ∧ Dn.nx σ H4 := by
  unfold pPut at h
  split at h
  · rename_i c g
    split at h
    · rename_i c' ep
      obtain ⟨f1, fc, f2, ndj, ef, oc, upd'⟩ := I.place hj (hasJ I hv) hv ha g
      have inc : ∀ q ∈ fc, q ∈ fp j := fun q hq => by rw [ef]; exact List.mem_append_right _ (List.mem_append_left _ hq)
      have ndc : fc.Nodup := (List.nodup_append.mp (List.nodup_append.mp (ef ▸ ndj)).2.1).1
      cases c with
      | dK kvs =>
        obtain ⟨a, ws, fq, ea, hH, efc, r⟩ := oc
        subst ea efc
        have ep : (match keyD k with
          | some kk => if kvs.length < sizeLine ∧ (imm d = true ∨ getA kvs kk = none) then some (D.dK (putA kvs kk d)) else none
          | none => none) = some c' := ep
        split at ep
        · rename_i kk ek
          split at ep
          · rename_i hz
            cases ep
            have rp := repOK_iff.mp r
            have lw : ws.length = kvs.length := (rp.rep (G := H) ⟨fun _ _ => rfl, fun _ _ e => e⟩).length
            have na : a ∉ fq := (List.nodup_cons.mp ndc).1
            have nfd : a ∉ fd := fun z => (hf a z).2.2 j (inc a List.mem_cons_self)
            have at1 : ∀ {fz : List Addr}, a ∉ fz → At H (upd H a (.dK (putK ws kk y))) fz := fun hz => ⟨fun q hq => upd_ne fun z => hz (z ▸ hq), fun b ws' e => by rw [upd_ne (ne_of e hH (by intro z; cases z))]; exact e⟩
            obtain ⟨fq', q1, q2, q3⟩ := (rp.at (at1 na)).put (k := kk) (od.at (at1 nfd)) (hz.2.imp hi id) (List.nodup_cons.mp ndc).2 nd (fun q hq hq2 => (hf q hq2).2.2 j (inc q (List.mem_cons_of_mem _ hq)))
            have W := I.pathWriteS (H' := upd H a (.dK (putK ws kk y))) (d'' := .dK (putA kvs kk d)) (f' := a :: fq') hj hv ndj ef upd' ⟨a, _, fq', rfl, upd_same, rfl, repOK_iff.mpr q1⟩ (List.nodup_cons.mpr ⟨fun z => (q2 a z).elim na nfd, q3⟩)
              (fun q hq => by
                rcases List.mem_cons.mp hq with z | hq
                · exact .inl (by rw [z]; exact List.mem_cons_self)
                · exact (q2 q hq).imp (fun z => List.mem_cons_of_mem _ z) fun z => hf q z) (fun b hb => .inl (upd_ne fun z => hb (by rw [z]; exact List.mem_cons_self)))
            exact ⟨a, _, rfl, by rw [keyD_rep ek rk]; exact DPut.k hH (by rw [lw]; exact hz.1), h G _ σ W⟩
          · cases ep
        · cases ep
      | dT kvs =>
        cases k with
        | tup ks =>
          obtain ⟨a, ws, fq, ea, hH, efc, r⟩ := oc
          subst ea efc
          simp only [putAt] at ep
          split at ep
          · rename_i kk ek
            split at ep
            · rename_i hz
              cases ep
              obtain ⟨bk, vks, ebk, hbk, rsk⟩ := rk
              have hb4 : H bk = some (.tup (kk.map kV)) := by rw [← keysD_rep ek rsk]; exact s3 _ _ hbk
              have rp := repOT_iff.mp r
              have lw : ws.length = kvs.length := (rp.rep (G := H) ⟨fun _ _ => rfl, fun _ _ e => e⟩).length
              have na : a ∉ fq := (List.nodup_cons.mp ndc).1
              have nfd : a ∉ fd := fun z => (hf a z).2.2 j (inc a List.mem_cons_self)
              have at1 : ∀ {fz : List Addr}, a ∉ fz → At H (upd H a (.dT (putK ws kk y))) fz := fun hz => ⟨fun q hq => upd_ne fun z => hz (z ▸ hq), fun b ws' e => by rw [upd_ne (ne_of e hH (by intro z; cases z))]; exact e⟩
              obtain ⟨fq', q1, q2, q3⟩ := (rp.at (at1 na)).put (k := kk) (od.at (at1 nfd)) (hz.2.imp hi id) (List.nodup_cons.mp ndc).2 nd (fun q hq hq2 => (hf q hq2).2.2 j (inc q (List.mem_cons_of_mem _ hq)))
              have W := I.pathWriteS (H' := upd H a (.dT (putK ws kk y))) (d'' := .dT (putA kvs kk d)) (f' := a :: fq') hj hv ndj ef upd' ⟨a, _, fq', rfl, upd_same, rfl, repOT_iff.mpr q1⟩ (List.nodup_cons.mpr ⟨fun z => (q2 a z).elim na nfd, q3⟩)
                (fun q hq => by
                  rcases List.mem_cons.mp hq with z | hq
                  · exact .inl (by rw [z]; exact List.mem_cons_self)
                  · exact (q2 q hq).imp (fun z => List.mem_cons_of_mem _ z) fun z => hf q z) (fun b hb => .inl (upd_ne fun z => hb (by rw [z]; exact List.mem_cons_self)))
              exact ⟨a, _, rfl, by rw [ebk]; exact DPut.t hH hb4 (by rw [lw]; exact hz.1), h G _ σ W⟩
            · cases ep
          · cases ep
        | _ => cases ep
      | _ => unfold isDicP at hd; rw [g] at hd; cases hd
    · exact h.elim
  · exact h.elim
theorem ds_pputI {i value : Expr} {pos' : Pos} {fk fv : Env → Res D} (hu : X.A.units + 1 < cLine) (hj : own.lookup j = some .dp) (dp : DP X own j o sel) (dk : DE X J.W i fk) (dv : DE X J.W value fv) (hx : oxSub J.ox own = true := by rfl)
    (hs : swapsWith value (some (.Subscript o i pos')) pos.line X.env = pure false := by rfl) : DS X J own own (.Assign [.Subscript o i pos'] value pos) (sPPutI j sel fk fv) := by
  obtain ⟨t1, p1, h1⟩ := dp
  obtain ⟨tk, pk, hk⟩ := dk
  obtain ⟨tv, pv, hv⟩ := dv
  refine ⟨_, ps_dput hu p1 pk pv hs, fun G0 H0 G H σ ρ Dn ⟨fp, I⟩ h => ?_⟩
  unfold sPPutI at h
  refine onView hx hv I h fun d hd G1 H1 y e I1 _ ry => ?_
  split at hd
  · rename_i hi
    unfold atSel at hd
    split at hd <;> (try simp only at hd)
    · rename_i d1 pp es
      split at hd
      · rename_i hdd
        refine h1 fp G0 H0 _ H1 σ ρ _ I1 ⟨d1, pp, es, fun fp' G' H' v0 v' kp I' hv0 ha => ?_⟩
        have hr := hasJ I' hv0
        have s := (view_ext I'.ext).s
        unfold isDicP at hdd
        cases gc : getP d1 pp with
        | none => rw [gc] at hdd; cases hdd
        | some c =>
          have hdd' : isDicP d1 pp = true := by unfold isDicP; rw [gc]; rw [gc] at hdd; exact hdd
          refine hk _ H' σ _ _ s I'.view (toP hx I' s hd fun k _ hk' G2 H2 e2 kv rk => ?_)
          have I2 := I'.grow (Ext.up I'.sub e2.h)
          have yI : Rep H2 d y := by
            have y1 : Rep H1 d y := (ry hi).le (Le.of I1.sub)
            exact Rep.imm (fun a vs q => e2.h _ _ (kp.keep a _ q fun hm => by have := (I1.fpm j a hm).2.2; rw [q] at this; exact this)) hi y1
          exact pput_end I2 hj hv0 (ha.up e2.h) e2.s rk (RepO.of_imm hi yI) List.nodup_nil (fun _ => rfl) (fun q hq => by cases hq) hdd' hk'
      · exact hd.elim
    · exact hd.elim
  · exact hd.elim
/-- new data under a new key -/
theorem ds_pputF {i value : Expr} {pos' : Pos} {fk fv : Env → Res D} (hu : X.A.units + 1 < cLine) (hj : own.lookup j = some .dp) (dp : DP X own j o sel) (dk : DE X J.W i fk) (dv : DF X J.W .dp value fv) (hx : oxSub J.ox own = true := by rfl)
    (hs : swapsWith value (some (.Subscript o i pos')) pos.line X.env = pure false := by rfl) : DS X J own own (.Assign [.Subscript o i pos'] value pos) (sPPutF j sel fk fv) := by
  obtain ⟨t1, p1, h1⟩ := dp
  obtain ⟨tk, pk, hk⟩ := dk
  obtain ⟨tv, pv, hv⟩ := dv
  refine ⟨_, ps_dput hu p1 pk pv hs, fun G0 H0 G H σ ρ Dn ⟨fp, I⟩ h => ?_⟩
  unfold sPPutF at h
  have s := (view_ext I.ext).s
  refine hv _ H σ _ _ s I.view (toF hx I s h fun d hd G1 H1 ex y fd od hn => ?_)
  have I1 := I.grow (Ext.up I.sub ex.h)
  have nb := own_new I fun q hq => (hn q hq).2
  unfold atSel at hd
  split at hd <;> (try simp only at hd)
  · rename_i d1 pp es
    split at hd
    · rename_i hdd
      refine h1 fp G0 H0 _ H1 σ ρ _ I1 ⟨d1, pp, es, fun fp' G' H' v0 v' kp I' hv0 ha => ?_⟩
      have s := (view_ext I'.ext).s
      refine hk _ H' σ _ _ s I'.view (toP hx I' s hd fun k _ hk' G2 H2 e2 kv rk => ?_)
      have I2 := I'.grow (Ext.up I'.sub e2.h)
      have mfd := od.mut
      have odn := od.1
      have od2 : RepO H2 d y fd := odn.at ⟨fun q hq => by
          cases r : H1 q with
          | none => have := mfd q hq; rw [r] at this; exact this.elim
          | some u => exact e2.h _ _ (kp.keep q u r fun z => nb j q z hq), fun a vs q => e2.h _ _ (kp.keep a _ q fun hm => by have := (I1.fpm j a hm).2.2; rw [q] at this; exact this)⟩
      refine pput_end I2 hj hv0 (ha.up e2.h) e2.s rk od2 od.2 (fun hi => ?_) (fun q hq => ⟨?_, I.ext.free (hn q hq).2, fun i z => ?_⟩) hdd hk'
      · exact RepO.imm_nil hi odn
      · cases r : G' q with
        | none => rfl
        | some u =>
          rcases kp.reg q u r with z | z | ⟨vs, z⟩
          · rw [upd_none I.sub (hn q hq).2] at z; cases z
          · have := mfd q hq; rw [z] at this; exact this.elim
          · subst z
            have h3 := I'.sub _ _ r
            have h4 : H' q = H1 q := by
              cases r2 : H1 q with
              | none => have := mfd q hq; rw [r2] at this; exact this.elim
              | some u => exact kp.keep q u r2 fun z => nb j q z hq
            rw [h4] at h3
            have := mfd q hq
            rw [h3] at this
            exact this.elim
      · rcases kp.fps i q z with z | z | z
        · exact nb i q z hq
        · exact nb j q z hq
        · have := mfd q hq; rw [z] at this; exact this
    · exact hd.elim
  · exact hd.elim
end
end DL

/-! DL14: y.pop() as a value. -/
namespace DL
open PySem PySem.Spec PyProof.Rows L2
/-- e changes slots and is worth an immutable value, or one of the region -/
def DM (X : Cx) (own : Owns) (e : Expr) (f : Env → Res (Env × D)) : Prop :=
  ∃ t : TE, PE X e t ∧ ∀ (fp : Nat → List Addr) (G0 H0 G H : Hp) (σ : L2.St) (ρ : Env) (Q : VK), SIf fp G0 H0 own G H σ ρ →
    (∃ ρ' d, f ρ = .ok (ρ', d) ∧ ∀ (G' H' : Hp) (v : V), (∀ q o, G q = some o → G' q = some o) → (∀ a vs, H a = some (.tup vs) → H' a = some (.tup vs)) → SI G0 H0 own G' H' σ ρ' → Rep G' d v → Q v H') → t σ H Q
def fPop (own : Owns) (j : Nat) : Env → Res (Env × D) := fun ρ => match ρ[j]? with
  | some (some (.lst ds)) => (match ds.getLast? with
    | some d => if own.lookup j = some .sh ∨ imm d = true then .ok (ρ.set j (some (.lst ds.dropLast)), d) else .no
    | none => .no)
  | _ => .no
theorem RepOs.last {H : Hp} : ∀ {ds : List D} {vs : List V} {fq : List Addr} {d : D}, RepOs H ds vs fq → ds.getLast? = some d → imm d = true → ∃ v, vs.getLast? = some v ∧ RepO H d v [] ∧ RepOs H ds.dropLast vs.dropLast fq
  | [], _, _, _, _, e, _ => by simp at e
  | [x], _, _, d, ⟨v, s, f1, f2, e, ef, h, q⟩, g, hi => by
    obtain ⟨e1, e2⟩ := q
    subst e ef e1 e2
    have gx : x = d := by simpa using g
    subst gx
    have := RepO.imm_nil hi h
    subst this
    exact ⟨v, rfl, h, rfl, rfl⟩
  | x :: y :: r, _, _, d, ⟨v, s, f1, f2, e, ef, h, q⟩, g, hi => by
    obtain ⟨w, h1, h2, h3⟩ := RepOs.last (ds := y :: r) q (by simpa using g) hi
    obtain ⟨v2, s2, g1, g2, e2, _, _, _⟩ := q
    subst e e2 ef
    exact ⟨w, by simpa using h1, h2, v, _, f1, f2, rfl, rfl, h, by simpa using h3⟩
theorem Reps.last {G : Hp} {ds : List D} {vs : List V} {d : D} (r : Reps G ds vs) (g : ds.getLast? = some d) : ∃ v, vs.getLast? = some v ∧ Rep G d v := by
  rw [List.getLast?_eq_getElem?] at g ⊢
  rw [r.length]
  exact r.get g
section
variable {X : Cx} {J : Jd} {own own1 : Owns} {j : Nat} {e : Expr} {st : Stmt} {f : Env → Res (Env × D)} {pos apos cpos : Pos}
theorem dm_pop {kd : Kd} {x : Str} {p1 : Pos} (hj : own.lookup j = some kd) (pn : PE X (.Name x p1) (tVar j)) (hbase : attributeBase (.Name x p1) "pop" X.env (eval (.Name x p1) X.env) = eval (.Name x p1) X.env := by rfl) (hline : (apos.endLine == cpos.line) = true := by rfl) :
    DM X own (.Call (.Attribute (.Name x p1) "pop" apos) [] [] cpos) (fPop own j) := by
  refine ⟨_, pe_bm0 PySem.F.plainAttrs_list PySem.F.slot_list_pop PySem.F.type_list_pop mt_pop pn hbase hline, fun fp G0 H0 G H σ ρ Q I ⟨ρ', d, ef, q⟩ => ?_⟩
  unfold fPop at ef
  split at ef
  · rename_i ds hd
    split at ef
    · rename_i dl gl
      split at ef
      · rename_i hc
        cases ef
        obtain ⟨v, hv, o⟩ := I.own j kd _ hj hd
        refine ⟨v, hv, ?_⟩
        cases kd with
        | pin z => exact o.elim
        | sh =>
          obtain ⟨p, ev, efp, vs, hp, r⟩ := o
          subst ev
          obtain ⟨y, gy, ry⟩ := r.last gl
          refine ⟨.inl ⟨rfl, vs, SqL.of hp⟩, p, vs, y, rfl, rfl, hp, by rw [← List.getLast?_eq_getElem?]; exact gy, ?_⟩
          exact q G _ y (fun _ _ e => e) (fun a ws e => by rw [upd_ne (ne_of e hp (by intro z; cases z))]; exact e) (I.write (o' := .lst vs.dropLast) hj hv (by rw [efp]; exact List.mem_cons_self) ⟨p, rfl, efp, _, upd_same, r.dropLast⟩) ry
        | dp =>
          have hi : imm d = true := by
            rcases hc with z | z
            · rw [hj] at z; cases z
            · exact z
          obtain ⟨⟨p, vs, fq, ev, hp, efp, r⟩, nd⟩ := o
          subst ev
          obtain ⟨y, gy, ry, rr⟩ := r.last gl hi
          refine ⟨.inl ⟨rfl, vs, SqL.of hp⟩, p, vs, y, rfl, rfl, hp, by rw [← List.getLast?_eq_getElem?]; exact gy, ?_⟩
          have na : p ∉ fq := (List.nodup_cons.mp (efp ▸ nd)).1
          have at1 : ∀ {fz : List Addr}, p ∉ fz → At H (upd H p (.lst vs.dropLast)) fz := fun hz => ⟨fun q hq => upd_ne fun z => hz (z ▸ hq), fun b ws e => by rw [upd_ne (ne_of e hp (by intro z; cases z))]; exact e⟩
          obtain ⟨fpn, W⟩ := I.write (o' := .lst vs.dropLast) (d := .lst ds.dropLast) hj hv (by rw [efp]; exact List.mem_cons_self) ⟨⟨p, _, fq, rfl, upd_same, efp, rr.at (at1 na)⟩, nd⟩
          have X2 := Ext.tups (G := G) (H := upd H p (.lst vs.dropLast)) (H' := upd H p (.lst vs.dropLast)) W.sub (fun _ _ e => e)
          refine q (tupG G (upd H p (.lst vs.dropLast))) _ y X2.g (fun a ws e => (at1 (fz := []) (by simp)).t _ _ e) ⟨fpn, W.grow X2⟩ ?_
          have ry2 : RepO (upd H p (.lst vs.dropLast)) d y [] := ry.at (at1 (by simp))
          exact Rep.imm (fun a vs q => tupG_tup q) hi (ry2.rep ⟨fun q hq => (by cases hq), fun _ _ e => e⟩)
      · cases ef
    · cases ef
  · cases ef
/-- name = y.pop() -/
def sAsgM (j : Nat) (f : Env → Res (Env × D)) : DSem := fun ρ => match f ρ with
  | .ok (ρ', d) => .nx (ρ'.set j (some d))
  | _ => .no
theorem ds_asgM {x : Str} {p1 : Pos} (hN : X.N.Nodup) (hi : X.N[j]? = some x) (hl : Loc X.env.scope x) (d : DM X own e f) (hs : swapsWith e (some (.Name x p1)) pos.line X.env = pure false := by rfl) (hf : X.fn x = true ∨ X.env.scope.names.lookup x = some .local := by first | exact .inl rfl | exact .inr rfl) :
    DS X J own (disown own j) (.Assign [.Name x p1] e pos) (sAsgM j f) := by
  obtain ⟨t, p, h1⟩ := d
  refine ⟨_, ps_set hN hi hl p hs hf, fun G0 H0 G H σ ρ Dn ⟨fp, I⟩ h => ?_⟩
  unfold sAsgM at h
  split at h
  · rename_i ρ' d ef
    refine h1 fp G0 H0 G H σ ρ _ I ⟨ρ', d, ef, fun G' H' v _ _ ⟨fpn, W⟩ rv => ?_⟩
    have I2 := (W.drop j).set (j := j) (d := d) (v := v) disown_self rv
    rw [set_none_set] at I2
    exact h G' H' _ ⟨_, I2⟩
  · exact h.elim
/-- a, b = y.pop() -/
def sUnpM (is : List Nat) (ks : D → Res (List D)) (f : Env → Res (Env × D)) : DSem := fun ρ => match f ρ with
  | .ok (ρ', d) => (match ks d with
    | .ok l => .nx (setE ρ' is l)
    | _ => .no)
  | _ => .no
theorem ds_unpM {tg : Expr} {is : List Nat} {ks : D → Res (List D)} (g : DG X tg is ks) (d : DM X own e f) (hi : ∀ i ∈ is, own.lookup i = none) (hs : swapsWithSole [tg] e pos.line X.env = pure false := by rfl) (hw : swappedStores [tg] e X.env = pure none := by rfl)
    (h1 : (assignEach [tg] X.env).map (·.2) = [assign tg X.env] := by rfl) : DS X J own own (.Assign [tg] e pos) (sUnpM is ks f) := by
  obtain ⟨t, pe, h2⟩ := d
  obtain ⟨tg', pg, h3⟩ := g
  refine ⟨_, ps_asg pe pg hs hw h1, fun G0 H0 G H σ ρ Dn ⟨fp, I⟩ h => ?_⟩
  unfold sUnpM at h
  split at h
  · rename_i ρ' d ef
    split at h
    · rename_i l q
      refine h2 fp G0 H0 G H σ ρ _ I ⟨ρ', d, ef, fun G' H' v _ _ ⟨fpn, W⟩ rv => ?_⟩
      exact h3 G' H' σ v d _ l W.sub rv q fun ws rws nws => h G' H' _ ⟨fpn, W.sets hi rws⟩
    · exact h.elim
  · exact h.elim
/-- d[y.pop()] = v, d an owned dict, v in the region or immutable -/
def sPutM (own : Owns) (j : Nat) (fk : Env → Res (Env × D)) (fv : Env → Res D) : DSem := fun ρ => if hasE ρ j = true then andThen (fv (maskE own ρ)) ρ fun d => (match fk ρ with
  | .ok (ρ', k) => if hasE ρ' j = true then putO ρ' j k d else .no
  | _ => .no) else .no
theorem ds_putM {i value : Expr} {x : Str} {p1 pos' : Pos} {fk : Env → Res (Env × D)} {fv : Env → Res D} (hu : X.A.units + 1 < cLine) (hj : own.lookup j = some .sh) (pn : PE X (.Name x p1) (tVar j)) (dk : DM X own i fk) (dv : DE X J.W value fv) (hx : oxSub J.ox own = true := by rfl)
    (hs : swapsWith value (some (.Subscript (.Name x p1) i pos')) pos.line X.env = pure false := by rfl) : DS X J own own (.Assign [.Subscript (.Name x p1) i pos'] value pos) (sPutM own j fk fv) := by
  obtain ⟨tk, pk, hk⟩ := dk
  obtain ⟨tv, pv, hv⟩ := dv
  refine ⟨_, ps_dput hu pn pk pv hs, fun G0 H0 G H σ ρ Dn ⟨fp, I⟩ h => ?_⟩
  unfold sPutM at h
  split at h
  · rename_i hh
    obtain ⟨c, q⟩ := hasE_get hh
    refine onMasked hx hv I h fun d hd G1 H1 y e I1 ry => ?_
    obtain ⟨v, hv, _⟩ := I1.own j .sh c hj q
    refine ⟨v, hv, ?_⟩
    split at hd
    · rename_i ρ' k ek
      split at hd
      · refine hk fp G0 H0 G1 H1 σ ρ _ I1 ⟨ρ', k, ek, fun G2 H2 kv hle _ ⟨fpn, W⟩ rk => ?_⟩
        exact put_end W hj W.sub rk (ry.le (Le.of hle)) hv hd
      · exact hd.elim
    · exact hd.elim
  · exact h.elim
end
end DL

/-! DL15: a tuple of immutable values and owned slots is handed back. -/
namespace DL
open PySem PySem.Spec PyProof.Rows L2
def DAo (X : Cx) (own : Owns) (es : List Expr) (js : List Nat) (f : Env → Res (List D)) : Prop :=
  ∃ t : TA, PA X es t ∧ ∀ (fp : Nat → List Addr) (G0 H0 G H : Hp) (σ : L2.St) (ρ : Env) (Q : List V → Hp → Prop), SIf fp G0 H0 own G H σ ρ →
    (∃ ds, f ρ = .ok ds ∧ ∀ (G' H' : Hp) (vs : List V) (fj : List Addr), Ext G H G' H' → SIf fp G0 H0 own G' H' σ ρ → RepOs H' ds vs fj → fj.Nodup → (∀ q ∈ fj, ∃ i ∈ js, q ∈ fp i) → Q vs H') → t σ H Q
section
variable {X : Cx} {J : Jd} {own own1 : Owns} {e : Expr} {es : List Expr} {js : List Nat} {f : Env → Res D} {g : Env → Res (List D)} {pos : Pos}
theorem dao_nil : DAo X own [] [] aNil := ⟨_, pa_nil, fun fp G0 H0 G H σ ρ Q I ⟨ds, e, q⟩ => by
  cases e
  exact q G H [] [] (Ext.refl I.sub) I ⟨rfl, rfl⟩ List.nodup_nil fun q hq => by cases hq⟩
def aoImm (f : Env → Res D) (g : Env → Res (List D)) : Env → Res (List D) := fun ρ => noEx (f ρ) >>= fun x => if imm x = true then noEx (g ρ) >>= fun xs => .ok (x :: xs) else .no
def aoOwn (j : Nat) (g : Env → Res (List D)) : Env → Res (List D) := fun ρ => match ρ[j]? with
  | some (some d) => noEx (g ρ) >>= fun xs => .ok (d :: xs)
  | _ => .no
theorem dao_imm (d1 : DE X W0 e f) (d2 : DAo X own es js g) (hs : starEach (e :: es) X.env = (false, eval e X.env) :: starEach es X.env := by rfl) : DAo X own (e :: es) js (aoImm f g) := by
  obtain ⟨t1, p1, h1⟩ := d1
  obtain ⟨t2, p2, h2⟩ := d2
  refine ⟨_, pa_cons p1 p2 hs, fun fp G0 H0 G H σ ρ Q I ⟨ds, ed, q⟩ => ?_⟩
  unfold aoImm at ed
  obtain ⟨x, e1, ed⟩ := bind_ok' ed
  split at ed
  · rename_i hi
    obtain ⟨xs, e2, ed⟩ := bind_ok' ed
    cases ed
    have s := (view_ext I.ext).s
    refine h1 _ H σ ρ _ s I.view (glE_ok (noEx_ok e1) fun G1 H1 v ex rv => ?_)
    have I1 := I.grow (Ext.tups I.sub ex.h)
    have x1 : Ext G H (tupG G H1) H1 := Ext.tups I.sub ex.h
    refine h2 fp G0 H0 _ H1 σ ρ _ I1 ⟨xs, noEx_ok e2, fun G2 H2 vs fj x2 I2 ro nd hj => ?_⟩
    have rv1 : Rep (tupG G H1) x v := Rep.imm (fun a vs q => tupG_tup (ex.s _ _ q)) hi rv
    exact q G2 H2 (v :: vs) fj (x1.trans x2) I2 ⟨v, vs, [], fj, rfl, rfl, RepO.of_imm hi ((rv1.le x2.le).le (Le.of I2.sub)), ro⟩ nd hj
  · cases ed
theorem dao_own {j : Nat} {x : Str} {p1 : Pos} (hj : own.lookup j = some .dp) (pn : PE X (.Name x p1) (tVar j)) (d2 : DAo X own es js g) (hn : j ∉ js) (hs : starEach (.Name x p1 :: es) X.env = (false, eval (.Name x p1) X.env) :: starEach es X.env := by rfl) : DAo X own (.Name x p1 :: es) (j :: js) (aoOwn j g) := by
  obtain ⟨t2, p2, h2⟩ := d2
  refine ⟨_, pa_cons pn p2 hs, fun fp G0 H0 G H σ ρ Q I ⟨ds, ed, q⟩ => ?_⟩
  unfold aoOwn at ed
  split at ed
  · rename_i d hd
    obtain ⟨xs, e2, ed⟩ := bind_ok' ed
    cases ed
    obtain ⟨v, hv, _⟩ := I.own j .dp _ hj hd
    refine ⟨v, hv, ?_⟩
    refine h2 fp G0 H0 G H σ ρ _ I ⟨xs, noEx_ok e2, fun G2 H2 vs fj x2 I2 ro nd hj2 => ?_⟩
    obtain ⟨v', hv', o, ndj⟩ := I2.own j .dp _ hj hd
    rw [hv] at hv'; cases hv'
    refine q G2 H2 (v :: vs) (fp j ++ fj) x2 I2 ⟨v, vs, fp j, fj, rfl, rfl, o, ro⟩ (List.nodup_append.mpr ⟨ndj, nd, fun a ha b hb z => ?_⟩) fun q hq => ?_
    · subst z
      obtain ⟨i, hi, hq⟩ := hj2 a hb
      exact I2.fpd j i a (fun z => hn (z ▸ hi)) ha hq
    · rcases List.mem_append.mp hq with hq | hq
      · exact ⟨j, List.mem_cons_self, hq⟩
      · obtain ⟨i, hi, hq⟩ := hj2 q hq
        exact ⟨i, List.mem_cons_of_mem _ hi, hq⟩
  · cases ed
def sRetTO (g : Env → Res (List D)) : DSem := fun ρ => match g ρ with
  | .ok xs => if xs.length ≤ sizeLine then .rt (.tup xs) else .no
  | _ => .no
theorem ds_retTO {k1 : Nat} {p1 : Pos} (hk : J.rk = some .dp) (d : DAo X own es js g) : DS X J own own1 (.Return (some (.Tuple es k1 p1)) pos) (sRetTO g) := by
  obtain ⟨t, p, h1⟩ := d
  refine ⟨_, ps_ret (pe_tup p), fun G0 H0 G H σ ρ Dn ⟨fp, I⟩ h => ?_⟩
  unfold sRetTO at h
  split at h
  · rename_i xs eg
    split at h
    · rename_i hz
      refine h1 fp G0 H0 G H σ ρ _ I ⟨xs, eg, fun G' H' vs fj x1 I' ro nd hj => ?_⟩
      have hl : vs.length = xs.length := (ro.rep (G := H') ⟨fun _ _ => rfl, fun _ _ e => e⟩).length
      refine ⟨by rw [hl]; exact hz, fun p np => ?_⟩
      have h : RetOk J.rk G0 H0 Dn.rt (.tup xs) := h
      unfold RetOk at h
      rw [hk] at h
      have ex : Ext G' H' (upd G' p (.tup vs)) (upd H' p (.tup vs)) := Ext.new I'.sub np
      refine h _ _ (.ref p) fj (I'.ext.trans ex) ⟨⟨p, vs, rfl, upd_same, ro.at (upd_at np ro.mut)⟩, nd⟩ fun q hq => ?_
      obtain ⟨i, _, hq2⟩ := hj q hq
      refine ⟨?_, (I'.fpm i q hq2).2.1⟩
      rw [upd_ne]
      · exact (I'.fpm i q hq2).1
      · intro z
        subst z
        have := (I'.fpm i q hq2).2.2
        rw [np] at this
        exact this
    · exact h.elim
  · exact h.elim
end
end DL

/-! DL16: more operators. -/
namespace DL
open PySem PySem.Spec PyProof.Rows L2
def g_neg : D → Res D
  | .int i => .ok (.int (-i))
  | _ => .no
instance (i j : Int) : Decidable (CPow i j) := inferInstanceAs (Decidable (_ ∧ _ ∧ _))
def g_pow : D → D → Res D
  | .int i, .int j => if CPow i j then .ok (.int (i ^ j.toNat)) else .no
  | _, _ => .no
def g_shr : D → D → Res D
  | .int i, .int j => if 0 ≤ j then .ok (.int (i / 2 ^ j.toNat)) else .no
  | _, _ => .no
def g_and : D → D → Res D
  | .int i, .int j => .ok (.int (Builtin.bitAnd i j))
  | _, _ => .no
instance (i j : Int) : Decidable (CMulW i j) := inferInstanceAs (Decidable (_ < _))
def g_mulW : D → D → Res D
  | .int i, .int j => if CMulW i j then .ok (.int (i * j)) else .no
  | _, _ => .no
section
variable {X : Cx} {W : WX} {e : Expr} {f : Env → Res D} {pos : Pos}
theorem de_neg (d : DE X W e f) : DE X W (.UnaryOp .USub e pos) (v1 g_neg f) := by
  obtain ⟨t1, p1, h1⟩ := d
  refine ⟨_, pe_un un_neg p1, fun G H σ ρ Q s e h => ?_⟩
  refine h1 G H σ ρ _ s e (Gl.imp (fun x G1 H1 _ e1 k v rv => ?_) (Gl.bind h))
  cases x with
  | int i => exact ⟨i, rv, Gl.int e1.s k⟩
  | _ => exact k.elim
theorem say_pow : Say2 X W (rI CPow fun i j => .int (i ^ j.toNat)) g_pow := by
  intro G H σ Q x y a b s r1 r2 h
  cases x with
  | int i =>
    cases y with
    | int j =>
      simp only [g_pow] at h
      split at h
      · rename_i z; exact ⟨i, j, r1, r2, z, h.int s⟩
      · exact h.elim
    | _ => exact h.elim
  | _ => exact h.elim
theorem say_shr : Say2 X W (rI (fun _ j => 0 ≤ j) fun i j => .int (i / 2 ^ j.toNat)) g_shr := by
  intro G H σ Q x y a b s r1 r2 h
  cases x with
  | int i =>
    cases y with
    | int j =>
      simp only [g_shr] at h
      split at h
      · rename_i z; exact ⟨i, j, r1, r2, z, h.int s⟩
      · exact h.elim
    | _ => exact h.elim
  | _ => exact h.elim
theorem say_and : Say2 X W (rI0 fun i j => .int (Builtin.bitAnd i j)) g_and := by
  intro G H σ Q x y a b s r1 r2 h
  cases x with
  | int i =>
    cases y with
    | int j => exact ⟨i, j, r1, r2, h.int s⟩
    | _ => exact h.elim
  | _ => exact h.elim
theorem say_mulW : Say2 X W (rI CMulW fun i j => .int (i * j)) g_mulW := by
  intro G H σ Q x y a b s r1 r2 h
  cases x with
  | int i =>
    cases y with
    | int j =>
      simp only [g_mulW] at h
      split at h
      · rename_i z; exact ⟨i, j, r1, r2, z, h.int s⟩
      · exact h.elim
    | _ => exact h.elim
  | _ => exact h.elim
end
end DL

/-! DM6: raise, try, places: equations. -/
namespace DL
open PySem L2
section
variable {ρ : DL.Env} {j : Nat} {F : DSem} {sel : Sel} {f g : DL.Env → Res D}
@[simp] theorem s_raise {c : Str} : sRaise c ρ = .ex c ρ := rfl
def tryK (hs : List (List (Str × Bool) × DSem)) : Out → Out
  | .ex c ρ' => hdsF c ρ' hs
  | o => o
@[simp] theorem tryK_nx {hs : List (List (Str × Bool) × DSem)} : tryK hs (.nx ρ) = .nx ρ := rfl
@[simp] theorem tryK_rt {hs : List (List (Str × Bool) × DSem)} {d : D} : tryK hs (.rt d) = .rt d := rfl
@[simp] theorem tryK_ex {hs : List (List (Str × Bool) × DSem)} {c : Str} : tryK hs (.ex c ρ) = hdsF c ρ hs := rfl
@[simp] theorem s_try {hs : List (List (Str × Bool) × DSem)} : sTry F hs ρ = tryK hs (F ρ) := by unfold sTry tryK; rfl
@[simp] theorem hdsF_nil {c : Str} : hdsF c ρ [] = .ex c ρ := rfl
def hdB (c : Str) (ρ : DL.Env) (F : DSem) (r : List (List (Str × Bool) × DSem)) : Option Bool → Out
  | some true => noExO (F ρ)
  | some false => hdsF c ρ r
  | none => .no
@[simp] theorem hdsF_cons {c : Str} {tbl : List (Str × Bool)} {r : List (List (Str × Bool) × DSem)} : hdsF c ρ ((tbl, F) :: r) = hdB c ρ F r (tbl.lookup c) := by
  show (match tbl.lookup c with | some true => noExO (F ρ) | some false => hdsF c ρ r | none => .no) = _
  unfold hdB; rfl
@[simp] theorem hdB_t {c : Str} {r : List (List (Str × Bool) × DSem)} : hdB c ρ F r (some true) = noExO (F ρ) := rfl
@[simp] theorem hdB_f {c : Str} {r : List (List (Str × Bool) × DSem)} : hdB c ρ F r (some false) = hdsF c ρ r := rfl
@[simp] theorem noExO_nx : noExO (.nx ρ) = .nx ρ := rfl
@[simp] theorem noExO_rt {d : D} : noExO (.rt d) = .rt d := rfl
@[simp] theorem pName_eq : pName j ρ = (match ρ[j]? with | some (some d) => .ok (d, []) | _ => .no) := rfl
@[simp] theorem pIx_eq : pIx j sel f ρ = (noEx (sel ρ)).thn fun x => (noEx (f (ρ.set j (some x.1)))).thn fun k => stepTo x.1 x.2 k := rfl
@[simp] theorem pSetd_eq : pSetd j sel f g ρ = (noEx (sel ρ)).thn fun x => if isDicP x.1 x.2 = true then (noEx (f (ρ.set j (some x.1)))).thn fun k => (noEx (g (ρ.set j (some x.1)))).thn fun y => setdTo x.1 x.2 k y else .no := rfl
@[simp] theorem atSel_ok {d : D} {p : List Stp} {k : D → List Stp → Out} : atSel (.ok (d, p)) k = k d p := rfl
@[simp] theorem s_pappI : sPAppI j sel f ρ = atSel (sel ρ) fun d1 p => if isLstP d1 p = true then andThen (f (ρ.set j (some d1))) (ρ.set j (some d1)) fun d => if imm d = true then pApp j (ρ.set j (some d1)) d1 p d else .no else .no := rfl
@[simp] theorem s_pappF : sPAppF j sel f ρ = atSel (sel ρ) fun d1 p => if isLstP d1 p = true then andThen (f (ρ.set j (some d1))) (ρ.set j (some d1)) fun d => pApp j (ρ.set j (some d1)) d1 p d else .no := rfl
@[simp] theorem s_pclear : sPClear j sel ρ = atSel (sel ρ) fun d1 p => if isLstP d1 p = true then .nx (ρ.set j (some (setP d1 p (.lst [])))) else .no := rfl
@[simp] theorem s_pputI : sPPutI j sel f g ρ = andThen (g ρ) ρ fun d => if imm d = true then atSel (sel ρ) fun d1 p => if isDicP d1 p = true then andThen (f (ρ.set j (some d1))) (ρ.set j (some d1)) fun k => pPut j (ρ.set j (some d1)) d1 p k d else .no else .no := rfl
@[simp] theorem s_pputF : sPPutF j sel f g ρ = andThen (g ρ) ρ fun d => atSel (sel ρ) fun d1 p => if isDicP d1 p = true then andThen (f (ρ.set j (some d1))) (ρ.set j (some d1)) fun k => pPut j (ρ.set j (some d1)) d1 p k d else .no := rfl
@[simp] theorem getP_nil {d : D} : getP d [] = some d := rfl
@[simp] theorem getP_cons {d : D} {s : Stp} {p : List Stp} : getP d (s :: p) = (getS d s).bind fun e => getP e p := rfl
@[simp] theorem setP_nil {d x : D} : setP d [] x = x := rfl
@[simp] theorem setP_cons {d x : D} {s : Stp} {p : List Stp} : setP d (s :: p) x = (match getS d s with | some e => setSt d s (setP e p x) | none => d) := rfl
@[simp] theorem getS_tup {xs : List D} {n : Nat} : getS (.tup xs) (.ix n) = xs[n]? := rfl
@[simp] theorem getS_lst {xs : List D} {n : Nat} : getS (.lst xs) (.ix n) = xs[n]? := rfl
@[simp] theorem getS_dT {xs : List (List Key × D)} {k : List Key} : getS (.dT xs) (.kT k) = getA xs k := rfl
@[simp] theorem getS_dK {xs : List (Key × D)} {k : Key} : getS (.dK xs) (.kK k) = getA xs k := rfl
@[simp] theorem setSt_tup {xs : List D} {n : Nat} {x : D} : setSt (.tup xs) (.ix n) x = .tup (xs.set n x) := rfl
@[simp] theorem setSt_lst {xs : List D} {n : Nat} {x : D} : setSt (.lst xs) (.ix n) x = .lst (xs.set n x) := rfl
@[simp] theorem setSt_dT {xs : List (List Key × D)} {k : List Key} {x : D} : setSt (.dT xs) (.kT k) x = .dT (setA xs k x) := rfl
@[simp] theorem setSt_dK {xs : List (Key × D)} {k : Key} {x : D} : setSt (.dK xs) (.kK k) x = .dK (setA xs k x) := rfl
@[simp] theorem stpOf_lst {xs : List D} {i : Int} : stpOf (.lst xs) (.int i) = (ixN xs.length i).map .ix := rfl
@[simp] theorem stpOf_tup {xs : List D} {i : Int} : stpOf (.tup xs) (.int i) = (ixN xs.length i).map .ix := rfl
@[simp] theorem s_asgM {h : DL.Env → Res (DL.Env × D)} : sAsgM j h ρ = (match h ρ with | .ok (ρ', d) => .nx (ρ'.set j (some d)) | _ => .no) := rfl
@[simp] theorem s_unpM {h : DL.Env → Res (DL.Env × D)} {is : List Nat} {ks : D → Res (List D)} : sUnpM is ks h ρ = (match h ρ with | .ok (ρ', d) => (match ks d with | .ok l => .nx (setE ρ' is l) | _ => .no) | _ => .no) := rfl
@[simp] theorem s_putM {own : Owns} {h : DL.Env → Res (DL.Env × D)} : sPutM own j h g ρ = if hasE ρ j = true then andThen (g (maskE own ρ)) ρ fun d => (match h ρ with | .ok (ρ', k) => if hasE ρ' j = true then putO ρ' j k d else .no | _ => .no) else .no := rfl
@[simp] theorem fPop_eq {own : Owns} : fPop own j ρ = (match ρ[j]? with | some (some (.lst ds)) => (match ds.getLast? with | some d => if own.lookup j = some .sh ∨ imm d = true then .ok (ρ.set j (some (.lst ds.dropLast)), d) else .no | none => .no) | _ => .no) := rfl
@[simp] theorem e_aoOwn {h : DL.Env → Res (List D)} : aoOwn j h ρ = (match ρ[j]? with | some (some d) => (noEx (h ρ)).thn fun xs => .ok (d :: xs) | _ => .no) := rfl
@[simp] theorem e_aoImm {h : DL.Env → Res (List D)} : aoImm f h ρ = (noEx (f ρ)).thn fun x => if imm x = true then (noEx (h ρ)).thn fun xs => .ok (x :: xs) else .no := rfl
@[simp] theorem s_retTO {h : DL.Env → Res (List D)} : sRetTO h ρ = (match h ρ with | .ok xs => if xs.length ≤ sizeLine then .rt (.tup xs) else .no | _ => .no) := rfl
@[simp] theorem cutA_to1 {α : Type} (xs : List α) : cutA xs none (some 1) = xs.take 1 := cutA_to xs 1
@[simp] theorem cutA_to2 {α : Type} (xs : List α) : cutA xs none (some 2) = xs.take 2 := cutA_to xs 2
@[simp] theorem cutA_to3 {α : Type} (xs : List α) : cutA xs none (some 3) = xs.take 3 := cutA_to xs 3
@[simp] theorem cutA_to4 {α : Type} (xs : List α) : cutA xs none (some 4) = xs.take 4 := cutA_to xs 4
@[simp] theorem cutA_to5 {α : Type} (xs : List α) : cutA xs none (some 5) = xs.take 5 := cutA_to xs 5
@[simp] theorem cutA_to6 {α : Type} (xs : List α) : cutA xs none (some 6) = xs.take 6 := cutA_to xs 6
@[simp] theorem cutA_to60 {α : Type} (xs : List α) : cutA xs none (some 60) = xs.take 60 := cutA_to xs 60
@[simp] theorem cutA_from1 {α : Type} (xs : List α) : cutA xs (some 1) none = xs.drop 1 := cutA_from xs 1
@[simp] theorem cutA_from2 {α : Type} (xs : List α) : cutA xs (some 2) none = xs.drop 2 := cutA_from xs 2
@[simp] theorem cutA_from3 {α : Type} (xs : List α) : cutA xs (some 3) none = xs.drop 3 := cutA_from xs 3
@[simp] theorem cutA_from4 {α : Type} (xs : List α) : cutA xs (some 4) none = xs.drop 4 := cutA_from xs 4
@[simp] theorem cutA_mid4_64 {α : Type} (xs : List α) : cutA xs (some 4) (some 64) = (xs.drop 4).take 60 := cutA_mid xs 4 64
@[simp] theorem cutA_mid2_26 {α : Type} (xs : List α) : cutA xs (some 2) (some 26) = (xs.drop 2).take 24 := cutA_mid xs 2 26
@[simp] theorem cutA_mid2_102 {α : Type} (xs : List α) : cutA xs (some 2) (some 102) = (xs.drop 2).take 100 := cutA_mid xs 2 102
@[simp] theorem cutA_mid2_62 {α : Type} (xs : List α) : cutA xs (some 2) (some 62) = (xs.drop 2).take 60 := cutA_mid xs 2 62
@[simp] theorem c_all_nil : c_all [.lst []] = .ok (.bl true) := rfl
@[simp] theorem c_all_cons (b : Bool) (xs : List D) : c_all [.lst (.bl b :: xs)] = (c_all [.lst xs]).thn fun r => (bOf r).thn fun c => .ok (.bl (b && c)) := by
  unfold c_all
  simp only [boolsOf]
  cases boolsOf xs with
  | none => rfl
  | some bs => rfl
def stepR (d1 : D) (p : List Stp) (c : D) : Option Stp → Res (D × List Stp)
  | some s => if (getS c s).isSome = true then .ok (d1, p ++ [s]) else .no
  | none => .no
@[simp] theorem stepR_some {d1 c : D} {p : List Stp} {s : Stp} : stepR d1 p c (some s) = if (getS c s).isSome = true then .ok (d1, p ++ [s]) else .no := rfl
def stepC (d1 : D) (p : List Stp) (k : D) : Option D → Res (D × List Stp)
  | some c => stepR d1 p c (stpOf c k)
  | none => .no
@[simp] theorem stepC_some {d1 c k : D} {p : List Stp} : stepC d1 p k (some c) = stepR d1 p c (stpOf c k) := rfl
@[simp] theorem stepTo_eq {d1 k : D} {p : List Stp} : stepTo d1 p k = stepC d1 p k (getP d1 p) := by
  unfold stepTo stepC stepR
  cases getP d1 p with
  | none => rfl
  | some c => rfl
@[simp] theorem isLstP_eq {d1 : D} {p : List Stp} : isLstP d1 p = (match getP d1 p with | some (.lst _) => true | _ => false) := rfl
@[simp] theorem isDicP_eq {d1 : D} {p : List Stp} : isDicP d1 p = (match getP d1 p with | some d => isDic d | none => false) := rfl
@[simp] theorem isDic_K {kvs} : isDic (.dK kvs) = true := rfl
@[simp] theorem isDic_T {kvs} : isDic (.dT kvs) = true := rfl
@[simp] theorem pApp_eq {j : Nat} {ρ : DL.Env} {d1 d : D} {p : List Stp} : pApp j ρ d1 p d = (match getP d1 p with | some (.lst ds) => if ds.length < sizeLine then .nx (ρ.set j (some (setP d1 p (.lst (ds ++ [d]))))) else .no | _ => .no) := rfl
@[simp] theorem pPut_eq {j : Nat} {ρ : DL.Env} {d1 k d : D} {p : List Stp} : pPut j ρ d1 p k d = (match getP d1 p with | some c => (match putAt c k d with | some c' => .nx (ρ.set j (some (setP d1 p c'))) | none => .no) | none => .no) := rfl
@[simp] theorem g_neg_int (i : Int) : g_neg (.int i) = .ok (.int (-i)) := rfl
@[simp] theorem g_and_int (i j : Int) : g_and (.int i) (.int j) = .ok (.int (Builtin.bitAnd i j)) := rfl
theorem g_shr_int {i j : Int} (h : 0 ≤ j) : g_shr (.int i) (.int j) = .ok (.int (i / 2 ^ j.toNat)) := by simp [g_shr, h]
theorem g_pow_int {i j : Int} (h : 0 ≤ j) (h2 : j ≤ 1000000) (h3 : i.natAbs < 18446744073709551616) : g_pow (.int i) (.int j) = .ok (.int (i ^ j.toNat)) := by
  have : CPow i j := ⟨h, h2, h3⟩
  simp [g_pow, this]
theorem g_mulW_int {i j : Int} (a b : Nat) (ha : i.natAbs < 2 ^ a) (hb : j.natAbs < 2 ^ b) (h0 : 0 < a) (h1 : 0 < b) (h : a + b ≤ 1000000) : g_mulW (.int i) (.int j) = .ok (.int (i * j)) := by
  have := wide_mul ha hb h0 h1 h
  simp [g_mulW, this]
@[simp] theorem ixN_lit0 (n : Nat) : ixN (n + 1) 0 = some 0 := ixN_0 n
@[simp] theorem ixN_lit1 (n : Nat) : ixN (n + 2) 1 = some 1 := by unfold ixN; simp; omega
@[simp] theorem ixN_lit2 (n : Nat) : ixN (n + 3) 2 = some 2 := by unfold ixN; simp; omega
end
end DL

/-! DM7: loops that are left early. -/
namespace DL
open PySem L2
theorem forF_stopx {α S : Type} {is fg : List Nat} {ks : D → Res (List D)} {F : DSem} {enc : α → D} {ρ : DL.Env} {o : Out} (φ : S → DL.Env) (Iv : Nat → S → Prop) (P : Out → Prop) : ∀ {xs : List α}, forF is ks F fg (xs.map enc) ρ = o → ∀ (j : Nat) (s : S) (n : Nat), Iv n s → ρ = φ s → j < xs.length →
    (∀ i s x, i < j → xs[i]? = some x → Iv (n + i) s → ∃ s2, turn is ks F fg (enc x) (φ s) = .inl (φ s2) ∧ Iv (n + i + 1) s2) → (∀ s x, xs[j]? = some x → Iv (n + j) s → ∃ o', turn is ks F fg (enc x) (φ s) = .inr o' ∧ P o') → P o
  | [], _, j, _, _, _, _, hj, _, _ => by simp at hj
  | x :: r, hF, 0, s, n, h, e, hj, hs, ht => by
    obtain ⟨o', h1, h2⟩ := ht s x rfl h
    rw [List.map_cons, forF_cons, e, h1] at hF
    simp only at hF
    rw [← hF]; exact h2
  | x :: r, hF, j + 1, s, n, h, e, hj, hs, ht => by
    obtain ⟨s2, h1, h2⟩ := hs 0 s x (by omega) rfl h
    rw [List.map_cons, forF_cons, e, h1] at hF
    exact forF_stopx φ Iv P hF j s2 (n + 1) h2 rfl (by simpa using hj) (fun i s2 x2 hi e2 iv => by
        have := hs (i + 1) s2 x2 (by omega) (by simpa using e2) (by rwa [show n + (i + 1) = n + 1 + i by omega])
        rwa [show n + (i + 1) = n + 1 + i by omega] at this) (fun s x e iv => ht s x (by simpa using e) (by rwa [show n + (j + 1) = n + 1 + j by omega]))
theorem forF_stop {α S : Type} {is fg : List Nat} {ks : D → Res (List D)} {F : DSem} {enc : α → D} {ρ : DL.Env} {o : Out} {xs : List α} (hF : forF is ks F fg (xs.map enc) ρ = o) (φ : S → DL.Env) (Iv : Nat → S → Prop) (P : Out → Prop) (j : Nat) (s : S) (h : Iv 0 s) (e : ρ = φ s) (hj : j < xs.length)
    (hs : ∀ i s x, i < j → xs[i]? = some x → Iv i s → ∃ s2, turn is ks F fg (enc x) (φ s) = .inl (φ s2) ∧ Iv (i + 1) s2) (ht : ∀ s x, xs[j]? = some x → Iv j s → ∃ o', turn is ks F fg (enc x) (φ s) = .inr o' ∧ P o') : P o :=
  forF_stopx φ Iv P hF j s 0 h e hj (fun i s x hi hx iv => by simpa using hs i s x hi hx (by simpa using iv)) (fun s x hx iv => ht s x hx (by simpa using iv))
/-- a loop that looks for the first x with p, and hands something back there -/
theorem forF_find {α : Type} {is fg : List Nat} {ks : D → Res (List D)} {F : DSem} {enc : α → D} {ρ : DL.Env} (p : α → Bool) (g : α → Out) {xs : List α} (hs : ∀ x ∈ xs, turn is ks F fg (enc x) ρ = if p x then .inr (g x) else .inl ρ) :
    forF is ks F fg (xs.map enc) ρ = match xs.find? p with | some x => g x | none => .nx ρ := by
  induction xs with
  | nil => rfl
  | cons x r ih =>
    rw [List.map_cons, forF_cons, hs x List.mem_cons_self]
    cases q : p x with
    | true => simp [List.find?_cons, q]
    | false => simp [List.find?_cons, q]; exact ih fun y hy => hs y (List.mem_cons_of_mem _ hy)
@[simp] theorem nbs_rev (n : Nat) : ∀ xs : List D, nbs n xs.reverse = nbs n xs
  | [] => rfl
  | x :: r => by rw [List.reverse_cons, nbs_app, nbs_rev n r]; simp [Bool.and_comm]
@[simp] theorem imms_rev : ∀ xs : List D, imms xs.reverse = imms xs
  | [] => rfl
  | x :: r => by rw [List.reverse_cons, imms_app, imms_rev r]; simp [Bool.and_comm]
@[simp] theorem nbs_nats (n : Nat) (xs : List Nat) : nbs n (xs.map fun (k : Nat) => D.int (k : Int)) = true := nbs_map (fun x => nb_int n _) xs
@[simp] theorem imms_nats (xs : List Nat) : imms (xs.map fun (k : Nat) => D.int (k : Int)) = true := imms_map (fun x => imm_int _) xs
@[simp] theorem gm_int {i j : Int} (h : 0 < j) : g_mod (.int i) (.int j) = .ok (.int (i % j)) := g_mod_int h
@[simp] theorem gd_int {i j : Int} (h : 0 < j) (h2 : j < 18446744073709551616) : g_fdiv (.int i) (.int j) = .ok (.int (i / j)) := g_fdiv_int h h2
@[simp] theorem gx_int {i j : Int} (h : (-18446744073709551616 < i ∧ i < 18446744073709551616) ∨ (-18446744073709551616 < j ∧ j < 18446744073709551616)) : g_mul (.int i) (.int j) = .ok (.int (i * j)) := g_mul_int h
@[simp] theorem g_isN_eq (x : D) : g_isN x .non = .ok (.bl (nonD x)) := by cases x <;> rfl
@[simp] theorem g_notN_eq (x : D) : g_notN x .non = .ok (.bl (!nonD x)) := by cases x <;> rfl
@[simp] theorem nonD_non : nonD .non = true := rfl
@[simp] theorem nonD_int (i : Int) : nonD (.int i) = false := rfl
@[simp] theorem nonD_tup (i : List D) : nonD (.tup i) = false := rfl
@[simp] theorem nonD_lst (i : List D) : nonD (.lst i) = false := rfl
@[simp] theorem nonD_str (i : Str) : nonD (.str i) = false := rfl
@[simp] theorem nonD_bl (i : Bool) : nonD (.bl i) = false := rfl
theorem rng2_ok {i j : Int} (h0 : -4611686018427387904 ≤ i) (h : i < 4611686018427387904) (h1 : -4611686018427387904 ≤ j) (h2 : j < 4611686018427387904) : rng2 (.int i) (.int j) = .ok (rangeD i (j - i).toNat) := by
  show (if -(2 ^ 62) ≤ i ∧ i < 2 ^ 62 ∧ -(2 ^ 62) ≤ j ∧ j < 2 ^ 62 then Res.ok (rangeD i (j - i).toNat) else Res.no) = _
  rw [if_pos ⟨by omega, by omega, by omega, by omega⟩]
/-- range(a, b) of numbers from nought on -/
theorem rng2_nat {a b : Nat} (ha : a < 1000000) (hb : b < 1000000) : rng2 (.int (a : Int)) (.int (b : Int)) = .ok ((List.range' a (b - a)).map fun (j : Nat) => D.int (j : Int)) := by
  rw [rng2_ok (by omega) (by omega) (by omega) (by omega)]
  congr 1
  unfold rangeD
  rw [show ((b : Int) - (a : Int)).toNat = b - a by omega, List.range'_eq_map_range, List.map_map]
  apply List.map_congr_left
  intro x _
  simp
end DL

/-! DL17: try .. except C as e: assignments that ask isinstance(e, ..). -/
namespace DL
open PySem PySem.Spec PyProof.Rows L2
theorem SIf.junk' {fp} {G0 H0 G H : Hp} {own : Owns} {σ : L2.St} {ρ : Env} (I : SIf fp G0 H0 own G H σ ρ) {r : Nat} {x : Option V} (hn : ∀ d, ρ[r]? ≠ some (some d)) (hr : own.lookup r = none) : SIf fp G0 H0 own G H (σ.set r x) ρ :=
  ⟨I.ext, by rw [I.len, List.length_set], fun i d e q => by
    have hi : r ≠ i := fun z => by subst z; exact hn d e
    obtain ⟨v, h1, h2⟩ := I.val i d e q
    exact ⟨v, by rw [List.getElem?_set_ne hi]; exact h1, h2⟩, fun i k d q e => by
    have hi : r ≠ i := fun z => by subst z; exact hn d e
    obtain ⟨v, h1, h2⟩ := I.own i k d q e
    exact ⟨v, by rw [List.getElem?_set_ne hi]; exact h1, h2⟩, I.fpm, I.fpd, fun i v q n => by
    have hi : r ≠ i := fun z => by subst z; exact n hr
    rw [List.getElem?_set_ne hi]
    exact I.pin i v q n⟩
theorem set_none_no {ρ : Env} {i : Nat} (d : D) : (ρ.set i none)[i]? ≠ some (some d) := fun e => by
  by_cases h : i < ρ.length
  · rw [List.getElem?_set_self h] at e; cases e
  · rw [List.getElem?_eq_none (by simpa using h)] at e; cases e
/-- an expression read while slot i holds the object a -/
def DEp (X : Cx) (i : Nat) (a : Addr) (e : Expr) (f : Env → Res D) : Prop :=
  ∃ t : TE, PE X e t ∧ ∀ (G H : Hp) (σ : L2.St) (ρ : Env) (Q : VK), Sub G H → EnvR G σ ρ → σ[i]? = some (some (.ref a)) → GlE X.mg W0 G H σ Q (f ρ) → t σ H Q
def DAp (X : Cx) (i : Nat) (a : Addr) (es : List Expr) (f : Env → Res (List D)) : Prop :=
  ∃ t : TA, PA X es t ∧ ∀ (G H : Hp) (σ : L2.St) (ρ : Env) (Q : List V → Hp → Prop), Sub G H → EnvR G σ ρ → σ[i]? = some (some (.ref a)) → GlA X.mg W0 G H σ Q (f ρ) → t σ H Q
section
variable {X : Cx} {i : Nat} {a : Addr} {e : Expr} {es : List Expr} {f : Env → Res D} {g : Env → Res (List D)} {pos : Pos}
theorem dep_of (d : DE X W0 e f) : DEp X i a e f := let ⟨t, p, h⟩ := d; ⟨t, p, fun G H σ ρ Q s e _ k => h G H σ ρ Q s e k⟩
theorem dap_nil : DAp X i a [] aNil := ⟨_, pa_nil, fun G H σ ρ Q s e _ h => h G H (Ext.refl s) [] rfl⟩
theorem dap_cons (d1 : DEp X i a e f) (d2 : DAp X i a es g) (hs : starEach (e :: es) X.env = (false, eval e X.env) :: starEach es X.env := by rfl) : DAp X i a (e :: es) (aCons f g) := by
  obtain ⟨t1, p1, h1⟩ := d1
  obtain ⟨t2, p2, h2⟩ := d2
  refine ⟨_, pa_cons p1 p2 hs, fun G H σ ρ Q s e pn h => ?_⟩
  refine h1 G H σ ρ _ s e pn (Gl.imp (fun x G1 H1 _ e1 k v rv => ?_) (Gl.bind h))
  refine h2 G1 H1 σ ρ _ e1.s (e.le e1.le) pn (Gl.imp (fun xs G2 H2 _ e2 k vs rvs => ?_) (Gl.bind k))
  exact k G2 H2 (Ext.refl e2.s) (v :: vs) ⟨v, vs, rfl, rv.le e2.le, rvs⟩
theorem dep_lst (d : DAp X i a es g) : DEp X i a (.List es pos) (vLst g) := by
  obtain ⟨t1, p1, h1⟩ := d
  refine ⟨_, pe_lst p1, fun G H σ ρ Q s e pn h => ?_⟩
  refine h1 G H σ ρ _ s e pn (Gl.imp (fun xs G1 H1 _ e1 k vs rvs => ?_) (Gl.bind h))
  split at k
  · rename_i z
    exact ⟨by rw [rvs.length]; exact z, fun p np => Gl.newL e1.s np rvs k⟩
  · exact k.elim
theorem dep_ix {e2 : Expr} {f2 : Env → Res D} (hu : X.A.units + 1 < cLine) (d1 : DEp X i a e f) (d2 : DEp X i a e2 f2) (hs : PlainIx e2) : DEp X i a (.Subscript e e2 pos) (v2 g_ix f f2) := by
  obtain ⟨t1, p1, h1⟩ := d1
  obtain ⟨t2, p2, h2⟩ := d2
  refine ⟨_, pe_ix (ix_any hu) p1 p2 hs, fun G H σ ρ Q s e pn h => ?_⟩
  refine h1 G H σ ρ _ s e pn (Gl.imp (fun x G1 H1 _ e1 k v rv => ?_) (Gl.bind h))
  refine h2 G1 H1 σ ρ _ e1.s (e.le e1.le) pn (Gl.imp (fun y G2 H2 _ e2 k w rw => ?_) (Gl.bind k))
  exact say_ix (X := X) (W := W0) G2 H2 σ Q x y v w e2.s (rv.le e2.le) rw k
theorem dep_int {p : Pos} (hg : L2.Gl X "int") (hm : X.mg "int" = none) (d : DAp X i a (e :: es) g) (he : starEach (e :: es) X.env = (false, eval e X.env) :: starEach es X.env := by rfl) (hpl : (backTo pos (starEach es X.env)).any (·.1) = false := by rfl) : DEp X i a (.Call (.Name "int" p) (e :: es) [] pos) (vCall c_int g) := by
  obtain ⟨t, pa, h1⟩ := d
  refine ⟨_, pe_callTy call_int1 hg hm (by decide +kernel) pa (by decide) (by decide) he hpl, fun G H σ ρ Q s e pn h => ?_⟩
  refine h1 G H σ ρ _ s e pn (Gl.imp (fun ds G1 H1 _ e1 k vs rv => ?_) (Gl.bind h))
  exact say_int (X := X) (W := W0) G1 H1 σ Q ds vs e1.s rv k
theorem dep_one {op} (d : DEp X i a e f) : DEp X i a (.BoolOp op [e] pos) f := let ⟨t, p, h⟩ := d; ⟨t, pe_one p, h⟩
theorem dep_and {b : Expr} {rest : List Expr} {f2 : Env → Res D} (d1 : DEp X i a e f) (d2 : DEp X i a (.BoolOp .And (b :: rest) pos) f2) : DEp X i a (.BoolOp .And (e :: b :: rest) pos) (vAnd f f2) := by
  obtain ⟨t1, p1, h1⟩ := d1
  obtain ⟨t2, p2, h2⟩ := d2
  refine ⟨_, pe_and p1 p2, fun G H σ ρ Q s e pn h => ?_⟩
  have h' : GlE X.mg W0 G H σ Q (f ρ >>= fun x => bOf x >>= fun b => if b = true then f2 ρ else .ok (.bl false)) := by
    unfold vAnd at h
    cases q : f ρ <;> rw [q] at h <;> exact h
  refine h1 G H σ ρ _ s e pn (Gl.imp (fun x G1 H1 _ e1 k v rv => ?_) (Gl.bind h'))
  obtain ⟨c, ec, k⟩ := Gl.bl2 rv k
  refine ⟨c, ec, ?_⟩
  cases c with
  | true => exact h2 G1 H1 σ ρ Q e1.s (e.le e1.le) pn k
  | false => exact Gl.bl e1.s k
end
section
variable {X : Cx} {i : Nat} {a D0 : Addr} {oe : Obj} {pn : List (Addr × Obj)} {pos : Pos}
/-- isinstance(e, C), e the exception of the class D0 in slot i -/
theorem dep_isE {x y : Str} {p1 p2 p3 : Pos} {c : V} {cv : Value} {b : Bool} (C : ExcC X.K D0) (hz : Zc (.ref D0) none oe) (hf : ∃ vs, oe.data = .fields vs) (pe : PE (X.suite a ((a, oe) :: pn)) (.Name x p1) (tVar i)) (pc : PE (X.suite a ((a, oe) :: pn)) (.Name y p2) (tC c)) (hcv : ∀ u, RelV c u → u = cv)
    (hk : PySem.W.kitOne X.K (.ref D0) cv = some b) (hg : L2.Gl (X.suite a ((a, oe) :: pn)) "isinstance") (hm : X.mg "isinstance" = none)
    (he : starEach [.Name x p1, .Name y p2] X.env = (false, eval (.Name x p1) X.env) :: starEach [.Name y p2] X.env := by rfl) (he2 : starEach [.Name y p2] X.env = (false, eval (.Name y p2) X.env) :: starEach [] X.env := by rfl) (hpl : (backTo pos (starEach [.Name y p2] X.env)).any (·.1) = false := by rfl) :
    DEp (X.suite a ((a, oe) :: pn)) i a (.Call (.Name "isinstance" p3) [.Name x p1, .Name y p2] [] pos) (vC (.bl b)) := by
  refine ⟨_, pe_callB (call_isE C hz hf) hg hm (by decide +kernel) (pa_cons pe (pa_cons pc pa_nil he2) he) (by decide) (by decide) he hpl, fun G H σ ρ Q s e pn h => ?_⟩
  exact ⟨.ref a, pn, c, cv, b, rfl, hcv, hk, h.bl s⟩
/-- an assignment in the suite -/
def DSp (X : Cx) (J : Jd) (own own' : Owns) (i : Nat) (a : Addr) (st : List Stmt) (F : DSem) : Prop :=
  ∃ t : TS, PSs X st t ∧ ∀ (G0 H0 G H : Hp) (σ : L2.St) (ρ : Env) (Dn : Ends), SI G0 H0 own G H σ ρ → σ[i]? = some (some (.ref a)) → GS X.mg J G0 H0 own' Dn (F ρ) → t Dn σ H
theorem dsp_asg {X : Cx} {J : Jd} {own : Owns} {i j : Nat} {a : Addr} {x : Str} {e : Expr} {f : Env → Res D} {pos pos' : Pos} (hN : X.N.Nodup) (hi : X.N[j]? = some x) (hl : Loc X.env.scope x) (d : DEp X i a e f) (ho : own.lookup j = none) (hW : J.W = W0)
    (hs : swapsWith e (some (.Name x pos')) pos.line X.env = pure false := by rfl) (hf : X.fn x = true ∨ X.env.scope.names.lookup x = some .local := by first | exact .inl rfl | exact .inr rfl) (hx : oxSub J.ox own = true := by rfl) :
    DSp X J own own i a [.Assign [.Name x pos'] e pos] (sAsg own j f) := by
  obtain ⟨t, p, h1⟩ := d
  refine ⟨_, pss_one (ps_set hN hi hl p hs hf), fun G0 H0 G H σ ρ Dn ⟨fp, I⟩ pn h => ?_⟩
  refine h1 G H σ (maskE own ρ) _ I.sub I.masked pn ?_
  have := toP (J := J) (Dn := Dn) (P := fun d G' H' => ∀ v, Rep G' d v → Dn.nx (σ.set j (some v)) H') hx I I.sub h fun d _ hk G' H' e v rv => by
    have I2 := (I.grow e).set (j := j) (d := d) (v := v) ho rv
    exact hk G' H' _ ⟨fp, I2⟩
  rw [hW] at this
  exact this
theorem nx_asg (own : Owns) (j : Nat) (f : Env → Res D) (ρ : Env) : (∃ ρ', sAsg own j f ρ = .nx ρ') ∨ sAsg own j f ρ = .no ∨ ∃ c ρ', sAsg own j f ρ = .ex c ρ' := by
  unfold sAsg andThen
  cases f (maskE own ρ) with
  | ok d => exact .inl ⟨_, rfl⟩
  | ex c => exact .inr (.inr ⟨_, _, rfl⟩)
  | no => exact .inr (.inl rfl)
/-! ### try .. except C as e -/
def sTryAs (i : Nat) (F1 : DSem) (l : List (Str × DSem)) : DSem := fun ρ => match F1 ρ with
  | .ex c ρ' => (match l.lookup c with
    | some F2 => if i < ρ'.length then noExO (match F2 (ρ'.set i none) with | .nx ρ'' => .nx (ρ''.set i none) | o => o) else .no
    | none => .no)
  | o => o
theorem ds_tryAs {X : Cx} {J : Jd} {own : Owns} {body suite : List Stmt} {b0 : Stmt} {x n : Str} {hv : Value} {i : Nat} {c0 : Str} {C0 : Addr} {F1 F2 : DSem} {np pos pos' : Pos} (hs : X.stack = X.env :: X.outer) (hf : X.env.frame = some X.env.locals) (hN : X.N.Nodup) (hi : X.N[i]? = some n) (hln : X.env.kindOf n = some .local) (hc : Names X x hv) (tk : Takes X J.W)
    (ho : own.lookup i = none) (hm : X.mg c0 = some (.ref C0)) (he : PySem.W.exmOne X.K (.ref C0) hv = some true)
    (hb : ∀ (W : WX) (pn : List (Addr × Obj)) (xe : Value → Shared → Prop), Takes (X.tr pn xe) W → PassesOwn (model X.prog X.w) X.A X.env xe → DSs (X.tr pn xe) ⟨W, J.L, own, J.rk⟩ own own body F1)
    (hsu : ∀ (a : Addr) (oe : Obj) (pn : List (Addr × Obj)), Zc (.ref C0) none oe → (∃ vs, oe.data = .fields vs) → DSp (X.suite a ((a, oe) :: pn)) ⟨W0, J.L, [], J.rk⟩ own own i a (b0 :: suite) F2)
    (hnx : ∀ ρ, (∃ ρ', F2 ρ = .nx ρ') ∨ F2 ρ = .no ∨ ∃ c ρ', F2 ρ = .ex c ρ') (hx : oxSub J.ox own = true := by rfl) : DS X J own own (.Try body [.ExceptHandler (some (.Name x np)) (some n) (b0 :: suite) pos'] [] [] pos) (sTryAs i F1 [(c0, F2)]) := by
  -- the suite's reading
  let ts : Addr → Value → Option Addr → TS := fun a cls d Dn σ H => cls = .ref C0 ∧ d = none ∧ ∃ G0 H0 G ρ, SI G0 H0 own G H σ ρ ∧ σ[i]? = some (some (.ref a)) ∧ GS X.mg ⟨W0, J.L, [], J.rk⟩ G0 H0 own Dn (F2 ρ)
  have pts : ∀ (a : Addr) (oe : Obj) (cls : Value) (d : Option Addr) (pn : List (Addr × Obj)), Zc cls d oe → (∃ vs, oe.data = .fields vs) → PSs (X.suite a ((a, oe) :: pn)) (b0 :: suite) (ts a cls d) := fun a oe cls d pn hz hd => by
    refine ⟨fun pins s σ H Dn I ⟨e1, e2, G0, H0, G, ρ, si, hp, g⟩ => ?_⟩
    subst e1 e2
    obtain ⟨t, p, h⟩ := hsu a oe pn hz hd
    exact p.run pins s σ H Dn I (h G0 H0 G H σ ρ Dn si hp g)
  refine ⟨_, ps_try_as (tb := fun W => rdS X.mg ⟨W, J.L, own, J.rk⟩ own own F1) (ts := ts) hs hf hN hi hln hc tk (fun W pn xe t p => (hb W pn xe t p).pss) pts, fun G0 H0 G H σ ρ Dn I h => ?_⟩
  refine ⟨G0, H0, G, ρ, I, ?_⟩
  unfold sTryAs at h
  cases q : F1 ρ with
  | ex c ρ' =>
    rw [q] at h
    simp only at h
    intro C own2 G' H' σ' hx2 m I'
    by_cases ec : c = c0
    · subst ec
      rw [hm] at m; cases m
      rw [show List.lookup c [(c, F2)] = some F2 by simp [List.lookup]] at h
      simp only at h
      split at h
      rotate_left
      · exact h.elim
      rename_i hlr
      refine ⟨true, he, fun _ a na => ?_, fun z => by cases z⟩
      obtain ⟨G2, I2⟩ := I'.toOwn hx2
      obtain ⟨fp, I2⟩ := I2
      have I3 : SI G0 H0 own G2 H' (σ'.set i (some (.ref a))) (ρ'.set i none) := ⟨fp, (I2.weak (ρ' := ρ'.set i none) (by simp) fun k d e => by
        by_cases hk : i = k
        · subst hk; exact absurd e (set_none_no d)
        · rwa [List.getElem?_set_ne hk] at e).junk' set_none_no ho⟩
      have hlen : i < σ'.length := by rw [← I'.len]; exact hlr
      refine ⟨rfl, rfl, G0, H0, G2, _, I3, List.getElem?_set_self hlen, ?_⟩
      rcases hnx (ρ'.set i none) with ⟨ρ2, e2⟩ | e2 | ⟨c, ρ2, e2⟩
      · rw [e2] at h ⊢
        intro G3 H3 σ3 ⟨fp3, I4⟩
        exact h G3 H3 _ ⟨fp3, (I4.weak (ρ' := ρ2.set i none) (by simp) fun k d e => by
          by_cases hk : i = k
          · subst hk; exact absurd e (set_none_no d)
          · rwa [List.getElem?_set_ne hk] at e).junk' set_none_no ho⟩
      · rw [e2] at h; exact h.elim
      · rw [e2] at h; exact h.elim
    · rw [show List.lookup c [(c0, F2)] = none by rw [List.lookup_cons, show (c == c0) = false by simpa using ec]; rfl] at h
      exact h.elim
  | nx ρ' => rw [q] at h; exact h
  | rt d => rw [q] at h; exact h
  | bk ρ' => rw [q] at h; exact h
  | ct ρ' => rw [q] at h; exact h
  | no => rw [q] at h; exact h
end
theorem hu1m {A : Around} {k : Nat} {v : Option Value} (hr : Room k A) : (A.mark v).units + 1 < cLine := by rw [Around.mark_units]; exact hu1 hr
end DL

/-! DL106: a comprehension lets the exceptions of its element out. -/
namespace DL
open PySem PySem.Spec PyProof.Rows L2
section
variable {M : Model} {A : Around} {E : Value → Shared → Prop} {s : Shared} {B : Heap} {env : PySem.Env} {outer : List PySem.Env} {L L2 a : Addr} {Z : Obj → Prop}
/-- the block shares the frame of its def -/
theorem note_comp {scope : Scope} {cl : List (Str × Addr)} {C : Addr} {e : Value} : noteFrame e (compEnvC scope cl C env) = noteFrame e env := rfl
/-- noted by another mark than this frame's: noted anew -/
theorem look_other {fl : Value} {Q : Unit → Shared → Prop} (hZ : HandSPX.Steady Z) (hfr : A.frames = some (env :: outer)) (hf : env.frame = some L) (hne : (fl == rawInt L) = false) (kb : B.StaysIn s.heap) (nb : B.get? a = none) (ff : s.heap.FunFrames B (env :: outer)) (tr : HandSPX.TracedZ s.heap B a Z fl)
    (hQ : ∀ h', HandSPX.HeldZ B (env :: outer) a Z L h' → s.heap.UpToSlots h' → Q () { s with heap := h' }) : wpAny M A (noteFrame (.ref a) env) Q E s := by
  obtain ⟨oe, vs, T, oT, ts, ge, gz, gd, g1, nnT, nTe, gT, gdT, g3⟩ := tr
  unfold noteFrame
  simp only [hf]
  refine wpAny_bind (wpAny_field ge gd g1 ?_)
  rw [if_pos (by simp)]
  refine wpAny_bind (wpAny_field gT gdT g3 ?_)
  rw [if_neg (by rw [hne]; exact Bool.false_ne_true)]
  refine wpAny_bind (wpAny_setField gT gdT (Array.getElem?_eq_some_iff.mp g3).1 ?_)
  have ot : ∀ b, b ≠ T → (s.heap.update T (Obj.mapFields (·.setIfInBounds 3 Value.none))).get? b = s.heap.get? b := fun b hb => Heap.get?_update_other _ _ (Ne.symm hb)
  have nr : ∀ b o, s.heap.get? b = some o → (∀ vs, o.data ≠ .fields vs) → b ≠ T := fun b o hb hnf q => by
    subst q
    rw [gT] at hb
    cases hb
    exact hnf ts gdT
  have kb2 : B.StaysIn (s.heap.update T (Obj.mapFields (·.setIfInBounds 3 Value.none))) := fun b o hb => by
    rw [ot b fun q => by rw [q, nnT] at hb; cases hb]
    exact kb b o hb
  refine HandSPX.wpAny_entryZ hZ hfr (ff.of_keeps fun b o hb hnf => ⟨o, by rw [ot b (nr b o hb hnf)]; exact hb, rfl⟩) hf (by rw [ot a (Ne.symm nTe)]; exact ge) kb2 nb gd (Array.getElem?_eq_some_iff.mp g1).1 gz fun h' hN => ?_
  obtain ⟨x1, x2, x3, x4⟩ := hN
  exact hQ h' ⟨x1, nb, x2, x3⟩ fun b o hb hnf => x4 b o (by rw [ot b (nr b o hb hnf)]; exact hb) hnf
/-- in whatever way the exception stands in the air of the block, it is noted at the def's frame -/
theorem sky_note {Q : Unit → Shared → Prop} (hZ : HandSPX.Steady Z) (hfr : A.frames = some (env :: outer)) (hf : env.frame = some L) (ne : L2 ≠ L) (sky : Sky B (env :: outer) a Z L2 s.heap)
    (hQ : ∀ h', HandSPX.HeldZ B (env :: outer) a Z L h' → s.heap.UpToSlots h' → Q () { s with heap := h' }) : wpAny M A (noteFrame (.ref a) env) Q E s := by
  rcases sky with ⟨kb, nb, ff, oe, vs, he, hz, hd, h1⟩ | fl | hd
  · exact HandSPX.look_newZ hZ hfr ff hf he kb nb hd h1 hz hQ
  · exact HandSPX.looks_onZ hZ hfr hf fl hQ
  · obtain ⟨k1, k2, k3, k4⟩ := hd
    refine look_other hZ hfr hf ?_ k1 k2 k3 k4 hQ
    have : (L2 : Int) ≠ (L : Int) := fun e => ne (by exact_mod_cast e)
    simp [rawInt, this]
end
theorem ff_move {B B2 h h2 : Heap} : ∀ {l : List PySem.Env}, h.FunFrames B l → (∀ b ∈ frs l, ∀ o, h.get? b = some o → h2.get? b = some o) → (∀ b ∈ frs l, B2.get? b = none) → h2.FunFrames B2 l
  | [], _, _, _ => trivial
  | env :: l, h, k, n => by
    obtain ⟨kd, ⟨L, o, fr, _, go, dt⟩, rest⟩ := h
    have hL : L ∈ frs (env :: l) := List.mem_filterMap.mpr ⟨env, List.mem_cons_self, fr⟩
    have tl : ∀ b ∈ frs l, b ∈ frs (env :: l) := fun b hb => by
      obtain ⟨v, hv, q⟩ := List.mem_filterMap.mp hb
      exact List.mem_filterMap.mpr ⟨v, List.mem_cons_of_mem _ hv, q⟩
    exact ⟨kd, ⟨L, o, fr, n L hL, k L hL o go, dt⟩, ff_move rest (fun b hb => k b (tl b hb)) fun b hb => n b (tl b hb)⟩
section
variable {X : Cx} {W : WX} {pins : List (Addr × Obj)} {σ : L2.St} {H3 : Hp} {s3 : Shared} {scope : Scope} {cl : List (Str × Addr)} {fp : List Addr}
/-- what the def wishes of an exception is what its block wishes -/
theorem comp_takes (hs : X.stack = X.env :: X.outer) (hf : X.env.frame = some X.env.locals) (tk : Takes X W) (I3 : L2.Inv X pins σ H3 s3) (f3 : ∀ b ∈ fp, FpOk X pins H3 b ∧ b < s3.heap.objs.size) {ce : PySem.Env} (hce : ce = compEnvC scope cl s3.heap.objs.size X.env) :
    Takes ((X.blk s3 H3 scope ce fp).tr [] (notedBy (model X.prog X.w) X.A ce (CompFails (model X.prog X.w) X.A X.xe ce))) (fun cls d _ H => W cls d σ H) := by
  rintro u s' ⟨a, B, sI, pins', σ', H', cls, d, rfl, J, nb, up, sky, na, os, ag, w⟩
  have hfr : X.A.frames = some (X.env :: X.outer) := by rw [I3.ok.frames, hs]
  obtain ⟨C, hC⟩ : ∃ C, s3.heap.objs.size = C := ⟨_, rfl⟩
  have cL : ce.locals = C := by rw [hce, ← hC]; rfl
  have cF : ce.frame = some X.env.locals := by rw [hce, ← hf]; rfl
  have neL : C ≠ X.env.locals := by rw [← hC]; exact Nat.ne_of_gt I3.lt
  have skyX : Sky B (X.env :: X.outer) a (Zc cls d) C s'.heap := by rw [← hs, ← cL]; exact sky
  show wpAny (model X.prog X.w) X.A (noteFrame (.ref a) ce) _ _ s'
  rw [show noteFrame (.ref a) ce = noteFrame (.ref a) X.env by rw [hce]; exact note_comp]
  refine sky_note Zc.steady hfr hf neL skyX fun h1 held up1 => ?_
  -- the block's own names stand where they stood
  obtain ⟨m, nsI, _⟩ := J.loc
  have nsI : sI.heap.Ns C m := by rw [← cL]; exact nsI
  obtain ⟨oC, es, ep, gC, rC⟩ := nsI
  have nfC : ∀ vs, oC.data ≠ .fields vs := fun vs z => by rw [rC.1] at z; cases z
  have frC : C ∉ frs X.stack := fun hm => by
    have ltC : C < s3.heap.objs.size := by
      obtain ⟨_, o, e, _⟩ := I3.stack.mem hm
      exact Heap.lt_size e
    rw [hC] at ltC
    exact absurd ltC (Nat.lt_irrefl _)
  have bC : B.get? C = some oC := nb C oC gC frC
  have aC : a ≠ C := fun z => by
    have := held.2.1
    rw [z, bC] at this
    cases this
  refine ⟨m, ?_, fun h2 m2 ns2 sb => ?_⟩
  · rw [cL]
    exact ⟨oC, es, ep, held.1 C oC bC, rC⟩
  rw [cL] at ns2 sb
  -- without the block's names
  have I5 : L2.Inv X pins σ H' sI := I3.call' (ch := fp) J.os J.base J.hok J.bare fun b hb => ⟨(f3 b hb).1.2.2.2.1, (f3 b hb).1.2.1, (f3 b hb).1.2.2.2.2.1, (f3 b hb).1.2.2.2.2.2⟩
  have nC : H' C = none := by
    have z : H' ce.locals = none := J.free
    rw [cL] at z
    exact z
  obtain ⟨f0, f1, f2, f4, f5, f6⟩ := I3.fpOk (H' := H') (Nat.le_of_eq hC) nC
  have I6 : L2.Inv X pins σ H' { sI with heap := PySem.W.hideAll sI.heap [C] } := I5.turned (t' := sI.toks) (fun b o hb e => PySem.W.hideAll_get _ e (by simpa using hb)) f0 f1 f4 f5 f6
  have sb2 : ∀ b o, b ≠ C → h1.get? b = some o → h2.get? b = some o := fun b o hb e => by rw [sb.2 b hb]; exact e
  have bh : ∀ b o, (PySem.W.hideAll B [C]).get? b = some o → b ≠ C ∧ B.get? b = some o := fun b o e => by
    refine ⟨fun z => ?_, PySem.W.of_hideAll _ e⟩
    rw [z, PySem.W.hideAll_none [C] (by simp)] at e
    cases e
  have bn : ∀ b, B.get? b = none → (PySem.W.hideAll B [C]).get? b = none := fun b e => by
    cases q : (PySem.W.hideAll B [C]).get? b with
    | none => rfl
    | some o => rw [(bh b o q).2] at e; cases e
  obtain ⟨k1, k2, k3, oe, vs, T, oT, ts, he, hz, hd, hv, hnT, hTe, hT, hdT, h3⟩ := held
  have TC : T ≠ C := fun z => by rw [z, bC] at hnT; cases hnT
  have held2 : HandSPX.HeldZ (PySem.W.hideAll B [C]) (X.env :: X.outer) a (Zc cls d) X.env.locals h2 := by
    refine ⟨fun b o e => sb2 b o (bh b o e).1 (k1 b o (bh b o e).2), bn a k2, ff_move k3 (fun b hb o e => sb2 b o (fun z => ?_) e) (fun b hb => bn b (k3.mem hb).1), oe, vs, T, oT, ts, sb2 a oe aC he, hz, hd, hv, bn T hnT, hTe, sb2 T oT TC hT, hdT, h3⟩
    rw [z] at hb
    exact frC (by rw [hs]; exact hb)
  unfold PySem.passOn
  refine wpAny_bind (wpAny_field (sb2 a oe aC he) hd hv ?_)
  rw [if_neg (by simp : ¬ ((Value.ref T == .none) = true))]
  have fin : wpAny (model X.prog X.w) X.A (setFlight (.ref a) ce.frame) (fun _ s4 => wpAny (model X.prog X.w) X.A (throw (.ref a) : Sem Value) (fun _ _ => False) X.xe s4) X.xe { s' with heap := h2 } := by
    rw [cF]
    refine HandSPX.setFlight_onZ held2 fun h4 hh4 up4 => wpAny_throw (tk _ _ ?_)
    refine ⟨a, PySem.W.hideAll B [C], { sI with heap := PySem.W.hideAll sI.heap [C] }, pins, σ, H', cls, d, rfl, I6, fun b o e hb => ?_, fun b o e hnf => ?_, .inr (.inr (by rw [hs]; exact hh4)), na, os, ag, w⟩
    · have e2 := PySem.W.of_hideAll _ e
      have bc : b ≠ C := fun z => by
        rw [z, PySem.W.hideAll_none [C] (by simp)] at e
        cases e
      exact PySem.W.hideAll_get _ (nb b o e2 hb) (by simpa using bc)
    · have e2 := PySem.W.of_hideAll _ e
      have bc : b ≠ C := fun z => by
        rw [z, PySem.W.hideAll_none [C] (by simp)] at e
        cases e
      obtain ⟨sl1, g1⟩ := up b o e2 hnf
      obtain ⟨sl2, g2⟩ := up1 b _ g1 hnf
      have g3 : h2.get? b = some { o with slots := sl2 } := sb2 b _ bc g2
      exact up4 b { o with slots := sl2 } g3 hnf
  first | exact wpAny_bind (wpAny_pure (wpAny_bind fin)) | exact wpAny_bind fin
end
end DL

/-! DL107: [elt for tg in iter if ..], as a value; what its element raises goes on in the def. -/
namespace DL
open PySem PySem.Spec PyProof.Rows L2
/-- the block of such a comprehension: an exception is noted there, then goes on as CompFails says -/
abbrev blkX (X : Cx) (s : Shared) (H : Hp) (scope : Scope) (ce : PySem.Env) (fp : List Addr) : Cx := (X.blk s H scope ce fp).tr [] (notedBy (model X.prog X.w) X.A ce (CompFails (model X.prog X.w) X.A X.xe ce))
section
variable {X : Cx} {W : WX}
theorem inv_in {s0 : Shared} {H0 : Hp} {scope : Scope} {ce : PySem.Env} {fp : List Addr} {pins : List (Addr × Obj)} {σ : L2.St} {H : Hp} {s : Shared} (I : L2.Inv (X.blk s0 H0 scope ce fp) pins σ H s) : L2.Inv (blkX X s0 H0 scope ce fp) pins σ H s :=
  ⟨I.ok.toTry _ _, I.os, I.bare, I.base, I.loc, I.cell, I.free, I.freeC, fun p hp => I.pin p hp, I.hok, I.len⟩
theorem pe_lcX {elt tg iter : Expr} {ifs : List Expr} {scope : Scope} {own : List (Str × Nat)} {pos : Pos} {wi : TI} {g : TG} {tt : WX → TT} {te : WX → TE} (hs : X.stack = X.env :: X.outer) (hf : X.env.frame = some X.env.locals) (tk : Takes X W) (hc : X.calm = true) (hN : X.N.Nodup) (hi : PI X tg iter wi) (ok : BlkOk X.N X.env.scope scope own)
    (hg : ∀ (s : Shared) (H : Hp) (C : Addr) (cl : List (Str × Addr)) (fp : List Addr), PG (blkX X s H scope (compEnvC scope cl C X.env) fp) tg g)
    (ht : ∀ (s : Shared) (H : Hp) (C : Addr) (cl : List (Str × Addr)) (fp : List Addr) (W' : WX), Takes (blkX X s H scope (compEnvC scope cl C X.env) fp) W' → PTs (blkX X s H scope (compEnvC scope cl C X.env) fp) ifs (tt W'))
    (he : ∀ (s : Shared) (H : Hp) (C : Addr) (cl : List (Str × Addr)) (fp : List Addr) (W' : WX), Takes (blkX X s H scope (compEnvC scope cl C X.env) fp) W' → PE (blkX X s H scope (compEnvC scope cl C X.env) fp) elt (te W'))
    (hfs : ∀ x, foldedSetIterable iter X.env x = pure x := by intro _; rfl) :
    PE X (.ListComp elt [⟨tg, iter, ifs, 0⟩] scope pos) (fun σ H Q => tLc wi g (tt fun cls d _ H' => W cls d σ H') (te fun cls d _ H' => W cls d σ H') (own.map (·.2)) σ H Q) := by
  refine ⟨fun pn s σ H Qv I h => ?_⟩
  rw [eval_ListComp]
  obtain ⟨Wσ, hWσ⟩ : ∃ Wσ : WX, (fun cls d _ H' => W cls d σ H') = Wσ := ⟨_, rfl⟩
  rw [hWσ] at h
  have free : ∀ y ∈ scope.names, y.2 = .free → ∃ c, X.env.cells.lookup y.1 = some c := fun y hy e => by
    rcases ok.free y hy e with kc | kf
    · exact I.ok.has _ (.inl kc)
    · exact I.ok.has _ (.inr kf)
  refine comprehension_at (use := none) rfl hfs (closure_ok free) ok.kind (fun y hy e => by rw [ok.uniq y hy, e]) (thn (hi.run pn s σ H _ I h) fun xv u1 hx => thn hx fun itv u2 h2 => ?_)
  obtain ⟨it, fp, tn, J, K2, rfl, J2, T, go2, fok2, q⟩ := h2
  have small : 0 ≤ sizeLine := by decide
  refine wpAny_newObj_type (newEnv_comp ?_) small
  obtain ⟨D, hD⟩ : ∃ D, u2.heap.objs.size = D := ⟨_, rfl⟩
  rw [hD]
  have Dn : K2 D = none := J2.hok.fresh (Nat.le_of_eq hD)
  obtain ⟨Wn, ⟨m00, wn0⟩, turn⟩ := q D Dn
  generalize eu3 : ({ u2 with heap := u2.heap.push { cls := .type "list", data := .seq ([] : List Value).toArray } } : Shared) = u3
  have hp3 : u3.heap = u2.heap.push { cls := .type "list", data := .seq ([] : List Value).toArray } := by rw [← eu3]
  have kept3 : ∀ b o, u2.heap.get? b = some o → u3.heap.get? b = some o := fun b o e => by rw [hp3]; exact Heap.get?_push_of_some _ e
  have J3 : L2.Inv X pn σ (upd K2 D (.lst [])) u3 := by
    rw [← eu3]
    refine J2.laid (t' := u2.toks) (fun b o e => Heap.get?_push_of_some _ e) (Nat.le_of_eq hD) ⟨Nat.zero_le _, [], 0, .nil, ?_⟩
    rw [← hD]
    exact Heap.get?_push_size
      _ rfl
  have fok3 : ∀ b ∈ fp, FpOk X pn (upd K2 D (.lst [])) b ∧ b < u3.heap.objs.size := fun b hb => by
    obtain ⟨o, e, _⟩ := T.obj _ _ go2 b hb
    have lt := Heap.lt_size e
    refine ⟨⟨?_, (fok2 b hb).2⟩, by rw [hp3, Heap.size_push]; exact Nat.lt_succ_of_lt lt⟩
    rw [upd_ne (by rw [← hD]; exact Nat.ne_of_lt lt)]
    exact (fok2 b hb).1
  generalize eK3 : upd K2 D (.lst []) = K3 at J3 fok3 wn0
  have J4 := inv_in (block_start J3 ok hN fok3)
  show codeAny _ _ (.compStart (.ListComp elt [⟨tg, iter, ifs, 0⟩] scope pos) 0 (.ref it) (.ref D) (compEnvC scope (cellsFrom (u3.heap.objs.size + 1) scope.names (cloFrom X.env.cells scope.names [])) u3.heap.objs.size X.env)) (compEnds (model X.prog X.w) X.A X.xe none (EP X pn σ Qv) (.ref D) (compEnvC scope (cellsFrom (u3.heap.objs.size + 1) scope.names (cloFrom X.env.cells scope.names [])) u3.heap.objs.size X.env)) { u3 with heap := pushCells (u3.heap.push { cls := .type "dict", data := .dict #[] }) scope.names }
  generalize cellsFrom (u3.heap.objs.size + 1) scope.names (cloFrom X.env.cells scope.names []) = cl at J4 ⊢
  have tkB := fun ce (hce : ce = compEnvC scope cl u3.heap.objs.size X.env) => comp_takes (scope := scope) (cl := cl) hs hf tk J3 fok3 hce
  have pg := hg u3 K3 u3.heap.objs.size cl fp
  have pt := ht u3 K3 u3.heap.objs.size cl fp Wσ (by rw [← hWσ]; exact tkB _ rfl)
  have pe := he u3 K3 u3.heap.objs.size cl fp Wσ (by rw [← hWσ]; exact tkB _ rfl)
  clear tkB
  have locC : (compEnvC scope cl u3.heap.objs.size X.env).locals = u3.heap.objs.size := rfl
  generalize compEnvC scope cl u3.heap.objs.size X.env = ce at J4 pg pt pe locC ⊢
  generalize eu4 : ({ u3 with heap := pushCells (u3.heap.push { cls := .type "dict", data := .dict #[] }) scope.names } : Shared) = u4 at J4 ⊢
  have go4 : tn 0 u4.heap := T.keep _ _ _ go2 fun b _ o e => by
    rw [← eu4]
    exact pushCells_keeps _ _ _ _ (Heap.get?_push_of_some _ (kept3 b o e))
  have fr3 : ∀ b ∈ fp, K3 b = none := fun b hb => (fok3 b hb).1.1
  have stays : ∀ {σ' : L2.St} {H' : Hp} {s' : Shared}, L2.Inv (blkX X u3 K3 scope ce fp) [] σ' H' s' → (∀ b ∈ fp, H' b = none) → ∀ b ∈ fp, FpOk (blkX X u3 K3 scope ce fp) [] H' b := fun {σ' H' s'} I' hn b hb =>
    ⟨hn b hb, (I'.ok.exf b hb).1,
     I'.ok.exfs b hb, .inl hb,
     fun x c e => (I'.ok.exf b hb).2 x c e,
     fun p hp => absurd (show p ∈ ([] : List (Addr × Obj)) ++ [] from hp) (by simp)⟩
  have loop : codeAny (model X.prog X.w) X.A (.compLoop (.ListComp elt [⟨tg, iter, ifs, 0⟩] scope pos) 0 (.ref it) (.ref D) ce) (compEnds (model X.prog X.w) X.A X.xe none (EP X pn σ Qv) (.ref D) ce) u4 := by
    refine compLoop_any (fun n s' => ∃ i H', L2.Inv (blkX X u3 K3 scope ce fp) [] (L2.wipe σ (own.map (·.2))) H' s' ∧ tn i s'.heap ∧ (∀ b ∈ fp, H' b = none) ∧ Wn i n H') ?_ m00 ⟨0, K3, J4, go4, fr3, wn0⟩
    rintro n u5 ⟨i, K5, J5, go5, fr5, wn5⟩
    rcases turn i n K5 wn5 with ⟨stop, done⟩ | ⟨go, Nx, goesOn, onward⟩
    · have td := T.done (blkX X u3 K3 scope ce fp) rfl rfl rfl hc i [] u5 _ K5 (fun _ _ => False) J5 (stays J5 fr5) go5 stop
      refine thnF td fun r u6 ⟨hr, J6⟩ => ?_
      subst hr
      have J7 : L2.Inv X pn σ K5 u6 := J3.call' (ch := fp) J6.os J6.base J6.hok J6.bare fun b hb => ⟨(fok3 b hb).1.2.2.2.1, (fok3 b hb).1.2.1, (fok3 b hb).1.2.2.2.2.1, (fok3 b hb).1.2.2.2.2.2⟩
      have nC : K5 u3.heap.objs.size = none := by
        have z : K5 ce.locals = none := J6.free
        rw [locC] at z
        exact z
      obtain ⟨mm, hn, _⟩ := J6.loc
      have hn : u6.heap.Ns ce.locals mm := hn
      obtain ⟨f0, f1, f4, f5, f6, f7⟩ := J3.fpOk (H' := K5) (Nat.le_refl _) nC
      refine ⟨mm, hn, fun h'' sb => ?_⟩
      rw [locC] at sb
      exact ⟨.ref D, K5, J7.turned (t' := u6.toks) (fun b o hb e => (sb.2 b hb).trans e) f0 f1 f5 f6 f7, rfl, done⟩
    · have ti := T.item (blkX X u3 K3 scope ce fp) rfl rfl rfl hc i [] u5 _ K5 (fun _ _ => False) J5 (stays J5 fr5) go5 go
      refine thnF ti fun r u6 ⟨u, hr, h6⟩ => ?_
      subst hr
      refine thnF h6 fun _ u7 ⟨x, K7, J7, rel7, yl7, go7, fr7⟩ => ?_
      have J7p := J7.pinned (stays J7 fr7) (T.obj _ _ go7)
      refine thn (pg.run _ u7 _ K7 x u _ J7p rel7 (onward x K7 yl7)) fun _ u8 ⟨τ8, K8, J8, wp8, nx8⟩ => ?_
      refine thn (pt.run _ u8 τ8 K8 _ J8 nx8) fun b u9 ⟨K9, J9, nx9⟩ => ?_
      have again : ∀ {s' : Shared} {H' : Hp}, L2.Inv (blkX X u3 K3 scope ce fp) ([] ++ pinsAt fp u7.heap) τ8 H' s' → Nx H' → ∃ m, m < n ∧ ∃ i H', L2.Inv (blkX X u3 K3 scope ce fp) [] (L2.wipe σ (own.map (·.2))) H' s' ∧ tn i s'.heap ∧ (∀ b ∈ fp, H' b = none) ∧ Wn i m H' := fun {s' H'} I' nx => by
        obtain ⟨m', hm, w'⟩ := goesOn H' nx
        have pinned7 : ∀ b ∈ fp, ∀ o, u7.heap.get? b = some o → s'.heap.get? b = some o ∧ H' b = none := fun b hb o e =>
          let z := I'.pin (b, o)
            (List.mem_append_right _ (List.mem_append_right
              _ (mem_pinsAt hb e)))
          ⟨z.1, z.2.1⟩
        have hl : (L2.wipe σ (own.map (·.2))).length = τ8.length := by rw [← wp8, L2.wipe_length]
        refine ⟨m', hm, i + 1, H', (I'.unpinned (pins := [])).weak hl (fun j v e => ?_), T.keep _ _ _ go7 fun b hb o e => (pinned7 b hb o e).1, fun b hb => ?_, w'⟩
        · rw [← wp8] at e
          exact (L2.wipe_some e).1
        · obtain ⟨o, e, _⟩ := T.obj _ _ go7 b hb
          exact (pinned7 b hb o e).2
      cases b with
      | false =>
        simp only [Bool.false_eq_true, if_false] at nx9 ⊢
        exact again J9 nx9
      | true =>
        simp only [if_true] at nx9 ⊢
        refine thn (pe.run _ u9 τ8 K9 _ J9 nx9) fun z u10 ⟨yv, K10, J10, rel10, acc, at10, few10, nx⟩ => ?_
        exact app_ok (X := blkX X u3 K3 scope ce fp) J10 at10 few10 rel10 fun u11 J11 => again J11 nx
  exact codeAny_compStart_list loop (T.self X.A 0 _ _ _ go4 loop)
end
end DL

/-! DL108: the semantics of such a comprehension, and its rule. -/
namespace DL
open PySem PySem.Spec PyProof.Rows L2
def compLX (is : List Nat) (ks : D → Res (List D)) (ft : Env → Res Bool) (fe : Env → Res D) (ρ : Env) : List D → Res (List D)
  | [] => .ok []
  | d :: r => noEx (ks d) >>= fun l => ft (setE ρ is l) >>= fun b => if b = true then fe (setE ρ is l) >>= fun y => compLX is ks ft fe ρ r >>= fun ys => .ok (y :: ys) else compLX is ks ft fe ρ r
def nCompX (fi : Env → Res (List D)) (is : List Nat) (ks : D → Res (List D)) (ft : Env → Res Bool) (fe : Env → Res D) (vs : List Nat) : Env → Res (List D) := fun ρ =>
  fi ρ >>= fun ds => if ds.length ≤ sizeLine then compLX is ks ft fe (wipeE ρ vs) ds else .no
def GdX (ok : List D → Prop) (ex : Str → Prop) (accD : List D) : Res (List D) → Prop
  | .ok rest => ok (accD ++ rest)
  | .ex c => ex c
  | .no => False
theorem lc_runX {X : Cx} {Wq : WX} {is vs : List Nat} {ks : D → Res (List D)} {ft : Env → Res Bool} {fe : Env → Res D} {G1 H1 : Hp} {σ : L2.St} {ρ : Env} {Q : VK} {J : It} {ds : List D} {Da : Addr}
    (hv : ∀ i ∈ is, i ∈ vs) (er : EnvR G1 σ ρ) (sb : Sub G1 H1) (hJ : ItD J G1 ds) (nDa : H1 Da = none) (hz : ds.length ≤ sizeLine)
    (hr : GdX (fun ys => ∀ G' H' acc, Ext G1 H1 G' H' → G' Da = none → H' Da = some (.lst acc) → Reps G' ys acc → Q (.ref Da) H') (fun c => ∀ C G' H' τ, X.mg c = some (.ref C) → Ext G1 H1 G' H' → Wq (.ref C) none τ H') [] (compLX is ks ft fe (wipeE ρ vs) ds)) :
    ∃ Wn : Nat → Nat → Hp → Prop, (∃ m, Wn 0 m (upd H1 Da (.lst []))) ∧ ∀ i m H, Wn i m H →
      (J.stop i H ∧ Q (.ref Da) H) ∨ (J.go i H ∧ ∃ Nx : Hp → Prop, (∀ H', Nx H' → ∃ m', m' < m ∧ Wn (i + 1) m' H') ∧ ∀ x H', J.yld i H x H' → rdG is ks x (L2.wipe σ vs) H' fun σ2 H2 => L2.wipe σ2 vs = L2.wipe σ vs ∧ rdT X.mg Wq ft σ2 H2 fun b H3 =>
        if b = true then rdE X.mg Wq fe σ2 H3 fun y H4 => ∃ acc, H4 Da = some (.lst acc) ∧ acc.length < sizeLine ∧ Nx (upd H4 Da (.lst (acc ++ [y]))) else Nx H3) := by
  generalize hok : (fun ys : List D => ∀ G' H' acc, Ext G1 H1 G' H' → G' Da = none → H' Da = some (.lst acc) → Reps G' ys acc → Q (.ref Da) H') = okP at hr
  generalize hex : (fun c : Str => ∀ C G' H' τ, X.mg c = some (.ref C) → Ext G1 H1 G' H' → Wq (.ref C) none τ H') = exP at hr
  let Iv : Nat → Hp → Prop := fun i H => ∃ G acc accD, Ext G1 H1 G H ∧ G Da = none ∧ H Da = some (.lst acc) ∧ Reps G accD acc ∧ GdX okP exP accD (compLX is ks ft fe (wipeE ρ vs) (ds.drop i)) ∧ i ≤ ds.length ∧ accD.length ≤ i
  refine ⟨fun i m H => m = ds.length - i ∧ Iv i H, ⟨ds.length, by simp, G1, [], [], Ext.hid sb nDa, ?_, upd_same, rfl, hr, Nat.zero_le _, Nat.le_refl _⟩, ?_⟩
  · cases q : G1 Da with
    | none => rfl
    | some o => rw [sb _ _ q] at nDa; cases nDa
  rintro i m H ⟨rfl, G, acc, accD, ex, gD, hD, ra, hc, hi, al⟩
  by_cases hlt : i < ds.length
  · refine .inr ?_
    have hd : ds.drop i = ds[i] :: ds.drop (i + 1) := List.drop_eq_getElem_cons hlt
    rw [hd] at hc
    unfold compLX at hc
    cases e1 : ks ds[i] with
    | ex c => rw [e1] at hc; exact hc.elim
    | no => rw [e1] at hc; exact hc.elim
    | ok l =>
      rw [e1] at hc
      have hc : GdX okP exP accD (ft (setE (wipeE ρ vs) is l) >>= fun b => if b = true then fe (setE (wipeE ρ vs) is l) >>= fun y => compLX is ks ft fe (wipeE ρ vs) (ds.drop (i + 1)) >>= fun ys => .ok (y :: ys) else compLX is ks ft fe (wipeE ρ vs) (ds.drop (i + 1))) := hc
      obtain ⟨go, yl⟩ := (hJ G H i ex.g ex.s).1 ds[i] (by simp [hlt])
      refine ⟨go, Iv (i + 1), fun H' iv => ⟨ds.length - (i + 1), by omega, rfl, iv⟩, fun x H2 y => ?_⟩
      obtain ⟨G2, ex2, rx⟩ := yl x H2 y
      have hD2 : H2 Da = some (.lst acc) := ex2.h _ _ hD
      refine ⟨G2, ds[i], l, ex2.s, rx, e1, fun ws rws nws => ⟨by rw [wipe_sets hv, wipe_wipe], ?_⟩⟩
      have er2 : EnvR G2 (setS (L2.wipe σ vs) is ws) (setE (wipeE ρ vs) is l) := (((er.le ex.le).le ex2.le).wipe vs).sets rws
      refine ⟨G2, _, ex2.s, er2, ?_⟩
      cases e2 : ft (setE (wipeE ρ vs) is l) with
      | no => rw [e2] at hc; exact hc.elim
      | ex c =>
        rw [e2] at hc
        have hc : exP c := hc
        rw [← hex] at hc
        exact fun C G' H' mg x => hc C G' H' _ mg (ex.trans (ex2.trans x))
      | ok b =>
        rw [e2] at hc
        intro G3 H3 ex3
        have hD3 : H3 Da = some (.lst acc) := ex3.h _ _ hD2
        have exA : Ext G H G3 H3 := ex2.trans ex3
        have nD : ∀ {G4 H4 : Hp}, Ext G H G4 H4 → G4 Da = none := fun {G4 H4} e4 => by
          cases q : G4 Da with
          | none => rfl
          | some o =>
            rcases e4.n _ _ q with z | z | ⟨_, z⟩
            · rw [gD] at z; cases z
            · rw [hD] at z; cases z
            · have z2 := e4.s _ _ q
              rw [e4.h _ _ hD] at z2; cases z2; cases z
        cases b with
        | false =>
          show ite _ _ _
          rw [if_neg Bool.false_ne_true]
          exact ⟨G3, acc, accD, ex.trans exA, nD exA, hD3, ra.le exA.le, hc, hlt, by omega⟩
        | true =>
          show ite _ _ _
          rw [if_pos rfl]
          have hc : GdX okP exP accD (fe (setE (wipeE ρ vs) is l) >>= fun y => compLX is ks ft fe (wipeE ρ vs) (ds.drop (i + 1)) >>= fun ys => .ok (y :: ys)) := hc
          refine ⟨G3, _, ex3.s, er2.le ex3.le, ?_⟩
          cases e3 : fe (setE (wipeE ρ vs) is l) with
          | no => rw [e3] at hc; exact hc.elim
          | ex c =>
            rw [e3] at hc
            have hc : exP c := hc
            rw [← hex] at hc
            exact fun C G' H' mg x => hc C G' H' _ mg (ex.trans (exA.trans x))
          | ok yv =>
            rw [e3] at hc
            intro G4 H4 ex4 v rv
            have exB : Ext G H G4 H4 := exA.trans ex4
            have hD4 : H4 Da = some (.lst acc) := ex4.h _ _ hD3
            have hc : GdX okP exP accD (compLX is ks ft fe (wipeE ρ vs) (ds.drop (i + 1)) >>= fun ys => .ok (yv :: ys)) := hc
            have ll := ra.length
            refine ⟨acc, hD4, by omega, G4, acc ++ [v], accD ++ [yv], ?_, nD exB, upd_same, (ra.le exB.le).append (.one rv), ?_, hlt, by simp; omega⟩
            · have exC := ex.trans exB
              refine ⟨fun a o q => ?_, exC.g, fun a o q => ?_, exC.n⟩
              · rw [upd_ne (ne_of_none q nDa)]; exact exC.h a o q
              · have : a ≠ Da := fun z => by subst z; rw [nD exB] at q; cases q
                rw [upd_ne this]; exact exC.s a o q
            · generalize compLX is ks ft fe (wipeE ρ vs) (ds.drop (i + 1)) = rr at hc ⊢
              cases rr with
              | no => exact hc.elim
              | ex c => exact hc
              | ok ys =>
                have hc : okP (accD ++ yv :: ys) := hc
                show okP (accD ++ [yv] ++ ys)
                rw [List.append_assoc]
                exact hc
  · refine .inl ⟨(hJ G H i ex.g ex.s).2 (by omega), ?_⟩
    have e : i = ds.length := by omega
    subst e
    rw [List.drop_length] at hc
    have hc : okP (accD ++ []) := hc
    rw [List.append_nil, ← hok] at hc
    exact hc G H acc ex gD hD ra
section
variable {X : Cx} {W : WX} {elt tg iter : Expr} {ifs : List Expr} {scope : Scope} {own : List (Str × Nat)} {is : List Nat} {ks : D → Res (List D)} {fi : Env → Res (List D)} {ft : Env → Res Bool} {fe : Env → Res D} {pos : Pos}
theorem dn_compX (hs : X.stack = X.env :: X.outer) (hf : X.env.frame = some X.env.locals) (tk : Takes X W) (hc : X.calm = true) (hN : X.N.Nodup) (di : DI X W tg iter fi) (ok : BlkOk X.N X.env.scope scope own)
    (dg : ∀ (s : Shared) (H : Hp) (C : Addr) (cl : List (Str × Addr)) (fp : List Addr), DG (blkX X s H scope (compEnvC scope cl C X.env) fp) tg is ks)
    (dt : ∀ (s : Shared) (H : Hp) (C : Addr) (cl : List (Str × Addr)) (fp : List Addr) (W' : WX), Takes (blkX X s H scope (compEnvC scope cl C X.env) fp) W' → DTs (blkX X s H scope (compEnvC scope cl C X.env) fp) W' ifs ft)
    (de : ∀ (s : Shared) (H : Hp) (C : Addr) (cl : List (Str × Addr)) (fp : List Addr) (W' : WX), Takes (blkX X s H scope (compEnvC scope cl C X.env) fp) W' → DE (blkX X s H scope (compEnvC scope cl C X.env) fp) W' elt fe)
    (hv : ∀ i ∈ is, i ∈ own.map (·.2)) (hfs : ∀ x, foldedSetIterable iter X.env x = pure x := by intro _; rfl) : DN X W (.ListComp elt [⟨tg, iter, ifs, 0⟩] scope pos) (nCompX fi is ks ft fe (own.map (·.2))) := by
  obtain ⟨wi, pi, h1⟩ := di
  refine ⟨_, pe_lcX (te := fun W' => rdE X.mg W' fe) (tt := fun W' => rdT X.mg W' ft) (g := rdG is ks) hs hf tk hc hN pi ok (fun s H C cl fp => (dg s H C cl fp).pg) (fun s H C cl fp W' t => (dt s H C cl fp W' t).pts) (fun s H C cl fp W' t => (de s H C cl fp W' t).pe) hfs, fun G H σ ρ Q s e h => ?_⟩
  refine h1 G H σ ρ _ s e ?_
  unfold nCompX at h
  cases q : fi ρ with
  | ok ds =>
    rw [q, Res.bind_ok] at h
    intro G1 H1 e1 J hJ Da nDa
    split at h
    · rename_i hz
      refine lc_runX (X := X) hv (e.le e1.le) e1.s hJ nDa hz ?_
      generalize compLX is ks ft fe (wipeE ρ (own.map (·.2))) ds = rr at h ⊢
      cases rr with
      | no => exact h.elim
      | ex c => exact fun C G' H' τ mg x => h C G' H' mg (e1.trans x)
      | ok ys => exact fun G2 H2 acc e2 gD hD r => h G2 H2 (e1.trans e2) Da acc gD hD (fun a o q z => by subst z; rw [e1.h _ _ q] at nDa; cases nDa) r
    · exact h.elim
  | ex c => rw [q] at h; exact h
  | no => rw [q] at h; exact h
end
end DL

/-! DL110: a def that asks of an exception, handed to it, what it is. Slot i holds the exception's object a; P tells of it. -/
namespace DL
open PySem PySem.Spec PyProof.Rows L2
def DEq (X : Cx) (i : Nat) (a : Addr) (P : Hp → Prop) (e : Expr) (f : Env → Res D) : Prop :=
  ∃ t : TE, PE X e t ∧ ∀ (G H : Hp) (σ : L2.St) (ρ : Env) (Q : VK), Sub G H → EnvR G σ ρ → P G → σ[i]? = some (some (.ref a)) → GlE X.mg W0 G H σ Q (f ρ) → t σ H Q
def DAq (X : Cx) (i : Nat) (a : Addr) (P : Hp → Prop) (es : List Expr) (f : Env → Res (List D)) : Prop :=
  ∃ t : TA, PA X es t ∧ ∀ (G H : Hp) (σ : L2.St) (ρ : Env) (Q : List V → Hp → Prop), Sub G H → EnvR G σ ρ → P G → σ[i]? = some (some (.ref a)) → GlA X.mg W0 G H σ Q (f ρ) → t σ H Q
def DTq (X : Cx) (i : Nat) (a : Addr) (P : Hp → Prop) (e : Expr) (f : Env → Res Bool) : Prop :=
  ∃ t : TT, PT X e t ∧ ∀ (G H : Hp) (σ : L2.St) (ρ : Env) (Q : Bool → Hp → Prop), Sub G H → EnvR G σ ρ → P G → σ[i]? = some (some (.ref a)) → GlT X.mg W0 G H σ Q (f ρ) → t σ H Q
def DWq (X : Cx) (i : Nat) (a : Addr) (P : Hp → Prop) (e : Expr) (f : Env → Res Bool) : Prop :=
  ∃ t : TT, PW X e t ∧ ∀ (G H : Hp) (σ : L2.St) (ρ : Env) (Q : Bool → Hp → Prop), Sub G H → EnvR G σ ρ → P G → σ[i]? = some (some (.ref a)) → GlT X.mg W0 G H σ Q (f ρ) → t σ H Q
/-- what stays true as the region grows -/
def Gro (P : Hp → Prop) : Prop := ∀ G G' : Hp, (∀ b o, G b = some o → G' b = some o) → P G → P G'
section
variable {X : Cx} {i : Nat} {a : Addr} {P : Hp → Prop} {e e2 : Expr} {es : List Expr} {f f2 : Env → Res D} {g : Env → Res (List D)} {pos : Pos}
theorem deq_of (d : DE X W0 e f) : DEq X i a P e f := let ⟨t, p, h⟩ := d; ⟨t, p, fun G H σ ρ Q s e _ _ k => h G H σ ρ Q s e k⟩
theorem daq_nil : DAq X i a P [] aNil := ⟨_, pa_nil, fun G H σ ρ Q s e _ _ h => h G H (Ext.refl s) [] rfl⟩
theorem daq_cons (hP : Gro P) (d1 : DEq X i a P e f) (d2 : DAq X i a P es g) (hs : starEach (e :: es) X.env = (false, eval e X.env) :: starEach es X.env := by rfl) : DAq X i a P (e :: es) (aCons f g) := by
  obtain ⟨t1, p1, h1⟩ := d1
  obtain ⟨t2, p2, h2⟩ := d2
  refine ⟨_, pa_cons p1 p2 hs, fun G H σ ρ Q s e p pn h => ?_⟩
  refine h1 G H σ ρ _ s e p pn (Gl.imp (fun x G1 H1 _ e1 k v rv => ?_) (Gl.bind h))
  refine h2 G1 H1 σ ρ _ e1.s (e.le e1.le) (hP _ _ e1.g p) pn (Gl.imp (fun xs G2 H2 _ e2 k vs rvs => ?_) (Gl.bind k))
  exact k G2 H2 (Ext.refl e2.s) (v :: vs) ⟨v, vs, rfl, rv.le e2.le, rvs⟩
theorem deq_lst (d : DAq X i a P es g) : DEq X i a P (.List es pos) (vLst g) := by
  obtain ⟨t1, p1, h1⟩ := d
  refine ⟨_, pe_lst p1, fun G H σ ρ Q s e p pn h => ?_⟩
  refine h1 G H σ ρ _ s e p pn (Gl.imp (fun xs G1 H1 _ e1 k vs rvs => ?_) (Gl.bind h))
  split at k
  · rename_i z
    exact ⟨by rw [rvs.length]; exact z, fun p np => Gl.newL e1.s np rvs k⟩
  · exact k.elim
theorem deq_op (hP : Gro P) {op : Operator} {r : R2} {gg : D → D → Res D} (ho : OpR X (binaryOp op) r) (sy : Say2 X W0 r gg) (d1 : DEq X i a P e f) (d2 : DEq X i a P e2 f2) : DEq X i a P (.BinOp e op e2 pos) (v2 gg f f2) := by
  obtain ⟨t1, p1, h1⟩ := d1
  obtain ⟨t2, p2, h2⟩ := d2
  refine ⟨_, pe_op ho p1 p2, fun G H σ ρ Q s e p pn h => ?_⟩
  refine h1 G H σ ρ _ s e p pn (Gl.imp (fun x G1 H1 _ e1 k v rv => ?_) (Gl.bind h))
  refine h2 G1 H1 σ ρ _ e1.s (e.le e1.le) (hP _ _ e1.g p) pn (Gl.imp (fun y G2 H2 _ e2 k w rw => ?_) (Gl.bind k))
  exact sy G2 H2 σ Q x y v w e2.s (rv.le e2.le) rw k
theorem dtq_val (d : DEq X i a P e f) (he : ∀ whole, isTrue e X.env whole = (do let v ← whole; standAt e.pos; holding [v] (truthy v)) := by intro _; rfl) : DTq X i a P e (vB f) := by
  obtain ⟨t1, p1, h1⟩ := d
  refine ⟨_, pt_val p1 he, fun G H σ ρ Q s e p pn h => ?_⟩
  refine h1 G H σ ρ _ s e p pn (Gl.imp (fun x G1 H1 _ e1 k v rv => ?_) (Gl.bind h))
  cases x with
  | bl b => exact ⟨b, rv, k G1 H1 (Ext.refl e1.s)⟩
  | _ => exact k.elim
variable {b : Expr} {rest : List Expr} {fb gb : Env → Res Bool}
theorem dtq_not (d : DTq X i a P e fb) : DTq X i a P (.UnaryOp .Not e pos) (tNotD fb) := by
  obtain ⟨t1, p1, h1⟩ := d
  refine ⟨_, pt_not p1, fun G H σ ρ Q s e p pn h => ?_⟩
  exact h1 G H σ ρ _ s e p pn (Gl.imp (fun x G1 H1 _ e1 k => k G1 H1 (Ext.refl e1.s)) (Gl.bind h))
theorem DWq.dt (d : DWq X i a P e fb) : DTq X i a P e fb := let ⟨t, p, h⟩ := d; ⟨t, p.pt, h⟩
theorem dwq_or1 (d : DTq X i a P e fb) : DWq X i a P (.BoolOp .Or [e] pos) fb := let ⟨t, p, h⟩ := d; ⟨t, pw_or1 p, h⟩
theorem dwq_or (hP : Gro P) (d1 : DTq X i a P e fb) (d2 : DWq X i a P (.BoolOp .Or (b :: rest) pos) gb) : DWq X i a P (.BoolOp .Or (e :: b :: rest) pos) (tOrD fb gb) := by
  obtain ⟨t1, p1, h1⟩ := d1
  obtain ⟨t2, p2, h2⟩ := d2
  refine ⟨_, pw_or p1 p2, fun G H σ ρ Q s e p pn h => ?_⟩
  refine h1 G H σ ρ _ s e p pn (Gl.imp (fun x G1 H1 _ e1 k => ?_) (Gl.bind h))
  cases x with
  | true => exact k G1 H1 (Ext.refl e1.s)
  | false => exact h2 G1 H1 σ ρ Q e1.s (e.le e1.le) (hP _ _ e1.g p) pn k
/-! ### isinstance -/
def rIsQ (Ph : Hp → Prop) (K : PySem.W.Frag) (D0 a : Addr) : List V → Hp → VK → Prop := fun xs H Q => Ph H ∧ ∃ (c : V) (cv : Value) (b : Bool), xs = [.ref a, c] ∧ (∀ u, RelV c u → u = cv) ∧ PySem.W.kitOne K (.ref D0) cv = some b ∧ Q (.bl b) H
theorem isq_core {D0 : Addr} {oe : Obj} (C : ExcC X.K D0) {pins : List (Addr × Obj)} {σ : L2.St} {H : Hp} {s : Shared} {us : List Value} {Q : VK} {c : V} {cv : Value} {b : Bool} (I : Inv X pins σ H s) (r : Vals [.ref a, c] us) (hget : s.heap.get? a = some oe) (hz : Zc (.ref D0) none oe) (hf : ∃ vs, oe.data = .fields vs)
    (hcv : ∀ u, RelV c u → u = cv) (e : PySem.W.kitOne X.K (.ref D0) cv = some b) (q : Q (.bl b) H) : wpAny (model X.prog X.w) X.A (call (.builtin "isinstance") us) (EP X pins σ Q) X.xe s := by
  cases r with
  | cons rx rr =>
    cases rr with
    | cons rt rr =>
      cases rr
      cases rx
      have ec := hcv _ rt
      subst ec
      obtain ⟨vs, hv⟩ := hf
      have J : PySem.W.InstAt s.heap a oe D0 none := by
        obtain ⟨oc, od, oda, osl⟩ := oe
        obtain ⟨h1, h2⟩ := hz
        dsimp only at h1 h2 hv
        subst h1 h2 hv
        exact ⟨hget, rfl, rfl, trivial⟩
      exact PySem.W.kia_one (PySem.W.handS_kitx_exc C.hg C.hk C.hs C.hd C.ha C.hn C.ht C.hm) I.kIn J e (fun z => nomatch z) fun tk => ⟨.bl b, H, I.kept (t' := tk) fun _ _ z => z, rfl, q⟩
/-- of an exception made here and not raised -/
theorem call_isX {D0 : Addr} (C : ExcC X.K D0) : CallR X (.builtin "isinstance") (rIsQ (fun H => H a = some (ExO (.ref D0) a)) X.K D0 a) := by
  intro pins s σ H xs us Q I r h
  obtain ⟨ha, c, cv, b, rfl, hcv, e, q⟩ := h
  obtain ⟨⟨oe, vs, ho, hz, hd, _⟩, _⟩ := I.hok a _ ha
  exact isq_core C I r ho hz ⟨vs, hd⟩ hcv e q
/-- of the exception that is handled -/
theorem call_isP {D0 : Addr} {oe : Obj} (C : ExcC X.K D0) (hp : (a, oe) ∈ X.pn) (hz : Zc (.ref D0) none oe) (hf : ∃ vs, oe.data = .fields vs) : CallR X (.builtin "isinstance") (rIsQ (fun _ => True) X.K D0 a) := by
  intro pins s σ H xs us Q I r h
  obtain ⟨_, c, cv, b, rfl, hcv, e, q⟩ := h
  exact isq_core C I r (I.pin (a, oe) (List.mem_append.mpr (.inl hp))).1 hz hf hcv e q
theorem deq_is {D0 : Addr} {Ph : Hp → Prop} {x y : Str} {p1 p2 p3 : Pos} {c : V} {cv : Value} {b : Bool} (hc : CallR X (.builtin "isinstance") (rIsQ Ph X.K D0 a)) (hPh : ∀ G H, Sub G H → P G → Ph H) (pe : PE X (.Name x p1) (tVar i)) (pc : PE X (.Name y p2) (tC c)) (hcv : ∀ u, RelV c u → u = cv)
    (hk : PySem.W.kitOne X.K (.ref D0) cv = some b) (hg : L2.Gl X "isinstance") (hm : X.mg "isinstance" = none)
    (he : starEach [.Name x p1, .Name y p2] X.env = (false, eval (.Name x p1) X.env) :: starEach [.Name y p2] X.env := by rfl) (he2 : starEach [.Name y p2] X.env = (false, eval (.Name y p2) X.env) :: starEach [] X.env := by rfl) (hpl : (backTo pos (starEach [.Name y p2] X.env)).any (·.1) = false := by rfl) :
    DEq X i a P (.Call (.Name "isinstance" p3) [.Name x p1, .Name y p2] [] pos) (vC (.bl b)) := by
  refine ⟨_, pe_callB hc hg hm (by decide +kernel) (pa_cons pe (pa_cons pc pa_nil he2) he) (by decide) (by decide) he hpl, fun G H σ ρ Q s e p pn h => ?_⟩
  exact ⟨.ref a, pn, hPh G H s p, c, cv, b, rfl, hcv, hk, h.bl s⟩
/-! ### statements, one behind another, to the return -/
def GQ (G H : Hp) (Dn : Ends) : Out → Prop
  | .rt d => RetOk none G H Dn.rt d
  | _ => False
theorem GQ.mono {G H G1 H1 : Hp} {Dn : Ends} {o : Out} (x : Ext G H G1 H1) (h : GQ G H Dn o) : GQ G1 H1 Dn o := by
  cases o with
  | rt d => exact fun G' H' v e r => h G' H' v (x.trans e) r
  | _ => exact h.elim
def DQ (X : Cx) (i : Nat) (a : Addr) (P : Hp → Prop) (st : List Stmt) (F : DSem) : Prop :=
  ∃ t : TS, PSs X st t ∧ ∀ (G H : Hp) (σ : L2.St) (ρ : Env) (Dn : Ends), Sub G H → EnvR G σ ρ → P G → σ[i]? = some (some (.ref a)) → GQ G H Dn (F ρ) → t Dn σ H
theorem dq_ret (d : DE X W0 e f) : DQ X i a P [.Return (some e) pos] (sRet f) := by
  obtain ⟨t, pe, h1⟩ := d
  refine ⟨_, pss_one (ps_ret pe), fun G H σ ρ Dn s er p pn h => ?_⟩
  refine h1 G H σ ρ _ s er ?_
  unfold sRet andThen at h
  cases q : f ρ with
  | ok d =>
    rw [q] at h
    exact fun G' H' ex v rv => h G' H' v ex rv
  | ex c => rw [q] at h; exact h.elim
  | no => rw [q] at h; exact h.elim
theorem dq_asg {sts : List Stmt} {F : DSem} {j : Nat} {x : Str} {pos' : Pos} (hP : Gro P) (hij : j ≠ i) (hN : X.N.Nodup) (hi : X.N[j]? = some x) (hl : Loc X.env.scope x) (d : DEq X i a P e f) (d2 : DQ X i a P sts F)
    (hs : swapsWith e (some (.Name x pos')) pos.line X.env = pure false := by rfl) (hf : X.fn x = true ∨ X.env.scope.names.lookup x = some .local := by first | exact .inl rfl | exact .inr rfl) :
    DQ X i a P (.Assign [.Name x pos'] e pos :: sts) (sSeq (sAsg [] j f) F) := by
  obtain ⟨t, p, h1⟩ := d
  obtain ⟨t2, p2, h2⟩ := d2
  refine ⟨_, pss_cons (ps_set hN hi hl p hs hf) p2, fun G H σ ρ Dn s er pG pn h => ?_⟩
  refine h1 G H σ ρ _ s er pG pn ?_
  have eq : sSeq (sAsg [] j f) F ρ = (match f ρ with | .ok d => F (ρ.set j (some d)) | .ex c => .ex c ρ | .no => .no) := by
    unfold sSeq sAsg andThen
    rw [show maskE [] ρ = ρ from rfl]
    cases f ρ <;> rfl
  rw [eq] at h
  cases q : f ρ with
  | ok d =>
    rw [q] at h
    intro G' H' ex v rv
    refine h2 G' H' _ (ρ.set j (some d)) Dn ex.s ((er.le ex.le).set rv) (hP _ _ ex.g pG) (by rw [List.getElem?_set_ne hij]; exact pn) (GQ.mono ex h)
  | ex c => rw [q] at h; exact h.elim
  | no => rw [q] at h; exact h.elim
theorem dq_if {c : Expr} {body sts : List Stmt} {fc : Env → Res Bool} {F1 F2 : DSem} (hP : Gro P) (d : DTq X i a P c fc) (d1 : DQ X i a P body F1) (d2 : DQ X i a P sts F2) (hfalse : ∀ ρ, fc ρ = .ok false) :
    DQ X i a P (.If c body [] pos :: sts) F2 := by
  obtain ⟨t, pt, h1⟩ := d
  obtain ⟨ta, pa, ha⟩ := d1
  obtain ⟨t2, p2, h2⟩ := d2
  refine ⟨_, pss_cons (ps_if pt pa pss_nil) p2, fun G H σ ρ Dn s er pG pn h => ?_⟩
  refine h1 G H σ ρ _ s er pG pn ?_
  rw [hfalse ρ]
  intro G' H' ex
  exact h2 G' H' σ ρ Dn ex.s (er.le ex.le) (hP _ _ ex.g pG) pn (GQ.mono ex h)
end
end DL

/-! DL111: [elt for tg in range(..) if ..] in a def that is called while an exception is handled (printed by mk111.py out of DL107). -/
namespace DL
open PySem PySem.Spec PyProof.Rows L2 L2H
/-- the block of such a comprehension: the handled exception stays pinned -/
abbrev blkH (X : Cx) (s : Shared) (H : Hp) (scope : Scope) (ce : PySem.Env) (fp : List Addr) : Cx := (X.blk s H scope ce fp).tr X.pn (fun _ _ => False)
section
variable {X : Cx} {W : WX}
theorem inv_inH {s0 : Shared} {H0 : Hp} {scope : Scope} {ce : PySem.Env} {fp : List Addr} {σ : L2.St} {H : Hp} {s : Shared} (I : L2.Inv (X.blk s0 H0 scope ce fp) [] σ H s)
    (hp : ∀ p ∈ X.pn, s.heap.get? p.1 = some p.2 ∧ H p.1 = none ∧ p.1 ≠ ce.locals ∧ p.1 ∉ frs X.stack ∧ ∀ v, p.2.data ≠ .cell v) : L2.Inv (blkH X s0 H0 scope ce fp) [] σ H s :=
  ⟨I.ok.toTry _ _, I.os, I.bare, I.base, I.loc, I.cell, I.free, I.freeC, fun p h => hp p (by simpa using h), I.hok, I.len⟩
theorem pe_lcH {elt tg iter : Expr} {ifs : List Expr} {scope : Scope} {own : List (Str × Nat)} {pos : Pos} {wi : TI} {g : TG} {tt : TT} {te : TE} (hc : HotC X) (hN : X.N.Nodup) (hi : PIH X tg iter wi) (ok : BlkOk X.N X.env.scope scope own)
    (hg : ∀ (s : Shared) (H : Hp) (C : Addr) (cl : List (Str × Addr)) (fp : List Addr), PG (blkH X s H scope (compEnvC scope cl C X.env) fp) tg g)
    (ht : ∀ (s : Shared) (H : Hp) (C : Addr) (cl : List (Str × Addr)) (fp : List Addr), PTs (blkH X s H scope (compEnvC scope cl C X.env) fp) ifs tt)
    (he : ∀ (s : Shared) (H : Hp) (C : Addr) (cl : List (Str × Addr)) (fp : List Addr), PE (blkH X s H scope (compEnvC scope cl C X.env) fp) elt te)
    (hfs : ∀ x, foldedSetIterable iter X.env x = pure x := by intro _; rfl) :
    PE X (.ListComp elt [⟨tg, iter, ifs, 0⟩] scope pos) (fun σ H Q => tLc wi g tt te (own.map (·.2)) σ H Q) := by
  refine ⟨fun pn s σ H Qv I h => ?_⟩
  rw [eval_ListComp]
  have free : ∀ y ∈ scope.names, y.2 = .free → ∃ c, X.env.cells.lookup y.1 = some c := fun y hy e => by
    rcases ok.free y hy e with kc | kf
    · exact I.ok.has _ (.inl kc)
    · exact I.ok.has _ (.inr kf)
  refine comprehension_at (use := none) rfl hfs (closure_ok free) ok.kind (fun y hy e => by rw [ok.uniq y hy, e]) (thn (hi.run pn s σ H _ I h) fun xv u1 hx => thn hx fun itv u2 h2 => ?_)
  obtain ⟨it, fp, tn, J, K2, rfl, J2, T, go2, fok2, q⟩ := h2
  have small : 0 ≤ sizeLine := by decide
  refine wpAny_newObj_type (newEnv_comp ?_) small
  obtain ⟨D, hD⟩ : ∃ D, u2.heap.objs.size = D := ⟨_, rfl⟩
  rw [hD]
  have Dn : K2 D = none := J2.hok.fresh (Nat.le_of_eq hD)
  obtain ⟨Wn, ⟨m00, wn0⟩, turn⟩ := q D Dn
  generalize eu3 : ({ u2 with heap := u2.heap.push { cls := .type "list", data := .seq ([] : List Value).toArray } } : Shared) = u3
  have hp3 : u3.heap = u2.heap.push { cls := .type "list", data := .seq ([] : List Value).toArray } := by rw [← eu3]
  have kept3 : ∀ b o, u2.heap.get? b = some o → u3.heap.get? b = some o := fun b o e => by rw [hp3]; exact Heap.get?_push_of_some _ e
  have J3 : L2.Inv X pn σ (upd K2 D (.lst [])) u3 := by
    rw [← eu3]
    refine J2.laid (t' := u2.toks) (fun b o e => Heap.get?_push_of_some _ e) (Nat.le_of_eq hD) ⟨Nat.zero_le _, [], 0, .nil, ?_⟩
    rw [← hD]
    exact Heap.get?_push_size
      _ rfl
  have fok3 : ∀ b ∈ fp, FpOk X pn (upd K2 D (.lst [])) b ∧ b < u3.heap.objs.size := fun b hb => by
    obtain ⟨o, e, _⟩ := T.obj _ _ go2 b hb
    have lt := Heap.lt_size e
    refine ⟨⟨?_, (fok2 b hb).2⟩, by rw [hp3, Heap.size_push]; exact Nat.lt_succ_of_lt lt⟩
    rw [upd_ne (by rw [← hD]; exact Nat.ne_of_lt lt)]
    exact (fok2 b hb).1
  generalize eK3 : upd K2 D (.lst []) = K3 at J3 fok3 wn0
  have J4' := block_start J3 ok hN fok3
  show codeAny _ _ (.compStart (.ListComp elt [⟨tg, iter, ifs, 0⟩] scope pos) 0 (.ref it) (.ref D) (compEnvC scope (cellsFrom (u3.heap.objs.size + 1) scope.names (cloFrom X.env.cells scope.names [])) u3.heap.objs.size X.env)) (compEnds (model X.prog X.w) X.A X.xe none (EP X pn σ Qv) (.ref D) (compEnvC scope (cellsFrom (u3.heap.objs.size + 1) scope.names (cloFrom X.env.cells scope.names [])) u3.heap.objs.size X.env)) { u3 with heap := pushCells (u3.heap.push { cls := .type "dict", data := .dict #[] }) scope.names }
  generalize cellsFrom (u3.heap.objs.size + 1) scope.names (cloFrom X.env.cells scope.names []) = cl at J4' ⊢
  have pg := hg u3 K3 u3.heap.objs.size cl fp
  have pt := ht u3 K3 u3.heap.objs.size cl fp
  have pe := he u3 K3 u3.heap.objs.size cl fp
  have locC : (compEnvC scope cl u3.heap.objs.size X.env).locals = u3.heap.objs.size := rfl
  generalize compEnvC scope cl u3.heap.objs.size X.env = ce at J4' pg pt pe locC ⊢
  generalize eu4 : ({ u3 with heap := pushCells (u3.heap.push { cls := .type "dict", data := .dict #[] }) scope.names } : Shared) = u4 at J4' ⊢
  have J4 := inv_inH J4' fun p hp => by
    obtain ⟨q1, q2, q3, q4, q5⟩ := J3.pin p (List.mem_append_left _ hp)
    refine ⟨?_, q2, by rw [locC]; exact Nat.ne_of_lt (Heap.lt_size q1), fun hm => (List.mem_cons.mp (J3.stkSub p.1 hm)).elim q3 q4, q5⟩
    rw [← eu4]
    exact pushCells_keeps _ _ _ _ (Heap.get?_push_of_some _ q1)
  have go4 : tn 0 u4.heap := T.keep _ _ _ go2 fun b _ o e => by
    rw [← eu4]
    exact pushCells_keeps _ _ _ _ (Heap.get?_push_of_some _ (kept3 b o e))
  have fr3 : ∀ b ∈ fp, K3 b = none := fun b hb => (fok3 b hb).1.1
  have stays : ∀ {σ' : L2.St} {H' : Hp} {s' : Shared}, L2.Inv (blkH X u3 K3 scope ce fp) [] σ' H' s' → (∀ b ∈ fp, H' b = none) → ∀ b ∈ fp, FpOk (blkH X u3 K3 scope ce fp) [] H' b := fun {σ' H' s'} I' hn b hb =>
    ⟨hn b hb, (I'.ok.exf b hb).1,
     I'.ok.exfs b hb, .inl hb,
     fun x c e => (I'.ok.exf b hb).2 x c e,
     fun p hp => (fok3 b hb).1.2.2.2.2.2 p (List.mem_append_left _ (show p ∈ X.pn by simpa using hp))⟩
  have loop : codeAny (model X.prog X.w) X.A (.compLoop (.ListComp elt [⟨tg, iter, ifs, 0⟩] scope pos) 0 (.ref it) (.ref D) ce) (compEnds (model X.prog X.w) X.A X.xe none (EP X pn σ Qv) (.ref D) ce) u4 := by
    refine compLoop_any (fun n s' => ∃ i H', L2.Inv (blkH X u3 K3 scope ce fp) [] (L2.wipe σ (own.map (·.2))) H' s' ∧ tn i s'.heap ∧ (∀ b ∈ fp, H' b = none) ∧ Wn i n H') ?_ m00 ⟨0, K3, J4, go4, fr3, wn0⟩
    rintro n u5 ⟨i, K5, J5, go5, fr5, wn5⟩
    rcases turn i n K5 wn5 with ⟨stop, done⟩ | ⟨go, Nx, goesOn, onward⟩
    · have td := T.done (blkH X u3 K3 scope ce fp) rfl rfl rfl (show HotC (blkH X u3 K3 scope ce fp) from hc) i [] u5 _ K5 (fun _ _ => False) J5 (stays J5 fr5) go5 stop
      refine thnF td fun r u6 ⟨hr, J6⟩ => ?_
      subst hr
      have J7 : L2.Inv X pn σ K5 u6 := J3.call' (ch := fp) J6.os J6.base J6.hok J6.bare fun b hb => ⟨(fok3 b hb).1.2.2.2.1, (fok3 b hb).1.2.1, (fok3 b hb).1.2.2.2.2.1, (fok3 b hb).1.2.2.2.2.2⟩
      have nC : K5 u3.heap.objs.size = none := by
        have z : K5 ce.locals = none := J6.free
        rw [locC] at z
        exact z
      obtain ⟨mm, hn, _⟩ := J6.loc
      have hn : u6.heap.Ns ce.locals mm := hn
      obtain ⟨f0, f1, f4, f5, f6, f7⟩ := J3.fpOk (H' := K5) (Nat.le_refl _) nC
      refine ⟨mm, hn, fun h'' sb => ?_⟩
      rw [locC] at sb
      exact ⟨.ref D, K5, J7.turned (t' := u6.toks) (fun b o hb e => (sb.2 b hb).trans e) f0 f1 f5 f6 f7, rfl, done⟩
    · have ti := T.item (blkH X u3 K3 scope ce fp) rfl rfl rfl (show HotC (blkH X u3 K3 scope ce fp) from hc) i [] u5 _ K5 (fun _ _ => False) J5 (stays J5 fr5) go5 go
      refine thnF ti fun r u6 ⟨u, hr, h6⟩ => ?_
      subst hr
      refine thnF h6 fun _ u7 ⟨x, K7, J7, rel7, yl7, go7, fr7⟩ => ?_
      have J7p := J7.pinned (stays J7 fr7) (T.obj _ _ go7)
      refine thnF (pg.run _ u7 _ K7 x u _ J7p rel7 (onward x K7 yl7)) fun _ u8 ⟨τ8, K8, J8, wp8, nx8⟩ => ?_
      refine thnF (pt.run _ u8 τ8 K8 _ J8 nx8) fun b u9 ⟨K9, J9, nx9⟩ => ?_
      have again : ∀ {s' : Shared} {H' : Hp}, L2.Inv (blkH X u3 K3 scope ce fp) ([] ++ pinsAt fp u7.heap) τ8 H' s' → Nx H' → ∃ m, m < n ∧ ∃ i H', L2.Inv (blkH X u3 K3 scope ce fp) [] (L2.wipe σ (own.map (·.2))) H' s' ∧ tn i s'.heap ∧ (∀ b ∈ fp, H' b = none) ∧ Wn i m H' := fun {s' H'} I' nx => by
        obtain ⟨m', hm, w'⟩ := goesOn H' nx
        have pinned7 : ∀ b ∈ fp, ∀ o, u7.heap.get? b = some o → s'.heap.get? b = some o ∧ H' b = none := fun b hb o e =>
          let z := I'.pin (b, o)
            (List.mem_append_right _ (List.mem_append_right
              _ (mem_pinsAt hb e)))
          ⟨z.1, z.2.1⟩
        have hl : (L2.wipe σ (own.map (·.2))).length = τ8.length := by rw [← wp8, L2.wipe_length]
        refine ⟨m', hm, i + 1, H', (I'.unpinned (pins := [])).weak hl (fun j v e => ?_), T.keep _ _ _ go7 fun b hb o e => (pinned7 b hb o e).1, fun b hb => ?_, w'⟩
        · rw [← wp8] at e
          exact (L2.wipe_some e).1
        · obtain ⟨o, e, _⟩ := T.obj _ _ go7 b hb
          exact (pinned7 b hb o e).2
      cases b with
      | false =>
        simp only [Bool.false_eq_true, if_false] at nx9 ⊢
        exact again J9 nx9
      | true =>
        simp only [if_true] at nx9 ⊢
        refine thnF (pe.run _ u9 τ8 K9 _ J9 nx9) fun z u10 ⟨yv, K10, J10, rel10, acc, at10, few10, nx⟩ => ?_
        exact app_ok (X := blkH X u3 K3 scope ce fp) J10 at10 few10 rel10 fun u11 J11 => again J11 nx
  exact codeAny_compStart_list loop (T.self X.A 0 _ _ _ go4 loop)
end
end DL

/-! DL112: a def that asks of an exception, handed to it, what it is: called with one that is made there, and with the one that is handled. -/
namespace DL
open PySem PySem.Spec PyProof.Rows L2 L2H
/-! ### a comprehension in a def that is called while an exception is handled -/
section
variable {X : Cx} {W : WX} {elt tg iter e : Expr} {ifs : List Expr} {scope : Scope} {own : List (Str × Nat)} {is : List Nat} {ks : D → Res (List D)} {fi : Env → Res (List D)} {ft : Env → Res Bool} {fe f : Env → Res D} {pos p : Pos}
def DIH (X : Cx) (W : WX) (tg it : Expr) (f : Env → Res (List D)) : Prop :=
  ∃ wi : TI, PIH X tg it wi ∧ ∀ (G H : Hp) (σ : L2.St) (ρ : Env) (R : It → Hp → Prop), Sub G H → EnvR G σ ρ → GlI X.mg W G H σ R (f ρ) → wi σ H R
theorem di_range1H (hg : L2.Gl X "range") (hm : X.mg "range" = none) (d : DE X W e f) (hs : starEach [e] X.env = [(false, eval e X.env)] := by rfl) : DIH X W tg (.Call (.Name "range" p) [e] [] pos) (iRange1 f) := by
  obtain ⟨t, pe, h1⟩ := d
  refine ⟨_, pi_range1H hg hm (pa_cons pe pa_nil hs) hs, fun G H σ ρ R s e h => ?_⟩
  refine h1 G H σ ρ _ s e (Gl.imp (fun x G1 H1 _ e1 k v rv => ?_) (Gl.bind h))
  cases x with
  | int j =>
    have e2 : v = .int j := rv
    subst e2
    simp only at k
    split at k
    · rename_i z
      exact ⟨j, rfl, z.1, z.2, k G1 H1 (Ext.refl e1.s) _ itd_rng⟩
    · exact k.elim
  | _ => exact k.elim
theorem dn_compH (hc : HotC X) (hN : X.N.Nodup) (di : DIH X W tg iter fi) (ok : BlkOk X.N X.env.scope scope own)
    (dg : ∀ (s : Shared) (H : Hp) (C : Addr) (cl : List (Str × Addr)) (fp : List Addr), DG (blkH X s H scope (compEnvC scope cl C X.env) fp) tg is ks)
    (dt : ∀ (s : Shared) (H : Hp) (C : Addr) (cl : List (Str × Addr)) (fp : List Addr), DTs (blkH X s H scope (compEnvC scope cl C X.env) fp) W0 ifs ft)
    (de : ∀ (s : Shared) (H : Hp) (C : Addr) (cl : List (Str × Addr)) (fp : List Addr), DE (blkH X s H scope (compEnvC scope cl C X.env) fp) W0 elt fe)
    (hv : ∀ i ∈ is, i ∈ own.map (·.2)) (hs : ∀ x, foldedSetIterable iter X.env x = pure x := by intro _; rfl) : DN X W (.ListComp elt [⟨tg, iter, ifs, 0⟩] scope pos) (nComp fi is ks ft fe (own.map (·.2))) := by
  obtain ⟨wi, pi, h1⟩ := di
  exact ⟨_, pe_lcH (te := rdE X.mg W0 fe) (tt := rdT X.mg W0 ft) (g := rdG is ks) hc hN pi ok (fun s H C cl fp => (dg s H C cl fp).pg) (fun s H C cl fp => (dt s H C cl fp).pts) (fun s H C cl fp => (de s H C cl fp).pe) hs, lc_N h1 hv⟩
end
theorem hu1Q {k : Nat} {A : Around} (hr : RoomH k A) : A.units + 1 < cLine := by have := hr.un; omega
/-! ### with an exception made there -/
/-- the promise: of a new exception of the class C0 it tells d -/
def spE (C0 : Addr) (d : D) : Sp := fun vs H Q E => vs.length = 1 ∧ ∃ (G : Hp) (a : Addr), Sub G H ∧ vs = [.ref a] ∧ G a = some (ExO (.ref C0) a) ∧ RetOk none G H Q d
theorem gro_ex {C0 a : Addr} : Gro (fun G => G a = some (ExO (.ref C0) a)) := fun _ _ g h => g _ _ h
theorem gro_true : Gro (fun _ => True) := fun _ _ _ _ => trivial
theorem startN {N : List Str} {p : Str} {G : Hp} {a : Addr} (hN : N.take 1 = [p]) : EnvR G (L2.start N [.ref a]) (List.replicate N.length none) := by
  refine ⟨?_, fun i d e => ?_⟩
  · unfold L2.start
    cases N with
    | nil => cases hN
    | cons q N => simp
  · rw [List.getElem?_replicate] at e
    split at e <;> cases e
section
variable {P : Program} {w : World} {K : PySem.W.Frag} {mg : Str → Option Value} {base : Heap} {x qual : Str} {st : Stmt} {f C0 : Addr} {fd : FuncData} {N : List Str} {p : Str} {k : Nat} {F : DSem} {d : D}
/-- as Fun.okX, where an exception's context is None -/
theorem fun_okXN {ps : List Str} {sp : Sp} (Fn : Fun K x qual st f fd) (S : FnScope N ps (defScope st)) (len : ∀ vs H Q E, sp vs H Q E → vs.length = ps.length)
    (hbody : ∀ (cdv : Value) (A : Around) (outer : List PySem.Env) (s : Shared) (H : Hp) (vs : List V) (Q : VK) (E : XK), Room k (A.deeper (envOfC qual (defScope st) s.heap.objs.size f cdv)) → sp vs H Q E →
      ∃ t, PSs (cxOf (L2N.CX P w) P w K mg base N qual (defScope st) f cdv A outer s H E) (defBody st) t ∧ t { nx := fun _ H' => Q .non H', rt := Q } (L2.start N vs) H) : FnOk P w K mg base (L2N.CX P w) (k + 1) f fd ps sp := by
  obtain ⟨oc, od, kV, doc, pm, an, cdv, ct, osl, rfl, lk, hcd⟩ := Fn.ex
  exact fn_of lk hcd S len fun A outer s H vs Q E hr hsp => hbody cdv A outer s H vs Q E hr hsp
theorem def_okE (Fn : Fun K x qual st f fd) (S : FnScope N [p] (defScope st)) (hF : F (List.replicate N.length none) = .rt d)
    (hb : ∀ (cdv : Value) (A : Around) (outer : List PySem.Env) (s : Shared) (H : Hp) (E : XK) (a : Addr), Room k (A.deeper (envOfC qual (defScope st) s.heap.objs.size f cdv)) →
      DQ (cxOf (L2N.CX P w) P w K mg base N qual (defScope st) f cdv A outer s H E) 0 a (fun G => G a = some (ExO (.ref C0) a)) (defBody st) F) :
    FnOk P w K mg base (L2N.CX P w) (k + 1) f fd [p] (spE C0 d) := by
  refine fun_okXN Fn S (fun vs H Q E h => h.1) fun cdv A outer s H vs Q E hr h => ?_
  obtain ⟨hl, G, a, sb, rfl, ha, hq⟩ := h
  obtain ⟨t, pt, ht⟩ := hb cdv A outer s H E a hr
  exact ⟨t, pt, ht G H _ _ _ sb (startN S.pre) ha rfl (by rw [hF]; exact hq)⟩
/-! ### with the exception that is handled -/
abbrev CXF : CXT := fun _ _ _ _ _ _ => False
/-- the promise: called while an exception of the class C0 is handled, and with this one, it tells d -/
structure FnQ (P : Program) (w : World) (K : PySem.W.Frag) (mg : Str → Option Value) (base : Heap) (k : Nat) (f : Addr) (fd : FuncData) (p : Str) (C0 : Addr) (d : D) : Prop where
  run : ∀ (A : Around) (outer : List PySem.Env) (s : Shared) (H : Hp) (args : Args) (us : List Value) (Q : VK) (a : Addr) (oe : Obj), RoomH k A → Hot1 A (a, oe) → L2N.Zn (.ref C0) none oe → (∃ vs, oe.data = .fields vs) → PinOk outer H s (a, oe) → Env0 P w K mg base A outer s H →
    BindsTo s fd args ([p].zip us) → Vals [.ref a] us → (∃ G, Sub G H ∧ RetOk none G H Q d) → codeAny (model P w) A (.call (.ref f) args) (CR CXF outer P w H s Q (fun _ _ _ => False)) s
theorem def_okQ (Fn : Fun K x qual st f fd) (S : FnScope N [p] (defScope st)) (hF : F (List.replicate N.length none) = .rt d)
    (hb : ∀ (cdv : Value) (A : Around) (outer : List PySem.Env) (s : Shared) (H : Hp) (E : XK) (a : Addr) (oe : Obj), Zc (.ref C0) none oe → (∃ vs, oe.data = .fields vs) → HotC (cxH CXF P w K mg base N qual (defScope st) f cdv A outer s H E (a, oe)) →
      RoomH k (A.deeper (envOfC qual (defScope st) s.heap.objs.size f cdv)) →
      DQ (cxH CXF P w K mg base N qual (defScope st) f cdv A outer s H E (a, oe)) 0 a (fun _ => True) (defBody st) F) :
    FnQ P w K mg base (k + 1) f fd p C0 d := by
  obtain ⟨oc, od, kV, doc, pm, an, cdv, ct, osl, rfl, lk, hcd⟩ := Fn.ex
  refine ⟨fun A outer s H args us Q a oe hr hot hz hf hpin e0 hbt r hsp => ?_⟩
  have KX : K.In s.heap := e0.mod.kin.keeps fun b o e => (e0.bs b o e).1
  have lim : s.heap.NoLimit := e0.mod.nolimit.keeps fun b o e => (e0.bs b o e).1
  have hkind : ∀ y ∈ [p].zip us, (defScope st).names.lookup y.1 = some .local ∨ ((defScope st).names.lookup y.1 = some .cell ∧ ((cellsFrom (s.heap.objs.size + 1) (defScope st).names []).lookup y.1).isSome = true) := fun ⟨n, v⟩ hy => by
    rcases S.par n (List.of_mem_zip hy).1 with q | q
    · exact .inl q
    · exact .inr ⟨q, PySem.W.cellsFrom_some _ _ _ (.inl q)⟩
  refine codeAny_call_function hr.depth (KX _ _ lk) rfl S.co S.gen rfl (PySem.W.codeRec_of KX hcd) (hbt _ _ _ _ ?_)
  refine wpAny_newFunctionEnv_cells S.kind hkind fun env he s1 x => ?_
  subst he
  refine ⟨lim.keeps x.toInCall.keep, codeAny_func ?_⟩
  obtain ⟨t, ht, hq⟩ := hb cdv A outer s H (fun _ _ _ => False) a oe hz.zc hf ⟨(a, oe), hot, List.mem_cons_self⟩ (hr.deeper _)
  obtain ⟨G, sb, hret⟩ := hsp
  have I := inv_startH (CX := CXF) (w := w) (E := fun _ _ _ => False) S hpin e0 (vs := [.ref a]) rfl r x
  have start := hq G H (L2.start N [.ref a]) _ { nx := fun _ H' => Q .non H', rt := Q } sb (startN S.pre) trivial rfl (by rw [hF]; exact hret)
  refine wpAny_mono (ht.run [] s1 (L2.start N [.ref a]) H _ I start) (fun fl s' hs => ?_) fun e s' hs => hs
  cases fl with
  | ret u =>
    obtain ⟨v, σ', H', J, rv, q⟩ := hs
    exact ⟨v, H', J.os, J.bare, J.base, J.hok, rv, q⟩
  | next =>
    obtain ⟨σ', H', J, q⟩ := hs
    exact ⟨.non, H', J.os, J.bare, J.base, J.hok, rfl, q⟩
  | brk =>
    obtain ⟨_, _, _, q⟩ := hs
    exact False.elim q
  | cont =>
    obtain ⟨_, _, _, q⟩ := hs
    exact False.elim q
end
/-! ### calls -/
section
variable {X : Cx} {W : WX} {k : Nat} {f C0 : Addr} {fd : FuncData} {p x cx y m : Str} {d : D} {q1 q2 q3 q4 pos : Pos}
/-- f(C("..")) -/
theorem de_callE {bmB : List Value} {B newId initId : String} {jk : Nat} {p0 : Str} (F : FnOk X.prog X.w X.K X.mg X.base (L2N.CX X.prog X.w) k f fd [p0] (spE C0 d)) (tk : L2N.Takes X W) (hr : Room k X.A) (hg : L2.Gl X x) (hm : X.mg x = some (.ref f)) (hk : PySem.W.keepIn X.K (.ref f) = true) (hb : Binds X.K fd [p0] [])
    (BF : ExcBaseFacts B newId initId bmB) (hq : PySem.W.excIn X.K C0 bmB newId = true) (gC : X.mg cx = some (.ref C0)) (kC : PySem.W.keepIn X.K (.ref C0) = true) (hgC : L2.Gl X cx)
    (hdC : (cx == ("__debug__" : Str)) = false := by decide) (hsC : starEach [.Constant (.str m) jk q4] X.env = (false, eval (.Constant (.str m) jk q4) X.env) :: starEach [] X.env := by rfl)
    (hdb : (x == ("__debug__" : Str)) = false := by decide) (he : starEach [.Call (.Name cx q2) [.Constant (.str m) jk q4] [] q3] X.env = (false, eval (.Call (.Name cx q2) [.Constant (.str m) jk q4] [] q3) X.env) :: starEach [] X.env := by rfl)
    (hpl : (backTo pos (starEach [] X.env)).any (·.1) = false := by rfl) : DE X W (.Call (.Name x q1) [.Call (.Name cx q2) [.Constant (.str m) jk q4] [] q3] [] pos) (vC d) := by
  refine ⟨_, pe_callS F hr hg hm hk hb (fun σ => L2N.passAt tk σ) (pa_cons (pe_exc1 BF hq gC kC hgC pe_str hsC hdC) pa_nil he) hdb he hpl, fun G H σ ρ Q s e h => ?_⟩
  intro a ha
  exact ⟨rfl, upd G a (ExO (.ref C0) a), a, (Ext.new s ha).s, rfl, upd_same, fun G' H' v ex rv => h G' H' ((Ext.new s ha).trans ex) v rv⟩
/-- f(e), e the exception that the suite handles -/
theorem dep_callQ {i : Nat} {a : Addr} {oe : Obj} {pn : List (Addr × Obj)} {p0 : Str} (F : FnQ X.prog X.w X.K X.mg X.base k f fd p0 C0 d) (hr : Room k X.A) (hz : L2N.Zn (.ref C0) none oe) (hf : ∃ vs, oe.data = .fields vs) (pe : PE (X.suite a ((a, oe) :: pn)) (.Name y q2) (tVar i))
    (hg : L2.Gl (X.suite a ((a, oe) :: pn)) x) (hm : X.mg x = some (.ref f)) (hk : PySem.W.keepIn X.K (.ref f) = true) (hb : Binds X.K fd [p0] [])
    (hdb : (x == ("__debug__" : Str)) = false := by decide) (he : starEach [.Name y q2] X.env = (false, eval (.Name y q2) X.env) :: starEach [] X.env := by rfl) (hpl : (backTo pos (starEach [] X.env)).any (·.1) = false := by rfl) :
    DEp (X.suite a ((a, oe) :: pn)) i a (.Call (.Name x q1) [.Name y q2] [] pos) (vC d) := by
  refine ⟨fun σ H Q => σ[i]? = some (some (.ref a)) ∧ ∃ G, Sub G H ∧ RetOk none G H Q d, ⟨fun pins s σ H Q I h => ?_⟩, fun G H σ ρ Q s e pn h => ⟨pn, G, s, fun G' H' v ex rv => h G' H' ex v rv⟩⟩
  refine wpAny_Call_Name_kw (ld_glob I hg hm ?_ hdb)
  refine PySem.W.callWith_K (h₀ := X.base) I.ok.mod.kin hk (thn ((pa_cons pe pa_nil he).run pos pins s σ H (fun vs H2 => vs = [.ref a] ∧ ∃ G, Sub G H2 ∧ RetOk none G H2 Q d) I ⟨.ref a, h.1, rfl, h.2⟩) fun us s1 ⟨vs, H1, I1, r, e1, q⟩ => ⟨I1.kIn, ?_⟩) he hpl
  subst e1
  have P1 := I1.pin (a, oe) (List.mem_append_left _ List.mem_cons_self)
  have hpin : PinOk X.stack H1 s1 (a, oe) := ⟨P1.1, P1.2.1, fun hm => (List.mem_cons.mp (I1.stkSub a hm)).elim P1.2.2.1 P1.2.2.2.1, P1.2.2.2.2⟩
  obtain ⟨vs, hd⟩ := hf
  have hl : us.length = [p0].length := by rw [← r.length]; rfl
  have b := hb s1 us I1.kIn (by rw [List.append_nil]; exact hl)
  rw [List.append_nil] at b
  have hr2 : RoomH k (X.A.mark (some (.ref a))) := ⟨by have := hr.dp; exact this, by rw [Around.mark_units]; exact hr.un⟩
  refine wpAny_call (codeAny_mono (F.run (X.A.mark (some (.ref a))) X.stack s1 H1 ⟨us, []⟩ us Q a oe hr2 ⟨rfl, vs, hd, hz.2.2 vs hd⟩ hz ⟨vs, hd⟩ hpin I1.env0 b r q) fun r s' hq => ?_)
  cases r with
  | error e => exact False.elim hq
  | ok fl =>
    cases fl with
    | ret u => exact I1.after hq
    | next => exact False.elim hq
    | brk => exact False.elim hq
    | cont => exact False.elim hq
end
end DL

/-! DL113: the rules for raise, calls, try .. as, defs, where an exception's context is None (L2N), printed by mk113.py out of DL6, DL7, DL9, DL10, DL17. -/
namespace DL
open PySem PySem.Spec PyProof.Rows L2
theorem ds_raiseN {X : Cx} {J : Jd} {own own1 : Owns} {pos : Pos} {e : Expr} {c : Str} {C : Addr} (hc : X.calm = true) (tk : L2N.Takes X J.W) (pm : L2N.PMk X e (fun _ H Q => Q (.ref C) none H)) (hm : X.mg c = some (.ref C)) (hx : oxSub J.ox own = true := by rfl) :
    DS X J own own1 (.Raise (some e) none pos) (sRaise c) :=
  ⟨_, L2N.ps_raise hc tk pm, fun G0 H0 G H σ ρ Dn I h => h C own G H σ hx hm I⟩

/-- around a body nothing is let out -/
theorem takes0N {X : Cx} : L2N.Takes X (fun _ _ _ _ => False) := fun _ _ x => by
  obtain ⟨_, _, _, _, _, _, _, _, _, _, _, _, _, _, _, _, z⟩ := x
  exact z.elim
section
variable {X : Cx} {W : WX} {k : Nat} {f : Addr} {fd : FuncData} {ps : List Str} {rk : Option Kd} {n : Nat} {fn : List D → Res D} {x : Str} {p pos : Pos} {e : Expr} {es : List Expr} {g : Env → Res (List D)}
theorem de_callN (F : FnOk X.prog X.w X.K X.mg X.base (L2N.CX X.prog X.w) k f fd ps (spK X.mg rk n fn)) (tk : L2N.Takes X W) (hr : Room k X.A) (hg : L2.Gl X x) (hm : X.mg x = some (.ref f)) (hk : PySem.W.keepIn X.K (.ref f) = true) (hb : Binds X.K fd ps [])
    (d : DA X W (e :: es) g) (hdb : (x == ("__debug__" : Str)) = false := by decide) (he : starEach (e :: es) X.env = (false, eval e X.env) :: starEach es X.env := by rfl) (hpl : (backTo pos (starEach es X.env)).any (·.1) = false := by rfl) :
    DE X W (.Call (.Name x p) (e :: es) [] pos) (vCallN n fn g) := by
  obtain ⟨t, pa, h1⟩ := d
  refine ⟨_, pe_callS F hr hg hm hk hb (fun σ => L2N.passAt tk σ) pa hdb he hpl, fun G H σ ρ Q s e h => ?_⟩
  refine h1 G H σ ρ _ s e (Gl.imp (fun ds G1 H1 _ e1 k vs rv => ?_) (Gl.bind h))
  split at k
  · rename_i hl
    exact call_rep e1.s rv (by rw [rv.length]; exact hl) k
  · exact k.elim
theorem df_callN {kd : Kd} (F : FnOk X.prog X.w X.K X.mg X.base (L2N.CX X.prog X.w) k f fd ps (spK X.mg (some kd) n fn)) (tk : L2N.Takes X W) (hr : Room k X.A) (hg : L2.Gl X x) (hm : X.mg x = some (.ref f)) (hk : PySem.W.keepIn X.K (.ref f) = true) (hb : Binds X.K fd ps [])
    (d : DA X W (e :: es) g) (hdb : (x == ("__debug__" : Str)) = false := by decide) (he : starEach (e :: es) X.env = (false, eval e X.env) :: starEach es X.env := by rfl) (hpl : (backTo pos (starEach es X.env)).any (·.1) = false := by rfl) :
    DF X W kd (.Call (.Name x p) (e :: es) [] pos) (vCallN n fn g) := by
  obtain ⟨t, pa, h1⟩ := d
  refine ⟨_, pe_callS F hr hg hm hk hb (fun σ => L2N.passAt tk σ) pa hdb he hpl, fun G H σ ρ Q s e h => ?_⟩
  refine h1 G H σ ρ _ s e (Gl.imp (fun ds G1 H1 _ e1 k vs rv => ?_) (Gl.bind h))
  split at k
  · rename_i hl
    exact call_own e1.s rv (by rw [rv.length]; exact hl) (fun a q => e1.free q) k
  · exact k.elim
theorem de_call0N (F : FnOk X.prog X.w X.K X.mg X.base (L2N.CX X.prog X.w) k f fd ps (spK X.mg rk 0 fn)) (tk : L2N.Takes X W) (hr : Room k X.A) (hg : L2.Gl X x) (hm : X.mg x = some (.ref f)) (hk : PySem.W.keepIn X.K (.ref f) = true) (hb : Binds X.K fd ps []) (hdb : (x == ("__debug__" : Str)) = false := by decide) :
    DE X W (.Call (.Name x p) [] [] pos) (vCall0 fn) :=
  ⟨_, pe_callS0 F hr hg hm hk hb (fun σ => L2N.passAt tk σ) hdb, fun G H σ ρ Q s e h => call_rep s (ds := []) rfl rfl h⟩
end
section
variable {P : Program} {w : World} {K : PySem.W.Frag} {mg : Str → Option Value} {base : Heap}
theorem def_okN {x qual : Str} {st : Stmt} {f : Addr} {fd : FuncData} {N ps : List Str} {k : Nat} {rk : Option Kd} {F : DSem} (Fn : Fun K x qual st f fd) (S : FnScope N ps (defScope st)) {own' : Owns} (hend : rk = none ∨ rk = some .dp)
    (hb : ∀ (cdv : Value) (A : Around) (outer : List PySem.Env) (s : Shared) (H : Hp) (E : XK), Room k (A.deeper (envOfC qual (defScope st) s.heap.objs.size f cdv)) →
      L2N.Takes (cxOf (L2N.CX P w) P w K mg base N qual (defScope st) f cdv A outer s H E) (fun cls d _ H => E cls d H) →
      PassesOwn (model P w) (cxOf (L2N.CX P w) P w K mg base N qual (defScope st) f cdv A outer s H E).A (cxOf (L2N.CX P w) P w K mg base N qual (defScope st) f cdv A outer s H E).env (cxOf (L2N.CX P w) P w K mg base N qual (defScope st) f cdv A outer s H E).xe →
      DSs (cxOf (L2N.CX P w) P w K mg base N qual (defScope st) f cdv A outer s H E) ⟨fun cls d _ H => E cls d H, [], [], rk⟩ [] own' (defBody st) F) :
    FnOk P w K mg base (L2N.CX P w) (k + 1) f fd ps (spK mg rk ps.length (runF N.length F)) := by
  refine fun_okXN Fn S (fun vs H Q E h => h.1) fun cdv A outer s H vs Q E hr h => ?_
  obtain ⟨t, pt, ht⟩ := hb cdv A outer s H E hr (L2N.takes_of rfl rfl rfl rfl) (passes_of rfl)
  obtain ⟨hl, G, ds, sb, rs, hq⟩ := h
  refine ⟨t, pt, ?_⟩
  have er := startR (N := N) rs
  refine ht G H G H (L2.start N vs) (startE N.length ds) _ ⟨fun _ => [], ⟨Ext.refl sb, er.len, fun i d e _ => er.val i d e, fun i k d q => by simp at q, fun i p hp => by simp at hp, fun i j p _ hp => by simp at hp, fun i v q => by simp at q⟩⟩ ?_
  unfold runF at hq
  cases q : F (startE N.length ds) with
  | nx ρ' =>
    rw [q] at hq
    intro G' H' σ' I'
    have hq : RetOk rk G H Q .non := hq
    unfold RetOk at hq
    rcases hend with e | e
    · rw [e] at hq; exact hq G' H' .non I'.ext rfl
    · rw [e] at hq; exact hq G' H' .non [] I'.ext ⟨⟨rfl, rfl⟩, List.nodup_nil⟩ fun p hp => by cases hp
  | rt d => rw [q] at hq; exact hq
  | ex c ρ' => rw [q] at hq; exact fun C own G' H' σ' _ m I' => hq C G' H' m I'.ext
  | bk ρ' => rw [q] at hq; exact hq.elim
  | ct ρ' => rw [q] at hq; exact hq.elim
  | no => rw [q] at hq; exact hq.elim
theorem law_okN {k : Nat} {f : Addr} {fd : FuncData} {x : Str} {m : List D → Res D} (F : FnOk P w K mg base (L2N.CX P w) k f fd [x] (spK mg none 1 m)) (h : ∀ ns : List Int, ns.length ≤ 63 → m [.lst (ns.map D.int)] = .ok (.bl true)) : FnOk P w K mg base (L2N.CX P w) k f fd [x] spLaw :=
  F.imp fun vs H Q E ⟨a, ns, e, hr, hl, q⟩ => by
    subst e
    refine ⟨rfl, H, [.lst (ns.map D.int)], fun _ _ e => e, ⟨.ref a, [], rfl, ⟨a, _, rfl, hr, reps_ints ns⟩, rfl⟩, ?_⟩
    rw [h ns hl]
    intro G' H' v _ rv
    have e : v = .bl true := rv
    subst e
    exact q H'
theorem cx_neverN {P : Program} {w : World} {outer : List PySem.Env} {H : Hp} {s : Shared} {e : Value} {s' : Shared} (h : L2N.CX P w outer H s (fun _ _ _ => False) e s') : False := by
  obtain ⟨_, _, _, _, _, _, _, _, _, _, _, _, z⟩ := h
  exact z
end
theorem ds_tryAsN {X : Cx} {J : Jd} {own : Owns} {body suite : List Stmt} {b0 : Stmt} {x n : Str} {hv : Value} {i : Nat} {c0 : Str} {C0 : Addr} {F1 F2 : DSem} {np pos pos' : Pos} (hs : X.stack = X.env :: X.outer) (hf : X.env.frame = some X.env.locals) (hN : X.N.Nodup) (hi : X.N[i]? = some n) (hln : X.env.kindOf n = some .local) (hc : Names X x hv) (tk : L2N.Takes X J.W)
    (ho : own.lookup i = none) (hm : X.mg c0 = some (.ref C0)) (he : PySem.W.exmOne X.K (.ref C0) hv = some true)
    (hb : ∀ (W : WX) (pn : List (Addr × Obj)) (xe : Value → Shared → Prop), L2N.Takes (X.tr pn xe) W → PassesOwn (model X.prog X.w) X.A X.env xe → DSs (X.tr pn xe) ⟨W, J.L, own, J.rk⟩ own own body F1)
    (hsu : ∀ (a : Addr) (oe : Obj) (pn : List (Addr × Obj)), L2N.Zn (.ref C0) none oe → (∃ vs, oe.data = .fields vs) → DSp (X.suite a ((a, oe) :: pn)) ⟨W0, J.L, [], J.rk⟩ own own i a (b0 :: suite) F2)
    (hnx : ∀ ρ, (∃ ρ', F2 ρ = .nx ρ') ∨ F2 ρ = .no ∨ ∃ c ρ', F2 ρ = .ex c ρ') (hx : oxSub J.ox own = true := by rfl) : DS X J own own (.Try body [.ExceptHandler (some (.Name x np)) (some n) (b0 :: suite) pos'] [] [] pos) (sTryAs i F1 [(c0, F2)]) := by
  -- the suite's reading
  let ts : Addr → Value → Option Addr → TS := fun a cls d Dn σ H => cls = .ref C0 ∧ d = none ∧ ∃ G0 H0 G ρ, SI G0 H0 own G H σ ρ ∧ σ[i]? = some (some (.ref a)) ∧ GS X.mg ⟨W0, J.L, [], J.rk⟩ G0 H0 own Dn (F2 ρ)
  have pts : ∀ (a : Addr) (oe : Obj) (cls : Value) (d : Option Addr) (pn : List (Addr × Obj)), L2N.Zn cls d oe → (∃ vs, oe.data = .fields vs) → PSs (X.suite a ((a, oe) :: pn)) (b0 :: suite) (ts a cls d) := fun a oe cls d pn hz hd => by
    refine ⟨fun pins s σ H Dn I ⟨e1, e2, G0, H0, G, ρ, si, hp, g⟩ => ?_⟩
    subst e1 e2
    obtain ⟨t, p, h⟩ := hsu a oe pn hz hd
    exact p.run pins s σ H Dn I (h G0 H0 G H σ ρ Dn si hp g)
  refine ⟨_, L2N.ps_try_as (tb := fun W => rdS X.mg ⟨W, J.L, own, J.rk⟩ own own F1) (ts := ts) hs hf hN hi hln hc tk (fun W pn xe t p => (hb W pn xe t p).pss) pts, fun G0 H0 G H σ ρ Dn I h => ?_⟩
  refine ⟨G0, H0, G, ρ, I, ?_⟩
  unfold sTryAs at h
  cases q : F1 ρ with
  | ex c ρ' =>
    rw [q] at h
    simp only at h
    intro C own2 G' H' σ' hx2 m I'
    by_cases ec : c = c0
    · subst ec
      rw [hm] at m; cases m
      rw [show List.lookup c [(c, F2)] = some F2 by simp [List.lookup]] at h
      simp only at h
      split at h
      rotate_left
      · exact h.elim
      rename_i hlr
      refine ⟨true, he, fun _ a na => ?_, fun z => by cases z⟩
      obtain ⟨G2, I2⟩ := I'.toOwn hx2
      obtain ⟨fp, I2⟩ := I2
      have I3 : SI G0 H0 own G2 H' (σ'.set i (some (.ref a))) (ρ'.set i none) := ⟨fp, (I2.weak (ρ' := ρ'.set i none) (by simp) fun k d e => by
        by_cases hk : i = k
        · subst hk; exact absurd e (set_none_no d)
        · rwa [List.getElem?_set_ne hk] at e).junk' set_none_no ho⟩
      have hlen : i < σ'.length := by rw [← I'.len]; exact hlr
      refine ⟨rfl, rfl, G0, H0, G2, _, I3, List.getElem?_set_self hlen, ?_⟩
      rcases hnx (ρ'.set i none) with ⟨ρ2, e2⟩ | e2 | ⟨c, ρ2, e2⟩
      · rw [e2] at h ⊢
        intro G3 H3 σ3 ⟨fp3, I4⟩
        exact h G3 H3 _ ⟨fp3, (I4.weak (ρ' := ρ2.set i none) (by simp) fun k d e => by
          by_cases hk : i = k
          · subst hk; exact absurd e (set_none_no d)
          · rwa [List.getElem?_set_ne hk] at e).junk' set_none_no ho⟩
      · rw [e2] at h; exact h.elim
      · rw [e2] at h; exact h.elim
    · rw [show List.lookup c [(c0, F2)] = none by rw [List.lookup_cons, show (c == c0) = false by simpa using ec]; rfl] at h
      exact h.elim
  | nx ρ' => rw [q] at h; exact h
  | rt d => rw [q] at h; exact h
  | bk ρ' => rw [q] at h; exact h
  | ct ρ' => rw [q] at h; exact h
  | no => rw [q] at h; exact h
end DL

/-! G1: what laws 01 to 35 draw their houses by. -/
namespace G1
open PySem L2 DL
def b_cell_at : DSem :=
  (sSeq (sIf (vB (v2 (gI (fun i j => decide (i < j))) (vVar 1) (vCall c_len (aCons (vVar 0) aNil))))
  (sRet (v2 g_mod (v2 g_mul (v2 g_add (v2 g_add (v2 g_mod (v2 g_ix (vVar 0) (vVar 1)) (vC (.int 2147483647))) (vC (.int 11))) (v2 g_mul (vVar 1) (vVar 1))) (vC (.int 48271))) (vC (.int 2147483647))))
  sNext)
  (sRet (vC (.int 0))))
def m_cell_at : List D → Res D := runF 2 (b_cell_at)
def b_whole : DSem :=
  (sRet (vAnd (v1 (g_isi "int") (vVar 0)) (vNot (v1 (g_isi "bool") (vVar 0)))))
def m_whole : List D → Res D := runF 1 (b_whole)
def b_rule : DSem :=
  (sSeq (sAsg [] 0 (v2 g_mod (v2 g_mul (v2 g_add (v2 g_mod (vVar 0) (vC (.int 2147483629))) (vC (.int 5))) (vC (.int 69621))) (vC (.int 2147483629))))
  (sSeq (sAsg [] 3 (v2 g_mod (vVar 0) (vVar 1)))
  (sSeq (sAsg [] 0 (v2 g_fdiv (vVar 0) (vVar 1)))
  (sSeq (sAsg [] 4 (v2 g_mod (vVar 0) (vVar 2)))
  (sSeq (sAsg [] 0 (v2 g_fdiv (vVar 0) (vVar 2)))
  (sSeq (sAsg [] 5 (v2 g_mod (vVar 0) (vVar 1)))
  (sSeq (sAsg [] 0 (v2 g_fdiv (vVar 0) (vVar 1)))
  (sSeq (sAsg [] 6 (v2 g_mod (vVar 0) (vC (.int 3))))
  (sSeq (sAsg [] 0 (v2 g_fdiv (vVar 0) (vC (.int 3))))
  (sRet (vTup (aCons (vVar 3) (aCons (vVar 4) (aCons (vVar 5) (aCons (vSl (vTup (aCons (v2 g_mod (vVar 0) (vVar 2)) (aCons (v2 g_mod (v2 g_fdiv (vVar 0) (vVar 2)) (vVar 2)) aNil))) oNone (oSome (vVar 6))) aNil)))))))))))))))
def m_rule : List D → Res D := runF 7 (b_rule)
structure Rule where
  r : Int
  s : Int
  t : Int
  p : List Int
def eR (x : Rule) : D := .tup [.int x.r, .int x.s, .int x.t, .tup (x.p.map D.int)]
def ROk (R S : Int) (r : Rule) : Prop := (0 ≤ r.r ∧ r.r < R) ∧ (0 ≤ r.s ∧ r.s < S) ∧ (0 ≤ r.t ∧ r.t < R) ∧ r.p.length ≤ 2 ∧ ∀ x ∈ r.p, 0 ≤ x ∧ x < S
theorem rule_ok {c R S : Int} (hR : 0 < R) (hR2 : R < 1000) (hS : 0 < S) (hS2 : S < 1000) : ∃ r, m_rule [.int c, .int R, .int S] = .ok (eR r) ∧ ROk R S r := by
  have e1 : ∀ x y : Int, ∀ u, cutA [D.int x, D.int y] none u = (cutA [x, y] none u).map D.int := fun x y u => (cutA_map D.int [x, y] none u).symm ▸ rfl
  have key : ∃ a s t x y z, m_rule [.int c, .int R, .int S] = .ok (eR ⟨a % R, s % S, t % R, cutA [x % S, y % S] none (some z)⟩) := ⟨_, _, _, _, _, _, by
    simp -implicitDefEqProofs [m_rule, b_rule, eR, g_mod_int, g_mul_int, g_fdiv_int, hR, hS, show R < 18446744073709551616 by omega, show S < 18446744073709551616 by omega, e1]
    exact ⟨rfl, rfl, rfl, rfl⟩⟩
  obtain ⟨a, s, t, x, y, z, h⟩ := key
  refine ⟨_, h, emod_rng _ hR, emod_rng _ hS, emod_rng _ hR, Nat.le_trans cutA_len (by simp), fun x hx => ?_⟩
  have := cutA_mem hx
  simp at this
  rcases this with h | h <;> rw [h] <;> exact emod_rng _ hS
theorem cell_at (ns : List Int) (k : Int) (h0 : 0 ≤ k) (hk : k < 1000) : ∃ c, m_cell_at [.lst (ns.map D.int), .int k] = .ok (.int c) ∧ 0 ≤ c ∧ c < 2147483647 := by
  by_cases h : k < ns.length
  · have h2 : g_mul (D.int k) (D.int k) = .ok (D.int (k * k)) := g_mul_int (.inl ⟨by omega, by omega⟩)
    exact ⟨_, by simp -implicitDefEqProofs [m_cell_at, b_cell_at, h, g_ix_lst' D.int ns k h0 h, h2, g_mod_int, g_mul_int]; rfl, emod_rng _ (by decide)⟩
  · exact ⟨0, by simp -implicitDefEqProofs [m_cell_at, b_cell_at, h], by decide, by decide⟩
theorem whole_ok (i : Int) : m_whole [.int i] = .ok (.bl true) := by simp -implicitDefEqProofs [m_whole, b_whole]
/-- rules drawn by a comprehension over slots of which some hold the numbers of rooms and signs -/
theorem rules_ok {is : List Nat} {fe : DL.Env → Res D} {ρ : DL.Env} {R S : Int} {xs : List Int} {o : Res (List D)} (hC : compL is kName tTrue fe ρ (xs.map D.int) = o)
    (hfe : ∀ c, elt1 is kName fe ρ (.int c) = m_rule [.int c, .int R, .int S]) (h1 : 0 < R) (h2 : R < 1000) (h3 : 0 < S) (h4 : S < 1000) : ∃ rs : List Rule, o = .ok (rs.map eR) ∧ rs.length = xs.length ∧ ∀ r ∈ rs, ROk R S r := by
  obtain ⟨rs, h, e2, e3⟩ := compL_exh hC eR (fun _ r => ROk R S r) (fun x hx => by
      obtain ⟨r, hr, ok⟩ := rule_ok (c := x) (R := R) (S := S) h1 h2 h3 h4
      exact ⟨r, by rw [hfe]; exact hr, ok⟩)
  exact ⟨rs, h, e2, fun r hr => let ⟨_, _, h⟩ := e3 r hr; h⟩
theorem nb_eR (n : Nat) (r : Rule) : nb (n + 2) (eR r) = true := by simp [eR]
theorem eR_nbs (n : Nat) (xs : List Rule) : nbs (n + 2) (xs.map eR) = true := nbs_map (fun x => nb_eR n x) xs
@[simp] theorem nb_eR20 (r : Rule) : nb 17 (eR r) = true := nb_eR 15 r
theorem imm_eR (r : Rule) : imm (eR r) = true := by simp [eR]
@[simp] theorem imms_eR (xs : List Rule) : imms (xs.map eR) = true := imms_map imm_eR xs
@[simp] theorem all_whole : ∀ xs : List Int, True := fun _ => trivial
theorem eR_inj {a b : Rule} : eR a = eR b ↔ a = b := by
  constructor
  · intro h
    obtain ⟨a1, a2, a3, a4⟩ := a
    obtain ⟨b1, b2, b3, b4⟩ := b
    simp [eR, int_inj] at h
    simp [h]
  · intro h; rw [h]
end G1

/-! G2: steps and runs (laws 03, 04). -/
namespace G2
open PySem L2 DL G1
def b_stepped : DSem :=
  (sSeq (sIf (tOrD (vB (v2 (gI (fun i j => decide (i < j))) (vVar 2) (vC (.int 0)))) (vB (v2 (gI (fun i j => decide (j ≤ i))) (vVar 2) (vCall c_len (aCons (v2 g_ix (vVar 0) (vC (.int 2))) aNil)))))
  (sRaise "NoStep")
  sNext)
  (sSeq (sAsg [] 3 (v2 g_ix (v2 g_ix (vVar 0) (vC (.int 2))) (vVar 2)))
  (sSeq (sUnp [] [4, 5] (kTup 2 (ksCons kName (ksCons kName ksNil))) (vVar 1))
  (sSeq (sIf (tOrD (vB (v2 g_eq (vVar 5) (vLstOf (nLst aNil)))) (tOrD (vB (v2 g_ne (v2 g_ix (vVar 3) (vC (.int 0))) (vVar 4))) (vB (v2 g_ne (v2 g_ix (vVar 3) (vC (.int 1))) (v2 g_ix (vVar 5) (vC (.int 0)))))))
  (sRaise "NoStep")
  sNext)
  (sRet (vTup (aConsI (v2 g_ix (vVar 3) (vC (.int 2))) (aCons (vLstI (nCat (vLstOf (nList (v2 g_ix (vVar 3) (vC (.int 3))))) (vSl (vVar 5) (oSome (vC (.int 1))) oNone))) aNil))))))))
def m_stepped : List D → Res D := runF 6 (b_stepped)
def b_stack : DSem :=
  (sSeq (sAsg [] 2 (v2 g_mod (vVar 0) (vC (.int 6))))
  (sSeq (sIf (vB (v2 g_eq (v2 g_mod (v2 g_fdiv (vVar 0) (vC (.int 6))) (vC (.int 8))) (vC (.int 3))))
  (sAsg [] 2 (v2 g_add (vC (.int 20)) (v2 g_mod (v2 g_fdiv (vVar 0) (vC (.int 48))) (vC (.int 20)))))
  sNext)
  (sSeq (sAsg [] 3 (v2 g_mod (v2 g_fdiv (vVar 0) (vC (.int 7))) (vC (.int 2147483647))))
  (sSeq (sAsgV 4 (vLstI (nLst aNil)))
  (sSeq (sFor [(4, .dp)] (iRange1 (vVar 2)) [5] kName
  (sSeq (sAsg [(4, .dp)] 3 (v2 g_mod (v2 g_add (v2 g_add (v2 g_mul (vVar 3) (vC (.int 48271))) (v2 g_mul (vVar 5) (vVar 5))) (vC (.int 11))) (vC (.int 2147483647))))
  (sAppI 4 (v2 g_mod (v2 g_fdiv (vVar 3) (vC (.int 7))) (vVar 1))))
  [5])
  (sRet (vVar 4)))))))
def m_stack : List D → Res D := runF 6 (b_stack)
def eSt (a : Int) (st : List Int) : D := .tup [.int a, .lst (st.map D.int)]
def eH (R S : Int) (rs : List Rule) : D := .tup [.int R, .int S, .lst (rs.map eR)]
@[simp] theorem nb_eSt (n : Nat) (a : Int) (st : List Int) : nb (n + 2) (eSt a st) = true := by simp [eSt]
/-- the rule of a number, where it fits -/
def fitN (rs : List Rule) (a : Int) (st : List Int) (n : Int) : Option Rule :=
  if h : 0 ≤ n ∧ n < rs.length then (match st with
    | [] => none
    | s :: _ => if (rs[n.toNat]'(by omega)).r = a ∧ (rs[n.toNat]'(by omega)).s = s then some (rs[n.toNat]'(by omega)) else none) else none
def stepN (rs : List Rule) (x : Int × List Int) (n : Int) : Option (Int × List Int) := (fitN rs x.1 x.2 n).map fun r => (r.t, r.p ++ x.2.tail)
theorem cut1 (x : D) (r : List D) : cutA (x :: r) (some 1) none = r := cutA_from (x :: r) 1
theorem stepped_ok {R S : Int} {rs : List Rule} {x : Int × List Int} {n : Int} (hr : rs.length ≤ 1000) (hp : ∀ r ∈ rs, r.p.length ≤ 2) (hs : x.2.length ≤ 1000) :
    m_stepped [eH R S rs, eSt x.1 x.2, .int n] = match stepN rs x n with | some y => .ok (eSt y.1 y.2) | none => .ex "NoStep" := by
  obtain ⟨a, st⟩ := x
  unfold stepN fitN
  by_cases h : 0 ≤ n ∧ n < rs.length
  · rw [dif_pos h]
    have hm := hp _ (List.getElem_mem (show n.toNat < rs.length by omega))
    cases st with
    | nil =>
      simp -implicitDefEqProofs [m_stepped, b_stepped, eH, eSt, show ¬ n < 0 by omega, show ¬ (rs.length : Int) ≤ n by omega, g_ix_lst' eR rs n h.1 h.2]
    | cons s rest =>
      simp at hs
      have l1 : (rs[n.toNat]'(by omega)).p.length + rest.length ≤ 16777216 := by omega
      by_cases h1 : (rs[n.toNat]'(by omega)).r = a
      · by_cases h2 : (rs[n.toNat]'(by omega)).s = s
        · simp -implicitDefEqProofs [m_stepped, b_stepped, eH, eSt, show ¬ n < 0 by omega, show ¬ (rs.length : Int) ≤ n by omega, g_ix_lst' eR rs n h.1 h.2, h1, h2]
          simp -implicitDefEqProofs [eR, h1, h2, cut1, l1]
        · simp -implicitDefEqProofs [m_stepped, b_stepped, eH, eSt, show ¬ n < 0 by omega, show ¬ (rs.length : Int) ≤ n by omega, g_ix_lst' eR rs n h.1 h.2, h1, h2]
          simp -implicitDefEqProofs [eR, h1, h2]
      · simp -implicitDefEqProofs [m_stepped, b_stepped, eH, eSt, show ¬ n < 0 by omega, show ¬ (rs.length : Int) ≤ n by omega, g_ix_lst' eR rs n h.1 h.2, h1]
        simp -implicitDefEqProofs [eR, h1]
  · rw [dif_neg h]
    have h2 : (decide (n < 0) || decide ((rs.length : Int) ≤ n)) = true := by
      by_cases a : n < 0 <;> by_cases b : (rs.length : Int) ≤ n <;> simp_all <;> omega
    simp -implicitDefEqProofs [m_stepped, b_stepped, eH, eSt, h2]
theorem stack_ok {c S : Int} (c0 : 0 ≤ c) (hS : 1 ≤ S) (hS2 : S < 1000) : ∃ st : List Int, m_stack [.int c, .int S] = .ok (.lst (st.map D.int)) ∧ st.length ≤ 39 ∧ ∀ x ∈ st, 0 ≤ x ∧ x < S := by
  by_cases hb : c / 6 % 8 = 3
  all_goals
    simp -implicitDefEqProofs [m_stack, b_stack, g_mod_int, g_fdiv_int, hb]
    rw [rng1_ok (by omega) (by omega)]
    simp -implicitDefEqProofs
    generalize hF : forF _ _ _ _ _ _ = o
    obtain ⟨s', rfl, iv⟩ := forF_inv (S := Int × List Int) hF (fun s => [some (.int c), some (.int S), some (.int _), some (.int s.1), some (.lst (s.2.map D.int)), none]) (fun i s => s.2.length = i ∧ ∀ x ∈ s.2, 0 ≤ x ∧ x < S) (_, []) ⟨rfl, fun x hx => by cases hx⟩ rfl (fun i s x hx iv => by
      obtain ⟨rfl, hi⟩ := range_get hx
      have h2 : g_mul (D.int x) (D.int x) = .ok (D.int (x * x)) := g_mul_int (.inl ⟨by omega, by omega⟩)
      have l1 : s.2.length < 16777216 := by omega
      refine ⟨(_, s.2 ++ [_ % S]), by simp -implicitDefEqProofs [g_mul_int, h2, g_mod_int, g_fdiv_int, show 0 < S by omega, show S < 18446744073709551616 by omega, l1]; exact ⟨rfl, rfl⟩, by simp [iv.1], fun y hy => ?_⟩
      simp at hy
      rcases hy with hy | hy
      · exact iv.2 y hy
      · rw [hy]; exact emod_rng _ (by omega))
    simp at iv
    exact ⟨s'.2, by simp, by omega, iv.2⟩
end G2

/-! the mirror of k05: printed by gen.py -/
namespace K05
open PySem L2 DL
def b_stepped : DSem :=
  (sSeq (sIf (tOrD (vB (v2 (gI (fun i j => decide (i < j))) (vVar 2) (vC (.int 0)))) (vB (v2 (gI (fun i j => decide (j ≤ i))) (vVar 2) (vCall c_len (aCons (v2 g_ix (vVar 0) (vC (.int 2))) aNil)))))
  (sRaise "NoStep")
  sNext)
  (sSeq (sAsg [] 3 (v2 g_ix (v2 g_ix (vVar 0) (vC (.int 2))) (vVar 2)))
  (sSeq (sUnp [] [4, 5] (kTup 2 (ksCons kName (ksCons kName ksNil))) (vVar 1))
  (sSeq (sIf (tOrD (vB (v2 g_eq (vVar 5) (vLstOf (nLst aNil)))) (tOrD (vB (v2 g_ne (v2 g_ix (vVar 3) (vC (.int 0))) (vVar 4))) (vB (v2 g_ne (v2 g_ix (vVar 3) (vC (.int 1))) (v2 g_ix (vVar 5) (vC (.int 0)))))))
  (sRaise "NoStep")
  sNext)
  (sRet (vTup (aCons (v2 g_ix (vVar 3) (vC (.int 2))) (aCons (v2 g_add (vLstOf (nList (v2 g_ix (vVar 3) (vC (.int 3))))) (vSl (vVar 5) (oSome (vC (.int 1))) oNone)) aNil))))))))
def m_stepped : List D → Res D := runF 6 (b_stepped)
def w_ran_0 : DSem :=
  (sAsg [] 3 (vCallN 3 m_stepped (aCons (vVar 0) (aCons (vVar 3) (aCons (vVar 4) aNil)))))
def b_ran : DSem :=
  (sSeq (sAsg [] 3 (vTup (aCons (v2 g_ix (vVar 1) (vC (.int 0))) (aCons (vLstOf (nList (v2 g_ix (vVar 1) (vC (.int 1))))) aNil))))
  (sSeq (sFor [] (iSeq (vVar 2)) [4] kName
  w_ran_0
  [4])
  (sRet (vVar 3))))
def m_ran : List D → Res D := runF 5 (b_ran)
-- cell_at: G1.m_cell_at
-- kinds: of exceptions
def b_apart : DSem :=
  (sSeq (sAsg [] 0 (vLstOf (nLst (aCons (vC (.lst [.int 0])) (aCons (vC (.lst [.int 1])) (aCons (vC (.lst [.int 2])) (aCons (vC (.lst [.int 3])) aNil)))))))
  (sSeq (sAsg [] 0 (v2 g_add (vVar 0) (vLstOf (nLst (aCons (vC (.lst [.int 4])) (aCons (vC (.lst [.int 5])) (aCons (vC (.lst [.int 6])) aNil)))))))
  (sSeq (sAsg [] 0 (v2 g_add (vVar 0) (vLstOf (nLst (aCons (vC (.lst [.int 7])) (aCons (vC (.lst [.int 8])) (aCons (vC (.lst [.int 9])) aNil)))))))
  (sSeq (sAsg [] 0 (v2 g_add (vVar 0) (vLstOf (nLst (aCons (vC (.lst [.int 10])) aNil)))))
  (sRet (v2 g_eq (vVar 0) (vLstOf (nComp (iRange1 (vC (.int 11))) [1] kName tTrue (vLstOf (nLst (aCons (vVar 1) aNil))) [1]))))))))
def m_apart : List D → Res D := runF 2 (b_apart)
def r_law_9 : DSem :=
  (sRet (vAnd (v2 g_eq (vVar 5) (vLstOf (nLst aNil))) (v2 g_eq (vVar 6) (vTup (aCons (vVar 4) (aCons (vVar 2) aNil))))))
def r_law_8 : DSem :=
  (sSeq (sIf (vB (v2 g_ne (vVar 3) (vLstOf (nLst aNil))))
  (sRet (v2 g_eq (vVar 5) (vLstOf (nLst (aCons (vC (.int 0)) aNil)))))
  sNext)
  r_law_9)
def r_law_7 : DSem :=
  (sSeq (sTryAs 7 (sAsg [] 6 (vCallN 3 m_ran (aCons (vTup (aCons (vVar 1) (aCons (vC (.int 3)) (aCons (vLstOf (nLst aNil)) aNil)))) (aCons (vTup (aCons (vVar 4) (aCons (vLstOf (nList (vVar 2))) aNil))) (aCons (vVar 3) aNil)))))
  [("NoStep", (sAsg [] 5 (vC (.lst [.int 0]))))])
  r_law_8)
def r_law_6 : DSem :=
  (sSeq (sAsg [] 6 (vC .non))
  r_law_7)
def r_law_5 : DSem :=
  (sSeq (sAsg [] 5 (vLstOf (nLst aNil)))
  r_law_6)
def r_law_4 : DSem :=
  (sSeq (sAsg [] 4 (v2 g_sub (vVar 1) (vC (.int 1))))
  r_law_5)
def r_law_3 : DSem :=
  (sSeq (sAsg [] 3 (vLstOf (nComp (iSeq (vSl (vVar 0) oNone (oSome (vC (.int 60))))) [9] kName tTrue (v2 g_sub (v2 g_mod (vVar 9) (vC (.int 13))) (vC (.int 6))) [9])))
  r_law_4)
def r_law_2 : DSem :=
  (sSeq (sAsg [] 2 (vLstOf (nComp (iRange1 (v2 g_mod (vCallN 2 G1.m_cell_at (aCons (vVar 0) (aCons (vC (.int 1)) aNil))) (vC (.int 5)))) [8] kName tTrue (v2 g_mod (v2 g_fdiv (vCallN 2 G1.m_cell_at (aCons (vVar 0) (aCons (vC (.int 1)) aNil))) (v2 g_add (vVar 8) (vC (.int 1)))) (vC (.int 3))) [8])))
  r_law_3)
def r_law_1 : DSem :=
  (sSeq (sAsg [] 1 (v2 g_add (vC (.int 1)) (v2 g_mod (vCallN 2 G1.m_cell_at (aCons (vVar 0) (aCons (vC (.int 0)) aNil))) (vC (.int 3)))))
  r_law_2)
def r_law_0 : DSem :=
  (sSeq (sIf (tNotD (vB (vCall0 m_apart)))
  (sRet (vC (.bl false)))
  sNext)
  r_law_1)
def b_law : DSem :=
  r_law_0
def m_law : List D → Res D := runF 10 (b_law)
end K05

namespace K05
open PySem L2 DL G1 G2
theorem apart_ok : m_apart [] = .ok (.bl true) := by rfl
theorem stepped_no (R a n : Int) (st : D) : m_stepped [.tup [.int R, .int 3, .lst []], .tup [.int a, st], .int n] = .ex "NoStep" := by
  by_cases h : n < 0
  · simp -implicitDefEqProofs [m_stepped, b_stepped, h]
  · simp -implicitDefEqProofs [m_stepped, b_stepped, h, show (0 : Int) ≤ n by omega]
theorem ran_nil (R a : Int) (st : List Int) (hl : st.length ≤ 100) : m_ran [.tup [.int R, .int 3, .lst []], .tup [.int a, .lst (st.map D.int)], .lst []] = .ok (.tup [.int a, .lst (st.map D.int)]) := by
  simp -implicitDefEqProofs [m_ran, b_ran, show st.length ≤ 16777216 by omega]
  unfold forF
  simp -implicitDefEqProofs
theorem ran_no (R a n : Int) (st : List Int) (ns : List D) (hl : st.length ≤ 100) : m_ran [.tup [.int R, .int 3, .lst []], .tup [.int a, .lst (st.map D.int)], .lst (.int n :: ns)] = .ex "NoStep" := by
  simp -implicitDefEqProofs [m_ran, b_ran, show st.length ≤ 16777216 by omega]
  rw [forF_cons]
  simp -implicitDefEqProofs [turn, w_ran_0, stepped_no]
theorem law_math (ns : List Int) (h63 : ns.length ≤ 63) : m_law [.lst (ns.map D.int)] = .ok (.bl true) := by
  obtain ⟨c0, hc0, c00, c01⟩ := cell_at ns 0 (by decide) (by decide)
  obtain ⟨c1, hc1, c10, c11⟩ := cell_at ns 1 (by decide) (by decide)
  have h5 := emod_rng c1 (m := 5) (by decide)
  obtain ⟨m, hm⟩ := Int.eq_ofNat_of_zero_le h5.1
  have hs : ∀ e1 e2 e3 e4 e5 e6 e7 e9 : Option D, compL [8] kName tTrue (v2 g_mod (v2 g_fdiv (vCallN 2 G1.m_cell_at (aCons (vVar 0) (aCons (vC (.int 1)) aNil))) (v2 g_add (vVar 8) (vC (.int 1)))) (vC (.int 3))) [some (.lst (ns.map D.int)), e1, e2, e3, e4, e5, e6, e7, none, e9] ((List.range m).map fun i : Nat => D.int (i : Int))
      = .ok ((List.range m).map fun i : Nat => D.int (c1 / ((i : Int) + 1) % 3))   := fun e1 e2 e3 e4 e5 e6 e7 e9 =>
    compL_eq (enc := fun (i : Nat) => D.int (i : Int)) (fun (i : Nat) => D.int (c1 / ((i : Int) + 1) % 3)) fun i hi => by
      have := List.mem_range.mp hi
      simp -implicitDefEqProofs [hc1, show (0 : Int) < (i : Int) + 1 by omega, show (i : Int) + 1 < 18446744073709551616 by omega]
  have hn : ∀ (xs : List Int) (e0 e1 e2 e3 e4 e5 e6 e7 e8 : Option D), compL [9] kName tTrue (v2 g_sub (v2 g_mod (vVar 9) (vC (.int 13))) (vC (.int 6))) [e0, e1, e2, e3, e4, e5, e6, e7, e8, none] (xs.map D.int) = .ok ((xs.map fun c => c % 13 - 6).map D.int) := fun xs e0 e1 e2 e3 e4 e5 e6 e7 e8 => by
    rw [List.map_map]
    exact compL_eq (enc := D.int) (D.int ∘ fun c => c % 13 - 6) fun c hc => by simp -implicitDefEqProofs
  have hr : rng1 (.int (m : Int)) = .ok ((List.range m).map fun (k : Nat) => D.int (k : Int)) := by
    have := rng1_ok (j := (m : Int)) (by omega) (by omega)
    simpa using this
  have hml : m ≤ 16777216 := by omega
  have hm5 : m ≤ 100 := by omega
  simp -implicitDefEqProofs [m_law, b_law, r_law_0, apart_ok, r_law_1, hc0, r_law_2, hc1, hm, hr, hs, hml]
  have hst : (List.range m).map (fun i : Nat => D.int (c1 / ((i : Int) + 1) % 3)) = ((List.range m).map fun i : Nat => c1 / ((i : Int) + 1) % 3).map D.int := by
    rw [List.map_map]; rfl
  rw [hst]
  have hsl : ((List.range m).map fun i : Nat => c1 / ((i : Int) + 1) % 3).length ≤ 100 := by simpa using hm5
  generalize ((List.range m).map fun i : Nat => c1 / ((i : Int) + 1) % 3) = st at hsl ⊢
  generalize 1 + c0 % 3 = R
  have hc : ∀ e0 e1 e2 e3 e4 e5 e6 e7 e8 : Option D, compL [9] kName tTrue (v2 g_sub (v2 g_mod (vVar 9) (vC (.int 13))) (vC (.int 6))) [e0, e1, e2, e3, e4, e5, e6, e7, e8, none] (List.take 60 (ns.map D.int)) = .ok (((ns.take 60).map fun c => c % 13 - 6).map D.int) := by
    rw [← List.map_take]; exact hn (ns.take 60)
  have hcl : ((ns.take 60).map fun c => c % 13 - 6).length ≤ 63 := by simp; omega
  simp -implicitDefEqProofs only [r_law_3]
  generalize ((ns.take 60).map fun c => c % 13 - 6) = nums at hc hcl
  simp -implicitDefEqProofs [hc, show nums.length ≤ 16777216 by omega, r_law_4, r_law_5, r_law_6, r_law_7, show st.length ≤ 16777216 by omega]
  cases nums with
  | nil =>
    have h1 := ran_nil R (R - 1) st hsl
    simp -implicitDefEqProofs [sTryAs, h1, r_law_8, r_law_9, show st.length ≤ 16777216 by omega, show st.length < 16777216 by omega]
  | cons n ns2 =>
    have h1 := ran_no R (R - 1) n st (ns2.map D.int) hsl
    simp -implicitDefEqProofs [sTryAs, h1, r_law_8, noExO, show st.length ≤ 16777216 by omega]
end K05

/-! the walk of k05: printed by gen.py -/
namespace K05
open PySem PySem.Spec PyProof.Rows L2 DL
def top (i : Nat) : Stmt := PySem.Challenge.pw_callwalk_k05_refusals_stand_apart.main.body.getD i (.Pass ⟨0, 0, 0, 0⟩)
abbrev s_stepped : Stmt := top 14
abbrev N_stepped : List Str := ["house", "standing", "number", "rule", "room", "stack"]
theorem sc_stepped : FnScope N_stepped ["house", "standing", "number"] (defScope s_stepped) := ⟨rfl, rfl, rfl, by decide +kernel, rfl, by decide +kernel, by decide +kernel⟩
abbrev s_ran : Stmt := top 15
abbrev N_ran : List Str := ["house", "standing", "numbers", "behind", "number"]
theorem sc_ran : FnScope N_ran ["house", "standing", "numbers"] (defScope s_ran) := ⟨rfl, rfl, rfl, by decide +kernel, rfl, by decide +kernel, by decide +kernel⟩
abbrev s_cell_at : Stmt := top 17
abbrev N_cell_at : List Str := ["_law_script", "_law_k"]
theorem sc_cell_at : FnScope N_cell_at ["_law_script", "_law_k"] (defScope s_cell_at) := ⟨rfl, rfl, rfl, by decide +kernel, rfl, by decide +kernel, by decide +kernel⟩
abbrev s_kinds : Stmt := top 18
abbrev N_kinds : List Str := ["_law_error", "_law_found", "_law_k"]
theorem sc_kinds : FnScope N_kinds ["_law_error"] (defScope s_kinds) := ⟨rfl, rfl, rfl, by decide +kernel, rfl, by decide +kernel, by decide +kernel⟩
abbrev s_apart : Stmt := top 19
abbrev N_apart : List Str := ["_law_rows", "_law_k"]
theorem sc_apart : FnScope N_apart [] (defScope s_apart) := ⟨rfl, rfl, rfl, by decide +kernel, rfl, by decide +kernel, by decide +kernel⟩
abbrev s_law : Stmt := top 20
abbrev N_law : List Str := ["_law_script", "_law_rooms", "_law_stack", "_law_numbers", "_law_room", "_law_kinds_here", "_law_found", "e", "_law_k", "_law_cell"]
theorem sc_law : FnScope N_law ["_law_script"] (defScope s_law) := ⟨rfl, rfl, rfl, by decide +kernel, rfl, by decide +kernel, by decide +kernel⟩
structure Tx (K : PySem.W.Frag) (mg : Str → Option Value) where
  f_stepped : Addr
  d_stepped : FuncData
  F_stepped : Fun K "stepped" "stepped" s_stepped f_stepped d_stepped
  g_stepped : mg "stepped" = some (.ref f_stepped)
  b_stepped : Binds K d_stepped ["house", "standing", "number"] []
  f_ran : Addr
  d_ran : FuncData
  F_ran : Fun K "ran" "ran" s_ran f_ran d_ran
  g_ran : mg "ran" = some (.ref f_ran)
  b_ran : Binds K d_ran ["house", "standing", "numbers"] []
  f_cell_at : Addr
  d_cell_at : FuncData
  F_cell_at : Fun K "_law_cell_at" "_law_cell_at" s_cell_at f_cell_at d_cell_at
  g_cell_at : mg "_law_cell_at" = some (.ref f_cell_at)
  b_cell_at : Binds K d_cell_at ["_law_script", "_law_k"] []
  f_kinds : Addr
  d_kinds : FuncData
  F_kinds : Fun K "_law_kinds" "_law_kinds" s_kinds f_kinds d_kinds
  g_kinds : mg "_law_kinds" = some (.ref f_kinds)
  b_kinds : Binds K d_kinds ["_law_error"] []
  f_apart : Addr
  d_apart : FuncData
  F_apart : Fun K "_law_apart" "_law_apart" s_apart f_apart d_apart
  g_apart : mg "_law_apart" = some (.ref f_apart)
  b_apart : Binds K d_apart [] []
  f_law : Addr
  d_law : FuncData
  F_law : Fun K "law" "law" s_law f_law d_law
  g_law : mg "law" = some (.ref f_law)
  b_law : Binds K d_law ["_law_script"] []
  n_ValueError : mg "ValueError" = none
  n_isinstance : mg "isinstance" = none
  n_len : mg "len" = none
  n_list : mg "list" = none
  n_range : mg "range" = none
  xC_Endless : Addr
  xh_Endless : mg "Endless" = some (.ref xC_Endless)
  xq_Endless : PySem.W.excIn K xC_Endless [.type "ValueError", .type "Exception", .type "BaseException", .type "object"] "ValueError.__new__" = true
  xk_Endless : PySem.W.keepIn K (.ref xC_Endless) = true
  xb_Endless : PySem.W.subIn K (.ref xC_Endless) (.type "BaseException") = some true
  xt_Endless : PySem.W.typeIn K (.ref xC_Endless) = some (.type "type")
  xC_NoName : Addr
  xh_NoName : mg "NoName" = some (.ref xC_NoName)
  xq_NoName : PySem.W.excIn K xC_NoName [.type "ValueError", .type "Exception", .type "BaseException", .type "object"] "ValueError.__new__" = true
  xk_NoName : PySem.W.keepIn K (.ref xC_NoName) = true
  xb_NoName : PySem.W.subIn K (.ref xC_NoName) (.type "BaseException") = some true
  xt_NoName : PySem.W.typeIn K (.ref xC_NoName) = some (.type "type")
  xC_NoRow : Addr
  xh_NoRow : mg "NoRow" = some (.ref xC_NoRow)
  xq_NoRow : PySem.W.excIn K xC_NoRow [.type "ValueError", .type "Exception", .type "BaseException", .type "object"] "ValueError.__new__" = true
  xk_NoRow : PySem.W.keepIn K (.ref xC_NoRow) = true
  xb_NoRow : PySem.W.subIn K (.ref xC_NoRow) (.type "BaseException") = some true
  xt_NoRow : PySem.W.typeIn K (.ref xC_NoRow) = some (.type "type")
  xC_NoStep : Addr
  xh_NoStep : mg "NoStep" = some (.ref xC_NoStep)
  xq_NoStep : PySem.W.excIn K xC_NoStep [.type "ValueError", .type "Exception", .type "BaseException", .type "object"] "ValueError.__new__" = true
  xk_NoStep : PySem.W.keepIn K (.ref xC_NoStep) = true
  xb_NoStep : PySem.W.subIn K (.ref xC_NoStep) (.type "BaseException") = some true
  xt_NoStep : PySem.W.typeIn K (.ref xC_NoStep) = some (.type "type")
  xC_NoText : Addr
  xh_NoText : mg "NoText" = some (.ref xC_NoText)
  xq_NoText : PySem.W.excIn K xC_NoText [.type "ValueError", .type "Exception", .type "BaseException", .type "object"] "ValueError.__new__" = true
  xk_NoText : PySem.W.keepIn K (.ref xC_NoText) = true
  xb_NoText : PySem.W.subIn K (.ref xC_NoText) (.type "BaseException") = some true
  xt_NoText : PySem.W.typeIn K (.ref xC_NoText) = some (.type "type")
  xC_NoValue : Addr
  xh_NoValue : mg "NoValue" = some (.ref xC_NoValue)
  xq_NoValue : PySem.W.excIn K xC_NoValue [.type "ValueError", .type "Exception", .type "BaseException", .type "object"] "ValueError.__new__" = true
  xk_NoValue : PySem.W.keepIn K (.ref xC_NoValue) = true
  xb_NoValue : PySem.W.subIn K (.ref xC_NoValue) (.type "BaseException") = some true
  xt_NoValue : PySem.W.typeIn K (.ref xC_NoValue) = some (.type "type")
  xC_NoWay : Addr
  xh_NoWay : mg "NoWay" = some (.ref xC_NoWay)
  xq_NoWay : PySem.W.excIn K xC_NoWay [.type "ValueError", .type "Exception", .type "BaseException", .type "object"] "ValueError.__new__" = true
  xk_NoWay : PySem.W.keepIn K (.ref xC_NoWay) = true
  xb_NoWay : PySem.W.subIn K (.ref xC_NoWay) (.type "BaseException") = some true
  xt_NoWay : PySem.W.typeIn K (.ref xC_NoWay) = some (.type "type")
  xC_NotPlain : Addr
  xh_NotPlain : mg "NotPlain" = some (.ref xC_NotPlain)
  xq_NotPlain : PySem.W.excIn K xC_NotPlain [.type "ValueError", .type "Exception", .type "BaseException", .type "object"] "ValueError.__new__" = true
  xk_NotPlain : PySem.W.keepIn K (.ref xC_NotPlain) = true
  xb_NotPlain : PySem.W.subIn K (.ref xC_NotPlain) (.type "BaseException") = some true
  xt_NotPlain : PySem.W.typeIn K (.ref xC_NotPlain) = some (.type "type")
  xC_Reached : Addr
  xh_Reached : mg "Reached" = some (.ref xC_Reached)
  xq_Reached : PySem.W.excIn K xC_Reached [.type "ValueError", .type "Exception", .type "BaseException", .type "object"] "ValueError.__new__" = true
  xk_Reached : PySem.W.keepIn K (.ref xC_Reached) = true
  xb_Reached : PySem.W.subIn K (.ref xC_Reached) (.type "BaseException") = some true
  xt_Reached : PySem.W.typeIn K (.ref xC_Reached) = some (.type "type")
  xC_TooLong : Addr
  xh_TooLong : mg "TooLong" = some (.ref xC_TooLong)
  xq_TooLong : PySem.W.excIn K xC_TooLong [.type "ValueError", .type "Exception", .type "BaseException", .type "object"] "ValueError.__new__" = true
  xk_TooLong : PySem.W.keepIn K (.ref xC_TooLong) = true
  xb_TooLong : PySem.W.subIn K (.ref xC_TooLong) (.type "BaseException") = some true
  xt_TooLong : PySem.W.typeIn K (.ref xC_TooLong) = some (.type "type")
  xC_Twice : Addr
  xh_Twice : mg "Twice" = some (.ref xC_Twice)
  xq_Twice : PySem.W.excIn K xC_Twice [.type "ValueError", .type "Exception", .type "BaseException", .type "object"] "ValueError.__new__" = true
  xk_Twice : PySem.W.keepIn K (.ref xC_Twice) = true
  xb_Twice : PySem.W.subIn K (.ref xC_Twice) (.type "BaseException") = some true
  xt_Twice : PySem.W.typeIn K (.ref xC_Twice) = some (.type "type")
  xC_WalkError : Addr
  xh_WalkError : mg "WalkError" = some (.ref xC_WalkError)
  xq_WalkError : PySem.W.excIn K xC_WalkError [.type "ValueError", .type "Exception", .type "BaseException", .type "object"] "ValueError.__new__" = true
  xk_WalkError : PySem.W.keepIn K (.ref xC_WalkError) = true
  xb_WalkError : PySem.W.subIn K (.ref xC_WalkError) (.type "BaseException") = some true
  xt_WalkError : PySem.W.typeIn K (.ref xC_WalkError) = some (.type "type")
  xe_NoStep_WalkError : PySem.W.exmOne K (.ref xC_NoStep) (.ref xC_WalkError) = some true
  xx_Endless : ExcC K xC_Endless
  xx_NoName : ExcC K xC_NoName
  xx_NoRow : ExcC K xC_NoRow
  xx_NoStep : ExcC K xC_NoStep
  xx_NoText : ExcC K xC_NoText
  xx_NoValue : ExcC K xC_NoValue
  xx_NoWay : ExcC K xC_NoWay
  xx_NotPlain : ExcC K xC_NotPlain
  xx_Reached : ExcC K xC_Reached
  xx_TooLong : ExcC K xC_TooLong
  xx_Twice : ExcC K xC_Twice
  xi_Endless_Endless : PySem.W.kitOne K (.ref xC_Endless) (.ref xC_Endless) = some true
  xi_Endless_NoName : PySem.W.kitOne K (.ref xC_Endless) (.ref xC_NoName) = some false
  xi_Endless_NoRow : PySem.W.kitOne K (.ref xC_Endless) (.ref xC_NoRow) = some false
  xi_Endless_NoStep : PySem.W.kitOne K (.ref xC_Endless) (.ref xC_NoStep) = some false
  xi_Endless_NoText : PySem.W.kitOne K (.ref xC_Endless) (.ref xC_NoText) = some false
  xi_Endless_NoValue : PySem.W.kitOne K (.ref xC_Endless) (.ref xC_NoValue) = some false
  xi_Endless_NoWay : PySem.W.kitOne K (.ref xC_Endless) (.ref xC_NoWay) = some false
  xi_Endless_NotPlain : PySem.W.kitOne K (.ref xC_Endless) (.ref xC_NotPlain) = some false
  xi_Endless_Reached : PySem.W.kitOne K (.ref xC_Endless) (.ref xC_Reached) = some false
  xi_Endless_TooLong : PySem.W.kitOne K (.ref xC_Endless) (.ref xC_TooLong) = some false
  xi_Endless_Twice : PySem.W.kitOne K (.ref xC_Endless) (.ref xC_Twice) = some false
  xi_Endless_ValueError : PySem.W.kitOne K (.ref xC_Endless) (.type "ValueError") = some true
  xi_Endless_WalkError : PySem.W.kitOne K (.ref xC_Endless) (.ref xC_WalkError) = some true
  xi_NoName_Endless : PySem.W.kitOne K (.ref xC_NoName) (.ref xC_Endless) = some false
  xi_NoName_NoName : PySem.W.kitOne K (.ref xC_NoName) (.ref xC_NoName) = some true
  xi_NoName_NoRow : PySem.W.kitOne K (.ref xC_NoName) (.ref xC_NoRow) = some false
  xi_NoName_NoStep : PySem.W.kitOne K (.ref xC_NoName) (.ref xC_NoStep) = some false
  xi_NoName_NoText : PySem.W.kitOne K (.ref xC_NoName) (.ref xC_NoText) = some false
  xi_NoName_NoValue : PySem.W.kitOne K (.ref xC_NoName) (.ref xC_NoValue) = some false
  xi_NoName_NoWay : PySem.W.kitOne K (.ref xC_NoName) (.ref xC_NoWay) = some false
  xi_NoName_NotPlain : PySem.W.kitOne K (.ref xC_NoName) (.ref xC_NotPlain) = some false
  xi_NoName_Reached : PySem.W.kitOne K (.ref xC_NoName) (.ref xC_Reached) = some false
  xi_NoName_TooLong : PySem.W.kitOne K (.ref xC_NoName) (.ref xC_TooLong) = some false
  xi_NoName_Twice : PySem.W.kitOne K (.ref xC_NoName) (.ref xC_Twice) = some false
  xi_NoName_ValueError : PySem.W.kitOne K (.ref xC_NoName) (.type "ValueError") = some true
  xi_NoName_WalkError : PySem.W.kitOne K (.ref xC_NoName) (.ref xC_WalkError) = some true
  xi_NoRow_Endless : PySem.W.kitOne K (.ref xC_NoRow) (.ref xC_Endless) = some false
  xi_NoRow_NoName : PySem.W.kitOne K (.ref xC_NoRow) (.ref xC_NoName) = some false
  xi_NoRow_NoRow : PySem.W.kitOne K (.ref xC_NoRow) (.ref xC_NoRow) = some true
  xi_NoRow_NoStep : PySem.W.kitOne K (.ref xC_NoRow) (.ref xC_NoStep) = some false
  xi_NoRow_NoText : PySem.W.kitOne K (.ref xC_NoRow) (.ref xC_NoText) = some false
  xi_NoRow_NoValue : PySem.W.kitOne K (.ref xC_NoRow) (.ref xC_NoValue) = some false
  xi_NoRow_NoWay : PySem.W.kitOne K (.ref xC_NoRow) (.ref xC_NoWay) = some false
  xi_NoRow_NotPlain : PySem.W.kitOne K (.ref xC_NoRow) (.ref xC_NotPlain) = some false
  xi_NoRow_Reached : PySem.W.kitOne K (.ref xC_NoRow) (.ref xC_Reached) = some false
  xi_NoRow_TooLong : PySem.W.kitOne K (.ref xC_NoRow) (.ref xC_TooLong) = some false
  xi_NoRow_Twice : PySem.W.kitOne K (.ref xC_NoRow) (.ref xC_Twice) = some false
  xi_NoRow_ValueError : PySem.W.kitOne K (.ref xC_NoRow) (.type "ValueError") = some true
  xi_NoRow_WalkError : PySem.W.kitOne K (.ref xC_NoRow) (.ref xC_WalkError) = some true
  xi_NoStep_Endless : PySem.W.kitOne K (.ref xC_NoStep) (.ref xC_Endless) = some false
  xi_NoStep_NoName : PySem.W.kitOne K (.ref xC_NoStep) (.ref xC_NoName) = some false
  xi_NoStep_NoRow : PySem.W.kitOne K (.ref xC_NoStep) (.ref xC_NoRow) = some false
  xi_NoStep_NoStep : PySem.W.kitOne K (.ref xC_NoStep) (.ref xC_NoStep) = some true
  xi_NoStep_NoText : PySem.W.kitOne K (.ref xC_NoStep) (.ref xC_NoText) = some false
  xi_NoStep_NoValue : PySem.W.kitOne K (.ref xC_NoStep) (.ref xC_NoValue) = some false
  xi_NoStep_NoWay : PySem.W.kitOne K (.ref xC_NoStep) (.ref xC_NoWay) = some false
  xi_NoStep_NotPlain : PySem.W.kitOne K (.ref xC_NoStep) (.ref xC_NotPlain) = some false
  xi_NoStep_Reached : PySem.W.kitOne K (.ref xC_NoStep) (.ref xC_Reached) = some false
  xi_NoStep_TooLong : PySem.W.kitOne K (.ref xC_NoStep) (.ref xC_TooLong) = some false
  xi_NoStep_Twice : PySem.W.kitOne K (.ref xC_NoStep) (.ref xC_Twice) = some false
  xi_NoStep_ValueError : PySem.W.kitOne K (.ref xC_NoStep) (.type "ValueError") = some true
  xi_NoStep_WalkError : PySem.W.kitOne K (.ref xC_NoStep) (.ref xC_WalkError) = some true
  xi_NoText_Endless : PySem.W.kitOne K (.ref xC_NoText) (.ref xC_Endless) = some false
  xi_NoText_NoName : PySem.W.kitOne K (.ref xC_NoText) (.ref xC_NoName) = some false
  xi_NoText_NoRow : PySem.W.kitOne K (.ref xC_NoText) (.ref xC_NoRow) = some false
  xi_NoText_NoStep : PySem.W.kitOne K (.ref xC_NoText) (.ref xC_NoStep) = some false
  xi_NoText_NoText : PySem.W.kitOne K (.ref xC_NoText) (.ref xC_NoText) = some true
  xi_NoText_NoValue : PySem.W.kitOne K (.ref xC_NoText) (.ref xC_NoValue) = some false
  xi_NoText_NoWay : PySem.W.kitOne K (.ref xC_NoText) (.ref xC_NoWay) = some false
  xi_NoText_NotPlain : PySem.W.kitOne K (.ref xC_NoText) (.ref xC_NotPlain) = some false
  xi_NoText_Reached : PySem.W.kitOne K (.ref xC_NoText) (.ref xC_Reached) = some false
  xi_NoText_TooLong : PySem.W.kitOne K (.ref xC_NoText) (.ref xC_TooLong) = some false
  xi_NoText_Twice : PySem.W.kitOne K (.ref xC_NoText) (.ref xC_Twice) = some false
  xi_NoText_ValueError : PySem.W.kitOne K (.ref xC_NoText) (.type "ValueError") = some true
  xi_NoText_WalkError : PySem.W.kitOne K (.ref xC_NoText) (.ref xC_WalkError) = some true
  xi_NoValue_Endless : PySem.W.kitOne K (.ref xC_NoValue) (.ref xC_Endless) = some false
  xi_NoValue_NoName : PySem.W.kitOne K (.ref xC_NoValue) (.ref xC_NoName) = some false
  xi_NoValue_NoRow : PySem.W.kitOne K (.ref xC_NoValue) (.ref xC_NoRow) = some false
  xi_NoValue_NoStep : PySem.W.kitOne K (.ref xC_NoValue) (.ref xC_NoStep) = some false
  xi_NoValue_NoText : PySem.W.kitOne K (.ref xC_NoValue) (.ref xC_NoText) = some false
  xi_NoValue_NoValue : PySem.W.kitOne K (.ref xC_NoValue) (.ref xC_NoValue) = some true
  xi_NoValue_NoWay : PySem.W.kitOne K (.ref xC_NoValue) (.ref xC_NoWay) = some false
  xi_NoValue_NotPlain : PySem.W.kitOne K (.ref xC_NoValue) (.ref xC_NotPlain) = some false
  xi_NoValue_Reached : PySem.W.kitOne K (.ref xC_NoValue) (.ref xC_Reached) = some false
  xi_NoValue_TooLong : PySem.W.kitOne K (.ref xC_NoValue) (.ref xC_TooLong) = some false
  xi_NoValue_Twice : PySem.W.kitOne K (.ref xC_NoValue) (.ref xC_Twice) = some false
  xi_NoValue_ValueError : PySem.W.kitOne K (.ref xC_NoValue) (.type "ValueError") = some true
  xi_NoValue_WalkError : PySem.W.kitOne K (.ref xC_NoValue) (.ref xC_WalkError) = some true
  xi_NoWay_Endless : PySem.W.kitOne K (.ref xC_NoWay) (.ref xC_Endless) = some false
  xi_NoWay_NoName : PySem.W.kitOne K (.ref xC_NoWay) (.ref xC_NoName) = some false
  xi_NoWay_NoRow : PySem.W.kitOne K (.ref xC_NoWay) (.ref xC_NoRow) = some false
  xi_NoWay_NoStep : PySem.W.kitOne K (.ref xC_NoWay) (.ref xC_NoStep) = some false
  xi_NoWay_NoText : PySem.W.kitOne K (.ref xC_NoWay) (.ref xC_NoText) = some false
  xi_NoWay_NoValue : PySem.W.kitOne K (.ref xC_NoWay) (.ref xC_NoValue) = some false
  xi_NoWay_NoWay : PySem.W.kitOne K (.ref xC_NoWay) (.ref xC_NoWay) = some true
  xi_NoWay_NotPlain : PySem.W.kitOne K (.ref xC_NoWay) (.ref xC_NotPlain) = some false
  xi_NoWay_Reached : PySem.W.kitOne K (.ref xC_NoWay) (.ref xC_Reached) = some false
  xi_NoWay_TooLong : PySem.W.kitOne K (.ref xC_NoWay) (.ref xC_TooLong) = some false
  xi_NoWay_Twice : PySem.W.kitOne K (.ref xC_NoWay) (.ref xC_Twice) = some false
  xi_NoWay_ValueError : PySem.W.kitOne K (.ref xC_NoWay) (.type "ValueError") = some true
  xi_NoWay_WalkError : PySem.W.kitOne K (.ref xC_NoWay) (.ref xC_WalkError) = some true
  xi_NotPlain_Endless : PySem.W.kitOne K (.ref xC_NotPlain) (.ref xC_Endless) = some false
  xi_NotPlain_NoName : PySem.W.kitOne K (.ref xC_NotPlain) (.ref xC_NoName) = some false
  xi_NotPlain_NoRow : PySem.W.kitOne K (.ref xC_NotPlain) (.ref xC_NoRow) = some false
  xi_NotPlain_NoStep : PySem.W.kitOne K (.ref xC_NotPlain) (.ref xC_NoStep) = some false
  xi_NotPlain_NoText : PySem.W.kitOne K (.ref xC_NotPlain) (.ref xC_NoText) = some false
  xi_NotPlain_NoValue : PySem.W.kitOne K (.ref xC_NotPlain) (.ref xC_NoValue) = some false
  xi_NotPlain_NoWay : PySem.W.kitOne K (.ref xC_NotPlain) (.ref xC_NoWay) = some false
  xi_NotPlain_NotPlain : PySem.W.kitOne K (.ref xC_NotPlain) (.ref xC_NotPlain) = some true
  xi_NotPlain_Reached : PySem.W.kitOne K (.ref xC_NotPlain) (.ref xC_Reached) = some false
  xi_NotPlain_TooLong : PySem.W.kitOne K (.ref xC_NotPlain) (.ref xC_TooLong) = some false
  xi_NotPlain_Twice : PySem.W.kitOne K (.ref xC_NotPlain) (.ref xC_Twice) = some false
  xi_NotPlain_ValueError : PySem.W.kitOne K (.ref xC_NotPlain) (.type "ValueError") = some true
  xi_NotPlain_WalkError : PySem.W.kitOne K (.ref xC_NotPlain) (.ref xC_WalkError) = some true
  xi_Reached_Endless : PySem.W.kitOne K (.ref xC_Reached) (.ref xC_Endless) = some false
  xi_Reached_NoName : PySem.W.kitOne K (.ref xC_Reached) (.ref xC_NoName) = some false
  xi_Reached_NoRow : PySem.W.kitOne K (.ref xC_Reached) (.ref xC_NoRow) = some false
  xi_Reached_NoStep : PySem.W.kitOne K (.ref xC_Reached) (.ref xC_NoStep) = some false
  xi_Reached_NoText : PySem.W.kitOne K (.ref xC_Reached) (.ref xC_NoText) = some false
  xi_Reached_NoValue : PySem.W.kitOne K (.ref xC_Reached) (.ref xC_NoValue) = some false
  xi_Reached_NoWay : PySem.W.kitOne K (.ref xC_Reached) (.ref xC_NoWay) = some false
  xi_Reached_NotPlain : PySem.W.kitOne K (.ref xC_Reached) (.ref xC_NotPlain) = some false
  xi_Reached_Reached : PySem.W.kitOne K (.ref xC_Reached) (.ref xC_Reached) = some true
  xi_Reached_TooLong : PySem.W.kitOne K (.ref xC_Reached) (.ref xC_TooLong) = some false
  xi_Reached_Twice : PySem.W.kitOne K (.ref xC_Reached) (.ref xC_Twice) = some false
  xi_Reached_ValueError : PySem.W.kitOne K (.ref xC_Reached) (.type "ValueError") = some true
  xi_Reached_WalkError : PySem.W.kitOne K (.ref xC_Reached) (.ref xC_WalkError) = some true
  xi_TooLong_Endless : PySem.W.kitOne K (.ref xC_TooLong) (.ref xC_Endless) = some false
  xi_TooLong_NoName : PySem.W.kitOne K (.ref xC_TooLong) (.ref xC_NoName) = some false
  xi_TooLong_NoRow : PySem.W.kitOne K (.ref xC_TooLong) (.ref xC_NoRow) = some false
  xi_TooLong_NoStep : PySem.W.kitOne K (.ref xC_TooLong) (.ref xC_NoStep) = some false
  xi_TooLong_NoText : PySem.W.kitOne K (.ref xC_TooLong) (.ref xC_NoText) = some false
  xi_TooLong_NoValue : PySem.W.kitOne K (.ref xC_TooLong) (.ref xC_NoValue) = some false
  xi_TooLong_NoWay : PySem.W.kitOne K (.ref xC_TooLong) (.ref xC_NoWay) = some false
  xi_TooLong_NotPlain : PySem.W.kitOne K (.ref xC_TooLong) (.ref xC_NotPlain) = some false
  xi_TooLong_Reached : PySem.W.kitOne K (.ref xC_TooLong) (.ref xC_Reached) = some false
  xi_TooLong_TooLong : PySem.W.kitOne K (.ref xC_TooLong) (.ref xC_TooLong) = some true
  xi_TooLong_Twice : PySem.W.kitOne K (.ref xC_TooLong) (.ref xC_Twice) = some false
  xi_TooLong_ValueError : PySem.W.kitOne K (.ref xC_TooLong) (.type "ValueError") = some true
  xi_TooLong_WalkError : PySem.W.kitOne K (.ref xC_TooLong) (.ref xC_WalkError) = some true
  xi_Twice_Endless : PySem.W.kitOne K (.ref xC_Twice) (.ref xC_Endless) = some false
  xi_Twice_NoName : PySem.W.kitOne K (.ref xC_Twice) (.ref xC_NoName) = some false
  xi_Twice_NoRow : PySem.W.kitOne K (.ref xC_Twice) (.ref xC_NoRow) = some false
  xi_Twice_NoStep : PySem.W.kitOne K (.ref xC_Twice) (.ref xC_NoStep) = some false
  xi_Twice_NoText : PySem.W.kitOne K (.ref xC_Twice) (.ref xC_NoText) = some false
  xi_Twice_NoValue : PySem.W.kitOne K (.ref xC_Twice) (.ref xC_NoValue) = some false
  xi_Twice_NoWay : PySem.W.kitOne K (.ref xC_Twice) (.ref xC_NoWay) = some false
  xi_Twice_NotPlain : PySem.W.kitOne K (.ref xC_Twice) (.ref xC_NotPlain) = some false
  xi_Twice_Reached : PySem.W.kitOne K (.ref xC_Twice) (.ref xC_Reached) = some false
  xi_Twice_TooLong : PySem.W.kitOne K (.ref xC_Twice) (.ref xC_TooLong) = some false
  xi_Twice_Twice : PySem.W.kitOne K (.ref xC_Twice) (.ref xC_Twice) = some true
  xi_Twice_ValueError : PySem.W.kitOne K (.ref xC_Twice) (.type "ValueError") = some true
  xi_Twice_WalkError : PySem.W.kitOne K (.ref xC_Twice) (.ref xC_WalkError) = some true
section
variable {P : Program} {w : World} {K : PySem.W.Frag} {mg : Str → Option Value} {base : Heap}
theorem ok_stepped (T : Tx K mg) : FnOk P w K mg base (L2N.CX P w) 1 T.f_stepped T.d_stepped ["house", "standing", "number"] (spK mg none 3 m_stepped) :=
  def_okN (N := N_stepped) (F := (sSeq (sIf (tOrD (vB (v2 (gI (fun i j => decide (i < j))) (vVar 2) (vC (.int 0)))) (vB (v2 (gI (fun i j => decide (j ≤ i))) (vVar 2) (vCall c_len (aCons (v2 g_ix (vVar 0) (vC (.int 2))) aNil)))))
  (sRaise "NoStep")
  sNext)
  (sSeq (sAsg [] 3 (v2 g_ix (v2 g_ix (vVar 0) (vC (.int 2))) (vVar 2)))
  (sSeq (sUnp [] [4, 5] (kTup 2 (ksCons kName (ksCons kName ksNil))) (vVar 1))
  (sSeq (sIf (tOrD (vB (v2 g_eq (vVar 5) (vLstOf (nLst aNil)))) (tOrD (vB (v2 g_ne (v2 g_ix (vVar 3) (vC (.int 0))) (vVar 4))) (vB (v2 g_ne (v2 g_ix (vVar 3) (vC (.int 1))) (v2 g_ix (vVar 5) (vC (.int 0)))))))
  (sRaise "NoStep")
  sNext)
  (sRet (vTup (aCons (v2 g_ix (vVar 3) (vC (.int 2))) (aCons (v2 g_add (vLstOf (nList (v2 g_ix (vVar 3) (vC (.int 3))))) (vSl (vVar 5) (oSome (vC (.int 1))) oNone)) aNil))))))))) T.F_stepped sc_stepped (own' := []) (.inl rfl) fun cdv A outer s H E hr tk hp =>
      (dss_cons (own1 := []) (ds_if (DW.dt (dw_or (dt_cmp op_lt say_I (de_var (pv 2)) de_int (nomark _)) (dw_or1 (dt_cmp op_ge say_I (de_var (pv 2)) (de_callB call_len say_len (by rfl) T.n_len (by decide +kernel) (da_cons (de_ix (ix_any (hu1 hr)) say_ix (de_var (pv 0)) de_int (fun _ _ => rfl)) da_nil)) (nomark _)))))
      (dss_one (ds_raiseN (c := "NoStep") rfl tk (L2N.pmk_own PySem.F.excBase_ValueError T.xq_NoStep T.xh_NoStep T.xk_NoStep (raises_own T.xb_NoStep T.xt_NoStep) (by rfl)) T.xh_NoStep))
      dss_nil)
      (dss_cons (own1 := []) (ds_asg (j := 3) (ae_set (j := 3) sc_stepped.nd rfl (.inl rfl) (de_ix (ix_any (hu1 hr)) say_ix (de_ix (ix_any (hu1 hr)) say_ix (de_var (pv 0)) de_int (fun _ _ => rfl)) (de_var (pv 2)) (fun _ _ => rfl))))
      (dss_cons (own1 := []) (ds_unp (is := [4, 5]) (dg_tup rfl (dgs_cons (is := [4]) (dg_name (pg_name (i := 4) sc_stepped.nd rfl (by first | exact Or.inl rfl | exact Or.inr rfl))) (dgs_cons (is := [5]) (dg_name (pg_name (i := 5) sc_stepped.nd rfl (by first | exact Or.inl rfl | exact Or.inr rfl))) dgs_nil))) (de_var (pv 1)) (by decide))
      (dss_cons (own1 := []) (ds_if (DW.dt (dw_or (dt_cmp (op_eqD (hu64 hr)) say_eq (de_var (pv 5)) (DN.de (dn_lst da_nil)) (nomark _)) (dw_or (dt_cmp (op_neD (hu64 hr)) say_ne (de_ix (ix_any (hu1 hr)) say_ix (de_var (pv 3)) de_int (fun _ _ => rfl)) (de_var (pv 4)) (nomark _)) (dw_or1 (dt_cmp (op_neD (hu64 hr)) say_ne (de_ix (ix_any (hu1 hr)) say_ix (de_var (pv 3)) de_int (fun _ _ => rfl)) (de_ix (ix_any (hu1 hr)) say_ix (de_var (pv 5)) de_int (fun _ _ => rfl)) (nomark _))))))
      (dss_one (ds_raiseN (c := "NoStep") rfl tk (L2N.pmk_own PySem.F.excBase_ValueError T.xq_NoStep T.xh_NoStep T.xk_NoStep (raises_own T.xb_NoStep T.xt_NoStep) (by rfl)) T.xh_NoStep))
      dss_nil)
      (dss_one (ds_ret rfl (de_tup (da_cons (de_ix (ix_any (hu1 hr)) say_ix (de_var (pv 3)) de_int (fun _ _ => rfl)) (da_cons (de_op op_addAny say_add (DN.de (dn_list (by rfl) T.n_list (de_ix (ix_any (hu1 hr)) say_ix (de_var (pv 3)) de_int (fun _ _ => rfl)))) (de_sl (de_var (pv 5)) (do_some de_int) do_none)) da_nil)))))))))
theorem ok_ran (T : Tx K mg) : FnOk P w K mg base (L2N.CX P w) 2 T.f_ran T.d_ran ["house", "standing", "numbers"] (spK mg none 3 m_ran) :=
  def_okN (N := N_ran) (F := (sSeq (sAsg [] 3 (vTup (aCons (v2 g_ix (vVar 1) (vC (.int 0))) (aCons (vLstOf (nList (v2 g_ix (vVar 1) (vC (.int 1))))) aNil))))
  (sSeq (sFor [] (iSeq (vVar 2)) [4] kName
  (sAsg [] 3 (vCallN 3 m_stepped (aCons (vVar 0) (aCons (vVar 3) (aCons (vVar 4) aNil)))))
  [4])
  (sRet (vVar 3))))) T.F_ran sc_ran (own' := []) (.inl rfl) fun cdv A outer s H E hr tk hp =>
      (dss_cons (own1 := []) (ds_asg (j := 3) (ae_set (j := 3) sc_ran.nd rfl (.inl rfl) (de_tup (da_cons (de_ix (ix_any (hu1 hr)) say_ix (de_var (pv 1)) de_int (fun _ _ => rfl)) (da_cons (DN.de (dn_list (by rfl) T.n_list (de_ix (ix_any (hu1 hr)) say_ix (de_var (pv 1)) de_int (fun _ _ => rfl)))) da_nil)))))
      (dss_cons (own1 := []) (ds_for (fg := [4]) (is := [4]) hp rfl (di_seq (de_var (pv 2))) (dg_name (pg_name (i := 4) sc_ran.nd rfl (by first | exact Or.inl rfl | exact Or.inr rfl)))
      (dss_one (ds_asg (j := 3) (ae_set (j := 3) sc_ran.nd rfl (.inl rfl) (de_callN (ok_stepped T) tk (hr.mono (by decide)) (by rfl) T.g_stepped T.F_stepped.kp T.b_stepped (da_cons (de_var (pv 0)) (da_cons (de_var (pv 3)) (da_cons (de_var (pv 4)) da_nil))))))) (by decide))
      (dss_one (ds_ret rfl (de_var (pv 3))))))
theorem ok_cell_at (T : Tx K mg) : FnOk P w K mg base (L2N.CX P w) 1 T.f_cell_at T.d_cell_at ["_law_script", "_law_k"] (spK mg none 2 G1.m_cell_at) :=
  def_okN (N := N_cell_at) (F := (sSeq (sIf (vB (v2 (gI (fun i j => decide (i < j))) (vVar 1) (vCall c_len (aCons (vVar 0) aNil))))
  (sRet (v2 g_mod (v2 g_mul (v2 g_add (v2 g_add (v2 g_mod (v2 g_ix (vVar 0) (vVar 1)) (vC (.int 2147483647))) (vC (.int 11))) (v2 g_mul (vVar 1) (vVar 1))) (vC (.int 48271))) (vC (.int 2147483647))))
  sNext)
  (sRet (vC (.int 0))))) T.F_cell_at sc_cell_at (own' := []) (.inl rfl) fun cdv A outer s H E hr tk hp =>
      (dss_cons (own1 := []) (ds_if (dt_cmp op_lt say_I (de_var (pv 1)) (de_callB call_len say_len (by rfl) T.n_len (by decide +kernel) (da_cons (de_var (pv 0)) da_nil)) (nomark _))
      (dss_one (ds_ret rfl (de_op op_mod say_mod (de_op op_mul say_mul (de_op op_addAny say_add (de_op op_addAny say_add (de_op op_mod say_mod (de_ix (ix_any (hu1 hr)) say_ix (de_var (pv 0)) (de_var (pv 1)) (fun _ _ => rfl)) de_int) de_int) (de_op op_mul say_mul (de_var (pv 1)) (de_var (pv 1)))) de_int) de_int)))
      dss_nil)
      (dss_one (ds_ret rfl de_int)))
theorem ok_kinds_NoStep (T : Tx K mg) : FnOk P w K mg base (L2N.CX P w) 1 T.f_kinds T.d_kinds ["_law_error"] (spE T.xC_NoStep (.lst [.int 0])) :=
  def_okE (N := N_kinds) (F := (sSeq (sAsg [] 1 (vLst (aCons (vC (.bl true)) (aCons (vC (.bl false)) (aCons (vC (.bl false)) aNil)))))
  (sSeq (sAsg [] 1 (v2 g_add (vVar 1) (vLst (aCons (vC (.bl false)) (aCons (vC (.bl false)) (aCons (vC (.bl false)) aNil))))))
  (sSeq (sAsg [] 1 (v2 g_add (vVar 1) (vLst (aCons (vC (.bl false)) (aCons (vC (.bl false)) (aCons (vC (.bl false)) aNil))))))
  (sSeq (sAsg [] 1 (v2 g_add (vVar 1) (vLst (aCons (vC (.bl false)) (aCons (vC (.bl false)) aNil)))))
  (sRet (vLstOf (nComp (iRange1 (vC (.int 11))) [2] kName (vB (v2 g_ix (vVar 1) (vVar 2))) (vVar 2) [2])))))))) T.F_kinds sc_kinds (by rfl) fun cdv A outer s H E a hr =>
      (dq_asg (j := 1) gro_ex (by decide) sc_kinds.nd rfl (.inr rfl) (deq_lst (daq_cons gro_ex (deq_is (call_isX T.xx_NoStep) (fun _ _ s p => s _ _ p) (pv 0) (pe_glob (v := .ref T.xC_NoStep) (by rfl) T.xh_NoStep rfl) (fun _ h => h) T.xi_NoStep_NoStep (by rfl) T.n_isinstance) (daq_cons gro_ex (deq_is (call_isX T.xx_NoStep) (fun _ _ s p => s _ _ p) (pv 0) (pe_glob (v := .ref T.xC_NotPlain) (by rfl) T.xh_NotPlain rfl) (fun _ h => h) T.xi_NoStep_NotPlain (by rfl) T.n_isinstance) (daq_cons gro_ex (deq_is (call_isX T.xx_NoStep) (fun _ _ s p => s _ _ p) (pv 0) (pe_glob (v := .ref T.xC_NoWay) (by rfl) T.xh_NoWay rfl) (fun _ h => h) T.xi_NoStep_NoWay (by rfl) T.n_isinstance) daq_nil))))
      (dq_asg (j := 1) gro_ex (by decide) sc_kinds.nd rfl (.inr rfl) (deq_op gro_ex op_addAny say_add (deq_of (de_var (pv 1))) (deq_lst (daq_cons gro_ex (deq_is (call_isX T.xx_NoStep) (fun _ _ s p => s _ _ p) (pv 0) (pe_glob (v := .ref T.xC_TooLong) (by rfl) T.xh_TooLong rfl) (fun _ h => h) T.xi_NoStep_TooLong (by rfl) T.n_isinstance) (daq_cons gro_ex (deq_is (call_isX T.xx_NoStep) (fun _ _ s p => s _ _ p) (pv 0) (pe_glob (v := .ref T.xC_Endless) (by rfl) T.xh_Endless rfl) (fun _ h => h) T.xi_NoStep_Endless (by rfl) T.n_isinstance) (daq_cons gro_ex (deq_is (call_isX T.xx_NoStep) (fun _ _ s p => s _ _ p) (pv 0) (pe_glob (v := .ref T.xC_NoText) (by rfl) T.xh_NoText rfl) (fun _ h => h) T.xi_NoStep_NoText (by rfl) T.n_isinstance) daq_nil)))))
      (dq_asg (j := 1) gro_ex (by decide) sc_kinds.nd rfl (.inr rfl) (deq_op gro_ex op_addAny say_add (deq_of (de_var (pv 1))) (deq_lst (daq_cons gro_ex (deq_is (call_isX T.xx_NoStep) (fun _ _ s p => s _ _ p) (pv 0) (pe_glob (v := .ref T.xC_Twice) (by rfl) T.xh_Twice rfl) (fun _ h => h) T.xi_NoStep_Twice (by rfl) T.n_isinstance) (daq_cons gro_ex (deq_is (call_isX T.xx_NoStep) (fun _ _ s p => s _ _ p) (pv 0) (pe_glob (v := .ref T.xC_NoName) (by rfl) T.xh_NoName rfl) (fun _ h => h) T.xi_NoStep_NoName (by rfl) T.n_isinstance) (daq_cons gro_ex (deq_is (call_isX T.xx_NoStep) (fun _ _ s p => s _ _ p) (pv 0) (pe_glob (v := .ref T.xC_NoValue) (by rfl) T.xh_NoValue rfl) (fun _ h => h) T.xi_NoStep_NoValue (by rfl) T.n_isinstance) daq_nil)))))
      (dq_asg (j := 1) gro_ex (by decide) sc_kinds.nd rfl (.inr rfl) (deq_op gro_ex op_addAny say_add (deq_of (de_var (pv 1))) (deq_lst (daq_cons gro_ex (deq_is (call_isX T.xx_NoStep) (fun _ _ s p => s _ _ p) (pv 0) (pe_glob (v := .ref T.xC_NoRow) (by rfl) T.xh_NoRow rfl) (fun _ h => h) T.xi_NoStep_NoRow (by rfl) T.n_isinstance) (daq_cons gro_ex (deq_is (call_isX T.xx_NoStep) (fun _ _ s p => s _ _ p) (pv 0) (pe_glob (v := .ref T.xC_Reached) (by rfl) T.xh_Reached rfl) (fun _ h => h) T.xi_NoStep_Reached (by rfl) T.n_isinstance) daq_nil))))
      (dq_if gro_ex (DWq.dt (dwq_or gro_ex (dtq_not (dtq_val (deq_is (call_isX T.xx_NoStep) (fun _ _ s p => s _ _ p) (pv 0) (pe_glob (v := .ref T.xC_WalkError) (by rfl) T.xh_WalkError rfl) (fun _ h => h) T.xi_NoStep_WalkError (by rfl) T.n_isinstance))) (dwq_or1 (dtq_not (dtq_val (deq_is (call_isX T.xx_NoStep) (fun _ _ s p => s _ _ p) (pv 0) (pe_bltn (v := .ty "ValueError") (by rfl) T.n_ValueError (by decide +kernel) rfl) (fun _ h => h) T.xi_NoStep_ValueError (by rfl) T.n_isinstance)))))) (dq_ret (DN.de (dn_lst da_nil)))
      (dq_ret (DN.de (dn_comp rfl sc_kinds.nd (di_range1 (by rfl) T.n_range de_int) (own := [("_law_k", 2)]) (blkOk_by (own := [("_law_k", 2)]) (N := N_kinds) (sc := defScope s_kinds) (by decide +kernel)) (is := [2]) (fun _ _ _ _ _ => (dg_name (pg_name (i := 2) sc_kinds.nd rfl (by first | exact Or.inl rfl | exact Or.inr rfl)))) (fun _ _ _ _ _ => (dts_one (dt_val (de_ix (ix_any (hu1 hr)) say_ix (de_var (pv 1)) (de_var (pv 2)) (fun _ _ => rfl))))) (fun _ _ _ _ _ => (de_var (pv 2))) (by decide)))) (fun _ => rfl))))))
theorem ok_kinds_NotPlain (T : Tx K mg) : FnOk P w K mg base (L2N.CX P w) 1 T.f_kinds T.d_kinds ["_law_error"] (spE T.xC_NotPlain (.lst [.int 1])) :=
  def_okE (N := N_kinds) (F := (sSeq (sAsg [] 1 (vLst (aCons (vC (.bl false)) (aCons (vC (.bl true)) (aCons (vC (.bl false)) aNil)))))
  (sSeq (sAsg [] 1 (v2 g_add (vVar 1) (vLst (aCons (vC (.bl false)) (aCons (vC (.bl false)) (aCons (vC (.bl false)) aNil))))))
  (sSeq (sAsg [] 1 (v2 g_add (vVar 1) (vLst (aCons (vC (.bl false)) (aCons (vC (.bl false)) (aCons (vC (.bl false)) aNil))))))
  (sSeq (sAsg [] 1 (v2 g_add (vVar 1) (vLst (aCons (vC (.bl false)) (aCons (vC (.bl false)) aNil)))))
  (sRet (vLstOf (nComp (iRange1 (vC (.int 11))) [2] kName (vB (v2 g_ix (vVar 1) (vVar 2))) (vVar 2) [2])))))))) T.F_kinds sc_kinds (by rfl) fun cdv A outer s H E a hr =>
      (dq_asg (j := 1) gro_ex (by decide) sc_kinds.nd rfl (.inr rfl) (deq_lst (daq_cons gro_ex (deq_is (call_isX T.xx_NotPlain) (fun _ _ s p => s _ _ p) (pv 0) (pe_glob (v := .ref T.xC_NoStep) (by rfl) T.xh_NoStep rfl) (fun _ h => h) T.xi_NotPlain_NoStep (by rfl) T.n_isinstance) (daq_cons gro_ex (deq_is (call_isX T.xx_NotPlain) (fun _ _ s p => s _ _ p) (pv 0) (pe_glob (v := .ref T.xC_NotPlain) (by rfl) T.xh_NotPlain rfl) (fun _ h => h) T.xi_NotPlain_NotPlain (by rfl) T.n_isinstance) (daq_cons gro_ex (deq_is (call_isX T.xx_NotPlain) (fun _ _ s p => s _ _ p) (pv 0) (pe_glob (v := .ref T.xC_NoWay) (by rfl) T.xh_NoWay rfl) (fun _ h => h) T.xi_NotPlain_NoWay (by rfl) T.n_isinstance) daq_nil))))
      (dq_asg (j := 1) gro_ex (by decide) sc_kinds.nd rfl (.inr rfl) (deq_op gro_ex op_addAny say_add (deq_of (de_var (pv 1))) (deq_lst (daq_cons gro_ex (deq_is (call_isX T.xx_NotPlain) (fun _ _ s p => s _ _ p) (pv 0) (pe_glob (v := .ref T.xC_TooLong) (by rfl) T.xh_TooLong rfl) (fun _ h => h) T.xi_NotPlain_TooLong (by rfl) T.n_isinstance) (daq_cons gro_ex (deq_is (call_isX T.xx_NotPlain) (fun _ _ s p => s _ _ p) (pv 0) (pe_glob (v := .ref T.xC_Endless) (by rfl) T.xh_Endless rfl) (fun _ h => h) T.xi_NotPlain_Endless (by rfl) T.n_isinstance) (daq_cons gro_ex (deq_is (call_isX T.xx_NotPlain) (fun _ _ s p => s _ _ p) (pv 0) (pe_glob (v := .ref T.xC_NoText) (by rfl) T.xh_NoText rfl) (fun _ h => h) T.xi_NotPlain_NoText (by rfl) T.n_isinstance) daq_nil)))))
      (dq_asg (j := 1) gro_ex (by decide) sc_kinds.nd rfl (.inr rfl) (deq_op gro_ex op_addAny say_add (deq_of (de_var (pv 1))) (deq_lst (daq_cons gro_ex (deq_is (call_isX T.xx_NotPlain) (fun _ _ s p => s _ _ p) (pv 0) (pe_glob (v := .ref T.xC_Twice) (by rfl) T.xh_Twice rfl) (fun _ h => h) T.xi_NotPlain_Twice (by rfl) T.n_isinstance) (daq_cons gro_ex (deq_is (call_isX T.xx_NotPlain) (fun _ _ s p => s _ _ p) (pv 0) (pe_glob (v := .ref T.xC_NoName) (by rfl) T.xh_NoName rfl) (fun _ h => h) T.xi_NotPlain_NoName (by rfl) T.n_isinstance) (daq_cons gro_ex (deq_is (call_isX T.xx_NotPlain) (fun _ _ s p => s _ _ p) (pv 0) (pe_glob (v := .ref T.xC_NoValue) (by rfl) T.xh_NoValue rfl) (fun _ h => h) T.xi_NotPlain_NoValue (by rfl) T.n_isinstance) daq_nil)))))
      (dq_asg (j := 1) gro_ex (by decide) sc_kinds.nd rfl (.inr rfl) (deq_op gro_ex op_addAny say_add (deq_of (de_var (pv 1))) (deq_lst (daq_cons gro_ex (deq_is (call_isX T.xx_NotPlain) (fun _ _ s p => s _ _ p) (pv 0) (pe_glob (v := .ref T.xC_NoRow) (by rfl) T.xh_NoRow rfl) (fun _ h => h) T.xi_NotPlain_NoRow (by rfl) T.n_isinstance) (daq_cons gro_ex (deq_is (call_isX T.xx_NotPlain) (fun _ _ s p => s _ _ p) (pv 0) (pe_glob (v := .ref T.xC_Reached) (by rfl) T.xh_Reached rfl) (fun _ h => h) T.xi_NotPlain_Reached (by rfl) T.n_isinstance) daq_nil))))
      (dq_if gro_ex (DWq.dt (dwq_or gro_ex (dtq_not (dtq_val (deq_is (call_isX T.xx_NotPlain) (fun _ _ s p => s _ _ p) (pv 0) (pe_glob (v := .ref T.xC_WalkError) (by rfl) T.xh_WalkError rfl) (fun _ h => h) T.xi_NotPlain_WalkError (by rfl) T.n_isinstance))) (dwq_or1 (dtq_not (dtq_val (deq_is (call_isX T.xx_NotPlain) (fun _ _ s p => s _ _ p) (pv 0) (pe_bltn (v := .ty "ValueError") (by rfl) T.n_ValueError (by decide +kernel) rfl) (fun _ h => h) T.xi_NotPlain_ValueError (by rfl) T.n_isinstance)))))) (dq_ret (DN.de (dn_lst da_nil)))
      (dq_ret (DN.de (dn_comp rfl sc_kinds.nd (di_range1 (by rfl) T.n_range de_int) (own := [("_law_k", 2)]) (blkOk_by (own := [("_law_k", 2)]) (N := N_kinds) (sc := defScope s_kinds) (by decide +kernel)) (is := [2]) (fun _ _ _ _ _ => (dg_name (pg_name (i := 2) sc_kinds.nd rfl (by first | exact Or.inl rfl | exact Or.inr rfl)))) (fun _ _ _ _ _ => (dts_one (dt_val (de_ix (ix_any (hu1 hr)) say_ix (de_var (pv 1)) (de_var (pv 2)) (fun _ _ => rfl))))) (fun _ _ _ _ _ => (de_var (pv 2))) (by decide)))) (fun _ => rfl))))))
theorem ok_kinds_NoWay (T : Tx K mg) : FnOk P w K mg base (L2N.CX P w) 1 T.f_kinds T.d_kinds ["_law_error"] (spE T.xC_NoWay (.lst [.int 2])) :=
  def_okE (N := N_kinds) (F := (sSeq (sAsg [] 1 (vLst (aCons (vC (.bl false)) (aCons (vC (.bl false)) (aCons (vC (.bl true)) aNil)))))
  (sSeq (sAsg [] 1 (v2 g_add (vVar 1) (vLst (aCons (vC (.bl false)) (aCons (vC (.bl false)) (aCons (vC (.bl false)) aNil))))))
  (sSeq (sAsg [] 1 (v2 g_add (vVar 1) (vLst (aCons (vC (.bl false)) (aCons (vC (.bl false)) (aCons (vC (.bl false)) aNil))))))
  (sSeq (sAsg [] 1 (v2 g_add (vVar 1) (vLst (aCons (vC (.bl false)) (aCons (vC (.bl false)) aNil)))))
  (sRet (vLstOf (nComp (iRange1 (vC (.int 11))) [2] kName (vB (v2 g_ix (vVar 1) (vVar 2))) (vVar 2) [2])))))))) T.F_kinds sc_kinds (by rfl) fun cdv A outer s H E a hr =>
      (dq_asg (j := 1) gro_ex (by decide) sc_kinds.nd rfl (.inr rfl) (deq_lst (daq_cons gro_ex (deq_is (call_isX T.xx_NoWay) (fun _ _ s p => s _ _ p) (pv 0) (pe_glob (v := .ref T.xC_NoStep) (by rfl) T.xh_NoStep rfl) (fun _ h => h) T.xi_NoWay_NoStep (by rfl) T.n_isinstance) (daq_cons gro_ex (deq_is (call_isX T.xx_NoWay) (fun _ _ s p => s _ _ p) (pv 0) (pe_glob (v := .ref T.xC_NotPlain) (by rfl) T.xh_NotPlain rfl) (fun _ h => h) T.xi_NoWay_NotPlain (by rfl) T.n_isinstance) (daq_cons gro_ex (deq_is (call_isX T.xx_NoWay) (fun _ _ s p => s _ _ p) (pv 0) (pe_glob (v := .ref T.xC_NoWay) (by rfl) T.xh_NoWay rfl) (fun _ h => h) T.xi_NoWay_NoWay (by rfl) T.n_isinstance) daq_nil))))
      (dq_asg (j := 1) gro_ex (by decide) sc_kinds.nd rfl (.inr rfl) (deq_op gro_ex op_addAny say_add (deq_of (de_var (pv 1))) (deq_lst (daq_cons gro_ex (deq_is (call_isX T.xx_NoWay) (fun _ _ s p => s _ _ p) (pv 0) (pe_glob (v := .ref T.xC_TooLong) (by rfl) T.xh_TooLong rfl) (fun _ h => h) T.xi_NoWay_TooLong (by rfl) T.n_isinstance) (daq_cons gro_ex (deq_is (call_isX T.xx_NoWay) (fun _ _ s p => s _ _ p) (pv 0) (pe_glob (v := .ref T.xC_Endless) (by rfl) T.xh_Endless rfl) (fun _ h => h) T.xi_NoWay_Endless (by rfl) T.n_isinstance) (daq_cons gro_ex (deq_is (call_isX T.xx_NoWay) (fun _ _ s p => s _ _ p) (pv 0) (pe_glob (v := .ref T.xC_NoText) (by rfl) T.xh_NoText rfl) (fun _ h => h) T.xi_NoWay_NoText (by rfl) T.n_isinstance) daq_nil)))))
      (dq_asg (j := 1) gro_ex (by decide) sc_kinds.nd rfl (.inr rfl) (deq_op gro_ex op_addAny say_add (deq_of (de_var (pv 1))) (deq_lst (daq_cons gro_ex (deq_is (call_isX T.xx_NoWay) (fun _ _ s p => s _ _ p) (pv 0) (pe_glob (v := .ref T.xC_Twice) (by rfl) T.xh_Twice rfl) (fun _ h => h) T.xi_NoWay_Twice (by rfl) T.n_isinstance) (daq_cons gro_ex (deq_is (call_isX T.xx_NoWay) (fun _ _ s p => s _ _ p) (pv 0) (pe_glob (v := .ref T.xC_NoName) (by rfl) T.xh_NoName rfl) (fun _ h => h) T.xi_NoWay_NoName (by rfl) T.n_isinstance) (daq_cons gro_ex (deq_is (call_isX T.xx_NoWay) (fun _ _ s p => s _ _ p) (pv 0) (pe_glob (v := .ref T.xC_NoValue) (by rfl) T.xh_NoValue rfl) (fun _ h => h) T.xi_NoWay_NoValue (by rfl) T.n_isinstance) daq_nil)))))
      (dq_asg (j := 1) gro_ex (by decide) sc_kinds.nd rfl (.inr rfl) (deq_op gro_ex op_addAny say_add (deq_of (de_var (pv 1))) (deq_lst (daq_cons gro_ex (deq_is (call_isX T.xx_NoWay) (fun _ _ s p => s _ _ p) (pv 0) (pe_glob (v := .ref T.xC_NoRow) (by rfl) T.xh_NoRow rfl) (fun _ h => h) T.xi_NoWay_NoRow (by rfl) T.n_isinstance) (daq_cons gro_ex (deq_is (call_isX T.xx_NoWay) (fun _ _ s p => s _ _ p) (pv 0) (pe_glob (v := .ref T.xC_Reached) (by rfl) T.xh_Reached rfl) (fun _ h => h) T.xi_NoWay_Reached (by rfl) T.n_isinstance) daq_nil))))
      (dq_if gro_ex (DWq.dt (dwq_or gro_ex (dtq_not (dtq_val (deq_is (call_isX T.xx_NoWay) (fun _ _ s p => s _ _ p) (pv 0) (pe_glob (v := .ref T.xC_WalkError) (by rfl) T.xh_WalkError rfl) (fun _ h => h) T.xi_NoWay_WalkError (by rfl) T.n_isinstance))) (dwq_or1 (dtq_not (dtq_val (deq_is (call_isX T.xx_NoWay) (fun _ _ s p => s _ _ p) (pv 0) (pe_bltn (v := .ty "ValueError") (by rfl) T.n_ValueError (by decide +kernel) rfl) (fun _ h => h) T.xi_NoWay_ValueError (by rfl) T.n_isinstance)))))) (dq_ret (DN.de (dn_lst da_nil)))
      (dq_ret (DN.de (dn_comp rfl sc_kinds.nd (di_range1 (by rfl) T.n_range de_int) (own := [("_law_k", 2)]) (blkOk_by (own := [("_law_k", 2)]) (N := N_kinds) (sc := defScope s_kinds) (by decide +kernel)) (is := [2]) (fun _ _ _ _ _ => (dg_name (pg_name (i := 2) sc_kinds.nd rfl (by first | exact Or.inl rfl | exact Or.inr rfl)))) (fun _ _ _ _ _ => (dts_one (dt_val (de_ix (ix_any (hu1 hr)) say_ix (de_var (pv 1)) (de_var (pv 2)) (fun _ _ => rfl))))) (fun _ _ _ _ _ => (de_var (pv 2))) (by decide)))) (fun _ => rfl))))))
theorem ok_kinds_TooLong (T : Tx K mg) : FnOk P w K mg base (L2N.CX P w) 1 T.f_kinds T.d_kinds ["_law_error"] (spE T.xC_TooLong (.lst [.int 3])) :=
  def_okE (N := N_kinds) (F := (sSeq (sAsg [] 1 (vLst (aCons (vC (.bl false)) (aCons (vC (.bl false)) (aCons (vC (.bl false)) aNil)))))
  (sSeq (sAsg [] 1 (v2 g_add (vVar 1) (vLst (aCons (vC (.bl true)) (aCons (vC (.bl false)) (aCons (vC (.bl false)) aNil))))))
  (sSeq (sAsg [] 1 (v2 g_add (vVar 1) (vLst (aCons (vC (.bl false)) (aCons (vC (.bl false)) (aCons (vC (.bl false)) aNil))))))
  (sSeq (sAsg [] 1 (v2 g_add (vVar 1) (vLst (aCons (vC (.bl false)) (aCons (vC (.bl false)) aNil)))))
  (sRet (vLstOf (nComp (iRange1 (vC (.int 11))) [2] kName (vB (v2 g_ix (vVar 1) (vVar 2))) (vVar 2) [2])))))))) T.F_kinds sc_kinds (by rfl) fun cdv A outer s H E a hr =>
      (dq_asg (j := 1) gro_ex (by decide) sc_kinds.nd rfl (.inr rfl) (deq_lst (daq_cons gro_ex (deq_is (call_isX T.xx_TooLong) (fun _ _ s p => s _ _ p) (pv 0) (pe_glob (v := .ref T.xC_NoStep) (by rfl) T.xh_NoStep rfl) (fun _ h => h) T.xi_TooLong_NoStep (by rfl) T.n_isinstance) (daq_cons gro_ex (deq_is (call_isX T.xx_TooLong) (fun _ _ s p => s _ _ p) (pv 0) (pe_glob (v := .ref T.xC_NotPlain) (by rfl) T.xh_NotPlain rfl) (fun _ h => h) T.xi_TooLong_NotPlain (by rfl) T.n_isinstance) (daq_cons gro_ex (deq_is (call_isX T.xx_TooLong) (fun _ _ s p => s _ _ p) (pv 0) (pe_glob (v := .ref T.xC_NoWay) (by rfl) T.xh_NoWay rfl) (fun _ h => h) T.xi_TooLong_NoWay (by rfl) T.n_isinstance) daq_nil))))
      (dq_asg (j := 1) gro_ex (by decide) sc_kinds.nd rfl (.inr rfl) (deq_op gro_ex op_addAny say_add (deq_of (de_var (pv 1))) (deq_lst (daq_cons gro_ex (deq_is (call_isX T.xx_TooLong) (fun _ _ s p => s _ _ p) (pv 0) (pe_glob (v := .ref T.xC_TooLong) (by rfl) T.xh_TooLong rfl) (fun _ h => h) T.xi_TooLong_TooLong (by rfl) T.n_isinstance) (daq_cons gro_ex (deq_is (call_isX T.xx_TooLong) (fun _ _ s p => s _ _ p) (pv 0) (pe_glob (v := .ref T.xC_Endless) (by rfl) T.xh_Endless rfl) (fun _ h => h) T.xi_TooLong_Endless (by rfl) T.n_isinstance) (daq_cons gro_ex (deq_is (call_isX T.xx_TooLong) (fun _ _ s p => s _ _ p) (pv 0) (pe_glob (v := .ref T.xC_NoText) (by rfl) T.xh_NoText rfl) (fun _ h => h) T.xi_TooLong_NoText (by rfl) T.n_isinstance) daq_nil)))))
      (dq_asg (j := 1) gro_ex (by decide) sc_kinds.nd rfl (.inr rfl) (deq_op gro_ex op_addAny say_add (deq_of (de_var (pv 1))) (deq_lst (daq_cons gro_ex (deq_is (call_isX T.xx_TooLong) (fun _ _ s p => s _ _ p) (pv 0) (pe_glob (v := .ref T.xC_Twice) (by rfl) T.xh_Twice rfl) (fun _ h => h) T.xi_TooLong_Twice (by rfl) T.n_isinstance) (daq_cons gro_ex (deq_is (call_isX T.xx_TooLong) (fun _ _ s p => s _ _ p) (pv 0) (pe_glob (v := .ref T.xC_NoName) (by rfl) T.xh_NoName rfl) (fun _ h => h) T.xi_TooLong_NoName (by rfl) T.n_isinstance) (daq_cons gro_ex (deq_is (call_isX T.xx_TooLong) (fun _ _ s p => s _ _ p) (pv 0) (pe_glob (v := .ref T.xC_NoValue) (by rfl) T.xh_NoValue rfl) (fun _ h => h) T.xi_TooLong_NoValue (by rfl) T.n_isinstance) daq_nil)))))
      (dq_asg (j := 1) gro_ex (by decide) sc_kinds.nd rfl (.inr rfl) (deq_op gro_ex op_addAny say_add (deq_of (de_var (pv 1))) (deq_lst (daq_cons gro_ex (deq_is (call_isX T.xx_TooLong) (fun _ _ s p => s _ _ p) (pv 0) (pe_glob (v := .ref T.xC_NoRow) (by rfl) T.xh_NoRow rfl) (fun _ h => h) T.xi_TooLong_NoRow (by rfl) T.n_isinstance) (daq_cons gro_ex (deq_is (call_isX T.xx_TooLong) (fun _ _ s p => s _ _ p) (pv 0) (pe_glob (v := .ref T.xC_Reached) (by rfl) T.xh_Reached rfl) (fun _ h => h) T.xi_TooLong_Reached (by rfl) T.n_isinstance) daq_nil))))
      (dq_if gro_ex (DWq.dt (dwq_or gro_ex (dtq_not (dtq_val (deq_is (call_isX T.xx_TooLong) (fun _ _ s p => s _ _ p) (pv 0) (pe_glob (v := .ref T.xC_WalkError) (by rfl) T.xh_WalkError rfl) (fun _ h => h) T.xi_TooLong_WalkError (by rfl) T.n_isinstance))) (dwq_or1 (dtq_not (dtq_val (deq_is (call_isX T.xx_TooLong) (fun _ _ s p => s _ _ p) (pv 0) (pe_bltn (v := .ty "ValueError") (by rfl) T.n_ValueError (by decide +kernel) rfl) (fun _ h => h) T.xi_TooLong_ValueError (by rfl) T.n_isinstance)))))) (dq_ret (DN.de (dn_lst da_nil)))
      (dq_ret (DN.de (dn_comp rfl sc_kinds.nd (di_range1 (by rfl) T.n_range de_int) (own := [("_law_k", 2)]) (blkOk_by (own := [("_law_k", 2)]) (N := N_kinds) (sc := defScope s_kinds) (by decide +kernel)) (is := [2]) (fun _ _ _ _ _ => (dg_name (pg_name (i := 2) sc_kinds.nd rfl (by first | exact Or.inl rfl | exact Or.inr rfl)))) (fun _ _ _ _ _ => (dts_one (dt_val (de_ix (ix_any (hu1 hr)) say_ix (de_var (pv 1)) (de_var (pv 2)) (fun _ _ => rfl))))) (fun _ _ _ _ _ => (de_var (pv 2))) (by decide)))) (fun _ => rfl))))))
theorem ok_kinds_Endless (T : Tx K mg) : FnOk P w K mg base (L2N.CX P w) 1 T.f_kinds T.d_kinds ["_law_error"] (spE T.xC_Endless (.lst [.int 4])) :=
  def_okE (N := N_kinds) (F := (sSeq (sAsg [] 1 (vLst (aCons (vC (.bl false)) (aCons (vC (.bl false)) (aCons (vC (.bl false)) aNil)))))
  (sSeq (sAsg [] 1 (v2 g_add (vVar 1) (vLst (aCons (vC (.bl false)) (aCons (vC (.bl true)) (aCons (vC (.bl false)) aNil))))))
  (sSeq (sAsg [] 1 (v2 g_add (vVar 1) (vLst (aCons (vC (.bl false)) (aCons (vC (.bl false)) (aCons (vC (.bl false)) aNil))))))
  (sSeq (sAsg [] 1 (v2 g_add (vVar 1) (vLst (aCons (vC (.bl false)) (aCons (vC (.bl false)) aNil)))))
  (sRet (vLstOf (nComp (iRange1 (vC (.int 11))) [2] kName (vB (v2 g_ix (vVar 1) (vVar 2))) (vVar 2) [2])))))))) T.F_kinds sc_kinds (by rfl) fun cdv A outer s H E a hr =>
      (dq_asg (j := 1) gro_ex (by decide) sc_kinds.nd rfl (.inr rfl) (deq_lst (daq_cons gro_ex (deq_is (call_isX T.xx_Endless) (fun _ _ s p => s _ _ p) (pv 0) (pe_glob (v := .ref T.xC_NoStep) (by rfl) T.xh_NoStep rfl) (fun _ h => h) T.xi_Endless_NoStep (by rfl) T.n_isinstance) (daq_cons gro_ex (deq_is (call_isX T.xx_Endless) (fun _ _ s p => s _ _ p) (pv 0) (pe_glob (v := .ref T.xC_NotPlain) (by rfl) T.xh_NotPlain rfl) (fun _ h => h) T.xi_Endless_NotPlain (by rfl) T.n_isinstance) (daq_cons gro_ex (deq_is (call_isX T.xx_Endless) (fun _ _ s p => s _ _ p) (pv 0) (pe_glob (v := .ref T.xC_NoWay) (by rfl) T.xh_NoWay rfl) (fun _ h => h) T.xi_Endless_NoWay (by rfl) T.n_isinstance) daq_nil))))
      (dq_asg (j := 1) gro_ex (by decide) sc_kinds.nd rfl (.inr rfl) (deq_op gro_ex op_addAny say_add (deq_of (de_var (pv 1))) (deq_lst (daq_cons gro_ex (deq_is (call_isX T.xx_Endless) (fun _ _ s p => s _ _ p) (pv 0) (pe_glob (v := .ref T.xC_TooLong) (by rfl) T.xh_TooLong rfl) (fun _ h => h) T.xi_Endless_TooLong (by rfl) T.n_isinstance) (daq_cons gro_ex (deq_is (call_isX T.xx_Endless) (fun _ _ s p => s _ _ p) (pv 0) (pe_glob (v := .ref T.xC_Endless) (by rfl) T.xh_Endless rfl) (fun _ h => h) T.xi_Endless_Endless (by rfl) T.n_isinstance) (daq_cons gro_ex (deq_is (call_isX T.xx_Endless) (fun _ _ s p => s _ _ p) (pv 0) (pe_glob (v := .ref T.xC_NoText) (by rfl) T.xh_NoText rfl) (fun _ h => h) T.xi_Endless_NoText (by rfl) T.n_isinstance) daq_nil)))))
      (dq_asg (j := 1) gro_ex (by decide) sc_kinds.nd rfl (.inr rfl) (deq_op gro_ex op_addAny say_add (deq_of (de_var (pv 1))) (deq_lst (daq_cons gro_ex (deq_is (call_isX T.xx_Endless) (fun _ _ s p => s _ _ p) (pv 0) (pe_glob (v := .ref T.xC_Twice) (by rfl) T.xh_Twice rfl) (fun _ h => h) T.xi_Endless_Twice (by rfl) T.n_isinstance) (daq_cons gro_ex (deq_is (call_isX T.xx_Endless) (fun _ _ s p => s _ _ p) (pv 0) (pe_glob (v := .ref T.xC_NoName) (by rfl) T.xh_NoName rfl) (fun _ h => h) T.xi_Endless_NoName (by rfl) T.n_isinstance) (daq_cons gro_ex (deq_is (call_isX T.xx_Endless) (fun _ _ s p => s _ _ p) (pv 0) (pe_glob (v := .ref T.xC_NoValue) (by rfl) T.xh_NoValue rfl) (fun _ h => h) T.xi_Endless_NoValue (by rfl) T.n_isinstance) daq_nil)))))
      (dq_asg (j := 1) gro_ex (by decide) sc_kinds.nd rfl (.inr rfl) (deq_op gro_ex op_addAny say_add (deq_of (de_var (pv 1))) (deq_lst (daq_cons gro_ex (deq_is (call_isX T.xx_Endless) (fun _ _ s p => s _ _ p) (pv 0) (pe_glob (v := .ref T.xC_NoRow) (by rfl) T.xh_NoRow rfl) (fun _ h => h) T.xi_Endless_NoRow (by rfl) T.n_isinstance) (daq_cons gro_ex (deq_is (call_isX T.xx_Endless) (fun _ _ s p => s _ _ p) (pv 0) (pe_glob (v := .ref T.xC_Reached) (by rfl) T.xh_Reached rfl) (fun _ h => h) T.xi_Endless_Reached (by rfl) T.n_isinstance) daq_nil))))
      (dq_if gro_ex (DWq.dt (dwq_or gro_ex (dtq_not (dtq_val (deq_is (call_isX T.xx_Endless) (fun _ _ s p => s _ _ p) (pv 0) (pe_glob (v := .ref T.xC_WalkError) (by rfl) T.xh_WalkError rfl) (fun _ h => h) T.xi_Endless_WalkError (by rfl) T.n_isinstance))) (dwq_or1 (dtq_not (dtq_val (deq_is (call_isX T.xx_Endless) (fun _ _ s p => s _ _ p) (pv 0) (pe_bltn (v := .ty "ValueError") (by rfl) T.n_ValueError (by decide +kernel) rfl) (fun _ h => h) T.xi_Endless_ValueError (by rfl) T.n_isinstance)))))) (dq_ret (DN.de (dn_lst da_nil)))
      (dq_ret (DN.de (dn_comp rfl sc_kinds.nd (di_range1 (by rfl) T.n_range de_int) (own := [("_law_k", 2)]) (blkOk_by (own := [("_law_k", 2)]) (N := N_kinds) (sc := defScope s_kinds) (by decide +kernel)) (is := [2]) (fun _ _ _ _ _ => (dg_name (pg_name (i := 2) sc_kinds.nd rfl (by first | exact Or.inl rfl | exact Or.inr rfl)))) (fun _ _ _ _ _ => (dts_one (dt_val (de_ix (ix_any (hu1 hr)) say_ix (de_var (pv 1)) (de_var (pv 2)) (fun _ _ => rfl))))) (fun _ _ _ _ _ => (de_var (pv 2))) (by decide)))) (fun _ => rfl))))))
theorem ok_kinds_NoText (T : Tx K mg) : FnOk P w K mg base (L2N.CX P w) 1 T.f_kinds T.d_kinds ["_law_error"] (spE T.xC_NoText (.lst [.int 5])) :=
  def_okE (N := N_kinds) (F := (sSeq (sAsg [] 1 (vLst (aCons (vC (.bl false)) (aCons (vC (.bl false)) (aCons (vC (.bl false)) aNil)))))
  (sSeq (sAsg [] 1 (v2 g_add (vVar 1) (vLst (aCons (vC (.bl false)) (aCons (vC (.bl false)) (aCons (vC (.bl true)) aNil))))))
  (sSeq (sAsg [] 1 (v2 g_add (vVar 1) (vLst (aCons (vC (.bl false)) (aCons (vC (.bl false)) (aCons (vC (.bl false)) aNil))))))
  (sSeq (sAsg [] 1 (v2 g_add (vVar 1) (vLst (aCons (vC (.bl false)) (aCons (vC (.bl false)) aNil)))))
  (sRet (vLstOf (nComp (iRange1 (vC (.int 11))) [2] kName (vB (v2 g_ix (vVar 1) (vVar 2))) (vVar 2) [2])))))))) T.F_kinds sc_kinds (by rfl) fun cdv A outer s H E a hr =>
      (dq_asg (j := 1) gro_ex (by decide) sc_kinds.nd rfl (.inr rfl) (deq_lst (daq_cons gro_ex (deq_is (call_isX T.xx_NoText) (fun _ _ s p => s _ _ p) (pv 0) (pe_glob (v := .ref T.xC_NoStep) (by rfl) T.xh_NoStep rfl) (fun _ h => h) T.xi_NoText_NoStep (by rfl) T.n_isinstance) (daq_cons gro_ex (deq_is (call_isX T.xx_NoText) (fun _ _ s p => s _ _ p) (pv 0) (pe_glob (v := .ref T.xC_NotPlain) (by rfl) T.xh_NotPlain rfl) (fun _ h => h) T.xi_NoText_NotPlain (by rfl) T.n_isinstance) (daq_cons gro_ex (deq_is (call_isX T.xx_NoText) (fun _ _ s p => s _ _ p) (pv 0) (pe_glob (v := .ref T.xC_NoWay) (by rfl) T.xh_NoWay rfl) (fun _ h => h) T.xi_NoText_NoWay (by rfl) T.n_isinstance) daq_nil))))
      (dq_asg (j := 1) gro_ex (by decide) sc_kinds.nd rfl (.inr rfl) (deq_op gro_ex op_addAny say_add (deq_of (de_var (pv 1))) (deq_lst (daq_cons gro_ex (deq_is (call_isX T.xx_NoText) (fun _ _ s p => s _ _ p) (pv 0) (pe_glob (v := .ref T.xC_TooLong) (by rfl) T.xh_TooLong rfl) (fun _ h => h) T.xi_NoText_TooLong (by rfl) T.n_isinstance) (daq_cons gro_ex (deq_is (call_isX T.xx_NoText) (fun _ _ s p => s _ _ p) (pv 0) (pe_glob (v := .ref T.xC_Endless) (by rfl) T.xh_Endless rfl) (fun _ h => h) T.xi_NoText_Endless (by rfl) T.n_isinstance) (daq_cons gro_ex (deq_is (call_isX T.xx_NoText) (fun _ _ s p => s _ _ p) (pv 0) (pe_glob (v := .ref T.xC_NoText) (by rfl) T.xh_NoText rfl) (fun _ h => h) T.xi_NoText_NoText (by rfl) T.n_isinstance) daq_nil)))))
      (dq_asg (j := 1) gro_ex (by decide) sc_kinds.nd rfl (.inr rfl) (deq_op gro_ex op_addAny say_add (deq_of (de_var (pv 1))) (deq_lst (daq_cons gro_ex (deq_is (call_isX T.xx_NoText) (fun _ _ s p => s _ _ p) (pv 0) (pe_glob (v := .ref T.xC_Twice) (by rfl) T.xh_Twice rfl) (fun _ h => h) T.xi_NoText_Twice (by rfl) T.n_isinstance) (daq_cons gro_ex (deq_is (call_isX T.xx_NoText) (fun _ _ s p => s _ _ p) (pv 0) (pe_glob (v := .ref T.xC_NoName) (by rfl) T.xh_NoName rfl) (fun _ h => h) T.xi_NoText_NoName (by rfl) T.n_isinstance) (daq_cons gro_ex (deq_is (call_isX T.xx_NoText) (fun _ _ s p => s _ _ p) (pv 0) (pe_glob (v := .ref T.xC_NoValue) (by rfl) T.xh_NoValue rfl) (fun _ h => h) T.xi_NoText_NoValue (by rfl) T.n_isinstance) daq_nil)))))
      (dq_asg (j := 1) gro_ex (by decide) sc_kinds.nd rfl (.inr rfl) (deq_op gro_ex op_addAny say_add (deq_of (de_var (pv 1))) (deq_lst (daq_cons gro_ex (deq_is (call_isX T.xx_NoText) (fun _ _ s p => s _ _ p) (pv 0) (pe_glob (v := .ref T.xC_NoRow) (by rfl) T.xh_NoRow rfl) (fun _ h => h) T.xi_NoText_NoRow (by rfl) T.n_isinstance) (daq_cons gro_ex (deq_is (call_isX T.xx_NoText) (fun _ _ s p => s _ _ p) (pv 0) (pe_glob (v := .ref T.xC_Reached) (by rfl) T.xh_Reached rfl) (fun _ h => h) T.xi_NoText_Reached (by rfl) T.n_isinstance) daq_nil))))
      (dq_if gro_ex (DWq.dt (dwq_or gro_ex (dtq_not (dtq_val (deq_is (call_isX T.xx_NoText) (fun _ _ s p => s _ _ p) (pv 0) (pe_glob (v := .ref T.xC_WalkError) (by rfl) T.xh_WalkError rfl) (fun _ h => h) T.xi_NoText_WalkError (by rfl) T.n_isinstance))) (dwq_or1 (dtq_not (dtq_val (deq_is (call_isX T.xx_NoText) (fun _ _ s p => s _ _ p) (pv 0) (pe_bltn (v := .ty "ValueError") (by rfl) T.n_ValueError (by decide +kernel) rfl) (fun _ h => h) T.xi_NoText_ValueError (by rfl) T.n_isinstance)))))) (dq_ret (DN.de (dn_lst da_nil)))
      (dq_ret (DN.de (dn_comp rfl sc_kinds.nd (di_range1 (by rfl) T.n_range de_int) (own := [("_law_k", 2)]) (blkOk_by (own := [("_law_k", 2)]) (N := N_kinds) (sc := defScope s_kinds) (by decide +kernel)) (is := [2]) (fun _ _ _ _ _ => (dg_name (pg_name (i := 2) sc_kinds.nd rfl (by first | exact Or.inl rfl | exact Or.inr rfl)))) (fun _ _ _ _ _ => (dts_one (dt_val (de_ix (ix_any (hu1 hr)) say_ix (de_var (pv 1)) (de_var (pv 2)) (fun _ _ => rfl))))) (fun _ _ _ _ _ => (de_var (pv 2))) (by decide)))) (fun _ => rfl))))))
theorem ok_kinds_Twice (T : Tx K mg) : FnOk P w K mg base (L2N.CX P w) 1 T.f_kinds T.d_kinds ["_law_error"] (spE T.xC_Twice (.lst [.int 6])) :=
  def_okE (N := N_kinds) (F := (sSeq (sAsg [] 1 (vLst (aCons (vC (.bl false)) (aCons (vC (.bl false)) (aCons (vC (.bl false)) aNil)))))
  (sSeq (sAsg [] 1 (v2 g_add (vVar 1) (vLst (aCons (vC (.bl false)) (aCons (vC (.bl false)) (aCons (vC (.bl false)) aNil))))))
  (sSeq (sAsg [] 1 (v2 g_add (vVar 1) (vLst (aCons (vC (.bl true)) (aCons (vC (.bl false)) (aCons (vC (.bl false)) aNil))))))
  (sSeq (sAsg [] 1 (v2 g_add (vVar 1) (vLst (aCons (vC (.bl false)) (aCons (vC (.bl false)) aNil)))))
  (sRet (vLstOf (nComp (iRange1 (vC (.int 11))) [2] kName (vB (v2 g_ix (vVar 1) (vVar 2))) (vVar 2) [2])))))))) T.F_kinds sc_kinds (by rfl) fun cdv A outer s H E a hr =>
      (dq_asg (j := 1) gro_ex (by decide) sc_kinds.nd rfl (.inr rfl) (deq_lst (daq_cons gro_ex (deq_is (call_isX T.xx_Twice) (fun _ _ s p => s _ _ p) (pv 0) (pe_glob (v := .ref T.xC_NoStep) (by rfl) T.xh_NoStep rfl) (fun _ h => h) T.xi_Twice_NoStep (by rfl) T.n_isinstance) (daq_cons gro_ex (deq_is (call_isX T.xx_Twice) (fun _ _ s p => s _ _ p) (pv 0) (pe_glob (v := .ref T.xC_NotPlain) (by rfl) T.xh_NotPlain rfl) (fun _ h => h) T.xi_Twice_NotPlain (by rfl) T.n_isinstance) (daq_cons gro_ex (deq_is (call_isX T.xx_Twice) (fun _ _ s p => s _ _ p) (pv 0) (pe_glob (v := .ref T.xC_NoWay) (by rfl) T.xh_NoWay rfl) (fun _ h => h) T.xi_Twice_NoWay (by rfl) T.n_isinstance) daq_nil))))
      (dq_asg (j := 1) gro_ex (by decide) sc_kinds.nd rfl (.inr rfl) (deq_op gro_ex op_addAny say_add (deq_of (de_var (pv 1))) (deq_lst (daq_cons gro_ex (deq_is (call_isX T.xx_Twice) (fun _ _ s p => s _ _ p) (pv 0) (pe_glob (v := .ref T.xC_TooLong) (by rfl) T.xh_TooLong rfl) (fun _ h => h) T.xi_Twice_TooLong (by rfl) T.n_isinstance) (daq_cons gro_ex (deq_is (call_isX T.xx_Twice) (fun _ _ s p => s _ _ p) (pv 0) (pe_glob (v := .ref T.xC_Endless) (by rfl) T.xh_Endless rfl) (fun _ h => h) T.xi_Twice_Endless (by rfl) T.n_isinstance) (daq_cons gro_ex (deq_is (call_isX T.xx_Twice) (fun _ _ s p => s _ _ p) (pv 0) (pe_glob (v := .ref T.xC_NoText) (by rfl) T.xh_NoText rfl) (fun _ h => h) T.xi_Twice_NoText (by rfl) T.n_isinstance) daq_nil)))))
      (dq_asg (j := 1) gro_ex (by decide) sc_kinds.nd rfl (.inr rfl) (deq_op gro_ex op_addAny say_add (deq_of (de_var (pv 1))) (deq_lst (daq_cons gro_ex (deq_is (call_isX T.xx_Twice) (fun _ _ s p => s _ _ p) (pv 0) (pe_glob (v := .ref T.xC_Twice) (by rfl) T.xh_Twice rfl) (fun _ h => h) T.xi_Twice_Twice (by rfl) T.n_isinstance) (daq_cons gro_ex (deq_is (call_isX T.xx_Twice) (fun _ _ s p => s _ _ p) (pv 0) (pe_glob (v := .ref T.xC_NoName) (by rfl) T.xh_NoName rfl) (fun _ h => h) T.xi_Twice_NoName (by rfl) T.n_isinstance) (daq_cons gro_ex (deq_is (call_isX T.xx_Twice) (fun _ _ s p => s _ _ p) (pv 0) (pe_glob (v := .ref T.xC_NoValue) (by rfl) T.xh_NoValue rfl) (fun _ h => h) T.xi_Twice_NoValue (by rfl) T.n_isinstance) daq_nil)))))
      (dq_asg (j := 1) gro_ex (by decide) sc_kinds.nd rfl (.inr rfl) (deq_op gro_ex op_addAny say_add (deq_of (de_var (pv 1))) (deq_lst (daq_cons gro_ex (deq_is (call_isX T.xx_Twice) (fun _ _ s p => s _ _ p) (pv 0) (pe_glob (v := .ref T.xC_NoRow) (by rfl) T.xh_NoRow rfl) (fun _ h => h) T.xi_Twice_NoRow (by rfl) T.n_isinstance) (daq_cons gro_ex (deq_is (call_isX T.xx_Twice) (fun _ _ s p => s _ _ p) (pv 0) (pe_glob (v := .ref T.xC_Reached) (by rfl) T.xh_Reached rfl) (fun _ h => h) T.xi_Twice_Reached (by rfl) T.n_isinstance) daq_nil))))
      (dq_if gro_ex (DWq.dt (dwq_or gro_ex (dtq_not (dtq_val (deq_is (call_isX T.xx_Twice) (fun _ _ s p => s _ _ p) (pv 0) (pe_glob (v := .ref T.xC_WalkError) (by rfl) T.xh_WalkError rfl) (fun _ h => h) T.xi_Twice_WalkError (by rfl) T.n_isinstance))) (dwq_or1 (dtq_not (dtq_val (deq_is (call_isX T.xx_Twice) (fun _ _ s p => s _ _ p) (pv 0) (pe_bltn (v := .ty "ValueError") (by rfl) T.n_ValueError (by decide +kernel) rfl) (fun _ h => h) T.xi_Twice_ValueError (by rfl) T.n_isinstance)))))) (dq_ret (DN.de (dn_lst da_nil)))
      (dq_ret (DN.de (dn_comp rfl sc_kinds.nd (di_range1 (by rfl) T.n_range de_int) (own := [("_law_k", 2)]) (blkOk_by (own := [("_law_k", 2)]) (N := N_kinds) (sc := defScope s_kinds) (by decide +kernel)) (is := [2]) (fun _ _ _ _ _ => (dg_name (pg_name (i := 2) sc_kinds.nd rfl (by first | exact Or.inl rfl | exact Or.inr rfl)))) (fun _ _ _ _ _ => (dts_one (dt_val (de_ix (ix_any (hu1 hr)) say_ix (de_var (pv 1)) (de_var (pv 2)) (fun _ _ => rfl))))) (fun _ _ _ _ _ => (de_var (pv 2))) (by decide)))) (fun _ => rfl))))))
theorem ok_kinds_NoName (T : Tx K mg) : FnOk P w K mg base (L2N.CX P w) 1 T.f_kinds T.d_kinds ["_law_error"] (spE T.xC_NoName (.lst [.int 7])) :=
  def_okE (N := N_kinds) (F := (sSeq (sAsg [] 1 (vLst (aCons (vC (.bl false)) (aCons (vC (.bl false)) (aCons (vC (.bl false)) aNil)))))
  (sSeq (sAsg [] 1 (v2 g_add (vVar 1) (vLst (aCons (vC (.bl false)) (aCons (vC (.bl false)) (aCons (vC (.bl false)) aNil))))))
  (sSeq (sAsg [] 1 (v2 g_add (vVar 1) (vLst (aCons (vC (.bl false)) (aCons (vC (.bl true)) (aCons (vC (.bl false)) aNil))))))
  (sSeq (sAsg [] 1 (v2 g_add (vVar 1) (vLst (aCons (vC (.bl false)) (aCons (vC (.bl false)) aNil)))))
  (sRet (vLstOf (nComp (iRange1 (vC (.int 11))) [2] kName (vB (v2 g_ix (vVar 1) (vVar 2))) (vVar 2) [2])))))))) T.F_kinds sc_kinds (by rfl) fun cdv A outer s H E a hr =>
      (dq_asg (j := 1) gro_ex (by decide) sc_kinds.nd rfl (.inr rfl) (deq_lst (daq_cons gro_ex (deq_is (call_isX T.xx_NoName) (fun _ _ s p => s _ _ p) (pv 0) (pe_glob (v := .ref T.xC_NoStep) (by rfl) T.xh_NoStep rfl) (fun _ h => h) T.xi_NoName_NoStep (by rfl) T.n_isinstance) (daq_cons gro_ex (deq_is (call_isX T.xx_NoName) (fun _ _ s p => s _ _ p) (pv 0) (pe_glob (v := .ref T.xC_NotPlain) (by rfl) T.xh_NotPlain rfl) (fun _ h => h) T.xi_NoName_NotPlain (by rfl) T.n_isinstance) (daq_cons gro_ex (deq_is (call_isX T.xx_NoName) (fun _ _ s p => s _ _ p) (pv 0) (pe_glob (v := .ref T.xC_NoWay) (by rfl) T.xh_NoWay rfl) (fun _ h => h) T.xi_NoName_NoWay (by rfl) T.n_isinstance) daq_nil))))
      (dq_asg (j := 1) gro_ex (by decide) sc_kinds.nd rfl (.inr rfl) (deq_op gro_ex op_addAny say_add (deq_of (de_var (pv 1))) (deq_lst (daq_cons gro_ex (deq_is (call_isX T.xx_NoName) (fun _ _ s p => s _ _ p) (pv 0) (pe_glob (v := .ref T.xC_TooLong) (by rfl) T.xh_TooLong rfl) (fun _ h => h) T.xi_NoName_TooLong (by rfl) T.n_isinstance) (daq_cons gro_ex (deq_is (call_isX T.xx_NoName) (fun _ _ s p => s _ _ p) (pv 0) (pe_glob (v := .ref T.xC_Endless) (by rfl) T.xh_Endless rfl) (fun _ h => h) T.xi_NoName_Endless (by rfl) T.n_isinstance) (daq_cons gro_ex (deq_is (call_isX T.xx_NoName) (fun _ _ s p => s _ _ p) (pv 0) (pe_glob (v := .ref T.xC_NoText) (by rfl) T.xh_NoText rfl) (fun _ h => h) T.xi_NoName_NoText (by rfl) T.n_isinstance) daq_nil)))))
      (dq_asg (j := 1) gro_ex (by decide) sc_kinds.nd rfl (.inr rfl) (deq_op gro_ex op_addAny say_add (deq_of (de_var (pv 1))) (deq_lst (daq_cons gro_ex (deq_is (call_isX T.xx_NoName) (fun _ _ s p => s _ _ p) (pv 0) (pe_glob (v := .ref T.xC_Twice) (by rfl) T.xh_Twice rfl) (fun _ h => h) T.xi_NoName_Twice (by rfl) T.n_isinstance) (daq_cons gro_ex (deq_is (call_isX T.xx_NoName) (fun _ _ s p => s _ _ p) (pv 0) (pe_glob (v := .ref T.xC_NoName) (by rfl) T.xh_NoName rfl) (fun _ h => h) T.xi_NoName_NoName (by rfl) T.n_isinstance) (daq_cons gro_ex (deq_is (call_isX T.xx_NoName) (fun _ _ s p => s _ _ p) (pv 0) (pe_glob (v := .ref T.xC_NoValue) (by rfl) T.xh_NoValue rfl) (fun _ h => h) T.xi_NoName_NoValue (by rfl) T.n_isinstance) daq_nil)))))
      (dq_asg (j := 1) gro_ex (by decide) sc_kinds.nd rfl (.inr rfl) (deq_op gro_ex op_addAny say_add (deq_of (de_var (pv 1))) (deq_lst (daq_cons gro_ex (deq_is (call_isX T.xx_NoName) (fun _ _ s p => s _ _ p) (pv 0) (pe_glob (v := .ref T.xC_NoRow) (by rfl) T.xh_NoRow rfl) (fun _ h => h) T.xi_NoName_NoRow (by rfl) T.n_isinstance) (daq_cons gro_ex (deq_is (call_isX T.xx_NoName) (fun _ _ s p => s _ _ p) (pv 0) (pe_glob (v := .ref T.xC_Reached) (by rfl) T.xh_Reached rfl) (fun _ h => h) T.xi_NoName_Reached (by rfl) T.n_isinstance) daq_nil))))
      (dq_if gro_ex (DWq.dt (dwq_or gro_ex (dtq_not (dtq_val (deq_is (call_isX T.xx_NoName) (fun _ _ s p => s _ _ p) (pv 0) (pe_glob (v := .ref T.xC_WalkError) (by rfl) T.xh_WalkError rfl) (fun _ h => h) T.xi_NoName_WalkError (by rfl) T.n_isinstance))) (dwq_or1 (dtq_not (dtq_val (deq_is (call_isX T.xx_NoName) (fun _ _ s p => s _ _ p) (pv 0) (pe_bltn (v := .ty "ValueError") (by rfl) T.n_ValueError (by decide +kernel) rfl) (fun _ h => h) T.xi_NoName_ValueError (by rfl) T.n_isinstance)))))) (dq_ret (DN.de (dn_lst da_nil)))
      (dq_ret (DN.de (dn_comp rfl sc_kinds.nd (di_range1 (by rfl) T.n_range de_int) (own := [("_law_k", 2)]) (blkOk_by (own := [("_law_k", 2)]) (N := N_kinds) (sc := defScope s_kinds) (by decide +kernel)) (is := [2]) (fun _ _ _ _ _ => (dg_name (pg_name (i := 2) sc_kinds.nd rfl (by first | exact Or.inl rfl | exact Or.inr rfl)))) (fun _ _ _ _ _ => (dts_one (dt_val (de_ix (ix_any (hu1 hr)) say_ix (de_var (pv 1)) (de_var (pv 2)) (fun _ _ => rfl))))) (fun _ _ _ _ _ => (de_var (pv 2))) (by decide)))) (fun _ => rfl))))))
theorem ok_kinds_NoValue (T : Tx K mg) : FnOk P w K mg base (L2N.CX P w) 1 T.f_kinds T.d_kinds ["_law_error"] (spE T.xC_NoValue (.lst [.int 8])) :=
  def_okE (N := N_kinds) (F := (sSeq (sAsg [] 1 (vLst (aCons (vC (.bl false)) (aCons (vC (.bl false)) (aCons (vC (.bl false)) aNil)))))
  (sSeq (sAsg [] 1 (v2 g_add (vVar 1) (vLst (aCons (vC (.bl false)) (aCons (vC (.bl false)) (aCons (vC (.bl false)) aNil))))))
  (sSeq (sAsg [] 1 (v2 g_add (vVar 1) (vLst (aCons (vC (.bl false)) (aCons (vC (.bl false)) (aCons (vC (.bl true)) aNil))))))
  (sSeq (sAsg [] 1 (v2 g_add (vVar 1) (vLst (aCons (vC (.bl false)) (aCons (vC (.bl false)) aNil)))))
  (sRet (vLstOf (nComp (iRange1 (vC (.int 11))) [2] kName (vB (v2 g_ix (vVar 1) (vVar 2))) (vVar 2) [2])))))))) T.F_kinds sc_kinds (by rfl) fun cdv A outer s H E a hr =>
      (dq_asg (j := 1) gro_ex (by decide) sc_kinds.nd rfl (.inr rfl) (deq_lst (daq_cons gro_ex (deq_is (call_isX T.xx_NoValue) (fun _ _ s p => s _ _ p) (pv 0) (pe_glob (v := .ref T.xC_NoStep) (by rfl) T.xh_NoStep rfl) (fun _ h => h) T.xi_NoValue_NoStep (by rfl) T.n_isinstance) (daq_cons gro_ex (deq_is (call_isX T.xx_NoValue) (fun _ _ s p => s _ _ p) (pv 0) (pe_glob (v := .ref T.xC_NotPlain) (by rfl) T.xh_NotPlain rfl) (fun _ h => h) T.xi_NoValue_NotPlain (by rfl) T.n_isinstance) (daq_cons gro_ex (deq_is (call_isX T.xx_NoValue) (fun _ _ s p => s _ _ p) (pv 0) (pe_glob (v := .ref T.xC_NoWay) (by rfl) T.xh_NoWay rfl) (fun _ h => h) T.xi_NoValue_NoWay (by rfl) T.n_isinstance) daq_nil))))
      (dq_asg (j := 1) gro_ex (by decide) sc_kinds.nd rfl (.inr rfl) (deq_op gro_ex op_addAny say_add (deq_of (de_var (pv 1))) (deq_lst (daq_cons gro_ex (deq_is (call_isX T.xx_NoValue) (fun _ _ s p => s _ _ p) (pv 0) (pe_glob (v := .ref T.xC_TooLong) (by rfl) T.xh_TooLong rfl) (fun _ h => h) T.xi_NoValue_TooLong (by rfl) T.n_isinstance) (daq_cons gro_ex (deq_is (call_isX T.xx_NoValue) (fun _ _ s p => s _ _ p) (pv 0) (pe_glob (v := .ref T.xC_Endless) (by rfl) T.xh_Endless rfl) (fun _ h => h) T.xi_NoValue_Endless (by rfl) T.n_isinstance) (daq_cons gro_ex (deq_is (call_isX T.xx_NoValue) (fun _ _ s p => s _ _ p) (pv 0) (pe_glob (v := .ref T.xC_NoText) (by rfl) T.xh_NoText rfl) (fun _ h => h) T.xi_NoValue_NoText (by rfl) T.n_isinstance) daq_nil)))))
      (dq_asg (j := 1) gro_ex (by decide) sc_kinds.nd rfl (.inr rfl) (deq_op gro_ex op_addAny say_add (deq_of (de_var (pv 1))) (deq_lst (daq_cons gro_ex (deq_is (call_isX T.xx_NoValue) (fun _ _ s p => s _ _ p) (pv 0) (pe_glob (v := .ref T.xC_Twice) (by rfl) T.xh_Twice rfl) (fun _ h => h) T.xi_NoValue_Twice (by rfl) T.n_isinstance) (daq_cons gro_ex (deq_is (call_isX T.xx_NoValue) (fun _ _ s p => s _ _ p) (pv 0) (pe_glob (v := .ref T.xC_NoName) (by rfl) T.xh_NoName rfl) (fun _ h => h) T.xi_NoValue_NoName (by rfl) T.n_isinstance) (daq_cons gro_ex (deq_is (call_isX T.xx_NoValue) (fun _ _ s p => s _ _ p) (pv 0) (pe_glob (v := .ref T.xC_NoValue) (by rfl) T.xh_NoValue rfl) (fun _ h => h) T.xi_NoValue_NoValue (by rfl) T.n_isinstance) daq_nil)))))
      (dq_asg (j := 1) gro_ex (by decide) sc_kinds.nd rfl (.inr rfl) (deq_op gro_ex op_addAny say_add (deq_of (de_var (pv 1))) (deq_lst (daq_cons gro_ex (deq_is (call_isX T.xx_NoValue) (fun _ _ s p => s _ _ p) (pv 0) (pe_glob (v := .ref T.xC_NoRow) (by rfl) T.xh_NoRow rfl) (fun _ h => h) T.xi_NoValue_NoRow (by rfl) T.n_isinstance) (daq_cons gro_ex (deq_is (call_isX T.xx_NoValue) (fun _ _ s p => s _ _ p) (pv 0) (pe_glob (v := .ref T.xC_Reached) (by rfl) T.xh_Reached rfl) (fun _ h => h) T.xi_NoValue_Reached (by rfl) T.n_isinstance) daq_nil))))
      (dq_if gro_ex (DWq.dt (dwq_or gro_ex (dtq_not (dtq_val (deq_is (call_isX T.xx_NoValue) (fun _ _ s p => s _ _ p) (pv 0) (pe_glob (v := .ref T.xC_WalkError) (by rfl) T.xh_WalkError rfl) (fun _ h => h) T.xi_NoValue_WalkError (by rfl) T.n_isinstance))) (dwq_or1 (dtq_not (dtq_val (deq_is (call_isX T.xx_NoValue) (fun _ _ s p => s _ _ p) (pv 0) (pe_bltn (v := .ty "ValueError") (by rfl) T.n_ValueError (by decide +kernel) rfl) (fun _ h => h) T.xi_NoValue_ValueError (by rfl) T.n_isinstance)))))) (dq_ret (DN.de (dn_lst da_nil)))
      (dq_ret (DN.de (dn_comp rfl sc_kinds.nd (di_range1 (by rfl) T.n_range de_int) (own := [("_law_k", 2)]) (blkOk_by (own := [("_law_k", 2)]) (N := N_kinds) (sc := defScope s_kinds) (by decide +kernel)) (is := [2]) (fun _ _ _ _ _ => (dg_name (pg_name (i := 2) sc_kinds.nd rfl (by first | exact Or.inl rfl | exact Or.inr rfl)))) (fun _ _ _ _ _ => (dts_one (dt_val (de_ix (ix_any (hu1 hr)) say_ix (de_var (pv 1)) (de_var (pv 2)) (fun _ _ => rfl))))) (fun _ _ _ _ _ => (de_var (pv 2))) (by decide)))) (fun _ => rfl))))))
theorem ok_kinds_NoRow (T : Tx K mg) : FnOk P w K mg base (L2N.CX P w) 1 T.f_kinds T.d_kinds ["_law_error"] (spE T.xC_NoRow (.lst [.int 9])) :=
  def_okE (N := N_kinds) (F := (sSeq (sAsg [] 1 (vLst (aCons (vC (.bl false)) (aCons (vC (.bl false)) (aCons (vC (.bl false)) aNil)))))
  (sSeq (sAsg [] 1 (v2 g_add (vVar 1) (vLst (aCons (vC (.bl false)) (aCons (vC (.bl false)) (aCons (vC (.bl false)) aNil))))))
  (sSeq (sAsg [] 1 (v2 g_add (vVar 1) (vLst (aCons (vC (.bl false)) (aCons (vC (.bl false)) (aCons (vC (.bl false)) aNil))))))
  (sSeq (sAsg [] 1 (v2 g_add (vVar 1) (vLst (aCons (vC (.bl true)) (aCons (vC (.bl false)) aNil)))))
  (sRet (vLstOf (nComp (iRange1 (vC (.int 11))) [2] kName (vB (v2 g_ix (vVar 1) (vVar 2))) (vVar 2) [2])))))))) T.F_kinds sc_kinds (by rfl) fun cdv A outer s H E a hr =>
      (dq_asg (j := 1) gro_ex (by decide) sc_kinds.nd rfl (.inr rfl) (deq_lst (daq_cons gro_ex (deq_is (call_isX T.xx_NoRow) (fun _ _ s p => s _ _ p) (pv 0) (pe_glob (v := .ref T.xC_NoStep) (by rfl) T.xh_NoStep rfl) (fun _ h => h) T.xi_NoRow_NoStep (by rfl) T.n_isinstance) (daq_cons gro_ex (deq_is (call_isX T.xx_NoRow) (fun _ _ s p => s _ _ p) (pv 0) (pe_glob (v := .ref T.xC_NotPlain) (by rfl) T.xh_NotPlain rfl) (fun _ h => h) T.xi_NoRow_NotPlain (by rfl) T.n_isinstance) (daq_cons gro_ex (deq_is (call_isX T.xx_NoRow) (fun _ _ s p => s _ _ p) (pv 0) (pe_glob (v := .ref T.xC_NoWay) (by rfl) T.xh_NoWay rfl) (fun _ h => h) T.xi_NoRow_NoWay (by rfl) T.n_isinstance) daq_nil))))
      (dq_asg (j := 1) gro_ex (by decide) sc_kinds.nd rfl (.inr rfl) (deq_op gro_ex op_addAny say_add (deq_of (de_var (pv 1))) (deq_lst (daq_cons gro_ex (deq_is (call_isX T.xx_NoRow) (fun _ _ s p => s _ _ p) (pv 0) (pe_glob (v := .ref T.xC_TooLong) (by rfl) T.xh_TooLong rfl) (fun _ h => h) T.xi_NoRow_TooLong (by rfl) T.n_isinstance) (daq_cons gro_ex (deq_is (call_isX T.xx_NoRow) (fun _ _ s p => s _ _ p) (pv 0) (pe_glob (v := .ref T.xC_Endless) (by rfl) T.xh_Endless rfl) (fun _ h => h) T.xi_NoRow_Endless (by rfl) T.n_isinstance) (daq_cons gro_ex (deq_is (call_isX T.xx_NoRow) (fun _ _ s p => s _ _ p) (pv 0) (pe_glob (v := .ref T.xC_NoText) (by rfl) T.xh_NoText rfl) (fun _ h => h) T.xi_NoRow_NoText (by rfl) T.n_isinstance) daq_nil)))))
      (dq_asg (j := 1) gro_ex (by decide) sc_kinds.nd rfl (.inr rfl) (deq_op gro_ex op_addAny say_add (deq_of (de_var (pv 1))) (deq_lst (daq_cons gro_ex (deq_is (call_isX T.xx_NoRow) (fun _ _ s p => s _ _ p) (pv 0) (pe_glob (v := .ref T.xC_Twice) (by rfl) T.xh_Twice rfl) (fun _ h => h) T.xi_NoRow_Twice (by rfl) T.n_isinstance) (daq_cons gro_ex (deq_is (call_isX T.xx_NoRow) (fun _ _ s p => s _ _ p) (pv 0) (pe_glob (v := .ref T.xC_NoName) (by rfl) T.xh_NoName rfl) (fun _ h => h) T.xi_NoRow_NoName (by rfl) T.n_isinstance) (daq_cons gro_ex (deq_is (call_isX T.xx_NoRow) (fun _ _ s p => s _ _ p) (pv 0) (pe_glob (v := .ref T.xC_NoValue) (by rfl) T.xh_NoValue rfl) (fun _ h => h) T.xi_NoRow_NoValue (by rfl) T.n_isinstance) daq_nil)))))
      (dq_asg (j := 1) gro_ex (by decide) sc_kinds.nd rfl (.inr rfl) (deq_op gro_ex op_addAny say_add (deq_of (de_var (pv 1))) (deq_lst (daq_cons gro_ex (deq_is (call_isX T.xx_NoRow) (fun _ _ s p => s _ _ p) (pv 0) (pe_glob (v := .ref T.xC_NoRow) (by rfl) T.xh_NoRow rfl) (fun _ h => h) T.xi_NoRow_NoRow (by rfl) T.n_isinstance) (daq_cons gro_ex (deq_is (call_isX T.xx_NoRow) (fun _ _ s p => s _ _ p) (pv 0) (pe_glob (v := .ref T.xC_Reached) (by rfl) T.xh_Reached rfl) (fun _ h => h) T.xi_NoRow_Reached (by rfl) T.n_isinstance) daq_nil))))
      (dq_if gro_ex (DWq.dt (dwq_or gro_ex (dtq_not (dtq_val (deq_is (call_isX T.xx_NoRow) (fun _ _ s p => s _ _ p) (pv 0) (pe_glob (v := .ref T.xC_WalkError) (by rfl) T.xh_WalkError rfl) (fun _ h => h) T.xi_NoRow_WalkError (by rfl) T.n_isinstance))) (dwq_or1 (dtq_not (dtq_val (deq_is (call_isX T.xx_NoRow) (fun _ _ s p => s _ _ p) (pv 0) (pe_bltn (v := .ty "ValueError") (by rfl) T.n_ValueError (by decide +kernel) rfl) (fun _ h => h) T.xi_NoRow_ValueError (by rfl) T.n_isinstance)))))) (dq_ret (DN.de (dn_lst da_nil)))
      (dq_ret (DN.de (dn_comp rfl sc_kinds.nd (di_range1 (by rfl) T.n_range de_int) (own := [("_law_k", 2)]) (blkOk_by (own := [("_law_k", 2)]) (N := N_kinds) (sc := defScope s_kinds) (by decide +kernel)) (is := [2]) (fun _ _ _ _ _ => (dg_name (pg_name (i := 2) sc_kinds.nd rfl (by first | exact Or.inl rfl | exact Or.inr rfl)))) (fun _ _ _ _ _ => (dts_one (dt_val (de_ix (ix_any (hu1 hr)) say_ix (de_var (pv 1)) (de_var (pv 2)) (fun _ _ => rfl))))) (fun _ _ _ _ _ => (de_var (pv 2))) (by decide)))) (fun _ => rfl))))))
theorem ok_kinds_Reached (T : Tx K mg) : FnOk P w K mg base (L2N.CX P w) 1 T.f_kinds T.d_kinds ["_law_error"] (spE T.xC_Reached (.lst [.int 10])) :=
  def_okE (N := N_kinds) (F := (sSeq (sAsg [] 1 (vLst (aCons (vC (.bl false)) (aCons (vC (.bl false)) (aCons (vC (.bl false)) aNil)))))
  (sSeq (sAsg [] 1 (v2 g_add (vVar 1) (vLst (aCons (vC (.bl false)) (aCons (vC (.bl false)) (aCons (vC (.bl false)) aNil))))))
  (sSeq (sAsg [] 1 (v2 g_add (vVar 1) (vLst (aCons (vC (.bl false)) (aCons (vC (.bl false)) (aCons (vC (.bl false)) aNil))))))
  (sSeq (sAsg [] 1 (v2 g_add (vVar 1) (vLst (aCons (vC (.bl false)) (aCons (vC (.bl true)) aNil)))))
  (sRet (vLstOf (nComp (iRange1 (vC (.int 11))) [2] kName (vB (v2 g_ix (vVar 1) (vVar 2))) (vVar 2) [2])))))))) T.F_kinds sc_kinds (by rfl) fun cdv A outer s H E a hr =>
      (dq_asg (j := 1) gro_ex (by decide) sc_kinds.nd rfl (.inr rfl) (deq_lst (daq_cons gro_ex (deq_is (call_isX T.xx_Reached) (fun _ _ s p => s _ _ p) (pv 0) (pe_glob (v := .ref T.xC_NoStep) (by rfl) T.xh_NoStep rfl) (fun _ h => h) T.xi_Reached_NoStep (by rfl) T.n_isinstance) (daq_cons gro_ex (deq_is (call_isX T.xx_Reached) (fun _ _ s p => s _ _ p) (pv 0) (pe_glob (v := .ref T.xC_NotPlain) (by rfl) T.xh_NotPlain rfl) (fun _ h => h) T.xi_Reached_NotPlain (by rfl) T.n_isinstance) (daq_cons gro_ex (deq_is (call_isX T.xx_Reached) (fun _ _ s p => s _ _ p) (pv 0) (pe_glob (v := .ref T.xC_NoWay) (by rfl) T.xh_NoWay rfl) (fun _ h => h) T.xi_Reached_NoWay (by rfl) T.n_isinstance) daq_nil))))
      (dq_asg (j := 1) gro_ex (by decide) sc_kinds.nd rfl (.inr rfl) (deq_op gro_ex op_addAny say_add (deq_of (de_var (pv 1))) (deq_lst (daq_cons gro_ex (deq_is (call_isX T.xx_Reached) (fun _ _ s p => s _ _ p) (pv 0) (pe_glob (v := .ref T.xC_TooLong) (by rfl) T.xh_TooLong rfl) (fun _ h => h) T.xi_Reached_TooLong (by rfl) T.n_isinstance) (daq_cons gro_ex (deq_is (call_isX T.xx_Reached) (fun _ _ s p => s _ _ p) (pv 0) (pe_glob (v := .ref T.xC_Endless) (by rfl) T.xh_Endless rfl) (fun _ h => h) T.xi_Reached_Endless (by rfl) T.n_isinstance) (daq_cons gro_ex (deq_is (call_isX T.xx_Reached) (fun _ _ s p => s _ _ p) (pv 0) (pe_glob (v := .ref T.xC_NoText) (by rfl) T.xh_NoText rfl) (fun _ h => h) T.xi_Reached_NoText (by rfl) T.n_isinstance) daq_nil)))))
      (dq_asg (j := 1) gro_ex (by decide) sc_kinds.nd rfl (.inr rfl) (deq_op gro_ex op_addAny say_add (deq_of (de_var (pv 1))) (deq_lst (daq_cons gro_ex (deq_is (call_isX T.xx_Reached) (fun _ _ s p => s _ _ p) (pv 0) (pe_glob (v := .ref T.xC_Twice) (by rfl) T.xh_Twice rfl) (fun _ h => h) T.xi_Reached_Twice (by rfl) T.n_isinstance) (daq_cons gro_ex (deq_is (call_isX T.xx_Reached) (fun _ _ s p => s _ _ p) (pv 0) (pe_glob (v := .ref T.xC_NoName) (by rfl) T.xh_NoName rfl) (fun _ h => h) T.xi_Reached_NoName (by rfl) T.n_isinstance) (daq_cons gro_ex (deq_is (call_isX T.xx_Reached) (fun _ _ s p => s _ _ p) (pv 0) (pe_glob (v := .ref T.xC_NoValue) (by rfl) T.xh_NoValue rfl) (fun _ h => h) T.xi_Reached_NoValue (by rfl) T.n_isinstance) daq_nil)))))
      (dq_asg (j := 1) gro_ex (by decide) sc_kinds.nd rfl (.inr rfl) (deq_op gro_ex op_addAny say_add (deq_of (de_var (pv 1))) (deq_lst (daq_cons gro_ex (deq_is (call_isX T.xx_Reached) (fun _ _ s p => s _ _ p) (pv 0) (pe_glob (v := .ref T.xC_NoRow) (by rfl) T.xh_NoRow rfl) (fun _ h => h) T.xi_Reached_NoRow (by rfl) T.n_isinstance) (daq_cons gro_ex (deq_is (call_isX T.xx_Reached) (fun _ _ s p => s _ _ p) (pv 0) (pe_glob (v := .ref T.xC_Reached) (by rfl) T.xh_Reached rfl) (fun _ h => h) T.xi_Reached_Reached (by rfl) T.n_isinstance) daq_nil))))
      (dq_if gro_ex (DWq.dt (dwq_or gro_ex (dtq_not (dtq_val (deq_is (call_isX T.xx_Reached) (fun _ _ s p => s _ _ p) (pv 0) (pe_glob (v := .ref T.xC_WalkError) (by rfl) T.xh_WalkError rfl) (fun _ h => h) T.xi_Reached_WalkError (by rfl) T.n_isinstance))) (dwq_or1 (dtq_not (dtq_val (deq_is (call_isX T.xx_Reached) (fun _ _ s p => s _ _ p) (pv 0) (pe_bltn (v := .ty "ValueError") (by rfl) T.n_ValueError (by decide +kernel) rfl) (fun _ h => h) T.xi_Reached_ValueError (by rfl) T.n_isinstance)))))) (dq_ret (DN.de (dn_lst da_nil)))
      (dq_ret (DN.de (dn_comp rfl sc_kinds.nd (di_range1 (by rfl) T.n_range de_int) (own := [("_law_k", 2)]) (blkOk_by (own := [("_law_k", 2)]) (N := N_kinds) (sc := defScope s_kinds) (by decide +kernel)) (is := [2]) (fun _ _ _ _ _ => (dg_name (pg_name (i := 2) sc_kinds.nd rfl (by first | exact Or.inl rfl | exact Or.inr rfl)))) (fun _ _ _ _ _ => (dts_one (dt_val (de_ix (ix_any (hu1 hr)) say_ix (de_var (pv 1)) (de_var (pv 2)) (fun _ _ => rfl))))) (fun _ _ _ _ _ => (de_var (pv 2))) (by decide)))) (fun _ => rfl))))))
theorem okQ_kinds_NoStep (T : Tx K mg) : FnQ P w K mg base 1 T.f_kinds T.d_kinds "_law_error" T.xC_NoStep (.lst [.int 0]) :=
  def_okQ (N := N_kinds) (F := (sSeq (sAsg [] 1 (vLst (aCons (vC (.bl true)) (aCons (vC (.bl false)) (aCons (vC (.bl false)) aNil)))))
  (sSeq (sAsg [] 1 (v2 g_add (vVar 1) (vLst (aCons (vC (.bl false)) (aCons (vC (.bl false)) (aCons (vC (.bl false)) aNil))))))
  (sSeq (sAsg [] 1 (v2 g_add (vVar 1) (vLst (aCons (vC (.bl false)) (aCons (vC (.bl false)) (aCons (vC (.bl false)) aNil))))))
  (sSeq (sAsg [] 1 (v2 g_add (vVar 1) (vLst (aCons (vC (.bl false)) (aCons (vC (.bl false)) aNil)))))
  (sRet (vLstOf (nComp (iRange1 (vC (.int 11))) [2] kName (vB (v2 g_ix (vVar 1) (vVar 2))) (vVar 2) [2])))))))) T.F_kinds sc_kinds (by rfl) fun cdv A outer s H E a oe z v hot hr =>
      (dq_asg (j := 1) gro_true (by decide) sc_kinds.nd rfl (.inr rfl) (deq_lst (daq_cons gro_true (deq_is (call_isP T.xx_NoStep (.head _) z v) (fun _ _ _ _ => trivial) (pv 0) (pe_glob (v := .ref T.xC_NoStep) (by rfl) T.xh_NoStep rfl) (fun _ h => h) T.xi_NoStep_NoStep (by rfl) T.n_isinstance) (daq_cons gro_true (deq_is (call_isP T.xx_NoStep (.head _) z v) (fun _ _ _ _ => trivial) (pv 0) (pe_glob (v := .ref T.xC_NotPlain) (by rfl) T.xh_NotPlain rfl) (fun _ h => h) T.xi_NoStep_NotPlain (by rfl) T.n_isinstance) (daq_cons gro_true (deq_is (call_isP T.xx_NoStep (.head _) z v) (fun _ _ _ _ => trivial) (pv 0) (pe_glob (v := .ref T.xC_NoWay) (by rfl) T.xh_NoWay rfl) (fun _ h => h) T.xi_NoStep_NoWay (by rfl) T.n_isinstance) daq_nil))))
      (dq_asg (j := 1) gro_true (by decide) sc_kinds.nd rfl (.inr rfl) (deq_op gro_true op_addAny say_add (deq_of (de_var (pv 1))) (deq_lst (daq_cons gro_true (deq_is (call_isP T.xx_NoStep (.head _) z v) (fun _ _ _ _ => trivial) (pv 0) (pe_glob (v := .ref T.xC_TooLong) (by rfl) T.xh_TooLong rfl) (fun _ h => h) T.xi_NoStep_TooLong (by rfl) T.n_isinstance) (daq_cons gro_true (deq_is (call_isP T.xx_NoStep (.head _) z v) (fun _ _ _ _ => trivial) (pv 0) (pe_glob (v := .ref T.xC_Endless) (by rfl) T.xh_Endless rfl) (fun _ h => h) T.xi_NoStep_Endless (by rfl) T.n_isinstance) (daq_cons gro_true (deq_is (call_isP T.xx_NoStep (.head _) z v) (fun _ _ _ _ => trivial) (pv 0) (pe_glob (v := .ref T.xC_NoText) (by rfl) T.xh_NoText rfl) (fun _ h => h) T.xi_NoStep_NoText (by rfl) T.n_isinstance) daq_nil)))))
      (dq_asg (j := 1) gro_true (by decide) sc_kinds.nd rfl (.inr rfl) (deq_op gro_true op_addAny say_add (deq_of (de_var (pv 1))) (deq_lst (daq_cons gro_true (deq_is (call_isP T.xx_NoStep (.head _) z v) (fun _ _ _ _ => trivial) (pv 0) (pe_glob (v := .ref T.xC_Twice) (by rfl) T.xh_Twice rfl) (fun _ h => h) T.xi_NoStep_Twice (by rfl) T.n_isinstance) (daq_cons gro_true (deq_is (call_isP T.xx_NoStep (.head _) z v) (fun _ _ _ _ => trivial) (pv 0) (pe_glob (v := .ref T.xC_NoName) (by rfl) T.xh_NoName rfl) (fun _ h => h) T.xi_NoStep_NoName (by rfl) T.n_isinstance) (daq_cons gro_true (deq_is (call_isP T.xx_NoStep (.head _) z v) (fun _ _ _ _ => trivial) (pv 0) (pe_glob (v := .ref T.xC_NoValue) (by rfl) T.xh_NoValue rfl) (fun _ h => h) T.xi_NoStep_NoValue (by rfl) T.n_isinstance) daq_nil)))))
      (dq_asg (j := 1) gro_true (by decide) sc_kinds.nd rfl (.inr rfl) (deq_op gro_true op_addAny say_add (deq_of (de_var (pv 1))) (deq_lst (daq_cons gro_true (deq_is (call_isP T.xx_NoStep (.head _) z v) (fun _ _ _ _ => trivial) (pv 0) (pe_glob (v := .ref T.xC_NoRow) (by rfl) T.xh_NoRow rfl) (fun _ h => h) T.xi_NoStep_NoRow (by rfl) T.n_isinstance) (daq_cons gro_true (deq_is (call_isP T.xx_NoStep (.head _) z v) (fun _ _ _ _ => trivial) (pv 0) (pe_glob (v := .ref T.xC_Reached) (by rfl) T.xh_Reached rfl) (fun _ h => h) T.xi_NoStep_Reached (by rfl) T.n_isinstance) daq_nil))))
      (dq_if gro_true (DWq.dt (dwq_or gro_true (dtq_not (dtq_val (deq_is (call_isP T.xx_NoStep (.head _) z v) (fun _ _ _ _ => trivial) (pv 0) (pe_glob (v := .ref T.xC_WalkError) (by rfl) T.xh_WalkError rfl) (fun _ h => h) T.xi_NoStep_WalkError (by rfl) T.n_isinstance))) (dwq_or1 (dtq_not (dtq_val (deq_is (call_isP T.xx_NoStep (.head _) z v) (fun _ _ _ _ => trivial) (pv 0) (pe_bltn (v := .ty "ValueError") (by rfl) T.n_ValueError (by decide +kernel) rfl) (fun _ h => h) T.xi_NoStep_ValueError (by rfl) T.n_isinstance)))))) (dq_ret (DN.de (dn_lst da_nil)))
      (dq_ret (DN.de (dn_compH hot sc_kinds.nd (di_range1H (by rfl) T.n_range de_int) (own := [("_law_k", 2)]) (blkOk_by (own := [("_law_k", 2)]) (N := N_kinds) (sc := defScope s_kinds) (by decide +kernel)) (is := [2]) (fun _ _ _ _ _ => (dg_name (pg_name (i := 2) sc_kinds.nd rfl (by first | exact Or.inl rfl | exact Or.inr rfl)))) (fun _ _ _ _ _ => (dts_one (dt_val (de_ix (ix_any (hu1Q hr)) say_ix (de_var (pv 1)) (de_var (pv 2)) (fun _ _ => rfl))))) (fun _ _ _ _ _ => (de_var (pv 2))) (by decide)))) (fun _ => rfl))))))
theorem ok_apart (T : Tx K mg) : FnOk P w K mg base (L2N.CX P w) 2 T.f_apart T.d_apart [] (spK mg none 0 m_apart) :=
  def_okN (N := N_apart) (F := (sSeq (sAsg [] 0 (vLstOf (nLst (aCons (vC (.lst [.int 0])) (aCons (vC (.lst [.int 1])) (aCons (vC (.lst [.int 2])) (aCons (vC (.lst [.int 3])) aNil)))))))
  (sSeq (sAsg [] 0 (v2 g_add (vVar 0) (vLstOf (nLst (aCons (vC (.lst [.int 4])) (aCons (vC (.lst [.int 5])) (aCons (vC (.lst [.int 6])) aNil)))))))
  (sSeq (sAsg [] 0 (v2 g_add (vVar 0) (vLstOf (nLst (aCons (vC (.lst [.int 7])) (aCons (vC (.lst [.int 8])) (aCons (vC (.lst [.int 9])) aNil)))))))
  (sSeq (sAsg [] 0 (v2 g_add (vVar 0) (vLstOf (nLst (aCons (vC (.lst [.int 10])) aNil)))))
  (sRet (v2 g_eq (vVar 0) (vLstOf (nComp (iRange1 (vC (.int 11))) [1] kName tTrue (vLstOf (nLst (aCons (vVar 1) aNil))) [1]))))))))) T.F_apart sc_apart (own' := []) (.inl rfl) fun cdv A outer s H E hr tk hp =>
      (dss_cons (own1 := []) (ds_asg (j := 0) (ae_set (j := 0) sc_apart.nd rfl (.inl rfl) (DN.de (dn_lst (da_cons (de_callE (ok_kinds_NoStep T) tk (hr.mono (by decide)) (by rfl) T.g_kinds T.F_kinds.kp T.b_kinds PySem.F.excBase_ValueError T.xq_NoStep T.xh_NoStep T.xk_NoStep (by rfl)) (da_cons (de_callE (ok_kinds_NotPlain T) tk (hr.mono (by decide)) (by rfl) T.g_kinds T.F_kinds.kp T.b_kinds PySem.F.excBase_ValueError T.xq_NotPlain T.xh_NotPlain T.xk_NotPlain (by rfl)) (da_cons (de_callE (ok_kinds_NoWay T) tk (hr.mono (by decide)) (by rfl) T.g_kinds T.F_kinds.kp T.b_kinds PySem.F.excBase_ValueError T.xq_NoWay T.xh_NoWay T.xk_NoWay (by rfl)) (da_cons (de_callE (ok_kinds_TooLong T) tk (hr.mono (by decide)) (by rfl) T.g_kinds T.F_kinds.kp T.b_kinds PySem.F.excBase_ValueError T.xq_TooLong T.xh_TooLong T.xk_TooLong (by rfl)) da_nil))))))))
      (dss_cons (own1 := []) (ds_asg (j := 0) (ae_set (j := 0) sc_apart.nd rfl (.inl rfl) (de_op op_addAny say_add (de_var (pv 0)) (DN.de (dn_lst (da_cons (de_callE (ok_kinds_Endless T) tk (hr.mono (by decide)) (by rfl) T.g_kinds T.F_kinds.kp T.b_kinds PySem.F.excBase_ValueError T.xq_Endless T.xh_Endless T.xk_Endless (by rfl)) (da_cons (de_callE (ok_kinds_NoText T) tk (hr.mono (by decide)) (by rfl) T.g_kinds T.F_kinds.kp T.b_kinds PySem.F.excBase_ValueError T.xq_NoText T.xh_NoText T.xk_NoText (by rfl)) (da_cons (de_callE (ok_kinds_Twice T) tk (hr.mono (by decide)) (by rfl) T.g_kinds T.F_kinds.kp T.b_kinds PySem.F.excBase_ValueError T.xq_Twice T.xh_Twice T.xk_Twice (by rfl)) da_nil))))))))
      (dss_cons (own1 := []) (ds_asg (j := 0) (ae_set (j := 0) sc_apart.nd rfl (.inl rfl) (de_op op_addAny say_add (de_var (pv 0)) (DN.de (dn_lst (da_cons (de_callE (ok_kinds_NoName T) tk (hr.mono (by decide)) (by rfl) T.g_kinds T.F_kinds.kp T.b_kinds PySem.F.excBase_ValueError T.xq_NoName T.xh_NoName T.xk_NoName (by rfl)) (da_cons (de_callE (ok_kinds_NoValue T) tk (hr.mono (by decide)) (by rfl) T.g_kinds T.F_kinds.kp T.b_kinds PySem.F.excBase_ValueError T.xq_NoValue T.xh_NoValue T.xk_NoValue (by rfl)) (da_cons (de_callE (ok_kinds_NoRow T) tk (hr.mono (by decide)) (by rfl) T.g_kinds T.F_kinds.kp T.b_kinds PySem.F.excBase_ValueError T.xq_NoRow T.xh_NoRow T.xk_NoRow (by rfl)) da_nil))))))))
      (dss_cons (own1 := []) (ds_asg (j := 0) (ae_set (j := 0) sc_apart.nd rfl (.inl rfl) (de_op op_addAny say_add (de_var (pv 0)) (DN.de (dn_lst (da_cons (de_callE (ok_kinds_Reached T) tk (hr.mono (by decide)) (by rfl) T.g_kinds T.F_kinds.kp T.b_kinds PySem.F.excBase_ValueError T.xq_Reached T.xh_Reached T.xk_Reached (by rfl)) da_nil))))))
      (dss_one (ds_ret rfl (de_cmp (op_eqD (hu64 hr)) say_eq (de_var (pv 0)) (DN.de (dn_comp rfl sc_apart.nd (di_range1 (by rfl) T.n_range de_int) (own := [("_law_k", 1)]) (blkOk_by (own := [("_law_k", 1)]) (N := N_apart) (sc := defScope s_apart) (by decide +kernel)) (is := [1]) (fun _ _ _ _ _ => (dg_name (pg_name (i := 1) sc_apart.nd rfl (by first | exact Or.inl rfl | exact Or.inr rfl)))) (fun _ _ _ _ _ => dts_nil) (fun _ _ _ _ _ => (DN.de (dn_lst (da_cons (de_var (pv 1)) da_nil)))) (by decide))) (nomark _))))))))
theorem ok_law (T : Tx K mg) : FnOk P w K mg base (L2N.CX P w) 3 T.f_law T.d_law ["_law_script"] (spK mg none 1 m_law) :=
  def_okN (N := N_law) (F := (sSeq (sIf (tNotD (vB (vCall0 m_apart)))
  (sRet (vC (.bl false)))
  sNext)
  (sSeq (sAsg [] 1 (v2 g_add (vC (.int 1)) (v2 g_mod (vCallN 2 G1.m_cell_at (aCons (vVar 0) (aCons (vC (.int 0)) aNil))) (vC (.int 3)))))
  (sSeq (sAsg [] 2 (vLstOf (nComp (iRange1 (v2 g_mod (vCallN 2 G1.m_cell_at (aCons (vVar 0) (aCons (vC (.int 1)) aNil))) (vC (.int 5)))) [8] kName tTrue (v2 g_mod (v2 g_fdiv (vCallN 2 G1.m_cell_at (aCons (vVar 0) (aCons (vC (.int 1)) aNil))) (v2 g_add (vVar 8) (vC (.int 1)))) (vC (.int 3))) [8])))
  (sSeq (sAsg [] 3 (vLstOf (nComp (iSeq (vSl (vVar 0) oNone (oSome (vC (.int 60))))) [9] kName tTrue (v2 g_sub (v2 g_mod (vVar 9) (vC (.int 13))) (vC (.int 6))) [9])))
  (sSeq (sAsg [] 4 (v2 g_sub (vVar 1) (vC (.int 1))))
  (sSeq (sAsg [] 5 (vLstOf (nLst aNil)))
  (sSeq (sAsg [] 6 (vC .non))
  (sSeq (sTryAs 7 (sAsg [] 6 (vCallN 3 m_ran (aCons (vTup (aCons (vVar 1) (aCons (vC (.int 3)) (aCons (vLstOf (nLst aNil)) aNil)))) (aCons (vTup (aCons (vVar 4) (aCons (vLstOf (nList (vVar 2))) aNil))) (aCons (vVar 3) aNil)))))
  [("NoStep", (sAsg [] 5 (vC (.lst [.int 0]))))])
  (sSeq (sIf (vB (v2 g_ne (vVar 3) (vLstOf (nLst aNil))))
  (sRet (v2 g_eq (vVar 5) (vLstOf (nLst (aCons (vC (.int 0)) aNil)))))
  sNext)
  (sRet (vAnd (v2 g_eq (vVar 5) (vLstOf (nLst aNil))) (v2 g_eq (vVar 6) (vTup (aCons (vVar 4) (aCons (vVar 2) aNil)))))))))))))))) T.F_law sc_law (own' := []) (.inl rfl) fun cdv A outer s H E hr tk hp =>
      (dss_cons (own1 := []) (ds_if (dt_not (dt_val (de_call0N (ok_apart T) tk (hr.mono (by decide)) (by rfl) T.g_apart T.F_apart.kp T.b_apart)))
      (dss_one (ds_ret rfl de_bl))
      dss_nil)
      (dss_cons (own1 := []) (ds_asg (j := 1) (ae_set (j := 1) sc_law.nd rfl (.inl rfl) (de_op op_addAny say_add de_int (de_op op_mod say_mod (de_callN (ok_cell_at T) tk (hr.mono (by decide)) (by rfl) T.g_cell_at T.F_cell_at.kp T.b_cell_at (da_cons (de_var (pv 0)) (da_cons de_int da_nil))) de_int))))
      (dss_cons (own1 := []) (ds_asg (j := 2) (AN.ae (an_comp (i := 2) rfl sc_law.nd rfl rfl (sw_true rfl rfl rfl (by decide +kernel)) (di_range1 (by rfl) T.n_range (de_op op_mod say_mod (de_callN (ok_cell_at T) tk (hr.mono (by decide)) (by rfl) T.g_cell_at T.F_cell_at.kp T.b_cell_at (da_cons (de_var (pv 0)) (da_cons de_int da_nil))) de_int)) (own := [("_law_k", 8)]) (blkOk_by (own := [("_law_k", 8)]) (N := N_law) (sc := defScope s_law) (by decide +kernel)) (is := [8]) (fun _ _ _ _ _ => (dg_name (pg_name (i := 8) sc_law.nd rfl (by first | exact Or.inl rfl | exact Or.inr rfl)))) (fun _ _ _ _ _ => dts_nil) (fun _ _ _ _ _ => (de_op op_mod say_mod (de_op op_fdivW say_fdiv (de_callN (ok_cell_at T) takes0N (hr.mono (by decide)) (by rfl) T.g_cell_at T.F_cell_at.kp T.b_cell_at (da_cons (de_var (pv 0)) (da_cons de_int da_nil))) (de_op op_addAny say_add (de_var (pv 8)) de_int)) de_int)) (by decide))))
      (dss_cons (own1 := []) (ds_asg (j := 3) (AN.ae (an_comp (i := 3) rfl sc_law.nd rfl rfl (sw_true rfl rfl rfl (by decide +kernel)) (di_seq (de_sl (de_var (pv 0)) do_none (do_some de_int))) (own := [("_law_cell", 9)]) (blkOk_by (own := [("_law_cell", 9)]) (N := N_law) (sc := defScope s_law) (by decide +kernel)) (is := [9]) (fun _ _ _ _ _ => (dg_name (pg_name (i := 9) sc_law.nd rfl (by first | exact Or.inl rfl | exact Or.inr rfl)))) (fun _ _ _ _ _ => dts_nil) (fun _ _ _ _ _ => (de_op op_sub say_sub (de_op op_mod say_mod (de_var (pv 9)) de_int) de_int)) (by decide))))
      (dss_cons (own1 := []) (ds_asg (j := 4) (ae_set (j := 4) sc_law.nd rfl (.inl rfl) (de_op op_sub say_sub (de_var (pv 1)) de_int)))
      (dss_cons (own1 := []) (ds_asg (j := 5) (ae_set (j := 5) sc_law.nd rfl (.inl rfl) (DN.de (dn_lst da_nil))))
      (dss_cons (own1 := []) (ds_asg (j := 6) (ae_set (j := 6) sc_law.nd rfl (.inl rfl) de_non))
      (dss_cons (own1 := []) (ds_tryAsN (i := 7) (c0 := "NoStep") (hv := .ref T.xC_WalkError) rfl rfl sc_law.nd rfl rfl ⟨by rfl, by decide, .inl T.xh_WalkError⟩ tk rfl T.xh_NoStep T.xe_NoStep_WalkError (fun W pn xe tk hp => (dss_one (ds_asg (j := 6) (ae_set (j := 6) sc_law.nd rfl (.inl rfl) (de_callN (ok_ran T) tk (hr.mono (by decide)) (by rfl) T.g_ran T.F_ran.kp T.b_ran (da_cons (de_tup (da_cons (de_var (pv 1)) (da_cons de_int (da_cons (DN.de (dn_lst da_nil)) da_nil)))) (da_cons (de_tup (da_cons (de_var (pv 4)) (da_cons (DN.de (dn_list (by rfl) T.n_list (de_var (pv 2)))) da_nil))) (da_cons (de_var (pv 3)) da_nil))))))))
      (fun a oe pn z v => dsp_asg (j := 5) sc_law.nd rfl (.inl rfl) (dep_callQ (okQ_kinds_NoStep T) (hr.mono (by decide)) z v (pv 7) (by rfl) T.g_kinds T.F_kinds.kp T.b_kinds) rfl rfl)
      (fun ρ => nx_asg _ _ _ ρ))
      (dss_cons (own1 := []) (ds_if (dt_cmp (op_neD (hu64 hr)) say_ne (de_var (pv 3)) (DN.de (dn_lst da_nil)) (nomark _))
      (dss_one (ds_ret rfl (de_cmp (op_eqD (hu64 hr)) say_eq (de_var (pv 5)) (DN.de (dn_lst (da_cons de_int da_nil))) (nomark _))))
      dss_nil)
      (dss_one (ds_ret rfl (de_and (de_cmp (op_eqD (hu64 hr)) say_eq (de_var (pv 5)) (DN.de (dn_lst da_nil)) (nomark _)) (de_one (de_cmp (op_eqD (hu64 hr)) say_eq (de_var (pv 6)) (de_tup (da_cons (de_var (pv 4)) (da_cons (de_var (pv 2)) da_nil))) (nomark _)))))))))))))))
end
end K05

namespace K05
open PySem PySem.Spec PyProof.Rows L2 DL
theorem all_mk {l : PySem.W.OpenLaw} {w : World} {K : PySem.W.Frag} {h : Heap} {mg : Str → Option Value} {fa : Addr} (X : K.In h) (G : h.Ns mainGlobals mg) (hfa : mg "law" = some (.ref fa))
    {f0 : Addr} {od0 an0 : Option Addr} {sl0 : Array (Option Value)} {oc0 kV0 dc0 pm0 cd0 ct0 : Value}
    (a0 : PySem.W.nsIn K mainGlobals "stepped" = some (some (.ref f0))) (l0 : K.lookup f0 = some ⟨oc0, od0, .func (PySem.W.fnOf "stepped" "stepped" (defArgs s_stepped) (defBody s_stepped) (defScope s_stepped) .none kV0 dc0 pm0 an0 cd0 ct0), sl0⟩) (c0 : PySem.W.codeIn K cd0 "stepped" = true) (k0 : PySem.W.keepIn K (.ref f0) = true)
    {f1 : Addr} {od1 an1 : Option Addr} {sl1 : Array (Option Value)} {oc1 kV1 dc1 pm1 cd1 ct1 : Value}
    (a1 : PySem.W.nsIn K mainGlobals "ran" = some (some (.ref f1))) (l1 : K.lookup f1 = some ⟨oc1, od1, .func (PySem.W.fnOf "ran" "ran" (defArgs s_ran) (defBody s_ran) (defScope s_ran) .none kV1 dc1 pm1 an1 cd1 ct1), sl1⟩) (c1 : PySem.W.codeIn K cd1 "ran" = true) (k1 : PySem.W.keepIn K (.ref f1) = true)
    {f2 : Addr} {od2 an2 : Option Addr} {sl2 : Array (Option Value)} {oc2 kV2 dc2 pm2 cd2 ct2 : Value}
    (a2 : PySem.W.nsIn K mainGlobals "_law_cell_at" = some (some (.ref f2))) (l2 : K.lookup f2 = some ⟨oc2, od2, .func (PySem.W.fnOf "_law_cell_at" "_law_cell_at" (defArgs s_cell_at) (defBody s_cell_at) (defScope s_cell_at) .none kV2 dc2 pm2 an2 cd2 ct2), sl2⟩) (c2 : PySem.W.codeIn K cd2 "_law_cell_at" = true) (k2 : PySem.W.keepIn K (.ref f2) = true)
    {f3 : Addr} {od3 an3 : Option Addr} {sl3 : Array (Option Value)} {oc3 kV3 dc3 pm3 cd3 ct3 : Value}
    (a3 : PySem.W.nsIn K mainGlobals "_law_kinds" = some (some (.ref f3))) (l3 : K.lookup f3 = some ⟨oc3, od3, .func (PySem.W.fnOf "_law_kinds" "_law_kinds" (defArgs s_kinds) (defBody s_kinds) (defScope s_kinds) .none kV3 dc3 pm3 an3 cd3 ct3), sl3⟩) (c3 : PySem.W.codeIn K cd3 "_law_kinds" = true) (k3 : PySem.W.keepIn K (.ref f3) = true)
    {f4 : Addr} {od4 an4 : Option Addr} {sl4 : Array (Option Value)} {oc4 kV4 dc4 pm4 cd4 ct4 : Value}
    (a4 : PySem.W.nsIn K mainGlobals "_law_apart" = some (some (.ref f4))) (l4 : K.lookup f4 = some ⟨oc4, od4, .func (PySem.W.fnOf "_law_apart" "_law_apart" (defArgs s_apart) (defBody s_apart) (defScope s_apart) .none kV4 dc4 pm4 an4 cd4 ct4), sl4⟩) (c4 : PySem.W.codeIn K cd4 "_law_apart" = true) (k4 : PySem.W.keepIn K (.ref f4) = true)
    {f5 : Addr} {od5 an5 : Option Addr} {sl5 : Array (Option Value)} {oc5 kV5 dc5 pm5 cd5 ct5 : Value}
    (a5 : PySem.W.nsIn K mainGlobals "law" = some (some (.ref f5))) (l5 : K.lookup f5 = some ⟨oc5, od5, .func (PySem.W.fnOf "law" "law" (defArgs s_law) (defBody s_law) (defScope s_law) .none kV5 dc5 pm5 an5 cd5 ct5), sl5⟩) (c5 : PySem.W.codeIn K cd5 "law" = true) (k5 : PySem.W.keepIn K (.ref f5) = true)
    (z_ValueError : PySem.W.nsIn K mainGlobals "ValueError" = some none)
    (z_isinstance : PySem.W.nsIn K mainGlobals "isinstance" = some none)
    (z_len : PySem.W.nsIn K mainGlobals "len" = some none)
    (z_list : PySem.W.nsIn K mainGlobals "list" = some none)
    (z_range : PySem.W.nsIn K mainGlobals "range" = some none)
    {xC_Endless : Addr} (xa_Endless : PySem.W.nsIn K mainGlobals "Endless" = some (some (.ref xC_Endless))) (xq_Endless : PySem.W.excIn K xC_Endless [.type "ValueError", .type "Exception", .type "BaseException", .type "object"] "ValueError.__new__" = true) (xk_Endless : PySem.W.keepIn K (.ref xC_Endless) = true) (xb_Endless : PySem.W.subIn K (.ref xC_Endless) (.type "BaseException") = some true) (xt_Endless : PySem.W.typeIn K (.ref xC_Endless) = some (.type "type"))
    {xC_NoName : Addr} (xa_NoName : PySem.W.nsIn K mainGlobals "NoName" = some (some (.ref xC_NoName))) (xq_NoName : PySem.W.excIn K xC_NoName [.type "ValueError", .type "Exception", .type "BaseException", .type "object"] "ValueError.__new__" = true) (xk_NoName : PySem.W.keepIn K (.ref xC_NoName) = true) (xb_NoName : PySem.W.subIn K (.ref xC_NoName) (.type "BaseException") = some true) (xt_NoName : PySem.W.typeIn K (.ref xC_NoName) = some (.type "type"))
    {xC_NoRow : Addr} (xa_NoRow : PySem.W.nsIn K mainGlobals "NoRow" = some (some (.ref xC_NoRow))) (xq_NoRow : PySem.W.excIn K xC_NoRow [.type "ValueError", .type "Exception", .type "BaseException", .type "object"] "ValueError.__new__" = true) (xk_NoRow : PySem.W.keepIn K (.ref xC_NoRow) = true) (xb_NoRow : PySem.W.subIn K (.ref xC_NoRow) (.type "BaseException") = some true) (xt_NoRow : PySem.W.typeIn K (.ref xC_NoRow) = some (.type "type"))
    {xC_NoStep : Addr} (xa_NoStep : PySem.W.nsIn K mainGlobals "NoStep" = some (some (.ref xC_NoStep))) (xq_NoStep : PySem.W.excIn K xC_NoStep [.type "ValueError", .type "Exception", .type "BaseException", .type "object"] "ValueError.__new__" = true) (xk_NoStep : PySem.W.keepIn K (.ref xC_NoStep) = true) (xb_NoStep : PySem.W.subIn K (.ref xC_NoStep) (.type "BaseException") = some true) (xt_NoStep : PySem.W.typeIn K (.ref xC_NoStep) = some (.type "type"))
    {xC_NoText : Addr} (xa_NoText : PySem.W.nsIn K mainGlobals "NoText" = some (some (.ref xC_NoText))) (xq_NoText : PySem.W.excIn K xC_NoText [.type "ValueError", .type "Exception", .type "BaseException", .type "object"] "ValueError.__new__" = true) (xk_NoText : PySem.W.keepIn K (.ref xC_NoText) = true) (xb_NoText : PySem.W.subIn K (.ref xC_NoText) (.type "BaseException") = some true) (xt_NoText : PySem.W.typeIn K (.ref xC_NoText) = some (.type "type"))
    {xC_NoValue : Addr} (xa_NoValue : PySem.W.nsIn K mainGlobals "NoValue" = some (some (.ref xC_NoValue))) (xq_NoValue : PySem.W.excIn K xC_NoValue [.type "ValueError", .type "Exception", .type "BaseException", .type "object"] "ValueError.__new__" = true) (xk_NoValue : PySem.W.keepIn K (.ref xC_NoValue) = true) (xb_NoValue : PySem.W.subIn K (.ref xC_NoValue) (.type "BaseException") = some true) (xt_NoValue : PySem.W.typeIn K (.ref xC_NoValue) = some (.type "type"))
    {xC_NoWay : Addr} (xa_NoWay : PySem.W.nsIn K mainGlobals "NoWay" = some (some (.ref xC_NoWay))) (xq_NoWay : PySem.W.excIn K xC_NoWay [.type "ValueError", .type "Exception", .type "BaseException", .type "object"] "ValueError.__new__" = true) (xk_NoWay : PySem.W.keepIn K (.ref xC_NoWay) = true) (xb_NoWay : PySem.W.subIn K (.ref xC_NoWay) (.type "BaseException") = some true) (xt_NoWay : PySem.W.typeIn K (.ref xC_NoWay) = some (.type "type"))
    {xC_NotPlain : Addr} (xa_NotPlain : PySem.W.nsIn K mainGlobals "NotPlain" = some (some (.ref xC_NotPlain))) (xq_NotPlain : PySem.W.excIn K xC_NotPlain [.type "ValueError", .type "Exception", .type "BaseException", .type "object"] "ValueError.__new__" = true) (xk_NotPlain : PySem.W.keepIn K (.ref xC_NotPlain) = true) (xb_NotPlain : PySem.W.subIn K (.ref xC_NotPlain) (.type "BaseException") = some true) (xt_NotPlain : PySem.W.typeIn K (.ref xC_NotPlain) = some (.type "type"))
    {xC_Reached : Addr} (xa_Reached : PySem.W.nsIn K mainGlobals "Reached" = some (some (.ref xC_Reached))) (xq_Reached : PySem.W.excIn K xC_Reached [.type "ValueError", .type "Exception", .type "BaseException", .type "object"] "ValueError.__new__" = true) (xk_Reached : PySem.W.keepIn K (.ref xC_Reached) = true) (xb_Reached : PySem.W.subIn K (.ref xC_Reached) (.type "BaseException") = some true) (xt_Reached : PySem.W.typeIn K (.ref xC_Reached) = some (.type "type"))
    {xC_TooLong : Addr} (xa_TooLong : PySem.W.nsIn K mainGlobals "TooLong" = some (some (.ref xC_TooLong))) (xq_TooLong : PySem.W.excIn K xC_TooLong [.type "ValueError", .type "Exception", .type "BaseException", .type "object"] "ValueError.__new__" = true) (xk_TooLong : PySem.W.keepIn K (.ref xC_TooLong) = true) (xb_TooLong : PySem.W.subIn K (.ref xC_TooLong) (.type "BaseException") = some true) (xt_TooLong : PySem.W.typeIn K (.ref xC_TooLong) = some (.type "type"))
    {xC_Twice : Addr} (xa_Twice : PySem.W.nsIn K mainGlobals "Twice" = some (some (.ref xC_Twice))) (xq_Twice : PySem.W.excIn K xC_Twice [.type "ValueError", .type "Exception", .type "BaseException", .type "object"] "ValueError.__new__" = true) (xk_Twice : PySem.W.keepIn K (.ref xC_Twice) = true) (xb_Twice : PySem.W.subIn K (.ref xC_Twice) (.type "BaseException") = some true) (xt_Twice : PySem.W.typeIn K (.ref xC_Twice) = some (.type "type"))
    {xC_WalkError : Addr} (xa_WalkError : PySem.W.nsIn K mainGlobals "WalkError" = some (some (.ref xC_WalkError))) (xq_WalkError : PySem.W.excIn K xC_WalkError [.type "ValueError", .type "Exception", .type "BaseException", .type "object"] "ValueError.__new__" = true) (xk_WalkError : PySem.W.keepIn K (.ref xC_WalkError) = true) (xb_WalkError : PySem.W.subIn K (.ref xC_WalkError) (.type "BaseException") = some true) (xt_WalkError : PySem.W.typeIn K (.ref xC_WalkError) = some (.type "type"))
    (xd_WalkError : PySem.W.hasDictIn K xC_WalkError = true)
    (xs_NoStep_WalkError : PySem.W.subIn K (.ref xC_NoStep) (.ref xC_WalkError) = some true)
    (y1_Endless : PySem.W.findIn K (.ref xC_Endless) "__getattribute__" = some (some (.builtin "BaseException.__getattribute__"))) (y2_Endless : PySem.W.findIn K (.ref xC_Endless) "__getattr__" = some none) (y3_Endless : PySem.W.hasDictIn K xC_Endless = true) (y4_Endless : PySem.W.findIn K (.ref xC_Endless) "__class__" = some (some (.builtin "object.__class__"))) (y7_Endless : PySem.W.mroIn K xC_Endless (.type "object") = some true)
    (y1_NoName : PySem.W.findIn K (.ref xC_NoName) "__getattribute__" = some (some (.builtin "BaseException.__getattribute__"))) (y2_NoName : PySem.W.findIn K (.ref xC_NoName) "__getattr__" = some none) (y3_NoName : PySem.W.hasDictIn K xC_NoName = true) (y4_NoName : PySem.W.findIn K (.ref xC_NoName) "__class__" = some (some (.builtin "object.__class__"))) (y7_NoName : PySem.W.mroIn K xC_NoName (.type "object") = some true)
    (y1_NoRow : PySem.W.findIn K (.ref xC_NoRow) "__getattribute__" = some (some (.builtin "BaseException.__getattribute__"))) (y2_NoRow : PySem.W.findIn K (.ref xC_NoRow) "__getattr__" = some none) (y3_NoRow : PySem.W.hasDictIn K xC_NoRow = true) (y4_NoRow : PySem.W.findIn K (.ref xC_NoRow) "__class__" = some (some (.builtin "object.__class__"))) (y7_NoRow : PySem.W.mroIn K xC_NoRow (.type "object") = some true)
    (y1_NoStep : PySem.W.findIn K (.ref xC_NoStep) "__getattribute__" = some (some (.builtin "BaseException.__getattribute__"))) (y2_NoStep : PySem.W.findIn K (.ref xC_NoStep) "__getattr__" = some none) (y3_NoStep : PySem.W.hasDictIn K xC_NoStep = true) (y4_NoStep : PySem.W.findIn K (.ref xC_NoStep) "__class__" = some (some (.builtin "object.__class__"))) (y7_NoStep : PySem.W.mroIn K xC_NoStep (.type "object") = some true)
    (y1_NoText : PySem.W.findIn K (.ref xC_NoText) "__getattribute__" = some (some (.builtin "BaseException.__getattribute__"))) (y2_NoText : PySem.W.findIn K (.ref xC_NoText) "__getattr__" = some none) (y3_NoText : PySem.W.hasDictIn K xC_NoText = true) (y4_NoText : PySem.W.findIn K (.ref xC_NoText) "__class__" = some (some (.builtin "object.__class__"))) (y7_NoText : PySem.W.mroIn K xC_NoText (.type "object") = some true)
    (y1_NoValue : PySem.W.findIn K (.ref xC_NoValue) "__getattribute__" = some (some (.builtin "BaseException.__getattribute__"))) (y2_NoValue : PySem.W.findIn K (.ref xC_NoValue) "__getattr__" = some none) (y3_NoValue : PySem.W.hasDictIn K xC_NoValue = true) (y4_NoValue : PySem.W.findIn K (.ref xC_NoValue) "__class__" = some (some (.builtin "object.__class__"))) (y7_NoValue : PySem.W.mroIn K xC_NoValue (.type "object") = some true)
    (y1_NoWay : PySem.W.findIn K (.ref xC_NoWay) "__getattribute__" = some (some (.builtin "BaseException.__getattribute__"))) (y2_NoWay : PySem.W.findIn K (.ref xC_NoWay) "__getattr__" = some none) (y3_NoWay : PySem.W.hasDictIn K xC_NoWay = true) (y4_NoWay : PySem.W.findIn K (.ref xC_NoWay) "__class__" = some (some (.builtin "object.__class__"))) (y7_NoWay : PySem.W.mroIn K xC_NoWay (.type "object") = some true)
    (y1_NotPlain : PySem.W.findIn K (.ref xC_NotPlain) "__getattribute__" = some (some (.builtin "BaseException.__getattribute__"))) (y2_NotPlain : PySem.W.findIn K (.ref xC_NotPlain) "__getattr__" = some none) (y3_NotPlain : PySem.W.hasDictIn K xC_NotPlain = true) (y4_NotPlain : PySem.W.findIn K (.ref xC_NotPlain) "__class__" = some (some (.builtin "object.__class__"))) (y7_NotPlain : PySem.W.mroIn K xC_NotPlain (.type "object") = some true)
    (y1_Reached : PySem.W.findIn K (.ref xC_Reached) "__getattribute__" = some (some (.builtin "BaseException.__getattribute__"))) (y2_Reached : PySem.W.findIn K (.ref xC_Reached) "__getattr__" = some none) (y3_Reached : PySem.W.hasDictIn K xC_Reached = true) (y4_Reached : PySem.W.findIn K (.ref xC_Reached) "__class__" = some (some (.builtin "object.__class__"))) (y7_Reached : PySem.W.mroIn K xC_Reached (.type "object") = some true)
    (y1_TooLong : PySem.W.findIn K (.ref xC_TooLong) "__getattribute__" = some (some (.builtin "BaseException.__getattribute__"))) (y2_TooLong : PySem.W.findIn K (.ref xC_TooLong) "__getattr__" = some none) (y3_TooLong : PySem.W.hasDictIn K xC_TooLong = true) (y4_TooLong : PySem.W.findIn K (.ref xC_TooLong) "__class__" = some (some (.builtin "object.__class__"))) (y7_TooLong : PySem.W.mroIn K xC_TooLong (.type "object") = some true)
    (y1_Twice : PySem.W.findIn K (.ref xC_Twice) "__getattribute__" = some (some (.builtin "BaseException.__getattribute__"))) (y2_Twice : PySem.W.findIn K (.ref xC_Twice) "__getattr__" = some none) (y3_Twice : PySem.W.hasDictIn K xC_Twice = true) (y4_Twice : PySem.W.findIn K (.ref xC_Twice) "__class__" = some (some (.builtin "object.__class__"))) (y7_Twice : PySem.W.mroIn K xC_Twice (.type "object") = some true)
    (y5 : PySem.W.specialIn K (.builtin "object.__class__") "__get__" = some (some (.builtin "getset_descriptor.__get__"))) (y6 : PySem.W.takesIn K (.builtin "object.__class__") = some true)
    (xi_Endless_Endless : PySem.W.kitOne K (.ref xC_Endless) (.ref xC_Endless) = some true)
    (xi_Endless_NoName : PySem.W.kitOne K (.ref xC_Endless) (.ref xC_NoName) = some false)
    (xi_Endless_NoRow : PySem.W.kitOne K (.ref xC_Endless) (.ref xC_NoRow) = some false)
    (xi_Endless_NoStep : PySem.W.kitOne K (.ref xC_Endless) (.ref xC_NoStep) = some false)
    (xi_Endless_NoText : PySem.W.kitOne K (.ref xC_Endless) (.ref xC_NoText) = some false)
    (xi_Endless_NoValue : PySem.W.kitOne K (.ref xC_Endless) (.ref xC_NoValue) = some false)
    (xi_Endless_NoWay : PySem.W.kitOne K (.ref xC_Endless) (.ref xC_NoWay) = some false)
    (xi_Endless_NotPlain : PySem.W.kitOne K (.ref xC_Endless) (.ref xC_NotPlain) = some false)
    (xi_Endless_Reached : PySem.W.kitOne K (.ref xC_Endless) (.ref xC_Reached) = some false)
    (xi_Endless_TooLong : PySem.W.kitOne K (.ref xC_Endless) (.ref xC_TooLong) = some false)
    (xi_Endless_Twice : PySem.W.kitOne K (.ref xC_Endless) (.ref xC_Twice) = some false)
    (xi_Endless_ValueError : PySem.W.kitOne K (.ref xC_Endless) (.type "ValueError") = some true)
    (xi_Endless_WalkError : PySem.W.kitOne K (.ref xC_Endless) (.ref xC_WalkError) = some true)
    (xi_NoName_Endless : PySem.W.kitOne K (.ref xC_NoName) (.ref xC_Endless) = some false)
    (xi_NoName_NoName : PySem.W.kitOne K (.ref xC_NoName) (.ref xC_NoName) = some true)
    (xi_NoName_NoRow : PySem.W.kitOne K (.ref xC_NoName) (.ref xC_NoRow) = some false)
    (xi_NoName_NoStep : PySem.W.kitOne K (.ref xC_NoName) (.ref xC_NoStep) = some false)
    (xi_NoName_NoText : PySem.W.kitOne K (.ref xC_NoName) (.ref xC_NoText) = some false)
    (xi_NoName_NoValue : PySem.W.kitOne K (.ref xC_NoName) (.ref xC_NoValue) = some false)
    (xi_NoName_NoWay : PySem.W.kitOne K (.ref xC_NoName) (.ref xC_NoWay) = some false)
    (xi_NoName_NotPlain : PySem.W.kitOne K (.ref xC_NoName) (.ref xC_NotPlain) = some false)
    (xi_NoName_Reached : PySem.W.kitOne K (.ref xC_NoName) (.ref xC_Reached) = some false)
    (xi_NoName_TooLong : PySem.W.kitOne K (.ref xC_NoName) (.ref xC_TooLong) = some false)
    (xi_NoName_Twice : PySem.W.kitOne K (.ref xC_NoName) (.ref xC_Twice) = some false)
    (xi_NoName_ValueError : PySem.W.kitOne K (.ref xC_NoName) (.type "ValueError") = some true)
    (xi_NoName_WalkError : PySem.W.kitOne K (.ref xC_NoName) (.ref xC_WalkError) = some true)
    (xi_NoRow_Endless : PySem.W.kitOne K (.ref xC_NoRow) (.ref xC_Endless) = some false)
    (xi_NoRow_NoName : PySem.W.kitOne K (.ref xC_NoRow) (.ref xC_NoName) = some false)
    (xi_NoRow_NoRow : PySem.W.kitOne K (.ref xC_NoRow) (.ref xC_NoRow) = some true)
    (xi_NoRow_NoStep : PySem.W.kitOne K (.ref xC_NoRow) (.ref xC_NoStep) = some false)
    (xi_NoRow_NoText : PySem.W.kitOne K (.ref xC_NoRow) (.ref xC_NoText) = some false)
    (xi_NoRow_NoValue : PySem.W.kitOne K (.ref xC_NoRow) (.ref xC_NoValue) = some false)
    (xi_NoRow_NoWay : PySem.W.kitOne K (.ref xC_NoRow) (.ref xC_NoWay) = some false)
    (xi_NoRow_NotPlain : PySem.W.kitOne K (.ref xC_NoRow) (.ref xC_NotPlain) = some false)
    (xi_NoRow_Reached : PySem.W.kitOne K (.ref xC_NoRow) (.ref xC_Reached) = some false)
    (xi_NoRow_TooLong : PySem.W.kitOne K (.ref xC_NoRow) (.ref xC_TooLong) = some false)
    (xi_NoRow_Twice : PySem.W.kitOne K (.ref xC_NoRow) (.ref xC_Twice) = some false)
    (xi_NoRow_ValueError : PySem.W.kitOne K (.ref xC_NoRow) (.type "ValueError") = some true)
    (xi_NoRow_WalkError : PySem.W.kitOne K (.ref xC_NoRow) (.ref xC_WalkError) = some true)
    (xi_NoStep_Endless : PySem.W.kitOne K (.ref xC_NoStep) (.ref xC_Endless) = some false)
    (xi_NoStep_NoName : PySem.W.kitOne K (.ref xC_NoStep) (.ref xC_NoName) = some false)
    (xi_NoStep_NoRow : PySem.W.kitOne K (.ref xC_NoStep) (.ref xC_NoRow) = some false)
    (xi_NoStep_NoStep : PySem.W.kitOne K (.ref xC_NoStep) (.ref xC_NoStep) = some true)
    (xi_NoStep_NoText : PySem.W.kitOne K (.ref xC_NoStep) (.ref xC_NoText) = some false)
    (xi_NoStep_NoValue : PySem.W.kitOne K (.ref xC_NoStep) (.ref xC_NoValue) = some false)
    (xi_NoStep_NoWay : PySem.W.kitOne K (.ref xC_NoStep) (.ref xC_NoWay) = some false)
    (xi_NoStep_NotPlain : PySem.W.kitOne K (.ref xC_NoStep) (.ref xC_NotPlain) = some false)
    (xi_NoStep_Reached : PySem.W.kitOne K (.ref xC_NoStep) (.ref xC_Reached) = some false)
    (xi_NoStep_TooLong : PySem.W.kitOne K (.ref xC_NoStep) (.ref xC_TooLong) = some false)
    (xi_NoStep_Twice : PySem.W.kitOne K (.ref xC_NoStep) (.ref xC_Twice) = some false)
    (xi_NoStep_ValueError : PySem.W.kitOne K (.ref xC_NoStep) (.type "ValueError") = some true)
    (xi_NoStep_WalkError : PySem.W.kitOne K (.ref xC_NoStep) (.ref xC_WalkError) = some true)
    (xi_NoText_Endless : PySem.W.kitOne K (.ref xC_NoText) (.ref xC_Endless) = some false)
    (xi_NoText_NoName : PySem.W.kitOne K (.ref xC_NoText) (.ref xC_NoName) = some false)
    (xi_NoText_NoRow : PySem.W.kitOne K (.ref xC_NoText) (.ref xC_NoRow) = some false)
    (xi_NoText_NoStep : PySem.W.kitOne K (.ref xC_NoText) (.ref xC_NoStep) = some false)
    (xi_NoText_NoText : PySem.W.kitOne K (.ref xC_NoText) (.ref xC_NoText) = some true)
    (xi_NoText_NoValue : PySem.W.kitOne K (.ref xC_NoText) (.ref xC_NoValue) = some false)
    (xi_NoText_NoWay : PySem.W.kitOne K (.ref xC_NoText) (.ref xC_NoWay) = some false)
    (xi_NoText_NotPlain : PySem.W.kitOne K (.ref xC_NoText) (.ref xC_NotPlain) = some false)
    (xi_NoText_Reached : PySem.W.kitOne K (.ref xC_NoText) (.ref xC_Reached) = some false)
    (xi_NoText_TooLong : PySem.W.kitOne K (.ref xC_NoText) (.ref xC_TooLong) = some false)
    (xi_NoText_Twice : PySem.W.kitOne K (.ref xC_NoText) (.ref xC_Twice) = some false)
    (xi_NoText_ValueError : PySem.W.kitOne K (.ref xC_NoText) (.type "ValueError") = some true)
    (xi_NoText_WalkError : PySem.W.kitOne K (.ref xC_NoText) (.ref xC_WalkError) = some true)
    (xi_NoValue_Endless : PySem.W.kitOne K (.ref xC_NoValue) (.ref xC_Endless) = some false)
    (xi_NoValue_NoName : PySem.W.kitOne K (.ref xC_NoValue) (.ref xC_NoName) = some false)
    (xi_NoValue_NoRow : PySem.W.kitOne K (.ref xC_NoValue) (.ref xC_NoRow) = some false)
    (xi_NoValue_NoStep : PySem.W.kitOne K (.ref xC_NoValue) (.ref xC_NoStep) = some false)
    (xi_NoValue_NoText : PySem.W.kitOne K (.ref xC_NoValue) (.ref xC_NoText) = some false)
    (xi_NoValue_NoValue : PySem.W.kitOne K (.ref xC_NoValue) (.ref xC_NoValue) = some true)
    (xi_NoValue_NoWay : PySem.W.kitOne K (.ref xC_NoValue) (.ref xC_NoWay) = some false)
    (xi_NoValue_NotPlain : PySem.W.kitOne K (.ref xC_NoValue) (.ref xC_NotPlain) = some false)
    (xi_NoValue_Reached : PySem.W.kitOne K (.ref xC_NoValue) (.ref xC_Reached) = some false)
    (xi_NoValue_TooLong : PySem.W.kitOne K (.ref xC_NoValue) (.ref xC_TooLong) = some false)
    (xi_NoValue_Twice : PySem.W.kitOne K (.ref xC_NoValue) (.ref xC_Twice) = some false)
    (xi_NoValue_ValueError : PySem.W.kitOne K (.ref xC_NoValue) (.type "ValueError") = some true)
    (xi_NoValue_WalkError : PySem.W.kitOne K (.ref xC_NoValue) (.ref xC_WalkError) = some true)
    (xi_NoWay_Endless : PySem.W.kitOne K (.ref xC_NoWay) (.ref xC_Endless) = some false)
    (xi_NoWay_NoName : PySem.W.kitOne K (.ref xC_NoWay) (.ref xC_NoName) = some false)
    (xi_NoWay_NoRow : PySem.W.kitOne K (.ref xC_NoWay) (.ref xC_NoRow) = some false)
    (xi_NoWay_NoStep : PySem.W.kitOne K (.ref xC_NoWay) (.ref xC_NoStep) = some false)
    (xi_NoWay_NoText : PySem.W.kitOne K (.ref xC_NoWay) (.ref xC_NoText) = some false)
    (xi_NoWay_NoValue : PySem.W.kitOne K (.ref xC_NoWay) (.ref xC_NoValue) = some false)
    (xi_NoWay_NoWay : PySem.W.kitOne K (.ref xC_NoWay) (.ref xC_NoWay) = some true)
    (xi_NoWay_NotPlain : PySem.W.kitOne K (.ref xC_NoWay) (.ref xC_NotPlain) = some false)
    (xi_NoWay_Reached : PySem.W.kitOne K (.ref xC_NoWay) (.ref xC_Reached) = some false)
    (xi_NoWay_TooLong : PySem.W.kitOne K (.ref xC_NoWay) (.ref xC_TooLong) = some false)
    (xi_NoWay_Twice : PySem.W.kitOne K (.ref xC_NoWay) (.ref xC_Twice) = some false)
    (xi_NoWay_ValueError : PySem.W.kitOne K (.ref xC_NoWay) (.type "ValueError") = some true)
    (xi_NoWay_WalkError : PySem.W.kitOne K (.ref xC_NoWay) (.ref xC_WalkError) = some true)
    (xi_NotPlain_Endless : PySem.W.kitOne K (.ref xC_NotPlain) (.ref xC_Endless) = some false)
    (xi_NotPlain_NoName : PySem.W.kitOne K (.ref xC_NotPlain) (.ref xC_NoName) = some false)
    (xi_NotPlain_NoRow : PySem.W.kitOne K (.ref xC_NotPlain) (.ref xC_NoRow) = some false)
    (xi_NotPlain_NoStep : PySem.W.kitOne K (.ref xC_NotPlain) (.ref xC_NoStep) = some false)
    (xi_NotPlain_NoText : PySem.W.kitOne K (.ref xC_NotPlain) (.ref xC_NoText) = some false)
    (xi_NotPlain_NoValue : PySem.W.kitOne K (.ref xC_NotPlain) (.ref xC_NoValue) = some false)
    (xi_NotPlain_NoWay : PySem.W.kitOne K (.ref xC_NotPlain) (.ref xC_NoWay) = some false)
    (xi_NotPlain_NotPlain : PySem.W.kitOne K (.ref xC_NotPlain) (.ref xC_NotPlain) = some true)
    (xi_NotPlain_Reached : PySem.W.kitOne K (.ref xC_NotPlain) (.ref xC_Reached) = some false)
    (xi_NotPlain_TooLong : PySem.W.kitOne K (.ref xC_NotPlain) (.ref xC_TooLong) = some false)
    (xi_NotPlain_Twice : PySem.W.kitOne K (.ref xC_NotPlain) (.ref xC_Twice) = some false)
    (xi_NotPlain_ValueError : PySem.W.kitOne K (.ref xC_NotPlain) (.type "ValueError") = some true)
    (xi_NotPlain_WalkError : PySem.W.kitOne K (.ref xC_NotPlain) (.ref xC_WalkError) = some true)
    (xi_Reached_Endless : PySem.W.kitOne K (.ref xC_Reached) (.ref xC_Endless) = some false)
    (xi_Reached_NoName : PySem.W.kitOne K (.ref xC_Reached) (.ref xC_NoName) = some false)
    (xi_Reached_NoRow : PySem.W.kitOne K (.ref xC_Reached) (.ref xC_NoRow) = some false)
    (xi_Reached_NoStep : PySem.W.kitOne K (.ref xC_Reached) (.ref xC_NoStep) = some false)
    (xi_Reached_NoText : PySem.W.kitOne K (.ref xC_Reached) (.ref xC_NoText) = some false)
    (xi_Reached_NoValue : PySem.W.kitOne K (.ref xC_Reached) (.ref xC_NoValue) = some false)
    (xi_Reached_NoWay : PySem.W.kitOne K (.ref xC_Reached) (.ref xC_NoWay) = some false)
    (xi_Reached_NotPlain : PySem.W.kitOne K (.ref xC_Reached) (.ref xC_NotPlain) = some false)
    (xi_Reached_Reached : PySem.W.kitOne K (.ref xC_Reached) (.ref xC_Reached) = some true)
    (xi_Reached_TooLong : PySem.W.kitOne K (.ref xC_Reached) (.ref xC_TooLong) = some false)
    (xi_Reached_Twice : PySem.W.kitOne K (.ref xC_Reached) (.ref xC_Twice) = some false)
    (xi_Reached_ValueError : PySem.W.kitOne K (.ref xC_Reached) (.type "ValueError") = some true)
    (xi_Reached_WalkError : PySem.W.kitOne K (.ref xC_Reached) (.ref xC_WalkError) = some true)
    (xi_TooLong_Endless : PySem.W.kitOne K (.ref xC_TooLong) (.ref xC_Endless) = some false)
    (xi_TooLong_NoName : PySem.W.kitOne K (.ref xC_TooLong) (.ref xC_NoName) = some false)
    (xi_TooLong_NoRow : PySem.W.kitOne K (.ref xC_TooLong) (.ref xC_NoRow) = some false)
    (xi_TooLong_NoStep : PySem.W.kitOne K (.ref xC_TooLong) (.ref xC_NoStep) = some false)
    (xi_TooLong_NoText : PySem.W.kitOne K (.ref xC_TooLong) (.ref xC_NoText) = some false)
    (xi_TooLong_NoValue : PySem.W.kitOne K (.ref xC_TooLong) (.ref xC_NoValue) = some false)
    (xi_TooLong_NoWay : PySem.W.kitOne K (.ref xC_TooLong) (.ref xC_NoWay) = some false)
    (xi_TooLong_NotPlain : PySem.W.kitOne K (.ref xC_TooLong) (.ref xC_NotPlain) = some false)
    (xi_TooLong_Reached : PySem.W.kitOne K (.ref xC_TooLong) (.ref xC_Reached) = some false)
    (xi_TooLong_TooLong : PySem.W.kitOne K (.ref xC_TooLong) (.ref xC_TooLong) = some true)
    (xi_TooLong_Twice : PySem.W.kitOne K (.ref xC_TooLong) (.ref xC_Twice) = some false)
    (xi_TooLong_ValueError : PySem.W.kitOne K (.ref xC_TooLong) (.type "ValueError") = some true)
    (xi_TooLong_WalkError : PySem.W.kitOne K (.ref xC_TooLong) (.ref xC_WalkError) = some true)
    (xi_Twice_Endless : PySem.W.kitOne K (.ref xC_Twice) (.ref xC_Endless) = some false)
    (xi_Twice_NoName : PySem.W.kitOne K (.ref xC_Twice) (.ref xC_NoName) = some false)
    (xi_Twice_NoRow : PySem.W.kitOne K (.ref xC_Twice) (.ref xC_NoRow) = some false)
    (xi_Twice_NoStep : PySem.W.kitOne K (.ref xC_Twice) (.ref xC_NoStep) = some false)
    (xi_Twice_NoText : PySem.W.kitOne K (.ref xC_Twice) (.ref xC_NoText) = some false)
    (xi_Twice_NoValue : PySem.W.kitOne K (.ref xC_Twice) (.ref xC_NoValue) = some false)
    (xi_Twice_NoWay : PySem.W.kitOne K (.ref xC_Twice) (.ref xC_NoWay) = some false)
    (xi_Twice_NotPlain : PySem.W.kitOne K (.ref xC_Twice) (.ref xC_NotPlain) = some false)
    (xi_Twice_Reached : PySem.W.kitOne K (.ref xC_Twice) (.ref xC_Reached) = some false)
    (xi_Twice_TooLong : PySem.W.kitOne K (.ref xC_Twice) (.ref xC_TooLong) = some false)
    (xi_Twice_Twice : PySem.W.kitOne K (.ref xC_Twice) (.ref xC_Twice) = some true)
    (xi_Twice_ValueError : PySem.W.kitOne K (.ref xC_Twice) (.type "ValueError") = some true)
    (xi_Twice_WalkError : PySem.W.kitOne K (.ref xC_Twice) (.ref xC_WalkError) = some true) :
    ∃ fd : FuncData, (∀ (s : Shared) (v : Value), BindsTo s fd ⟨[v], []⟩ [("_law_script", v)]) ∧ ∀ base : Heap, K.In base → base.Ns mainGlobals mg → FnOk l.prog w K mg base (L2N.CX l.prog w) 3 fa fd ["_law_script"] spLaw := by
  have e := hfa.symm.trans (PySem.W.mg_of X G a5)
  cases e
  let T : Tx K mg := {
    f_stepped := _, d_stepped := _, F_stepped := fun_mk l0 c0 k0, g_stepped := PySem.W.mg_of X G a0, b_stepped := (fun_mk (st := s_stepped) l0 c0 k0).binds fun _ _ _ _ _ _ us hl => match us, hl with | [_, _, _], _ => rfl,
    f_ran := _, d_ran := _, F_ran := fun_mk l1 c1 k1, g_ran := PySem.W.mg_of X G a1, b_ran := (fun_mk (st := s_ran) l1 c1 k1).binds fun _ _ _ _ _ _ us hl => match us, hl with | [_, _, _], _ => rfl,
    f_cell_at := _, d_cell_at := _, F_cell_at := fun_mk l2 c2 k2, g_cell_at := PySem.W.mg_of X G a2, b_cell_at := (fun_mk (st := s_cell_at) l2 c2 k2).binds fun _ _ _ _ _ _ us hl => match us, hl with | [_, _], _ => rfl,
    f_kinds := _, d_kinds := _, F_kinds := fun_mk l3 c3 k3, g_kinds := PySem.W.mg_of X G a3, b_kinds := (fun_mk (st := s_kinds) l3 c3 k3).binds fun _ _ _ _ _ _ us hl => match us, hl with | [_], _ => rfl,
    f_apart := _, d_apart := _, F_apart := fun_mk l4 c4 k4, g_apart := PySem.W.mg_of X G a4, b_apart := (fun_mk (st := s_apart) l4 c4 k4).binds fun _ _ _ _ _ _ us hl => match us, hl with | [], _ => rfl,
    f_law := _, d_law := _, F_law := fun_mk l5 c5 k5, g_law := PySem.W.mg_of X G a5, b_law := (fun_mk (st := s_law) l5 c5 k5).binds fun _ _ _ _ _ _ us hl => match us, hl with | [_], _ => rfl,
    n_ValueError := PySem.W.mg_none_of X G z_ValueError,
    n_isinstance := PySem.W.mg_none_of X G z_isinstance,
    n_len := PySem.W.mg_none_of X G z_len,
    n_list := PySem.W.mg_none_of X G z_list,
    n_range := PySem.W.mg_none_of X G z_range,
    xC_Endless := _, xh_Endless := PySem.W.mg_of X G xa_Endless, xq_Endless := xq_Endless, xk_Endless := xk_Endless, xb_Endless := xb_Endless, xt_Endless := xt_Endless,
    xC_NoName := _, xh_NoName := PySem.W.mg_of X G xa_NoName, xq_NoName := xq_NoName, xk_NoName := xk_NoName, xb_NoName := xb_NoName, xt_NoName := xt_NoName,
    xC_NoRow := _, xh_NoRow := PySem.W.mg_of X G xa_NoRow, xq_NoRow := xq_NoRow, xk_NoRow := xk_NoRow, xb_NoRow := xb_NoRow, xt_NoRow := xt_NoRow,
    xC_NoStep := _, xh_NoStep := PySem.W.mg_of X G xa_NoStep, xq_NoStep := xq_NoStep, xk_NoStep := xk_NoStep, xb_NoStep := xb_NoStep, xt_NoStep := xt_NoStep,
    xC_NoText := _, xh_NoText := PySem.W.mg_of X G xa_NoText, xq_NoText := xq_NoText, xk_NoText := xk_NoText, xb_NoText := xb_NoText, xt_NoText := xt_NoText,
    xC_NoValue := _, xh_NoValue := PySem.W.mg_of X G xa_NoValue, xq_NoValue := xq_NoValue, xk_NoValue := xk_NoValue, xb_NoValue := xb_NoValue, xt_NoValue := xt_NoValue,
    xC_NoWay := _, xh_NoWay := PySem.W.mg_of X G xa_NoWay, xq_NoWay := xq_NoWay, xk_NoWay := xk_NoWay, xb_NoWay := xb_NoWay, xt_NoWay := xt_NoWay,
    xC_NotPlain := _, xh_NotPlain := PySem.W.mg_of X G xa_NotPlain, xq_NotPlain := xq_NotPlain, xk_NotPlain := xk_NotPlain, xb_NotPlain := xb_NotPlain, xt_NotPlain := xt_NotPlain,
    xC_Reached := _, xh_Reached := PySem.W.mg_of X G xa_Reached, xq_Reached := xq_Reached, xk_Reached := xk_Reached, xb_Reached := xb_Reached, xt_Reached := xt_Reached,
    xC_TooLong := _, xh_TooLong := PySem.W.mg_of X G xa_TooLong, xq_TooLong := xq_TooLong, xk_TooLong := xk_TooLong, xb_TooLong := xb_TooLong, xt_TooLong := xt_TooLong,
    xC_Twice := _, xh_Twice := PySem.W.mg_of X G xa_Twice, xq_Twice := xq_Twice, xk_Twice := xk_Twice, xb_Twice := xb_Twice, xt_Twice := xt_Twice,
    xC_WalkError := _, xh_WalkError := PySem.W.mg_of X G xa_WalkError, xq_WalkError := xq_WalkError, xk_WalkError := xk_WalkError, xb_WalkError := xb_WalkError, xt_WalkError := xt_WalkError,
    xe_NoStep_WalkError := PySem.W.exm_ref xb_WalkError xd_WalkError xt_WalkError xs_NoStep_WalkError,
    xx_Endless := ⟨y1_Endless, y2_Endless, xb_Endless, y3_Endless, y4_Endless, y5, y6, y7_Endless⟩,
    xx_NoName := ⟨y1_NoName, y2_NoName, xb_NoName, y3_NoName, y4_NoName, y5, y6, y7_NoName⟩,
    xx_NoRow := ⟨y1_NoRow, y2_NoRow, xb_NoRow, y3_NoRow, y4_NoRow, y5, y6, y7_NoRow⟩,
    xx_NoStep := ⟨y1_NoStep, y2_NoStep, xb_NoStep, y3_NoStep, y4_NoStep, y5, y6, y7_NoStep⟩,
    xx_NoText := ⟨y1_NoText, y2_NoText, xb_NoText, y3_NoText, y4_NoText, y5, y6, y7_NoText⟩,
    xx_NoValue := ⟨y1_NoValue, y2_NoValue, xb_NoValue, y3_NoValue, y4_NoValue, y5, y6, y7_NoValue⟩,
    xx_NoWay := ⟨y1_NoWay, y2_NoWay, xb_NoWay, y3_NoWay, y4_NoWay, y5, y6, y7_NoWay⟩,
    xx_NotPlain := ⟨y1_NotPlain, y2_NotPlain, xb_NotPlain, y3_NotPlain, y4_NotPlain, y5, y6, y7_NotPlain⟩,
    xx_Reached := ⟨y1_Reached, y2_Reached, xb_Reached, y3_Reached, y4_Reached, y5, y6, y7_Reached⟩,
    xx_TooLong := ⟨y1_TooLong, y2_TooLong, xb_TooLong, y3_TooLong, y4_TooLong, y5, y6, y7_TooLong⟩,
    xx_Twice := ⟨y1_Twice, y2_Twice, xb_Twice, y3_Twice, y4_Twice, y5, y6, y7_Twice⟩,
    xi_Endless_Endless := xi_Endless_Endless,
    xi_Endless_NoName := xi_Endless_NoName,
    xi_Endless_NoRow := xi_Endless_NoRow,
    xi_Endless_NoStep := xi_Endless_NoStep,
    xi_Endless_NoText := xi_Endless_NoText,
    xi_Endless_NoValue := xi_Endless_NoValue,
    xi_Endless_NoWay := xi_Endless_NoWay,
    xi_Endless_NotPlain := xi_Endless_NotPlain,
    xi_Endless_Reached := xi_Endless_Reached,
    xi_Endless_TooLong := xi_Endless_TooLong,
    xi_Endless_Twice := xi_Endless_Twice,
    xi_Endless_ValueError := xi_Endless_ValueError,
    xi_Endless_WalkError := xi_Endless_WalkError,
    xi_NoName_Endless := xi_NoName_Endless,
    xi_NoName_NoName := xi_NoName_NoName,
    xi_NoName_NoRow := xi_NoName_NoRow,
    xi_NoName_NoStep := xi_NoName_NoStep,
    xi_NoName_NoText := xi_NoName_NoText,
    xi_NoName_NoValue := xi_NoName_NoValue,
    xi_NoName_NoWay := xi_NoName_NoWay,
    xi_NoName_NotPlain := xi_NoName_NotPlain,
    xi_NoName_Reached := xi_NoName_Reached,
    xi_NoName_TooLong := xi_NoName_TooLong,
    xi_NoName_Twice := xi_NoName_Twice,
    xi_NoName_ValueError := xi_NoName_ValueError,
    xi_NoName_WalkError := xi_NoName_WalkError,
    xi_NoRow_Endless := xi_NoRow_Endless,
    xi_NoRow_NoName := xi_NoRow_NoName,
    xi_NoRow_NoRow := xi_NoRow_NoRow,
    xi_NoRow_NoStep := xi_NoRow_NoStep,
    xi_NoRow_NoText := xi_NoRow_NoText,
    xi_NoRow_NoValue := xi_NoRow_NoValue,
    xi_NoRow_NoWay := xi_NoRow_NoWay,
    xi_NoRow_NotPlain := xi_NoRow_NotPlain,
    xi_NoRow_Reached := xi_NoRow_Reached,
    xi_NoRow_TooLong := xi_NoRow_TooLong,
    xi_NoRow_Twice := xi_NoRow_Twice,
    xi_NoRow_ValueError := xi_NoRow_ValueError,
    xi_NoRow_WalkError := xi_NoRow_WalkError,
    xi_NoStep_Endless := xi_NoStep_Endless,
    xi_NoStep_NoName := xi_NoStep_NoName,
    xi_NoStep_NoRow := xi_NoStep_NoRow,
    xi_NoStep_NoStep := xi_NoStep_NoStep,
    xi_NoStep_NoText := xi_NoStep_NoText,
    xi_NoStep_NoValue := xi_NoStep_NoValue,
    xi_NoStep_NoWay := xi_NoStep_NoWay,
    xi_NoStep_NotPlain := xi_NoStep_NotPlain,
    xi_NoStep_Reached := xi_NoStep_Reached,
    xi_NoStep_TooLong := xi_NoStep_TooLong,
    xi_NoStep_Twice := xi_NoStep_Twice,
    xi_NoStep_ValueError := xi_NoStep_ValueError,
    xi_NoStep_WalkError := xi_NoStep_WalkError,
    xi_NoText_Endless := xi_NoText_Endless,
    xi_NoText_NoName := xi_NoText_NoName,
    xi_NoText_NoRow := xi_NoText_NoRow,
    xi_NoText_NoStep := xi_NoText_NoStep,
    xi_NoText_NoText := xi_NoText_NoText,
    xi_NoText_NoValue := xi_NoText_NoValue,
    xi_NoText_NoWay := xi_NoText_NoWay,
    xi_NoText_NotPlain := xi_NoText_NotPlain,
    xi_NoText_Reached := xi_NoText_Reached,
    xi_NoText_TooLong := xi_NoText_TooLong,
    xi_NoText_Twice := xi_NoText_Twice,
    xi_NoText_ValueError := xi_NoText_ValueError,
    xi_NoText_WalkError := xi_NoText_WalkError,
    xi_NoValue_Endless := xi_NoValue_Endless,
    xi_NoValue_NoName := xi_NoValue_NoName,
    xi_NoValue_NoRow := xi_NoValue_NoRow,
    xi_NoValue_NoStep := xi_NoValue_NoStep,
    xi_NoValue_NoText := xi_NoValue_NoText,
    xi_NoValue_NoValue := xi_NoValue_NoValue,
    xi_NoValue_NoWay := xi_NoValue_NoWay,
    xi_NoValue_NotPlain := xi_NoValue_NotPlain,
    xi_NoValue_Reached := xi_NoValue_Reached,
    xi_NoValue_TooLong := xi_NoValue_TooLong,
    xi_NoValue_Twice := xi_NoValue_Twice,
    xi_NoValue_ValueError := xi_NoValue_ValueError,
    xi_NoValue_WalkError := xi_NoValue_WalkError,
    xi_NoWay_Endless := xi_NoWay_Endless,
    xi_NoWay_NoName := xi_NoWay_NoName,
    xi_NoWay_NoRow := xi_NoWay_NoRow,
    xi_NoWay_NoStep := xi_NoWay_NoStep,
    xi_NoWay_NoText := xi_NoWay_NoText,
    xi_NoWay_NoValue := xi_NoWay_NoValue,
    xi_NoWay_NoWay := xi_NoWay_NoWay,
    xi_NoWay_NotPlain := xi_NoWay_NotPlain,
    xi_NoWay_Reached := xi_NoWay_Reached,
    xi_NoWay_TooLong := xi_NoWay_TooLong,
    xi_NoWay_Twice := xi_NoWay_Twice,
    xi_NoWay_ValueError := xi_NoWay_ValueError,
    xi_NoWay_WalkError := xi_NoWay_WalkError,
    xi_NotPlain_Endless := xi_NotPlain_Endless,
    xi_NotPlain_NoName := xi_NotPlain_NoName,
    xi_NotPlain_NoRow := xi_NotPlain_NoRow,
    xi_NotPlain_NoStep := xi_NotPlain_NoStep,
    xi_NotPlain_NoText := xi_NotPlain_NoText,
    xi_NotPlain_NoValue := xi_NotPlain_NoValue,
    xi_NotPlain_NoWay := xi_NotPlain_NoWay,
    xi_NotPlain_NotPlain := xi_NotPlain_NotPlain,
    xi_NotPlain_Reached := xi_NotPlain_Reached,
    xi_NotPlain_TooLong := xi_NotPlain_TooLong,
    xi_NotPlain_Twice := xi_NotPlain_Twice,
    xi_NotPlain_ValueError := xi_NotPlain_ValueError,
    xi_NotPlain_WalkError := xi_NotPlain_WalkError,
    xi_Reached_Endless := xi_Reached_Endless,
    xi_Reached_NoName := xi_Reached_NoName,
    xi_Reached_NoRow := xi_Reached_NoRow,
    xi_Reached_NoStep := xi_Reached_NoStep,
    xi_Reached_NoText := xi_Reached_NoText,
    xi_Reached_NoValue := xi_Reached_NoValue,
    xi_Reached_NoWay := xi_Reached_NoWay,
    xi_Reached_NotPlain := xi_Reached_NotPlain,
    xi_Reached_Reached := xi_Reached_Reached,
    xi_Reached_TooLong := xi_Reached_TooLong,
    xi_Reached_Twice := xi_Reached_Twice,
    xi_Reached_ValueError := xi_Reached_ValueError,
    xi_Reached_WalkError := xi_Reached_WalkError,
    xi_TooLong_Endless := xi_TooLong_Endless,
    xi_TooLong_NoName := xi_TooLong_NoName,
    xi_TooLong_NoRow := xi_TooLong_NoRow,
    xi_TooLong_NoStep := xi_TooLong_NoStep,
    xi_TooLong_NoText := xi_TooLong_NoText,
    xi_TooLong_NoValue := xi_TooLong_NoValue,
    xi_TooLong_NoWay := xi_TooLong_NoWay,
    xi_TooLong_NotPlain := xi_TooLong_NotPlain,
    xi_TooLong_Reached := xi_TooLong_Reached,
    xi_TooLong_TooLong := xi_TooLong_TooLong,
    xi_TooLong_Twice := xi_TooLong_Twice,
    xi_TooLong_ValueError := xi_TooLong_ValueError,
    xi_TooLong_WalkError := xi_TooLong_WalkError,
    xi_Twice_Endless := xi_Twice_Endless,
    xi_Twice_NoName := xi_Twice_NoName,
    xi_Twice_NoRow := xi_Twice_NoRow,
    xi_Twice_NoStep := xi_Twice_NoStep,
    xi_Twice_NoText := xi_Twice_NoText,
    xi_Twice_NoValue := xi_Twice_NoValue,
    xi_Twice_NoWay := xi_Twice_NoWay,
    xi_Twice_NotPlain := xi_Twice_NotPlain,
    xi_Twice_Reached := xi_Twice_Reached,
    xi_Twice_TooLong := xi_Twice_TooLong,
    xi_Twice_Twice := xi_Twice_Twice,
    xi_Twice_ValueError := xi_Twice_ValueError,
    xi_Twice_WalkError := xi_Twice_WalkError }
  exact ⟨_, fun s v => .of_eq rfl, fun base _ _ => law_okN (ok_law T) (law_math)⟩
end K05
open PySem PySem.W PyProof.Rows
set_option maxHeartbeats 0 in
set_option maxRecDepth 100000 in
theorem PySem.Challenge.cw_callwalk_k05_refusals_stand_apart_holds : PySem.Challenge.rw_callwalk_k05_refusals_stand_apart.Holds := by
  w_on; o_law; k_head; (case hw => w_witness2)
  k_fill
  refine L2.walk_of (l := PySem.Challenge.rw_callwalk_k05_refusals_stand_apart) (n := 63) (k := 3) (x := "_law_script") (CX := fun w => L2N.CX (PySem.Challenge.rw_callwalk_k05_refusals_stand_apart).prog w) (sp := fun w => DL.spLaw) rfl (by decide) rfl ⟨rfl, by decide, by decide⟩ (fun w h Y => PySem.W.kIn_of Y) ?F (fun _ H a ns hl _ hS => DL.spLaw_start hl hS (DL.noList (by rfl) a)) (fun _ _ _ _ _ h => DL.cx_neverN h)
  case F =>
    intro w mg fa h KX G hmg
    refine' K05.all_mk KX G hmg ?a0 ?l0 ?c0 ?k0 ?a1 ?l1 ?c1 ?k1 ?a2 ?l2 ?c2 ?k2 ?a3 ?l3 ?c3 ?k3 ?a4 ?l4 ?c4 ?k4 ?a5 ?l5 ?c5 ?k5 ?z_ValueError ?z_isinstance ?z_len ?z_list ?z_range ?xa_Endless ?xq_Endless ?xk_Endless ?xb_Endless ?xt_Endless ?xa_NoName ?xq_NoName ?xk_NoName ?xb_NoName ?xt_NoName ?xa_NoRow ?xq_NoRow ?xk_NoRow ?xb_NoRow ?xt_NoRow ?xa_NoStep ?xq_NoStep ?xk_NoStep ?xb_NoStep ?xt_NoStep ?xa_NoText ?xq_NoText ?xk_NoText ?xb_NoText ?xt_NoText ?xa_NoValue ?xq_NoValue ?xk_NoValue ?xb_NoValue ?xt_NoValue ?xa_NoWay ?xq_NoWay ?xk_NoWay ?xb_NoWay ?xt_NoWay ?xa_NotPlain ?xq_NotPlain ?xk_NotPlain ?xb_NotPlain ?xt_NotPlain ?xa_Reached ?xq_Reached ?xk_Reached ?xb_Reached ?xt_Reached ?xa_TooLong ?xq_TooLong ?xk_TooLong ?xb_TooLong ?xt_TooLong ?xa_Twice ?xq_Twice ?xk_Twice ?xb_Twice ?xt_Twice ?xa_WalkError ?xq_WalkError ?xk_WalkError ?xb_WalkError ?xt_WalkError ?xd_WalkError ?xs_NoStep_WalkError ?y1_Endless ?y2_Endless ?y3_Endless ?y4_Endless ?y7_Endless ?y1_NoName ?y2_NoName ?y3_NoName ?y4_NoName ?y7_NoName ?y1_NoRow ?y2_NoRow ?y3_NoRow ?y4_NoRow ?y7_NoRow ?y1_NoStep ?y2_NoStep ?y3_NoStep ?y4_NoStep ?y7_NoStep ?y1_NoText ?y2_NoText ?y3_NoText ?y4_NoText ?y7_NoText ?y1_NoValue ?y2_NoValue ?y3_NoValue ?y4_NoValue ?y7_NoValue ?y1_NoWay ?y2_NoWay ?y3_NoWay ?y4_NoWay ?y7_NoWay ?y1_NotPlain ?y2_NotPlain ?y3_NotPlain ?y4_NotPlain ?y7_NotPlain ?y1_Reached ?y2_Reached ?y3_Reached ?y4_Reached ?y7_Reached ?y1_TooLong ?y2_TooLong ?y3_TooLong ?y4_TooLong ?y7_TooLong ?y1_Twice ?y2_Twice ?y3_Twice ?y4_Twice ?y7_Twice ?y5 ?y6 ?xi_Endless_Endless ?xi_Endless_NoName ?xi_Endless_NoRow ?xi_Endless_NoStep ?xi_Endless_NoText ?xi_Endless_NoValue ?xi_Endless_NoWay ?xi_Endless_NotPlain ?xi_Endless_Reached ?xi_Endless_TooLong ?xi_Endless_Twice ?xi_Endless_ValueError ?xi_Endless_WalkError ?xi_NoName_Endless ?xi_NoName_NoName ?xi_NoName_NoRow ?xi_NoName_NoStep ?xi_NoName_NoText ?xi_NoName_NoValue ?xi_NoName_NoWay ?xi_NoName_NotPlain ?xi_NoName_Reached ?xi_NoName_TooLong ?xi_NoName_Twice ?xi_NoName_ValueError ?xi_NoName_WalkError ?xi_NoRow_Endless ?xi_NoRow_NoName ?xi_NoRow_NoRow ?xi_NoRow_NoStep ?xi_NoRow_NoText ?xi_NoRow_NoValue ?xi_NoRow_NoWay ?xi_NoRow_NotPlain ?xi_NoRow_Reached ?xi_NoRow_TooLong ?xi_NoRow_Twice ?xi_NoRow_ValueError ?xi_NoRow_WalkError ?xi_NoStep_Endless ?xi_NoStep_NoName ?xi_NoStep_NoRow ?xi_NoStep_NoStep ?xi_NoStep_NoText ?xi_NoStep_NoValue ?xi_NoStep_NoWay ?xi_NoStep_NotPlain ?xi_NoStep_Reached ?xi_NoStep_TooLong ?xi_NoStep_Twice ?xi_NoStep_ValueError ?xi_NoStep_WalkError ?xi_NoText_Endless ?xi_NoText_NoName ?xi_NoText_NoRow ?xi_NoText_NoStep ?xi_NoText_NoText ?xi_NoText_NoValue ?xi_NoText_NoWay ?xi_NoText_NotPlain ?xi_NoText_Reached ?xi_NoText_TooLong ?xi_NoText_Twice ?xi_NoText_ValueError ?xi_NoText_WalkError ?xi_NoValue_Endless ?xi_NoValue_NoName ?xi_NoValue_NoRow ?xi_NoValue_NoStep ?xi_NoValue_NoText ?xi_NoValue_NoValue ?xi_NoValue_NoWay ?xi_NoValue_NotPlain ?xi_NoValue_Reached ?xi_NoValue_TooLong ?xi_NoValue_Twice ?xi_NoValue_ValueError ?xi_NoValue_WalkError ?xi_NoWay_Endless ?xi_NoWay_NoName ?xi_NoWay_NoRow ?xi_NoWay_NoStep ?xi_NoWay_NoText ?xi_NoWay_NoValue ?xi_NoWay_NoWay ?xi_NoWay_NotPlain ?xi_NoWay_Reached ?xi_NoWay_TooLong ?xi_NoWay_Twice ?xi_NoWay_ValueError ?xi_NoWay_WalkError ?xi_NotPlain_Endless ?xi_NotPlain_NoName ?xi_NotPlain_NoRow ?xi_NotPlain_NoStep ?xi_NotPlain_NoText ?xi_NotPlain_NoValue ?xi_NotPlain_NoWay ?xi_NotPlain_NotPlain ?xi_NotPlain_Reached ?xi_NotPlain_TooLong ?xi_NotPlain_Twice ?xi_NotPlain_ValueError ?xi_NotPlain_WalkError ?xi_Reached_Endless ?xi_Reached_NoName ?xi_Reached_NoRow ?xi_Reached_NoStep ?xi_Reached_NoText ?xi_Reached_NoValue ?xi_Reached_NoWay ?xi_Reached_NotPlain ?xi_Reached_Reached ?xi_Reached_TooLong ?xi_Reached_Twice ?xi_Reached_ValueError ?xi_Reached_WalkError ?xi_TooLong_Endless ?xi_TooLong_NoName ?xi_TooLong_NoRow ?xi_TooLong_NoStep ?xi_TooLong_NoText ?xi_TooLong_NoValue ?xi_TooLong_NoWay ?xi_TooLong_NotPlain ?xi_TooLong_Reached ?xi_TooLong_TooLong ?xi_TooLong_Twice ?xi_TooLong_ValueError ?xi_TooLong_WalkError ?xi_Twice_Endless ?xi_Twice_NoName ?xi_Twice_NoRow ?xi_Twice_NoStep ?xi_Twice_NoText ?xi_Twice_NoValue ?xi_Twice_NoWay ?xi_Twice_NotPlain ?xi_Twice_Reached ?xi_Twice_TooLong ?xi_Twice_Twice ?xi_Twice_ValueError ?xi_Twice_WalkError
    (case a0 => k_is); (case l0 => k_is); (case c0 => k_is); (case k0 => k_is); (case a1 => k_is); (case l1 => k_is); (case c1 => k_is); (case k1 => k_is); (case a2 => k_is); (case l2 => k_is); (case c2 => k_is); (case k2 => k_is); (case a3 => k_is); (case l3 => k_is); (case c3 => k_is); (case k3 => k_is); (case a4 => k_is); (case l4 => k_is); (case c4 => k_is); (case k4 => k_is); (case a5 => k_is); (case l5 => k_is); (case c5 => k_is); (case k5 => k_is); (case z_ValueError => k_is); (case z_isinstance => k_is); (case z_len => k_is); (case z_list => k_is); (case z_range => k_is); (case xa_Endless => k_is); (case xq_Endless => k_exc); (case xk_Endless => k_is); (case xb_Endless => k_is); (case xt_Endless => k_is); (case xa_NoName => k_is); (case xq_NoName => k_exc); (case xk_NoName => k_is); (case xb_NoName => k_is); (case xt_NoName => k_is); (case xa_NoRow => k_is); (case xq_NoRow => k_exc); (case xk_NoRow => k_is); (case xb_NoRow => k_is); (case xt_NoRow => k_is); (case xa_NoStep => k_is); (case xq_NoStep => k_exc); (case xk_NoStep => k_is); (case xb_NoStep => k_is); (case xt_NoStep => k_is); (case xa_NoText => k_is); (case xq_NoText => k_exc); (case xk_NoText => k_is); (case xb_NoText => k_is); (case xt_NoText => k_is); (case xa_NoValue => k_is); (case xq_NoValue => k_exc); (case xk_NoValue => k_is); (case xb_NoValue => k_is); (case xt_NoValue => k_is); (case xa_NoWay => k_is); (case xq_NoWay => k_exc); (case xk_NoWay => k_is); (case xb_NoWay => k_is); (case xt_NoWay => k_is); (case xa_NotPlain => k_is); (case xq_NotPlain => k_exc); (case xk_NotPlain => k_is); (case xb_NotPlain => k_is); (case xt_NotPlain => k_is); (case xa_Reached => k_is); (case xq_Reached => k_exc); (case xk_Reached => k_is); (case xb_Reached => k_is); (case xt_Reached => k_is); (case xa_TooLong => k_is); (case xq_TooLong => k_exc); (case xk_TooLong => k_is); (case xb_TooLong => k_is); (case xt_TooLong => k_is); (case xa_Twice => k_is); (case xq_Twice => k_exc); (case xk_Twice => k_is); (case xb_Twice => k_is); (case xt_Twice => k_is); (case xa_WalkError => k_is); (case xq_WalkError => k_exc); (case xk_WalkError => k_is); (case xb_WalkError => k_is); (case xt_WalkError => k_is); (case xd_WalkError => k_is); (case xs_NoStep_WalkError => first | rfl | k_is); (case y1_Endless => k_is); (case y2_Endless => k_is); (case y3_Endless => k_is); (case y4_Endless => k_is); (case y7_Endless => k_is); (case y1_NoName => k_is); (case y2_NoName => k_is); (case y3_NoName => k_is); (case y4_NoName => k_is); (case y7_NoName => k_is); (case y1_NoRow => k_is); (case y2_NoRow => k_is); (case y3_NoRow => k_is); (case y4_NoRow => k_is); (case y7_NoRow => k_is); (case y1_NoStep => k_is); (case y2_NoStep => k_is); (case y3_NoStep => k_is); (case y4_NoStep => k_is); (case y7_NoStep => k_is); (case y1_NoText => k_is); (case y2_NoText => k_is); (case y3_NoText => k_is); (case y4_NoText => k_is); (case y7_NoText => k_is); (case y1_NoValue => k_is); (case y2_NoValue => k_is); (case y3_NoValue => k_is); (case y4_NoValue => k_is); (case y7_NoValue => k_is); (case y1_NoWay => k_is); (case y2_NoWay => k_is); (case y3_NoWay => k_is); (case y4_NoWay => k_is); (case y7_NoWay => k_is); (case y1_NotPlain => k_is); (case y2_NotPlain => k_is); (case y3_NotPlain => k_is); (case y4_NotPlain => k_is); (case y7_NotPlain => k_is); (case y1_Reached => k_is); (case y2_Reached => k_is); (case y3_Reached => k_is); (case y4_Reached => k_is); (case y7_Reached => k_is); (case y1_TooLong => k_is); (case y2_TooLong => k_is); (case y3_TooLong => k_is); (case y4_TooLong => k_is); (case y7_TooLong => k_is); (case y1_Twice => k_is); (case y2_Twice => k_is); (case y3_Twice => k_is); (case y4_Twice => k_is); (case y7_Twice => k_is); (case y5 => k_is); (case y6 => k_is); (case xi_Endless_Endless => first | rfl | k_is); (case xi_Endless_NoName => first | rfl | k_is); (case xi_Endless_NoRow => first | rfl | k_is); (case xi_Endless_NoStep => first | rfl | k_is); (case xi_Endless_NoText => first | rfl | k_is); (case xi_Endless_NoValue => first | rfl | k_is); (case xi_Endless_NoWay => first | rfl | k_is); (case xi_Endless_NotPlain => first | rfl | k_is); (case xi_Endless_Reached => first | rfl | k_is); (case xi_Endless_TooLong => first | rfl | k_is); (case xi_Endless_Twice => first | rfl | k_is); (case xi_Endless_ValueError => first | rfl | k_is); (case xi_Endless_WalkError => first | rfl | k_is); (case xi_NoName_Endless => first | rfl | k_is); (case xi_NoName_NoName => first | rfl | k_is); (case xi_NoName_NoRow => first | rfl | k_is); (case xi_NoName_NoStep => first | rfl | k_is); (case xi_NoName_NoText => first | rfl | k_is); (case xi_NoName_NoValue => first | rfl | k_is); (case xi_NoName_NoWay => first | rfl | k_is); (case xi_NoName_NotPlain => first | rfl | k_is); (case xi_NoName_Reached => first | rfl | k_is); (case xi_NoName_TooLong => first | rfl | k_is); (case xi_NoName_Twice => first | rfl | k_is); (case xi_NoName_ValueError => first | rfl | k_is); (case xi_NoName_WalkError => first | rfl | k_is); (case xi_NoRow_Endless => first | rfl | k_is); (case xi_NoRow_NoName => first | rfl | k_is); (case xi_NoRow_NoRow => first | rfl | k_is); (case xi_NoRow_NoStep => first | rfl | k_is); (case xi_NoRow_NoText => first | rfl | k_is); (case xi_NoRow_NoValue => first | rfl | k_is); (case xi_NoRow_NoWay => first | rfl | k_is); (case xi_NoRow_NotPlain => first | rfl | k_is); (case xi_NoRow_Reached => first | rfl | k_is); (case xi_NoRow_TooLong => first | rfl | k_is); (case xi_NoRow_Twice => first | rfl | k_is); (case xi_NoRow_ValueError => first | rfl | k_is); (case xi_NoRow_WalkError => first | rfl | k_is); (case xi_NoStep_Endless => first | rfl | k_is); (case xi_NoStep_NoName => first | rfl | k_is); (case xi_NoStep_NoRow => first | rfl | k_is); (case xi_NoStep_NoStep => first | rfl | k_is); (case xi_NoStep_NoText => first | rfl | k_is); (case xi_NoStep_NoValue => first | rfl | k_is); (case xi_NoStep_NoWay => first | rfl | k_is); (case xi_NoStep_NotPlain => first | rfl | k_is); (case xi_NoStep_Reached => first | rfl | k_is); (case xi_NoStep_TooLong => first | rfl | k_is); (case xi_NoStep_Twice => first | rfl | k_is); (case xi_NoStep_ValueError => first | rfl | k_is); (case xi_NoStep_WalkError => first | rfl | k_is); (case xi_NoText_Endless => first | rfl | k_is); (case xi_NoText_NoName => first | rfl | k_is); (case xi_NoText_NoRow => first | rfl | k_is); (case xi_NoText_NoStep => first | rfl | k_is); (case xi_NoText_NoText => first | rfl | k_is); (case xi_NoText_NoValue => first | rfl | k_is); (case xi_NoText_NoWay => first | rfl | k_is); (case xi_NoText_NotPlain => first | rfl | k_is); (case xi_NoText_Reached => first | rfl | k_is); (case xi_NoText_TooLong => first | rfl | k_is); (case xi_NoText_Twice => first | rfl | k_is); (case xi_NoText_ValueError => first | rfl | k_is); (case xi_NoText_WalkError => first | rfl | k_is); (case xi_NoValue_Endless => first | rfl | k_is); (case xi_NoValue_NoName => first | rfl | k_is); (case xi_NoValue_NoRow => first | rfl | k_is); (case xi_NoValue_NoStep => first | rfl | k_is); (case xi_NoValue_NoText => first | rfl | k_is); (case xi_NoValue_NoValue => first | rfl | k_is); (case xi_NoValue_NoWay => first | rfl | k_is); (case xi_NoValue_NotPlain => first | rfl | k_is); (case xi_NoValue_Reached => first | rfl | k_is); (case xi_NoValue_TooLong => first | rfl | k_is); (case xi_NoValue_Twice => first | rfl | k_is); (case xi_NoValue_ValueError => first | rfl | k_is); (case xi_NoValue_WalkError => first | rfl | k_is); (case xi_NoWay_Endless => first | rfl | k_is); (case xi_NoWay_NoName => first | rfl | k_is); (case xi_NoWay_NoRow => first | rfl | k_is); (case xi_NoWay_NoStep => first | rfl | k_is); (case xi_NoWay_NoText => first | rfl | k_is); (case xi_NoWay_NoValue => first | rfl | k_is); (case xi_NoWay_NoWay => first | rfl | k_is); (case xi_NoWay_NotPlain => first | rfl | k_is); (case xi_NoWay_Reached => first | rfl | k_is); (case xi_NoWay_TooLong => first | rfl | k_is); (case xi_NoWay_Twice => first | rfl | k_is); (case xi_NoWay_ValueError => first | rfl | k_is); (case xi_NoWay_WalkError => first | rfl | k_is); (case xi_NotPlain_Endless => first | rfl | k_is); (case xi_NotPlain_NoName => first | rfl | k_is); (case xi_NotPlain_NoRow => first | rfl | k_is); (case xi_NotPlain_NoStep => first | rfl | k_is); (case xi_NotPlain_NoText => first | rfl | k_is); (case xi_NotPlain_NoValue => first | rfl | k_is); (case xi_NotPlain_NoWay => first | rfl | k_is); (case xi_NotPlain_NotPlain => first | rfl | k_is); (case xi_NotPlain_Reached => first | rfl | k_is); (case xi_NotPlain_TooLong => first | rfl | k_is); (case xi_NotPlain_Twice => first | rfl | k_is); (case xi_NotPlain_ValueError => first | rfl | k_is); (case xi_NotPlain_WalkError => first | rfl | k_is); (case xi_Reached_Endless => first | rfl | k_is); (case xi_Reached_NoName => first | rfl | k_is); (case xi_Reached_NoRow => first | rfl | k_is); (case xi_Reached_NoStep => first | rfl | k_is); (case xi_Reached_NoText => first | rfl | k_is); (case xi_Reached_NoValue => first | rfl | k_is); (case xi_Reached_NoWay => first | rfl | k_is); (case xi_Reached_NotPlain => first | rfl | k_is); (case xi_Reached_Reached => first | rfl | k_is); (case xi_Reached_TooLong => first | rfl | k_is); (case xi_Reached_Twice => first | rfl | k_is); (case xi_Reached_ValueError => first | rfl | k_is); (case xi_Reached_WalkError => first | rfl | k_is); (case xi_TooLong_Endless => first | rfl | k_is); (case xi_TooLong_NoName => first | rfl | k_is); (case xi_TooLong_NoRow => first | rfl | k_is); (case xi_TooLong_NoStep => first | rfl | k_is); (case xi_TooLong_NoText => first | rfl | k_is); (case xi_TooLong_NoValue => first | rfl | k_is); (case xi_TooLong_NoWay => first | rfl | k_is); (case xi_TooLong_NotPlain => first | rfl | k_is); (case xi_TooLong_Reached => first | rfl | k_is); (case xi_TooLong_TooLong => first | rfl | k_is); (case xi_TooLong_Twice => first | rfl | k_is); (case xi_TooLong_ValueError => first | rfl | k_is); (case xi_TooLong_WalkError => first | rfl | k_is); (case xi_Twice_Endless => first | rfl | k_is); (case xi_Twice_NoName => first | rfl | k_is); (case xi_Twice_NoRow => first | rfl | k_is); (case xi_Twice_NoStep => first | rfl | k_is); (case xi_Twice_NoText => first | rfl | k_is); (case xi_Twice_NoValue => first | rfl | k_is); (case xi_Twice_NoWay => first | rfl | k_is); (case xi_Twice_NotPlain => first | rfl | k_is); (case xi_Twice_Reached => first | rfl | k_is); (case xi_Twice_TooLong => first | rfl | k_is); (case xi_Twice_Twice => first | rfl | k_is); (case xi_Twice_ValueError => first | rfl | k_is); (case xi_Twice_WalkError => first | rfl | k_is)

