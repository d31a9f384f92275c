import PyProof.Rows.All
import Wide.All
import OpenK.AllK
import Wide.FinOn
import PySem.Challenge.RW_callwalk_k53_refused_programs
import HandS.ForMost
import HandS.ForExc
import HandS.Wide
import HandS.Deep
import KE.KeyNested
import HandS.TupAny
import HandS.IsInst
import HandS.Text
import HandS.CallSlots
import HandS.TryMany
import HandS.SetKeys
import PyProof.DictMoreH
import HandS.WideBits
import HandS.Style
import HandS.ExcIs
import HandS.TupSets
import HandS.Conv
import HandS.Zip
import KE.KDictWalk
import HandS.DictTup
import HandS.Defaults
import KE.DataMinMax
import PyProof.Rows.CallKwBuiltin
import HandS.SetFor
import PyProof.Rows.SetFrom
import HandS.Strs
import HandS.Rev
import HandS.Iter
import PyProof.ListStr
import KE.KEqDict
import HandS.TupLen
import KE.DataFind
import HandS.RaiseMore
import KE.GoesEnum
import HandS.FStr
import KE.SortData
import KE.KDictCopyH
import KE.KDictOf
import HandS.Codes
import HandS.More
import HandS.Flow
import KE.KDictDisplayH
import HandS.ClsMeth
import HandS.TryElse
import HandS.New0
import KE.GoesComp
import HandS.Exc
set_option Elab.async false
set_option linter.all false
set_option maxRecDepth 100000
set_option maxHeartbeats 4000000
namespace DL
open PySem PySem.Spec PyProof.Rows L2
inductive D where
  | non | bl (b : Bool) | int (i : Int) | str (x : Str)
  | tup (xs : List D) | lst (xs : List D)
  | dK (kvs : List (Key × D)) | dT (kvs : List (List Key × D))
  | obj (C : Addr) (fs : List (Str × D))
  /-- a dict whose keys are tuples of any depth -/
  | dN (w : World) (kvs : List (NestedKey × D))
inductive Res (α : Type) where
  | ok (a : α) | ex (c : Str) | no
namespace Res
variable {α β : Type}
def bind : Res α → (α → Res β) → Res β
  | .ok a, f => f a
  | .ex c, _ => .ex c
  | .no, _ => .no
instance : Monad Res where
  pure := .ok
  bind := bind
@[simp] theorem bind_ok (a : α) (f : α → Res β) : (Res.ok a >>= f) = f a := rfl
@[simp] theorem bind_ex (c : Str) (f : α → Res β) : (Res.ex c >>= f) = .ex c := rfl
@[simp] theorem bind_no (f : α → Res β) : (Res.no >>= f) = .no := rfl
@[simp] theorem pure_eq (a : α) : (pure a : Res α) = .ok a := rfl
end Res
mutual
def imm : D → Bool
  | .non => true
  | .bl _ => true
  | .int _ => true
  | .str _ => true
  | .tup xs => imms xs
  | .lst _ => false
  | .dK _ => false
  | .dT _ => false
  | .obj _ _ => false
  | .dN _ _ => false
def imms : List D → Bool
  | [] => true
  | x :: r => imm x && imms r
end
mutual
def KeyR (G : Hp) : NestedKey → V → Prop
  | .none, v => v = .non
  | .num i, v => v = .int i
  | .text x, v => v = .str x
  | .tup ks, v => ∃ a vs, v = .ref a ∧ G a = some (.tup vs) ∧ KeysR G ks vs
def KeysR (G : Hp) : List NestedKey → List V → Prop
  | [], vs => vs = []
  | k :: r, vs => ∃ v s, vs = v :: s ∧ KeyR G k v ∧ KeysR G r s
end
mutual
theorem KeyR.le {G G' : Hp} (l : ∀ a vs, G a = some (.tup vs) → G' a = some (.tup vs)) : ∀ {k : NestedKey} {v : V}, KeyR G k v → KeyR G' k v
  | .none, _, h => h
  | .num _, _, h => h
  | .text _, _, h => h
  | .tup ks, _, ⟨a, vs, e, h, r⟩ => ⟨a, vs, e, l _ _ h, KeysR.le l r⟩
theorem KeysR.le {G G' : Hp} (l : ∀ a vs, G a = some (.tup vs) → G' a = some (.tup vs)) : ∀ {ks : List NestedKey} {vs : List V}, KeysR G ks vs → KeysR G' ks vs
  | [], _, h => h
  | k :: r, _, ⟨v, s, e, h, q⟩ => ⟨v, s, e, KeyR.le l h, KeysR.le l q⟩
end
abbrev ObjX (a : Addr) (o : Obj) : HO := .ext fun h => h.get? a = some o
abbrev NEnt := NestedKey × Addr × V
def DatN (w : World) (a : Addr) (o : Obj) (xs : List NEnt) : Prop :=
  xs.length ≤ sizeLine ∧ (a == sysModules) = false ∧ o.ExactDict ∧ (xs.map (·.1)).Nodup ∧ (∀ x ∈ xs, x.1.depth ≤ 8) ∧ ∃ es ep vs, o.data = .dict es ep ∧
    Paired (fun (p : NEnt) (q : NestedKey × Addr × Value) => p.1 = q.1 ∧ p.2.1 = q.2.1 ∧ RelV p.2.2 q.2.2) xs vs ∧ es.toList = vs.map fun x => (⟨x.1.hash w, .ref x.2.1, x.2.2⟩ : DictEntry)
mutual
def Rep (G : Hp) : D → V → Prop
  | .non, v => v = .non
  | .bl b, v => v = .bl b
  | .int i, v => v = .int i
  | .str x, v => v = .str x
  | .tup ds, v => ∃ a vs, v = .ref a ∧ G a = some (.tup vs) ∧ Reps G ds vs
  | .lst ds, v => ∃ a vs, v = .ref a ∧ Rd G a (.lst vs) ∧ Reps G ds vs
  | .dK kvs, v => ∃ a ws, v = .ref a ∧ Rd G a (.dK ws) ∧ RepK G kvs ws
  | .dT kvs, v => ∃ a ws, v = .ref a ∧ Rd G a (.dT ws) ∧ RepT G kvs ws
  | .obj C fs, v => ∃ a dx ws, v = .ref a ∧ G a = some (.ins C dx ws) ∧ RepF G fs ws
  | .dN w kvs, v => ∃ a o xs, v = .ref a ∧ Rd G a (ObjX a o) ∧ DatN w a o xs ∧ RepN G kvs xs
def Reps (G : Hp) : List D → List V → Prop
  | [], vs => vs = []
  | d :: r, vs => ∃ v s, vs = v :: s ∧ Rep G d v ∧ Reps G r s
def RepK (G : Hp) : List (Key × D) → List (Key × V) → Prop
  | [], vs => vs = []
  | (k, d) :: r, vs => ∃ v s, vs = (k, v) :: s ∧ Rep G d v ∧ RepK G r s
def RepT (G : Hp) : List (List Key × D) → List (List Key × V) → Prop
  | [], vs => vs = []
  | (k, d) :: r, vs => ∃ v s, vs = (k, v) :: s ∧ Rep G d v ∧ RepT G r s
def RepF (G : Hp) : List (Str × D) → List (Str × V) → Prop
  | [], vs => vs = []
  | (k, d) :: r, vs => ∃ v s, vs = (k, v) :: s ∧ Rep G d v ∧ RepF G r s
def RepN (G : Hp) : List (NestedKey × D) → List NEnt → Prop
  | [], vs => vs = []
  | (k, d) :: r, vs => ∃ b v s, vs = (k, b, v) :: s ∧ KeyR G k (.ref b) ∧ Rep G d v ∧ RepN G r s
end
def Le (G G' : Hp) : Prop := (∀ a u, Rd G a u → Rd G' a u) ∧ (∀ a vs, G a = some (.tup vs) → G' a = some (.tup vs)) ∧ ∀ a C dx ws, G a = some (.ins C dx ws) → G' a = some (.ins C dx ws)
theorem Le.of {G G' : Hp} (h : ∀ a o, G a = some o → G' a = some o) : Le G G' :=
  ⟨fun a u r => r.elim (fun q => .inl (h _ _ q)) fun ⟨o, q⟩ => .inr ⟨o, h _ _ q⟩, fun a vs q => h _ _ q, fun a C dx ws q => h _ _ q⟩
mutual
theorem Rep.le {G G' : Hp} (l : Le G G') : ∀ {d : D} {v : V}, Rep G d v → Rep G' d v
  | .non, _, h => h
  | .bl _, _, h => h
  | .int _, _, h => h
  | .str _, _, h => h
  | .tup ds, _, ⟨a, vs, e, h, r⟩ => ⟨a, vs, e, l.2.1 _ _ h, Reps.le l r⟩
  | .lst ds, _, ⟨a, vs, e, h, r⟩ => ⟨a, vs, e, l.1 _ _ h, Reps.le l r⟩
  | .dK kvs, _, ⟨a, vs, e, h, r⟩ => ⟨a, vs, e, l.1 _ _ h, RepK.le l r⟩
  | .dT kvs, _, ⟨a, vs, e, h, r⟩ => ⟨a, vs, e, l.1 _ _ h, RepT.le l r⟩
  | .obj C fs, _, ⟨a, dx, ws, e, h, r⟩ => ⟨a, dx, ws, e, l.2.2 _ _ _ _ h, RepF.le l r⟩
  | .dN w kvs, _, ⟨a, o, xs, e, h, dt, r⟩ => ⟨a, o, xs, e, l.1 _ _ h, dt, RepN.le l r⟩
theorem Reps.le {G G' : Hp} (l : Le G G') : ∀ {ds : List D} {vs : List V}, Reps G ds vs → Reps G' ds vs
  | [], _, h => h
  | d :: r, _, ⟨v, s, e, h, q⟩ => ⟨v, s, e, Rep.le l h, Reps.le l q⟩
theorem RepK.le {G G' : Hp} (l : Le G G') : ∀ {ds : List (Key × D)} {vs : List (Key × V)}, RepK G ds vs → RepK G' ds vs
  | [], _, h => h
  | (k, d) :: r, _, ⟨v, s, e, h, q⟩ => ⟨v, s, e, Rep.le l h, RepK.le l q⟩
theorem RepT.le {G G' : Hp} (l : Le G G') : ∀ {ds : List (List Key × D)} {vs : List (List Key × V)}, RepT G ds vs → RepT G' ds vs
  | [], _, h => h
  | (k, d) :: r, _, ⟨v, s, e, h, q⟩ => ⟨v, s, e, Rep.le l h, RepT.le l q⟩
theorem RepF.le {G G' : Hp} (l : Le G G') : ∀ {ds : List (Str × D)} {vs : List (Str × V)}, RepF G ds vs → RepF G' ds vs
  | [], _, h => h
  | (k, d) :: r, _, ⟨v, s, e, h, q⟩ => ⟨v, s, e, Rep.le l h, RepF.le l q⟩
theorem RepN.le {G G' : Hp} (l : Le G G') : ∀ {ds : List (NestedKey × D)} {vs : List NEnt}, RepN G ds vs → RepN G' ds vs
  | [], _, h => h
  | (k, d) :: r, _, ⟨b, v, s, e, hk, h, q⟩ => ⟨b, v, s, e, hk.le l.2.1, Rep.le l h, RepN.le l q⟩
end
mutual
theorem Rep.imm {G G' : Hp} (l : ∀ a vs, G a = some (.tup vs) → G' a = some (.tup vs)) : ∀ {d : D} {v : V}, imm d = true → Rep G d v → Rep G' d v
  | .non, _, _, h => h
  | .bl _, _, _, h => h
  | .int _, _, _, h => h
  | .str _, _, _, h => h
  | .tup ds, _, i, ⟨a, vs, e, h, r⟩ => ⟨a, vs, e, l _ _ h, Reps.imm l (by simpa [DL.imm] using i) r⟩
  | .lst ds, _, i, _ => by simp [DL.imm] at i
  | .dK kvs, _, i, _ => by simp [DL.imm] at i
  | .dT kvs, _, i, _ => by simp [DL.imm] at i
  | .obj C fs, _, i, _ => by simp [DL.imm] at i
  | .dN w kvs, _, i, _ => by simp [DL.imm] at i
theorem Reps.imm {G G' : Hp} (l : ∀ a vs, G a = some (.tup vs) → G' a = some (.tup vs)) : ∀ {ds : List D} {vs : List V}, imms ds = true → Reps G ds vs → Reps G' ds vs
  | [], _, _, h => h
  | d :: r, _, i, ⟨v, s, e, h, q⟩ => by
    have j := i
    simp only [imms, Bool.and_eq_true] at j
    exact ⟨v, s, e, Rep.imm l j.1 h, Reps.imm l j.2 q⟩
end
section
variable {G : Hp}
theorem Reps.length : ∀ {ds : List D} {vs : List V}, Reps G ds vs → vs.length = ds.length
  | [], _, h => by rw [show _ = [] from h]; rfl
  | d :: r, _, ⟨v, s, e, h, q⟩ => by rw [e]; simp [Reps.length q]
theorem Reps.get : ∀ {ds : List D} {vs : List V} {i : Nat} {d : D}, Reps G ds vs → ds[i]? = some d → ∃ v, vs[i]? = some v ∧ Rep G d v
  | [], _, _, _, _, e => by simp at e
  | x :: r, _, 0, d, ⟨v, s, e, h, q⟩, e2 => by simp at e2; subst e2; exact ⟨v, by rw [e]; rfl, h⟩
  | x :: r, _, i + 1, d, ⟨v, s, e, h, q⟩, e2 => by
    obtain ⟨w, e3, e4⟩ := Reps.get (i := i) (d := d) q (by simpa using e2)
    exact ⟨w, by rw [e]; simpa using e3, e4⟩
theorem Reps.append : ∀ {ds es : List D} {vs ws : List V}, Reps G ds vs → Reps G es ws → Reps G (ds ++ es) (vs ++ ws)
  | [], _, _, _, h, q => by rw [show _ = [] from h]; exact q
  | d :: r, _, _, _, ⟨v, s, e, h, q⟩, q2 => ⟨v, s ++ _, by rw [e]; rfl, h, Reps.append q q2⟩
theorem Reps.one {d : D} {v : V} (h : Rep G d v) : Reps G [d] [v] := ⟨v, [], rfl, h, rfl⟩
theorem Reps.drop : ∀ {ds : List D} {vs : List V} (n : Nat), Reps G ds vs → Reps G (ds.drop n) (vs.drop n)
  | _, _, 0, h => h
  | [], _, n + 1, h => by rw [show _ = [] from h]; exact rfl
  | d :: r, _, n + 1, ⟨v, s, e, h, q⟩ => by rw [e]; exact Reps.drop n q
theorem Reps.take : ∀ {ds : List D} {vs : List V} (n : Nat), Reps G ds vs → Reps G (ds.take n) (vs.take n)
  | _, _, 0, h => by simp [Reps]
  | [], _, n + 1, h => by rw [show _ = [] from h]; exact rfl
  | d :: r, _, n + 1, ⟨v, s, e, h, q⟩ => by rw [e]; exact ⟨v, s.take n, rfl, h, Reps.take n q⟩
theorem Reps.set : ∀ {ds : List D} {vs : List V} {d : D} {v : V} (n : Nat), Reps G ds vs → Rep G d v → Reps G (ds.set n d) (vs.set n v)
  | [], _, _, _, n, h, _ => by rw [show _ = [] from h]; cases n <;> exact rfl
  | x :: r, _, d, w, 0, ⟨v, s, e, h, q⟩, h2 => by rw [e]; exact ⟨w, s, rfl, h2, q⟩
  | x :: r, _, d, w, n + 1, ⟨v, s, e, h, q⟩, h2 => by rw [e]; exact ⟨v, s.set n w, rfl, h, Reps.set n q h2⟩
end
def Sub (G H : Hp) : Prop := ∀ a o, G a = some o → H a = some o
structure Ext (G H G' H' : Hp) : Prop where
  h : ∀ a o, H a = some o → H' a = some o
  g : ∀ a o, G a = some o → G' a = some o
  s : Sub G' H'
  n : ∀ a o, G' a = some o → G a = some o ∨ H a = none ∨ ∃ vs, o = .tup vs
theorem Ext.refl {G H : Hp} (s : Sub G H) : Ext G H G H := ⟨fun _ _ h => h, fun _ _ h => h, s, fun _ _ h => .inl h⟩
theorem Ext.trans {G H G1 H1 G2 H2 : Hp} (a : Ext G H G1 H1) (b : Ext G1 H1 G2 H2) : Ext G H G2 H2 where
  h := fun x o e => b.h x o (a.h x o e)
  g := fun x o e => b.g x o (a.g x o e)
  s := b.s
  n := fun x o e => by
    rcases b.n x o e with q | q | q
    · exact a.n x o q
    · refine .inr (.inl ?_)
      cases r : H x with
      | none => rfl
      | some u => rw [a.h x u r] at q; cases q
    · exact .inr (.inr q)
theorem Ext.free {G H G' H' : Hp} (e : Ext G H G' H') {a : Addr} (q : H' a = none) : H a = none := by
  cases r : H a with
  | none => rfl
  | some u => rw [e.h a u r] at q; cases q
theorem Ext.le {G H G' H' : Hp} (e : Ext G H G' H') : Le G G' := Le.of e.g
theorem Ext.new {G H : Hp} (s : Sub G H) {p : Addr} {o : HO} (np : H p = none) : Ext G H (upd G p o) (upd H p o) where
  h := fun a u e => by rw [upd_ne (ne_of_none e np)]; exact e
  g := fun a u e => by rw [upd_ne (ne_of_none (s a u e) np)]; exact e
  s := fun a u e => by
    by_cases h : a = p
    · subst h; rw [upd_same] at e ⊢; exact e
    · rw [upd_ne h] at e ⊢; exact s a u e
  n := fun a u e => by
    by_cases h : a = p
    · subst h; exact .inr (.inl np)
    · rw [upd_ne h] at e; exact .inl e
theorem Ext.hid {G H : Hp} (s : Sub G H) {p : Addr} {o : HO} (np : H p = none) : Ext G H G (upd H p o) where
  h := fun a u e => by rw [upd_ne (ne_of_none e np)]; exact e
  g := fun a u e => e
  s := fun a u e => by rw [upd_ne (ne_of_none (s a u e) np)]; exact s a u e
  n := fun a u e => .inl e
theorem Ext.up {G H H' : Hp} (s : Sub G H) (h : ∀ a o, H a = some o → H' a = some o) : Ext G H G H' := ⟨h, fun _ _ e => e, fun a o e => h a o (s a o e), fun _ _ e => .inl e⟩
def tupG (G H : Hp) : Hp := fun a => match H a with
  | some (.tup vs) => some (.tup vs)
  | _ => G a
theorem tupG_tup {G H : Hp} {a : Addr} {vs : List V} (h : H a = some (.tup vs)) : tupG G H a = some (.tup vs) := by unfold tupG; rw [h]
theorem Ext.tups {G H H' : Hp} (s : Sub G H) (h : ∀ a o, H a = some o → H' a = some o) : Ext G H (tupG G H') H' where
  h := h
  g := fun a o e => by
    have e2 := h a o (s a o e)
    unfold tupG
    rw [e2]
    cases o <;> first | exact e | rfl
  s := fun a o e => by
    unfold tupG at e
    split at e
    · rename_i vs q; rw [q]; exact e
    · exact h a o (s a o e)
  n := fun a o e => by
    unfold tupG at e
    split at e
    · exact .inr (.inr ⟨_, (Option.some.inj e).symm⟩)
    · exact .inl e
abbrev Env := List (Option D)
structure EnvR (G : Hp) (σ : L2.St) (ρ : Env) : Prop where
  len : ρ.length = σ.length
  val : ∀ (i : Nat) (d : D), ρ[i]? = some (some d) → ∃ v, σ[i]? = some (some v) ∧ Rep G d v
theorem EnvR.le {G G' : Hp} {σ : L2.St} {ρ : Env} (l : Le G G') (h : EnvR G σ ρ) : EnvR G' σ ρ := ⟨h.len, fun i d e => by
  obtain ⟨v, h1, h2⟩ := h.val i d e
  exact ⟨v, h1, h2.le l⟩⟩
theorem EnvR.set {G : Hp} {σ : L2.St} {ρ : Env} {j : Nat} {d : D} {v : V} (h : EnvR G σ ρ) (r : Rep G d v) : EnvR G (σ.set j (some v)) (ρ.set j (some d)) := ⟨by simp [h.len], fun i d' e => by
  by_cases hi : j = i
  · subst hi
    by_cases hv : j < ρ.length
    · rw [List.getElem?_set_self hv] at e; cases e
      exact ⟨v, List.getElem?_set_self (by rw [← h.len]; exact hv), r⟩
    · rw [List.getElem?_eq_none (by simpa using hv)] at e; cases e
  · rw [List.getElem?_set_ne hi] at e
    obtain ⟨w, h1, h2⟩ := h.val i d' e
    exact ⟨w, by rw [List.getElem?_set_ne hi]; exact h1, h2⟩⟩
theorem EnvR.unset {G : Hp} {σ : L2.St} {ρ : Env} {j : Nat} {x : Option V} (h : EnvR G σ ρ) : EnvR G (σ.set j x) (ρ.set j none) := ⟨by simp [h.len], fun i d' e => by
  by_cases hi : j = i
  · subst hi
    by_cases hv : j < ρ.length
    · rw [List.getElem?_set_self hv] at e; cases e
    · rw [List.getElem?_eq_none (by simpa using hv)] at e; cases e
  · rw [List.getElem?_set_ne hi] at e
    obtain ⟨w, h1, h2⟩ := h.val i d' e
    exact ⟨w, by rw [List.getElem?_set_ne hi]; exact h1, h2⟩⟩
def Gl (mg : Str → Option Value) (W : WX) (G H : Hp) (σ : L2.St) {α : Type} (P : α → Hp → Hp → Prop) : Res α → Prop
  | .ok a => ∀ G' H', Ext G H G' H' → P a G' H'
  | .ex c => ∀ C G' H', mg c = some (.ref C) → Ext G H G' H' → W (.ref C) none σ H'
  | .no => False
section
variable {mg : Str → Option Value} {W : WX} {G H G1 H1 : Hp} {σ : L2.St} {α β : Type}
theorem Gl.mono {P : α → Hp → Hp → Prop} {r : Res α} (e : Ext G H G1 H1) (h : Gl mg W G H σ P r) : Gl mg W G1 H1 σ P r := by
  cases r with
  | ok a => exact fun G' H' e' => h G' H' (e.trans e')
  | ex c => exact fun C G' H' m e' => h C G' H' m (e.trans e')
  | no => exact h
theorem Gl.imp {P P' : α → Hp → Hp → Prop} {r : Res α} (i : ∀ a G' H', r = .ok a → Ext G H G' H' → P a G' H' → P' a G' H') (h : Gl mg W G H σ P r) : Gl mg W G H σ P' r := by
  cases r with
  | ok a => exact fun G' H' e' => i a G' H' rfl e' (h G' H' e')
  | ex c => exact h
  | no => exact h
theorem Gl.bind {P : β → Hp → Hp → Prop} {r : Res α} {k : α → Res β} (h : Gl mg W G H σ P (r >>= k)) : Gl mg W G H σ (fun a G' H' => Gl mg W G' H' σ P (k a)) r := by
  cases r with
  | ok a => exact fun G' H' e' => Gl.mono e' (show Gl mg W G H σ P (k a) from h)
  | ex c => exact h
  | no => exact h
end
abbrev GlE (mg : Str → Option Value) (W : WX) (G H : Hp) (σ : L2.St) (Q : VK) : Res D → Prop := Gl mg W G H σ fun d G' H' => ∀ v, Rep G' d v → Q v H'
abbrev GlT (mg : Str → Option Value) (W : WX) (G H : Hp) (σ : L2.St) (Q : Bool → Hp → Prop) : Res Bool → Prop := Gl mg W G H σ fun b _ H' => Q b H'
abbrev GlA (mg : Str → Option Value) (W : WX) (G H : Hp) (σ : L2.St) (Q : List V → Hp → Prop) : Res (List D) → Prop := Gl mg W G H σ fun ds G' H' => ∀ vs, Reps G' ds vs → Q vs H'
def DE (X : Cx) (W : WX) (e : Expr) (f : Env → Res D) : Prop :=
  ∃ t : TE, PE X e t ∧ ∀ (G H : Hp) (σ : L2.St) (ρ : Env) (Q : VK), Sub G H → EnvR G σ ρ → GlE X.mg W G H σ Q (f ρ) → t σ H Q
def DT (X : Cx) (W : WX) (e : Expr) (f : Env → Res Bool) : Prop :=
  ∃ t : TT, PT X e t ∧ ∀ (G H : Hp) (σ : L2.St) (ρ : Env) (Q : Bool → Hp → Prop), Sub G H → EnvR G σ ρ → GlT X.mg W G H σ Q (f ρ) → t σ H Q
def DA (X : Cx) (W : WX) (es : List Expr) (f : Env → Res (List D)) : Prop :=
  ∃ t : TA, PA X es t ∧ ∀ (G H : Hp) (σ : L2.St) (ρ : Env) (Q : List V → Hp → Prop), Sub G H → EnvR G σ ρ → GlA X.mg W G H σ Q (f ρ) → t σ H Q
def vVar (i : Nat) : Env → Res D := fun ρ => match ρ[i]? with
  | some (some d) => .ok d
  | _ => .no
def vC (d : D) : Env → Res D := fun _ => .ok d
section
variable {X : Cx} {W : WX}
theorem de_var {i : Nat} {x : Str} {pos : Pos} (p : PE X (.Name x pos) (tVar i)) : DE X W (.Name x pos) (vVar i) := by
  refine ⟨_, p, fun G H σ ρ Q s e h => ?_⟩
  unfold vVar at h
  split at h
  · rename_i d q
    obtain ⟨v, h1, h2⟩ := e.val i d q
    exact ⟨v, h1, h G H (Ext.refl s) v h2⟩
  · exact h.elim
theorem de_int {i : Int} {j pos} : DE X W (.Constant (.int i) j pos) (vC (.int i)) := ⟨_, pe_int, fun G H σ ρ Q s e h => h G H (Ext.refl s) _ rfl⟩
theorem de_str {x : Str} {j pos} : DE X W (.Constant (.str x) j pos) (vC (.str x)) := ⟨_, pe_str, fun G H σ ρ Q s e h => h G H (Ext.refl s) _ rfl⟩
theorem de_bl {b : Bool} {j pos} : DE X W (.Constant (.bool b) j pos) (vC (.bl b)) := ⟨_, pe_bl, fun G H σ ρ Q s e h => h G H (Ext.refl s) _ rfl⟩
theorem de_non {j pos} : DE X W (.Constant .none j pos) (vC .non) := ⟨_, pe_non, fun G H σ ρ Q s e h => h G H (Ext.refl s) _ rfl⟩
end
def v2 (g : D → D → Res D) (f1 f2 : Env → Res D) : Env → Res D := fun ρ => f1 ρ >>= fun x => f2 ρ >>= fun y => g x y
def v1 (g : D → Res D) (f1 : Env → Res D) : Env → Res D := fun ρ => f1 ρ >>= g
def Say2 (X : Cx) (W : WX) (r : R2) (g : D → D → Res D) : Prop :=
  ∀ (G H : Hp) (σ : L2.St) (Q : VK) (x y : D) (a b : V), Sub G H → Rep G x a → Rep G y b → GlE X.mg W G H σ Q (g x y) → r a b H Q
section
variable {X : Cx} {W : WX} {e1 e2 : Expr} {f1 f2 : Env → Res D} {pos : Pos}
theorem say_op {r : R2} {g : D → D → Res D} {t1 t2 : TE} (sy : Say2 X W r g)
    (h1 : ∀ (G H : Hp) (σ : L2.St) (ρ : Env) (Q : VK), Sub G H → EnvR G σ ρ → GlE X.mg W G H σ Q (f1 ρ) → t1 σ H Q) (h2 : ∀ (G H : Hp) (σ : L2.St) (ρ : Env) (Q : VK), Sub G H → EnvR G σ ρ → GlE X.mg W G H σ Q (f2 ρ) → t2 σ H Q)
    (G H : Hp) (σ : L2.St) (ρ : Env) (Q : VK) (s : Sub G H) (e : EnvR G σ ρ) (h : GlE X.mg W G H σ Q (v2 g f1 f2 ρ)) : tOp r t1 t2 σ H Q := by
  refine h1 G H σ ρ _ s e (Gl.imp (fun x G1 H1 _ e1 k v rv => ?_) (Gl.bind h))
  refine h2 G1 H1 σ ρ _ e1.s (e.le e1.le) (Gl.imp (fun y G2 H2 _ e2 k w rw => ?_) (Gl.bind k))
  exact sy G2 H2 σ Q x y v w e2.s (rv.le e2.le) rw k
theorem de_op {op : Operator} {r : R2} {g : D → D → Res D} (ho : OpR X (binaryOp op) r) (sy : Say2 X W r g) (d1 : DE X W e1 f1) (d2 : DE X W e2 f2) : DE X W (.BinOp e1 op e2 pos) (v2 g f1 f2) := by
  obtain ⟨t1, p1, h1⟩ := d1
  obtain ⟨t2, p2, h2⟩ := d2
  exact ⟨_, pe_op ho p1 p2, say_op sy h1 h2⟩
theorem de_cmp {op : CmpOp} {r : R2} {g : D → D → Res D} (ho : OpR X (compareOp op) r) (sy : Say2 X W r g) (d1 : DE X W e1 f1) (d2 : DE X W e2 f2) (hm : behindInMarks op e2 = false) : DE X W (.Compare e1 [op] [e2] pos) (v2 g f1 f2) := by
  obtain ⟨t1, p1, h1⟩ := d1
  obtain ⟨t2, p2, h2⟩ := d2
  exact ⟨_, pe_cmpR ho p1 p2 hm, say_op sy h1 h2⟩
theorem de_ix {r : R2} {g : D → D → Res D} (ho : IxR X r) (sy : Say2 X W r g) (d1 : DE X W e1 f1) (d2 : DE X W e2 f2) (hs : PlainIx e2) : DE X W (.Subscript e1 e2 pos) (v2 g f1 f2) := by
  obtain ⟨t1, p1, h1⟩ := d1
  obtain ⟨t2, p2, h2⟩ := d2
  exact ⟨_, pe_ix ho p1 p2 hs, say_op sy h1 h2⟩
def bOf : D → Res Bool
  | .bl b => .ok b
  | _ => .no
def vB (f : Env → Res D) : Env → Res Bool := fun ρ => f ρ >>= bOf
theorem dt_val (d1 : DE X W e1 f1) (he : ∀ whole, isTrue e1 X.env whole = (do let v ← whole; standAt e1.pos; holding [v] (truthy v)) := by intro _; rfl) : DT X W e1 (vB f1) := by
  obtain ⟨t1, p1, h1⟩ := d1
  refine ⟨_, pt_val p1 he, fun G H σ ρ Q s e h => ?_⟩
  refine h1 G H σ ρ _ s e (Gl.imp (fun x G1 H1 _ e1 k v rv => ?_) (Gl.bind h))
  cases x with
  | bl b => exact ⟨b, rv, k G1 H1 (Ext.refl e1.s)⟩
  | _ => exact k.elim
theorem dt_cmp {op : CmpOp} {r : R2} {g : D → D → Res D} (ho : OpR X (compareOp op) r) (sy : Say2 X W r g) (d1 : DE X W e1 f1) (d2 : DE X W e2 f2) (hm : behindInMarks op e2 = false) : DT X W (.Compare e1 [op] [e2] pos) (vB (v2 g f1 f2)) := by
  obtain ⟨t1, p1, h1⟩ := d1
  obtain ⟨t2, p2, h2⟩ := d2
  refine ⟨_, pt_cmpR ho p1 p2 hm, fun G H σ ρ Q s e h => ?_⟩
  refine say_op sy h1 h2 G H σ ρ _ s e (Gl.imp (fun x G1 H1 _ e1 k v rv => ?_) (Gl.bind h))
  cases x with
  | bl b => exact ⟨b, rv, k G1 H1 (Ext.refl e1.s)⟩
  | _ => exact k.elim
end
end DL
namespace DL
open PySem PySem.Spec PyProof.Rows L2
def g_add : D → D → Res D
  | .int i, .int j => .ok (.int (i + j))
  | .str x, .str y => if x.length + y.length ≤ sizeLine then .ok (.str (x ++ y)) else .no
  | .lst xs, .lst ys => if xs.length + ys.length ≤ sizeLine then .ok (.lst (xs ++ ys)) else .no
  | .tup xs, .tup ys => if xs.length + ys.length ≤ sizeLine then .ok (.tup (xs ++ ys)) else .no
  | _, _ => .no
def g_sub : D → D → Res D
  | .int i, .int j => .ok (.int (i - j))
  | _, _ => .no
instance (i j : Int) : Decidable (CMul i j) := inferInstanceAs (Decidable (_ ∨ _))
def g_mul : D → D → Res D
  | .int i, .int j => if CMul i j then .ok (.int (i * j)) else .no
  | _, _ => .no
instance (i j : Int) : Decidable (CDivW i j) := inferInstanceAs (Decidable (_ ∧ _))
def g_fdiv : D → D → Res D
  | .int i, .int j => if CDivW i j then .ok (.int (i / j)) else .no
  | _, _ => .no
def g_mod : D → D → Res D
  | .int i, .int j => if 0 < j then .ok (.int (i % j)) else .no
  | _, _ => .no
def rCatR : R2 := fun x y H Q => ∃ l b xs zs, x = .ref l ∧ y = .ref b ∧ Rd H l (.lst xs) ∧ Rd H b (.lst zs) ∧ xs.length + zs.length ≤ sizeLine ∧ ∀ p, H p = none → Q (.ref p) (upd H p (.lst (xs ++ zs)))
section
variable {X : Cx} {W : WX}
theorem op_catR : OpR X (binaryOp .Add) rCatR := by
  intro pins s σ H x y v u Q I rx ry h
  obtain ⟨l, b, xs, zs, rfl, rfl, hH, hB, hz, q⟩ := h
  cases rx
  cases ry
  obtain ⟨z, its, n, r, e⟩ := hH.ok I.hok
  obtain ⟨z2, its2, n2, r2, e2⟩ := hB.ok I.hok
  refine PySem.P.add_list e e2 ?_ (by rw [List.size_toArray, List.size_toArray, ← r.length, ← r2.length]; exact hz)
  have ea : its.toArray ++ its2.toArray = (its ++ its2).toArray := by simp
  rw [ea]
  exact ⟨.ref _, _, I.lnew (t' := s.toks) (r.append r2) (by rw [List.length_append]; omega), rfl, q _ I.fresh⟩
def rAddAny (K : PySem.W.Frag) : R2 := fun x y H Q => rI0 (fun i j => .int (i + j)) x y H Q ∨ (∃ i j, x = .str i ∧ y = .str j ∧ i.length + j.length ≤ sizeLine ∧ Q (.str (i ++ j)) H) ∨ rCatR x y H Q ∨ rCatA K x y H Q
theorem op_addAny : OpR X (binaryOp .Add) (rAddAny X.K) := op_add.or (op_add_str.or (op_catR.or op_catA))
theorem Gl.newL {G H : Hp} {σ : L2.St} {Q : VK} {ds : List D} {vs : List V} {p : Addr} (s : Sub G H) (np : H p = none) (r : Reps G ds vs) (h : GlE X.mg W G H σ Q (.ok (.lst ds))) : Q (.ref p) (upd H p (.lst vs)) := by
  have e : Ext G H (upd G p (.lst vs)) (upd H p (.lst vs)) := Ext.new s np
  exact h _ _ e _ ⟨p, vs, rfl, .inl upd_same, r.le e.le⟩
theorem Gl.newT {G H : Hp} {σ : L2.St} {Q : VK} {ds : List D} {vs : List V} {p : Addr} (s : Sub G H) (np : H p = none) (r : Reps G ds vs) (h : GlE X.mg W G H σ Q (.ok (.tup ds))) : Q (.ref p) (upd H p (.tup vs)) := by
  have e : Ext G H (upd G p (.tup vs)) (upd H p (.tup vs)) := Ext.new s np
  exact h _ _ e _ ⟨p, vs, rfl, upd_same, r.le e.le⟩
theorem Gl.int {G H : Hp} {σ : L2.St} {Q : VK} {i : Int} (s : Sub G H) (h : GlE X.mg W G H σ Q (.ok (.int i))) : Q (.int i) H := h G H (Ext.refl s) _ rfl
theorem Gl.str {G H : Hp} {σ : L2.St} {Q : VK} {i : Str} (s : Sub G H) (h : GlE X.mg W G H σ Q (.ok (.str i))) : Q (.str i) H := h G H (Ext.refl s) _ rfl
theorem Gl.bl {G H : Hp} {σ : L2.St} {Q : VK} {i : Bool} (s : Sub G H) (h : GlE X.mg W G H σ Q (.ok (.bl i))) : Q (.bl i) H := h G H (Ext.refl s) _ rfl
theorem Gl.val {G H : Hp} {σ : L2.St} {Q : VK} {d : D} {v : V} (s : Sub G H) (r : Rep G d v) (h : GlE X.mg W G H σ Q (.ok d)) : Q v H := h G H (Ext.refl s) v r
theorem Sub.rd {G H : Hp} (s : Sub G H) {a : Addr} {u : HO} (r : Rd G a u) : Rd H a u := (Le.of s).1 _ _ r
theorem Sub.sqT {K : PySem.W.Frag} {G H : Hp} (s : Sub G H) {a : Addr} {vs : List V} (r : G a = some (.tup vs)) : SqT K H a vs := SqT.of (s _ _ r)
theorem Sub.sqL {K : PySem.W.Frag} {G H : Hp} (s : Sub G H) {a : Addr} {vs : List V} (r : Rd G a (.lst vs)) : SqL K H a vs := .inl (s.rd r)
theorem say_add : Say2 X W (rAddAny X.K) g_add := by
  intro G H σ Q x y a b s r1 r2 h
  cases x with
  | int i =>
    cases y with
    | int j => exact .inl ⟨i, j, r1, r2, h.int s⟩
    | _ => exact h.elim
  | str i =>
    cases y with
    | str j =>
      simp only [g_add] at h
      split at h
      · rename_i z; exact .inr (.inl ⟨i, j, r1, r2, z, h.str s⟩)
      · exact h.elim
    | _ => exact h.elim
  | lst xs =>
    cases y with
    | lst ys =>
      simp only [g_add] at h
      split at h
      · rename_i z
        obtain ⟨p, vs, rfl, h1, q1⟩ := r1
        obtain ⟨p2, ws, rfl, h2, q2⟩ := r2
        exact .inr (.inr (.inl ⟨p, p2, vs, ws, rfl, rfl, s.rd h1, s.rd h2, by rw [q1.length, q2.length]; exact z, fun l nl => h.newL s nl (q1.append q2)⟩))
      · exact h.elim
    | _ => exact h.elim
  | tup xs =>
    cases y with
    | tup ys =>
      simp only [g_add] at h
      split at h
      · rename_i z
        obtain ⟨p, vs, rfl, h1, q1⟩ := r1
        obtain ⟨p2, ws, rfl, h2, q2⟩ := r2
        refine .inr (.inr (.inr ⟨p, p2, vs, ws, rfl, rfl, s.sqT h1, s.sqT h2, by rw [q1.length, q2.length]; exact z, fun e => ?_, fun _ e => ?_, fun _ _ l nl => h.newT s nl (q1.append q2)⟩))
        · subst e
          have e2 : xs = [] := by have := q1.length; simpa using this.symm
          subst e2
          exact h.val (d := .tup ys) s ⟨p2, ws, rfl, h2, q2⟩
        · subst e
          have e2 : ys = [] := by have := q2.length; simpa using this.symm
          subst e2
          exact h.val (d := .tup (xs ++ [])) s ⟨p, vs, rfl, h1, by rw [List.append_nil]; exact q1⟩
      · exact h.elim
    | _ => exact h.elim
  | _ => exact h.elim
theorem say_sub : Say2 X W (rI0 fun i j => .int (i - j)) g_sub := by
  intro G H σ Q x y a b s r1 r2 h
  cases x with
  | int i =>
    cases y with
    | int j => exact ⟨i, j, r1, r2, h.int s⟩
    | _ => exact h.elim
  | _ => exact h.elim
theorem say_mul : Say2 X W (rI CMul fun i j => .int (i * j)) g_mul := by
  intro G H σ Q x y a b s r1 r2 h
  cases x with
  | int i =>
    cases y with
    | int j =>
      simp only [g_mul] at h
      split at h
      · rename_i z; exact ⟨i, j, r1, r2, z, h.int s⟩
      · exact h.elim
    | _ => exact h.elim
  | _ => exact h.elim
theorem say_fdiv : Say2 X W (rI CDivW fun i j => .int (i / j)) g_fdiv := by
  intro G H σ Q x y a b s r1 r2 h
  cases x with
  | int i =>
    cases y with
    | int j =>
      simp only [g_fdiv] at h
      split at h
      · rename_i z; exact ⟨i, j, r1, r2, z, h.int s⟩
      · exact h.elim
    | _ => exact h.elim
  | _ => exact h.elim
theorem say_mod : Say2 X W (rI (fun _ j => 0 < j) fun i j => .int (i % j)) g_mod := by
  intro G H σ Q x y a b s r1 r2 h
  cases x with
  | int i =>
    cases y with
    | int j =>
      simp only [g_mod] at h
      split at h
      · rename_i z; exact ⟨i, j, r1, r2, z, h.int s⟩
      · exact h.elim
    | _ => exact h.elim
  | _ => exact h.elim
end
def gI (p : Int → Int → Bool) : D → D → Res D
  | .int i, .int j => .ok (.bl (p i j))
  | _, _ => .no
theorem say_I {X : Cx} {W : WX} {p : Int → Int → Bool} : Say2 X W (rI0 fun i j => .bl (p i j)) (gI p) := by
  intro G H σ Q x y a b s r1 r2 h
  cases x with
  | int i =>
    cases y with
    | int j => exact ⟨i, j, r1, r2, h.bl s⟩
    | _ => exact h.elim
  | _ => exact h.elim
def nonD : D → Bool
  | .non => true
  | _ => false
def g_isN : D → D → Res D
  | x, .non => .ok (.bl (nonD x))
  | _, _ => .no
theorem rep_non {G : Hp} {x : D} {v : V} (r : Rep G x v) : decide (v = .non) = nonD x := by
  cases x <;> first
    | (obtain ⟨a, vs, e, _⟩ := r; subst e; rfl)
    | (obtain ⟨a, dx, ws, e, _⟩ := r; subst e; rfl)
    | (have e := show v = _ from r; subst e; rfl)
theorem say_isN {X : Cx} {W : WX} : Say2 X W (fun x y H Q => y = .non ∧ Q (.bl (decide (x = .non))) H) g_isN := by
  intro G H σ Q x y a b s r1 r2 h
  cases y with
  | non => exact ⟨r2, by rw [rep_non r1]; exact h.bl s⟩
  | _ => exact h.elim
mutual
def py : D → PyData
  | .non => .none
  | .bl b => .bool b
  | .int i => .int i
  | .str x => .str x
  | .tup xs => .tuple (pys xs)
  | .lst xs => .list (pys xs)
  | .dK _ => .dict []
  | .dT _ => .dict []
  | .obj _ _ => .dict []
  | .dN _ _ => .dict []
def pys : List D → List PyData
  | [] => []
  | x :: r => py x :: pys r
end
mutual
theorem dp_of {K : PySem.W.Frag} {G H : Hp} (s : Sub G H) : ∀ {d : D} {v : V}, (py d).canLay0 = true → Rep G d v → Dp K H v (py d)
  | .non, _, _, h => by rw [show _ = _ from h]; exact .non
  | .bl _, _, _, h => by rw [show _ = _ from h]; exact .bl _
  | .int _, _, _, h => by rw [show _ = _ from h]; exact .int _
  | .str _, _, _, h => by rw [show _ = _ from h]; exact .str _
  | .tup ds, _, c, ⟨a, vs, e, h, r⟩ => by rw [e]; exact .tup (s.sqT h) (dps_of s (by simpa [py, PyData.canLay0] using c) r)
  | .lst ds, _, c, ⟨a, vs, e, h, r⟩ => by rw [e]; exact .lst (s.sqL h) (dps_of s (by simpa [py, PyData.canLay0] using c) r)
  | .dK _, _, c, _ => by simp [py, PyData.canLay0] at c
  | .dT _, _, c, _ => by simp [py, PyData.canLay0] at c
  | .obj _ _, _, c, _ => by simp [py, PyData.canLay0] at c
  | .dN _ _, _, c, _ => by simp [py, PyData.canLay0] at c
theorem dps_of {K : PySem.W.Frag} {G H : Hp} (s : Sub G H) : ∀ {ds : List D} {vs : List V}, PyData.canLayAll0 (pys ds) = true → Reps G ds vs → DpAll K H vs (pys ds)
  | [], _, _, h => by rw [show _ = [] from h]; exact .nil
  | d :: r, _, c, ⟨v, vs, e, h, q⟩ => by
    rw [e]
    have c2 := c
    simp only [pys, PyData.canLayAll0, Bool.and_eq_true] at c2
    exact .cons (dp_of s c2.1 h) (dps_of s c2.2 q)
end
def deq (x y : D) : Res Bool := if SeqAt.shaped (py x) = true ∧ SeqAt.shaped (py y) = true then .ok (PyData.eqv (py x) (py y)) else .no
def g_eq (x y : D) : Res D := deq x y >>= fun b => .ok (.bl b)
def g_ne (x y : D) : Res D := deq x y >>= fun b => .ok (.bl (!b))
section
variable {X : Cx} {W : WX}
theorem say_eq : Say2 X W (rEqD X.K) g_eq := by
  intro G H σ Q x y a b s r1 r2 h
  unfold g_eq deq at h
  split at h
  · rename_i z
    exact ⟨_, _, dp_of s (SeqAt.canLay_of_shaped z.1) r1, dp_of s (SeqAt.canLay_of_shaped z.2) r2, z.1, z.2, h.bl s⟩
  · exact h.elim
theorem say_ne : Say2 X W (rNeD X.K) g_ne := by
  intro G H σ Q x y a b s r1 r2 h
  unfold g_ne deq at h
  split at h
  · rename_i z
    exact ⟨_, _, dp_of s (SeqAt.canLay_of_shaped z.1) r1, dp_of s (SeqAt.canLay_of_shaped z.2) r2, z.1, z.2, h.bl s⟩
  · exact h.elim
end
def keyD : D → Option Key
  | .int i => some (.inl i)
  | .str x => some (.inr x)
  | _ => none
def keysD : List D → Option (List Key)
  | [] => some []
  | x :: r => match keyD x, keysD r with
    | some k, some ks => some (k :: ks)
    | _, _ => none
theorem keyD_rep {G : Hp} {d : D} {v : V} {k : Key} (h : keyD d = some k) (r : Rep G d v) : v = kV k := by
  cases d <;> first
    | (simp [keyD] at h; done)
    | (simp only [keyD, Option.some.injEq] at h; subst h; exact r)
theorem keysD_rep {G : Hp} : ∀ {ds : List D} {vs : List V} {ks : List Key}, keysD ds = some ks → Reps G ds vs → vs = ks.map kV
  | [], _, _, h, r => by simp only [keysD, Option.some.injEq] at h; subst h; exact r
  | d :: ds, _, _, h, ⟨v, vs, e, r1, r2⟩ => by
    simp only [keysD] at h
    split at h
    · rename_i k ks h1 h2
      simp only [Option.some.injEq] at h; subst h
      rw [e, keyD_rep h1 r1, keysD_rep h2 r2]; rfl
    · cases h
section
variable {κ α : Type} [DecidableEq κ]
def getA (kvs : List (κ × α)) (k : κ) : Option α := (kvs.find? fun kv => decide (kv.1 = k)).map (·.2)
end
def RepP {κ : Type} (G : Hp) : List (κ × D) → List (κ × V) → Prop
  | [], vs => vs = []
  | (k, d) :: r, vs => ∃ v s, vs = (k, v) :: s ∧ Rep G d v ∧ RepP G r s
theorem repK_iff {G : Hp} : ∀ {kvs : List (Key × D)} {ws : List (Key × V)}, RepK G kvs ws ↔ RepP G kvs ws
  | [], _ => Iff.rfl
  | (k, d) :: r, ws => by
    unfold RepK RepP
    constructor
    · rintro ⟨v, s, e, h, q⟩; exact ⟨v, s, e, h, repK_iff.mp q⟩
    · rintro ⟨v, s, e, h, q⟩; exact ⟨v, s, e, h, repK_iff.mpr q⟩
theorem repT_iff {G : Hp} : ∀ {kvs : List (List Key × D)} {ws : List (List Key × V)}, RepT G kvs ws ↔ RepP G kvs ws
  | [], _ => Iff.rfl
  | (k, d) :: r, ws => by
    unfold RepT RepP
    constructor
    · rintro ⟨v, s, e, h, q⟩; exact ⟨v, s, e, h, repT_iff.mp q⟩
    · rintro ⟨v, s, e, h, q⟩; exact ⟨v, s, e, h, repT_iff.mpr q⟩
section
variable {κ : Type} [DecidableEq κ] {G : Hp}
theorem RepP.length : ∀ {kvs : List (κ × D)} {ws : List (κ × V)}, RepP G kvs ws → ws.length = kvs.length
  | [], _, h => by rw [show _ = [] from h]; rfl
  | (k, d) :: r, _, ⟨v, s, e, h, q⟩ => by rw [e]; simp [RepP.length q]
theorem RepP.get {k : κ} : ∀ {kvs : List (κ × D)} {ws : List (κ × V)}, RepP G kvs ws → (getA kvs k = none ∧ valV ws k = none) ∨ ∃ d v, getA kvs k = some d ∧ valV ws k = some v ∧ Rep G d v
  | [], _, h => by rw [show _ = [] from h]; exact .inl ⟨rfl, rfl⟩
  | (k', d) :: r, _, ⟨v, s, e, h, q⟩ => by
    subst e
    by_cases hk : k' = k
    · exact .inr ⟨d, v, by simp [getA, hk], valV_pos hk, h⟩
    · rw [valV_neg (p := (k', v)) hk]
      have : getA ((k', d) :: r) k = getA r k := by simp [getA, List.find?_cons, hk]
      rw [this]
      exact RepP.get q
theorem RepP.map {k : κ} {d : D} {v : V} (hv : Rep G d v) : ∀ {kvs : List (κ × D)} {ws : List (κ × V)}, RepP G kvs ws →
    RepP G (kvs.map fun kv => if kv.1 = k then (kv.1, d) else kv) (ws.map fun kv => if kv.1 = k then (kv.1, v) else kv)
  | [], _, h => by rw [show _ = [] from h]; exact rfl
  | (k', d') :: r, _, ⟨v', s, e, h, q⟩ => by
    subst e
    rw [List.map_cons, List.map_cons]
    by_cases hk : k' = k
    · rw [if_pos hk, if_pos hk]; exact ⟨v, _, rfl, hv, RepP.map hv q⟩
    · rw [if_neg hk, if_neg hk]; exact ⟨v', _, rfl, h, RepP.map hv q⟩
end
def g_ix : D → D → Res D
  | .lst xs, .int i => match atI xs i with | some d => .ok d | none => .no
  | .tup xs, .int i => match atI xs i with | some d => .ok d | none => .no
  | .str z, .int i => if z.length ≤ sizeLine then (match atI z.cps.toList i with | some c => .ok (.str ⟨#[c]⟩) | none => .no) else .no
  | .dK kvs, k => match keyD k with
    | some k => (match getA kvs k with | some d => .ok d | none => .no)
    | none => .no
  | .dT kvs, .tup ks => match keysD ks with
    | some ks => (match getA kvs ks with | some d => .ok d | none => .no)
    | none => .no
  | _, _ => .no
def rIxDict : R2 := fun x y H Q => ∃ a v, x = .ref a ∧ DGet H a y (some v) ∧ Q v H
theorem Reps.atI {G : Hp} {ds : List D} {vs : List V} {i : Int} {d : D} (r : Reps G ds vs) (h : L2.atI ds i = some d) : ∃ v, L2.atI vs i = some v ∧ Rep G d v := by
  unfold L2.atI at h ⊢
  rw [r.length]
  cases e : ixN ds.length i with
  | none => rw [e] at h; cases h
  | some j =>
    rw [e] at h
    exact r.get (i := j) h
section
variable {X : Cx} {W : WX}
theorem ix_dict (hu : X.A.units + 1 < cLine) : IxR X rIxDict := by
  intro value slice pins s σ H x y v u Q I rx ry h hs
  obtain ⟨a, w, rfl, g, q⟩ := h
  cases rx
  exact tail_any (dict_typeIs I g) PySem.F.slot_dict_getitem.lookup (d_getItem hu I g ry fun w' s3 I3 rw' => ⟨w, H, I3, rw', q⟩) hs
def rIxAny (K : PySem.W.Frag) : R2 := fun x y H Q => rIxL K x y H Q ∨ rIxT K x y H Q ∨ rIxS x y H Q ∨ rIxDict x y H Q
theorem ix_any (hu : X.A.units + 1 < cLine) : IxR X (rIxAny X.K) := ix_list.or (ix_tup.or (ix_str.or (ix_dict hu)))
theorem dget_K {G H : Hp} {p : Addr} {ws : List (Key × V)} {b : V} {k : Key} (s : Sub G H) (h : Rd G p (.dK ws)) (e : b = kV k) : DGet H p b (valV ws k) := .inl ⟨ws, k, s.rd h, e, rfl⟩
theorem dget_T {G H : Hp} {p q : Addr} {ws : List (List Key × V)} {b : V} {k : List Key} (s : Sub G H) (h : Rd G p (.dT ws)) (e : b = .ref q) (hq : G q = some (.tup (k.map kV))) : DGet H p b (valV ws k) := .inr ⟨ws, k, q, s.rd h, e, s _ _ hq, rfl⟩
theorem say_ix : Say2 X W (rIxAny X.K) g_ix := by
  intro G H σ Q x y a b s r1 r2 h
  cases x with
  | lst xs =>
    cases y with
    | int i =>
      simp only [g_ix] at h
      split at h
      · rename_i d e
        obtain ⟨p, vs, rfl, h1, q1⟩ := r1
        obtain ⟨v, e2, rv⟩ := q1.atI e
        exact .inl ⟨p, vs, i, v, rfl, r2, s.sqL h1, e2, h.val s rv⟩
      · exact h.elim
    | _ => exact h.elim
  | tup xs =>
    cases y with
    | int i =>
      simp only [g_ix] at h
      split at h
      · rename_i d e
        obtain ⟨p, vs, rfl, h1, q1⟩ := r1
        obtain ⟨v, e2, rv⟩ := q1.atI e
        exact .inr (.inl ⟨p, vs, i, v, rfl, r2, s.sqT h1, e2, h.val s rv⟩)
      · exact h.elim
    | _ => exact h.elim
  | str z =>
    cases y with
    | int i =>
      simp only [g_ix] at h
      split at h
      · rename_i hz
        split at h
        · rename_i c e
          exact .inr (.inr (.inl ⟨z, i, c, r1, r2, hz, e, h.str s⟩))
        · exact h.elim
      · exact h.elim
    | _ => exact h.elim
  | dK kvs =>
    have h : GlE X.mg W G H σ Q (match keyD y with
      | some k => (match getA kvs k with | some d => .ok d | none => .no)
      | none => .no) := by cases y <;> exact h
    obtain ⟨p, ws, rfl, h1, q1⟩ := r1
    split at h
    · rename_i k e
      rcases (repK_iff.mp q1).get (k := k) with ⟨e1, _⟩ | ⟨d, v, e1, e2, rv⟩
      · rw [e1] at h; exact h.elim
      · rw [e1] at h
        exact .inr (.inr (.inr ⟨p, v, rfl, by rw [← e2]; exact dget_K s h1 (keyD_rep e r2), h.val s rv⟩))
    · exact h.elim
  | dT kvs =>
    cases y with
    | tup ks =>
      simp only [g_ix] at h
      obtain ⟨p, ws, rfl, h1, q1⟩ := r1
      obtain ⟨p2, ws2, e5, h2, q2⟩ := r2
      split at h
      · rename_i k e
        rcases (repT_iff.mp q1).get (k := k) with ⟨e1, _⟩ | ⟨d, v, e1, e2, rv⟩
        · rw [e1] at h; exact h.elim
        · rw [e1] at h
          exact .inr (.inr (.inr ⟨p, v, rfl, by rw [← e2]; exact dget_T s h1 e5 (by rw [← keysD_rep e q2]; exact h2), h.val s rv⟩))
      · exact h.elim
    | _ => exact h.elim
  | _ => exact h.elim
end
def inD (x : D) : D → Res Bool
  | .lst ys => if SeqAt.shaped (py x) = true ∧ SeqAt.shaped (py (.lst ys)) = true then .ok ((pys ys).any fun z => PyData.eqv z (py x)) else .no
  | .dK kvs => match keyD x with
    | some k => .ok (getA kvs k).isSome
    | none => .no
  | .dT kvs => match x with
    | .tup ks => (match keysD ks with | some ks => .ok (getA kvs ks).isSome | none => .no)
    | _ => .no
  | .str z => match x with
    | .str c => .ok (!(Builtin.Str.occurrences z c 0 z.length 1).isEmpty)
    | _ => .no
  | _ => .no
def g_in (x y : D) : Res D := inD x y >>= fun b => .ok (.bl b)
def g_notin (x y : D) : Res D := inD x y >>= fun b => .ok (.bl (!b))
def rDIn (neg : Bool) : R2 := fun y x H Q => ∃ a o, x = .ref a ∧ DGet H a y o ∧ Q (.bl (if neg then !o.isSome else o.isSome)) H
section
variable {X : Cx} {W : WX}
theorem op_din (hu : X.A.units + 1 < cLine) : OpR X (compareOp .In) (rDIn false) := by
  intro pins s σ H x y v u Q I rx ry h
  obtain ⟨a, o, rfl, g, q⟩ := h
  cases ry
  exact d_in hu I g rx fun s3 I3 => ⟨.bl o.isSome, H, I3, rfl, q⟩
theorem op_dnotin (hu : X.A.units + 1 < cLine) : OpR X (compareOp .NotIn) (rDIn true) := by
  intro pins s σ H x y v u Q I rx ry h
  obtain ⟨a, o, rfl, g, q⟩ := h
  cases ry
  exact d_notIn hu I g rx fun s3 I3 => ⟨.bl (!o.isSome), H, I3, rfl, q⟩
def rInAny (K : PySem.W.Frag) : R2 := fun x y H Q => rInD K x y H Q ∨ rDIn false x y H Q ∨ ∃ i j, x = .str i ∧ y = .str j ∧ Q (.bl (!(Builtin.Str.occurrences j i 0 j.length 1).isEmpty)) H
def rNotInAny (K : PySem.W.Frag) : R2 := fun x y H Q => rNotInD K x y H Q ∨ rDIn true x y H Q ∨ ∃ i j, x = .str i ∧ y = .str j ∧ Q (.bl (!(!(Builtin.Str.occurrences j i 0 j.length 1).isEmpty))) H
theorem op_inAny (hu : X.A.units + 65 < cLine) : OpR X (compareOp .In) (rInAny X.K) := (op_inD hu).or ((op_din (by omega)).or op_in_str)
theorem op_notInAny (hu : X.A.units + 65 < cLine) : OpR X (compareOp .NotIn) (rNotInAny X.K) := (op_notInD hu).or ((op_dnotin (by omega)).or op_notin_str)
theorem say_in' {neg : Bool} {G H : Hp} {σ : L2.St} {Q : VK} {x y : D} {a b : V} (s : Sub G H) (r1 : Rep G x a) (r2 : Rep G y b) (h : GlE X.mg W G H σ Q (inD x y >>= fun b => .ok (.bl (if neg then !b else b)))) :
    (∃ d ds, Dp X.K H a d ∧ Dp X.K H b (.list ds) ∧ SeqAt.shaped d = true ∧ SeqAt.shaped (.list ds) = true ∧ Q (.bl (if neg then !(ds.any fun z => PyData.eqv z d) else ds.any fun z => PyData.eqv z d)) H) ∨ rDIn neg a b H Q ∨
      ∃ i j, a = .str i ∧ b = .str j ∧ Q (.bl (if neg then !(!(Builtin.Str.occurrences j i 0 j.length 1).isEmpty) else !(Builtin.Str.occurrences j i 0 j.length 1).isEmpty)) H := by
  cases y with
  | lst ys =>
    simp only [inD] at h
    split at h
    · rename_i z
      have c2 := SeqAt.canLay_of_shaped z.2
      have d2 : Dp X.K H b (py (.lst ys)) := dp_of s c2 r2
      exact .inl ⟨_, pys ys, dp_of s (SeqAt.canLay_of_shaped z.1) r1, d2, z.1, z.2, h.bl s⟩
    · exact h.elim
  | dK kvs =>
    obtain ⟨p, ws, rfl, h1, q1⟩ := r2
    simp only [inD] at h
    split at h
    · rename_i k e
      refine .inr (.inl ⟨p, _, rfl, dget_K s h1 (keyD_rep e r1), ?_⟩)
      rcases (repK_iff.mp q1).get (k := k) with ⟨e1, e2⟩ | ⟨d, v, e1, e2, rv⟩
      · rw [e1] at h; rw [e2]; exact h.bl s
      · rw [e1] at h; rw [e2]; exact h.bl s
    · exact h.elim
  | dT kvs =>
    cases x with
    | tup ks =>
      obtain ⟨p, ws, rfl, h1, q1⟩ := r2
      obtain ⟨p2, ws2, e5, h2, q2⟩ := r1
      simp only [inD] at h
      split at h
      · rename_i k e
        refine .inr (.inl ⟨p, _, rfl, dget_T s h1 e5 (by rw [← keysD_rep e q2]; exact h2), ?_⟩)
        rcases (repT_iff.mp q1).get (k := k) with ⟨e1, e2⟩ | ⟨d, v, e1, e2, rv⟩
        · rw [e1] at h; rw [e2]; exact h.bl s
        · rw [e1] at h; rw [e2]; exact h.bl s
      · exact h.elim
    | _ => exact h.elim
  | str z =>
    cases x with
    | str c => exact .inr (.inr ⟨c, z, r1, r2, h.bl s⟩)
    | _ => exact h.elim
  | _ => exact h.elim
theorem say_in : Say2 X W (rInAny X.K) g_in := fun G H σ Q x y a b s r1 r2 h => say_in' (neg := false) s r1 r2 h
theorem say_notin : Say2 X W (rNotInAny X.K) g_notin := fun G H σ Q x y a b s r1 r2 h => say_in' (neg := true) s r1 r2 h
end
def aNil : Env → Res (List D) := fun _ => .ok []
def aCons (f : Env → Res D) (g : Env → Res (List D)) : Env → Res (List D) := fun ρ => f ρ >>= fun x => g ρ >>= fun xs => .ok (x :: xs)
def vTup (g : Env → Res (List D)) : Env → Res D := fun ρ => g ρ >>= fun xs => if xs.length ≤ sizeLine then .ok (.tup xs) else .no
section
variable {X : Cx} {W : WX} {e : Expr} {es : List Expr} {f : Env → Res D} {g : Env → Res (List D)} {pos : Pos}
theorem da_nil : DA X W [] aNil := ⟨_, pa_nil, fun G H σ ρ Q s e h => h G H (Ext.refl s) [] rfl⟩
theorem da_cons (d1 : DE X W e f) (d2 : DA X W es g) (hs : starEach (e :: es) X.env = (false, eval e X.env) :: starEach es X.env := by rfl) : DA X W (e :: es) (aCons f g) := by
  obtain ⟨t1, p1, h1⟩ := d1
  obtain ⟨t2, p2, h2⟩ := d2
  refine ⟨_, pa_cons p1 p2 hs, fun G H σ ρ Q s e h => ?_⟩
  refine h1 G H σ ρ _ s e (Gl.imp (fun x G1 H1 _ e1 k v rv => ?_) (Gl.bind h))
  refine h2 G1 H1 σ ρ _ e1.s (e.le e1.le) (Gl.imp (fun xs G2 H2 _ e2 k vs rvs => ?_) (Gl.bind k))
  exact k G2 H2 (Ext.refl e2.s) (v :: vs) ⟨v, vs, rfl, rv.le e2.le, rvs⟩
theorem de_tup {x1} (d : DA X W es g) : DE X W (.Tuple es x1 pos) (vTup g) := by
  obtain ⟨t1, p1, h1⟩ := d
  refine ⟨_, pe_tup p1, fun G H σ ρ Q s e h => ?_⟩
  refine h1 G H σ ρ _ s e (Gl.imp (fun xs G1 H1 _ e1 k vs rvs => ?_) (Gl.bind h))
  split at k
  · rename_i z
    exact ⟨by rw [rvs.length]; exact z, fun p np => Gl.newT e1.s np rvs k⟩
  · exact k.elim
end
def tNotD (f : Env → Res Bool) : Env → Res Bool := fun ρ => f ρ >>= fun b => .ok (!b)
def tAndD (f g : Env → Res Bool) : Env → Res Bool := fun ρ => f ρ >>= fun b => if b = true then g ρ else .ok false
def tOrD (f g : Env → Res Bool) : Env → Res Bool := fun ρ => f ρ >>= fun b => if b = true then .ok true else g ρ
def vAnd (f g : Env → Res D) : Env → Res D := fun ρ => f ρ >>= bOf >>= fun b => if b = true then g ρ else .ok (.bl false)
def vOr (f g : Env → Res D) : Env → Res D := fun ρ => f ρ >>= bOf >>= fun b => if b = true then .ok (.bl true) else g ρ
def vNot (f : Env → Res D) : Env → Res D := fun ρ => f ρ >>= bOf >>= fun b => .ok (.bl (!b))
def DW (X : Cx) (W : WX) (e : Expr) (f : Env → Res Bool) : Prop :=
  ∃ t : TT, PW X e t ∧ ∀ (G H : Hp) (σ : L2.St) (ρ : Env) (Q : Bool → Hp → Prop), Sub G H → EnvR G σ ρ → GlT X.mg W G H σ Q (f ρ) → t σ H Q
section
variable {X : Cx} {W : WX} {a b c : Expr} {rest : List Expr} {f g : Env → Res Bool} {fe ge : Env → Res D} {pos : Pos}
theorem DW.dt (d : DW X W a f) : DT X W a f := let ⟨t, p, h⟩ := d; ⟨t, p.pt, h⟩
theorem dt_not (d : DT X W a f) : DT X W (.UnaryOp .Not a pos) (tNotD f) := by
  obtain ⟨t1, p1, h1⟩ := d
  refine ⟨_, pt_not p1, fun G H σ ρ Q s e h => ?_⟩
  exact h1 G H σ ρ _ s e (Gl.imp (fun x G1 H1 _ e1 k => k G1 H1 (Ext.refl e1.s)) (Gl.bind h))
theorem dw_and1 (d : DT X W a f) : DW X W (.BoolOp .And [a] pos) f := let ⟨t, p, h⟩ := d; ⟨t, pw_and1 p, h⟩
theorem dw_or1 (d : DT X W a f) : DW X W (.BoolOp .Or [a] pos) f := let ⟨t, p, h⟩ := d; ⟨t, pw_or1 p, h⟩
theorem dw_and (d1 : DT X W a f) (d2 : DW X W (.BoolOp .And (b :: rest) pos) g) : DW X W (.BoolOp .And (a :: b :: rest) pos) (tAndD f g) := by
  obtain ⟨t1, p1, h1⟩ := d1
  obtain ⟨t2, p2, h2⟩ := d2
  refine ⟨_, pw_and p1 p2, fun G H σ ρ Q s e h => ?_⟩
  refine h1 G H σ ρ _ s e (Gl.imp (fun x G1 H1 _ e1 k => ?_) (Gl.bind h))
  cases x with
  | true => exact h2 G1 H1 σ ρ Q e1.s (e.le e1.le) k
  | false => exact k G1 H1 (Ext.refl e1.s)
theorem dw_or (d1 : DT X W a f) (d2 : DW X W (.BoolOp .Or (b :: rest) pos) g) : DW X W (.BoolOp .Or (a :: b :: rest) pos) (tOrD f g) := by
  obtain ⟨t1, p1, h1⟩ := d1
  obtain ⟨t2, p2, h2⟩ := d2
  refine ⟨_, pw_or p1 p2, fun G H σ ρ Q s e h => ?_⟩
  refine h1 G H σ ρ _ s e (Gl.imp (fun x G1 H1 _ e1 k => ?_) (Gl.bind h))
  cases x with
  | false => exact h2 G1 H1 σ ρ Q e1.s (e.le e1.le) k
  | true => exact k G1 H1 (Ext.refl e1.s)
theorem de_one {op} (d : DE X W a fe) : DE X W (.BoolOp op [a] pos) fe := let ⟨t, p, h⟩ := d; ⟨t, pe_one p, h⟩
theorem Gl.bl2 {mg : Str → Option Value} {G H : Hp} {σ : L2.St} {x : D} {v : V} {k : Bool → Res D} {P : D → Hp → Hp → Prop} (rv : Rep G x v) (h : Gl mg W G H σ P (bOf x >>= k)) : ∃ c, v = .bl c ∧ Gl mg W G H σ P (k c) := by
  cases x with
  | bl c => exact ⟨c, rv, h⟩
  | _ => exact h.elim
theorem de_and (d1 : DE X W a fe) (d2 : DE X W (.BoolOp .And (b :: rest) pos) ge) : DE X W (.BoolOp .And (a :: b :: rest) pos) (vAnd fe ge) := by
  obtain ⟨t1, p1, h1⟩ := d1
  obtain ⟨t2, p2, h2⟩ := d2
  refine ⟨_, pe_and p1 p2, fun G H σ ρ Q s e h => ?_⟩
  have h' : GlE X.mg W G H σ Q (fe ρ >>= fun x => bOf x >>= fun b => if b = true then ge ρ else .ok (.bl false)) := by
    unfold vAnd at h
    cases q : fe ρ <;> rw [q] at h <;> exact h
  refine h1 G H σ ρ _ s e (Gl.imp (fun x G1 H1 _ e1 k v rv => ?_) (Gl.bind h'))
  obtain ⟨c, ec, k⟩ := Gl.bl2 rv k
  refine ⟨c, ec, ?_⟩
  cases c with
  | true => exact h2 G1 H1 σ ρ Q e1.s (e.le e1.le) k
  | false => exact Gl.bl e1.s k
theorem de_or (d1 : DE X W a fe) (d2 : DE X W (.BoolOp .Or (b :: rest) pos) ge) : DE X W (.BoolOp .Or (a :: b :: rest) pos) (vOr fe ge) := by
  obtain ⟨t1, p1, h1⟩ := d1
  obtain ⟨t2, p2, h2⟩ := d2
  refine ⟨_, pe_or p1 p2, fun G H σ ρ Q s e h => ?_⟩
  have h' : GlE X.mg W G H σ Q (fe ρ >>= fun x => bOf x >>= fun b => if b = true then .ok (.bl true) else ge ρ) := by
    unfold vOr at h
    cases q : fe ρ <;> rw [q] at h <;> exact h
  refine h1 G H σ ρ _ s e (Gl.imp (fun x G1 H1 _ e1 k v rv => ?_) (Gl.bind h'))
  obtain ⟨c, ec, k⟩ := Gl.bl2 rv k
  refine ⟨c, ec, ?_⟩
  cases c with
  | false => exact h2 G1 H1 σ ρ Q e1.s (e.le e1.le) k
  | true => exact Gl.bl e1.s k
theorem de_not (d1 : DE X W a fe) : DE X W (.UnaryOp .Not a pos) (vNot fe) := by
  obtain ⟨t1, p1, h1⟩ := d1
  refine ⟨_, pe_not p1, fun G H σ ρ Q s e h => ?_⟩
  have h' : GlE X.mg W G H σ Q (fe ρ >>= fun x => bOf x >>= fun b => .ok (.bl (!b))) := by
    unfold vNot at h
    cases q : fe ρ <;> rw [q] at h <;> exact h
  refine h1 G H σ ρ _ s e (Gl.imp (fun x G1 H1 _ e1 k v rv => ?_) (Gl.bind h'))
  obtain ⟨c, ec, k⟩ := Gl.bl2 rv k
  exact ⟨c, ec, Gl.bl e1.s k⟩
end
end DL
namespace DL
open PySem PySem.Spec PyProof.Rows L2
def SayC (X : Cx) (W : WX) (r : List V → Hp → VK → Prop) (g : List D → Res D) : Prop :=
  ∀ (G H : Hp) (σ : L2.St) (Q : VK) (ds : List D) (vs : List V), Sub G H → Reps G ds vs → GlE X.mg W G H σ Q (g ds) → r vs H Q
def vCall (g : List D → Res D) (f : Env → Res (List D)) : Env → Res D := fun ρ => f ρ >>= g
section
variable {X : Cx} {W : WX} {e : Expr} {es : List Expr} {f : Env → Res (List D)} {g : List D → Res D} {r : List V → Hp → VK → Prop} {x : Str} {p pos : Pos}
theorem say_call {t : TA} (sy : SayC X W r g) (h1 : ∀ (G H : Hp) (σ : L2.St) (ρ : Env) (Q : List V → Hp → Prop), Sub G H → EnvR G σ ρ → GlA X.mg W G H σ Q (f ρ) → t σ H Q)
    (G H : Hp) (σ : L2.St) (ρ : Env) (Q : VK) (s : Sub G H) (e : EnvR G σ ρ) (h : GlE X.mg W G H σ Q (vCall g f ρ)) : tCB r t σ H Q := by
  refine h1 G H σ ρ _ s e (Gl.imp (fun ds G1 H1 _ e1 k vs rv => ?_) (Gl.bind h))
  exact sy G1 H1 σ Q ds vs e1.s rv k
theorem de_callB {id : String} (hc : CallR X (.builtin id) r) (sy : SayC X W r g) (hg : L2.Gl X x) (hm : X.mg x = none) (hv : bootBuiltins x = some (.builtin id)) (d : DA X W (e :: es) f) (hn : x ≠ "__name__" := by decide) (hdb : (x == ("__debug__" : Str)) = false := by decide)
    (he : starEach (e :: es) X.env = (false, eval e X.env) :: starEach es X.env := by rfl) (hpl : (backTo pos (starEach es X.env)).any (·.1) = false := by rfl) : DE X W (.Call (.Name x p) (e :: es) [] pos) (vCall g f) := by
  obtain ⟨t, pa, h1⟩ := d
  exact ⟨_, pe_callB hc hg hm hv pa hn hdb he hpl, say_call sy h1⟩
theorem de_callTy {T : String} (hc : CallR X (.type T) r) (sy : SayC X W r g) (hg : L2.Gl X x) (hm : X.mg x = none) (hv : bootBuiltins x = some (.type T)) (d : DA X W (e :: es) f) (hn : x ≠ "__name__" := by decide) (hdb : (x == ("__debug__" : Str)) = false := by decide)
    (he : starEach (e :: es) X.env = (false, eval e X.env) :: starEach es X.env := by rfl) (hpl : (backTo pos (starEach es X.env)).any (·.1) = false := by rfl) : DE X W (.Call (.Name x p) (e :: es) [] pos) (vCall g f) := by
  obtain ⟨t, pa, h1⟩ := d
  exact ⟨_, pe_callTy hc hg hm hv pa hn hdb he hpl, say_call sy h1⟩
end
def c_len : List D → Res D
  | [.str x] => if x.length ≤ sizeLine then .ok (.int x.length) else .no
  | [.lst xs] => .ok (.int xs.length)
  | [.tup xs] => .ok (.int xs.length)
  | _ => .no
def c_tuple : List D → Res D
  | [.lst xs] => .ok (.tup xs)
  | [.tup xs] => .ok (.tup xs)
  | _ => .no
def boolsOf : List D → Option (List Bool)
  | [] => some []
  | .bl b :: r => match boolsOf r with | some bs => some (b :: bs) | none => none
  | _ :: _ => none
def c_all : List D → Res D
  | [.lst xs] => match boolsOf xs with | some bs => .ok (.bl (bs.all id)) | none => .no
  | _ => .no
def c_min2 : List D → Res D
  | [.int i, .int j] => .ok (.int (if j < i then j else i))
  | _ => .no
def c_int : List D → Res D
  | [.int i] => .ok (.int i)
  | [.bl k] => .ok (.int (if k then 1 else 0))
  | _ => .no
instance (i j : Int) : Decidable (CDiv i j) := inferInstanceAs (Decidable (_ ∧ _))
theorem bools_rep {G : Hp} : ∀ {ds : List D} {vs : List V} {bs : List Bool}, boolsOf ds = some bs → Reps G ds vs → vs = bs.map V.bl
  | [], _, _, h, r => by simp only [boolsOf, Option.some.injEq] at h; subst h; exact r
  | d :: ds, _, _, h, ⟨v, vs, e, r1, r2⟩ => by
    cases d with
    | bl b =>
      simp only [boolsOf] at h
      split at h
      · rename_i bs q
        simp only [Option.some.injEq] at h; subst h
        have e2 : v = .bl b := r1
        rw [e, e2, bools_rep q r2]; rfl
      · cases h
    | _ => simp [boolsOf] at h
section
variable {X : Cx} {W : WX}
theorem say_len : SayC X W (fun xs H Q => ∃ x n, xs = [x] ∧ LenV X.K x H n ∧ Q (.int n) H) c_len := by
  intro G H σ Q ds vs s r h
  unfold c_len at h
  split at h
  · rename_i x
    obtain ⟨v, _, e, r1, e2⟩ := r
    have e3 : v = .str x := r1
    have e4 : _ = [] := e2
    subst e3 e4
    split at h
    · rename_i z
      exact ⟨_, x.length, e, ⟨z, rfl⟩, h.int s⟩
    · exact h.elim
  · rename_i xs
    obtain ⟨v, _, e, ⟨p, ws, ep, h1, q1⟩, e2⟩ := r
    have e4 : _ = [] := e2
    subst ep e4
    exact ⟨_, xs.length, e, .inl ⟨ws, s.sqL h1, q1.length.symm⟩, h.int s⟩
  · rename_i xs
    obtain ⟨v, _, e, ⟨p, ws, ep, h1, q1⟩, e2⟩ := r
    have e4 : _ = [] := e2
    subst ep e4
    exact ⟨_, xs.length, e, .inr ⟨ws, s.sqT h1, q1.length.symm⟩, h.int s⟩
  · exact h.elim
theorem say_tuple : SayC X W (fun xs H Q => ∃ p ys, xs = [.ref p] ∧ ((SqL X.K H p ys ∧ ∀ l, H l = none → Q (.ref l) (upd H l (.tup ys))) ∨ (SqT X.K H p ys ∧ Q (.ref p) H))) c_tuple := by
  intro G H σ Q ds vs s r h
  unfold c_tuple at h
  split at h
  · obtain ⟨v, _, e, ⟨p, ws, ep, h1, q1⟩, e2⟩ := r
    have e4 : _ = [] := e2
    subst ep e4
    exact ⟨p, ws, e, .inl ⟨s.sqL h1, fun l nl => h.newT s nl q1⟩⟩
  · rename_i xs
    obtain ⟨v, _, e, ⟨p, ws, ep, h1, q1⟩, e2⟩ := r
    have e4 : _ = [] := e2
    subst ep e4
    exact ⟨p, ws, e, .inr ⟨s.sqT h1, h.val (d := .tup xs) s ⟨p, ws, rfl, h1, q1⟩⟩⟩
  · exact h.elim
theorem say_all : SayC X W (rAll X.K) c_all := by
  intro G H σ Q ds vs s r h
  unfold c_all at h
  split at h
  · obtain ⟨v, _, e, ⟨p, ws, ep, h1, q1⟩, e2⟩ := r
    have e4 : _ = [] := e2
    subst ep e4
    split at h
    · rename_i bs q
      exact ⟨p, bs, e, by rw [← bools_rep q q1]; exact s.sqL h1, h.bl s⟩
    · exact h.elim
  · exact h.elim
theorem two_of {G : Hp} {vs : List V} {i j : Int} (r : Reps G [.int i, .int j] vs) : vs = [.int i, .int j] := by
  obtain ⟨v, _, e, r1, v2, _, e2, r2, e3⟩ := r
  have h1 : v = .int i := r1
  have h2 : v2 = .int j := r2
  have h3 : _ = [] := e3
  subst h1 h2 h3 e2
  exact e
theorem say_min2 : SayC X W (fun xs H Q => ∃ i j, xs = [.int i, .int j] ∧ Q (.int (if j < i then j else i)) H) c_min2 := by
  intro G H σ Q ds vs s r h
  unfold c_min2 at h
  split at h
  · exact ⟨_, _, two_of r, h.int s⟩
  · exact h.elim
theorem say_int : SayC X W (fun xs H Q => (∃ i, xs = [.int i] ∧ Q (.int i) H) ∨ ∃ k, xs = [.bl k] ∧ Q (.int (if k then 1 else 0)) H) c_int := by
  intro G H σ Q ds vs s r h
  unfold c_int at h
  split at h
  · rename_i i
    obtain ⟨v, _, e, r1, e2⟩ := r
    have h1 : v = .int i := r1
    have e4 : _ = [] := e2
    subst h1 e4
    exact .inl ⟨i, e, h.int s⟩
  · rename_i i
    obtain ⟨v, _, e, r1, e2⟩ := r
    have h1 : v = .bl i := r1
    have e4 : _ = [] := e2
    subst h1 e4
    exact .inr ⟨i, e, h.int s⟩
  · exact h.elim
end
def tyD : D → String
  | .non => "NoneType"
  | .bl _ => "bool"
  | .int _ => "int"
  | .str _ => "str"
  | .tup _ => "tuple"
  | .lst _ => "list"
  | .dK _ => "dict"
  | .dT _ => "dict"
  | .obj _ _ => ""
  | .dN _ _ => ""
def kitI (d : D) (n : String) : Option Bool := match d with
  | .obj _ _ => none
  | .dN _ _ => none
  | _ => kitB (tyD d) n
theorem kitI_some {d : D} {n : String} {b : Bool} (h : kitI d n = some b) : kitB (tyD d) n = some b ∧ tyD d ≠ "" := by
  cases d with
  | obj C fs => cases h
  | dN w kvs => cases h
  | _ => exact ⟨h, by simp [tyD]⟩
def g_isi (n : String) (d : D) : Res D := match kitI d n with
  | some b => .ok (.bl b)
  | none => .no
theorem kitD {X : Cx} {pins : List (Addr × Obj)} {σ : L2.St} {H G : Hp} {s : Shared} {d : D} {x : V} {u : Value} (I : Inv X pins σ H s) (sb : Sub G H) (rx : RelV x u) (r : Rep G d x) (hb : tyD d ≠ "") :
    ∃ P : Heap → Prop, PySem.W.KitX X.K u (.type (tyD d)) P ∧ P s.heap ∧ u ≠ .builtin "__main__.__loader__#opaque" := by
  cases d with
  | non => subst r; cases (show u = Value.none from rx); exact ⟨_, PySem.W.kitx_none, True.intro, fun z => nomatch z⟩
  | bl y => subst r; cases (show u = Value.bool y from rx); exact ⟨_, PySem.W.kitx_bool, True.intro, fun z => nomatch z⟩
  | int i => subst r; obtain ⟨t, q⟩ := (show ∃ t, u = Value.int i t from rx); cases q; exact ⟨_, PySem.W.kitx_int, True.intro, fun z => nomatch z⟩
  | str y => subst r; obtain ⟨t, q⟩ := (show ∃ t, u = Value.str y t from rx); cases q; exact ⟨_, PySem.W.kitx_str, True.intro, fun z => nomatch z⟩
  | tup ds =>
    obtain ⟨a, vs, rfl, h1, _⟩ := r
    cases (show u = Value.ref a from rx)
    obtain ⟨_, _, _, o, h1, h2, _⟩ := (show ObjOk X.prog X.w H s.heap a (.tup vs) from I.hok a _ (sb _ _ h1))
    exact ⟨_, PySem.W.kitx_tuple, ⟨o, h1, h2⟩, fun z => nomatch z⟩
  | lst ds =>
    obtain ⟨a, vs, rfl, h1, _⟩ := r
    cases (show u = Value.ref a from rx)
    obtain ⟨_, _, n, _, h1⟩ := (show ObjOk X.prog X.w H s.heap a (.lst vs) from (sb.rd h1).ok I.hok)
    exact ⟨_, PySem.W.kitx_list, ⟨_, h1, rfl⟩, fun z => nomatch z⟩
  | dK ds =>
    obtain ⟨a, vs, rfl, h1, _⟩ := r
    cases (show u = Value.ref a from rx)
    obtain ⟨_, _, _, _, o, es, ep, h1, h2, _⟩ := (show ObjOk X.prog X.w H s.heap a (.dK vs) from (sb.rd h1).ok I.hok)
    exact ⟨_, PySem.W.kitx_dict, ⟨o, h1, h2.1⟩, fun z => nomatch z⟩
  | dT ds =>
    obtain ⟨a, vs, rfl, h1, _⟩ := r
    cases (show u = Value.ref a from rx)
    obtain ⟨_, _, _, _, o, es, ep, h1, h2, _⟩ := (show ObjOk X.prog X.w H s.heap a (.dT vs) from (sb.rd h1).ok I.hok)
    exact ⟨_, PySem.W.kitx_dict, ⟨o, h1, h2.1⟩, fun z => nomatch z⟩
  | obj C fs => exact absurd rfl hb
  | dN w kvs => exact absurd rfl hb
def rIsiD (n : String) : List V → Hp → VK → Prop := fun xs H Q => ∃ G d x b, Sub G H ∧ xs = [x, .ty n] ∧ Rep G d x ∧ kitI d n = some b ∧ Q (.bl b) H
section
variable {X : Cx} {W : WX} {e1 e2 : Expr} {f1 : Env → Res D} {x y : Str} {p py' pos : Pos}
theorem call_isiD {n : String} : CallR X (.builtin "isinstance") (rIsiD n) := by
  intro pins s σ H xs us Q I r h
  obtain ⟨G, d, x, b, sb, rfl, rp, e, q⟩ := h
  obtain ⟨u1, u2, rfl, r1, r2⟩ := vals2 r
  cases (show u2 = Value.type n from r2)
  obtain ⟨e, hty⟩ := kitI_some e
  obtain ⟨P, Z, p, hx⟩ := kitD I sb r1 rp hty
  exact PySem.W.kia_one Z I.kIn p (kit_ty e) hx fun tk => ⟨.bl b, H, I.tok tk, rfl, q⟩
theorem de_isi {n : String} (d1 : DE X W e1 f1) (hg : L2.Gl X "isinstance") (hm : X.mg "isinstance" = none) (hg2 : L2.Gl X y) (hm2 : X.mg y = none) (hv2 : bootBuiltins y = some (.type n))
    (hn2 : y ≠ "__name__" := by decide) (hd2 : (y == ("__debug__" : Str)) = false := by decide)
    (he : starEach (e1 :: [.Name y py']) X.env = (false, eval e1 X.env) :: starEach [.Name y py'] X.env := by rfl) (he2 : starEach [.Name y py'] X.env = (false, eval (.Name y py') X.env) :: starEach [] X.env := by rfl) (hpl : (backTo pos (starEach [.Name y py'] X.env)).any (·.1) = false := by rfl) :
    DE X W (.Call (.Name "isinstance" p) [e1, .Name y py'] [] pos) (v1 (g_isi n) f1) := by
  obtain ⟨t1, p1, h1⟩ := d1
  refine ⟨_, pe_callB (call_isiD (n := n)) hg hm (by decide +kernel) (pa_cons p1 (pa_cons (pe_bltn (v := .ty n) hg2 hm2 hv2 rfl hn2 hd2) pa_nil he2) he) (by decide) (by decide) he hpl, fun G H σ ρ Q s e h => ?_⟩
  refine h1 G H σ ρ _ s e (Gl.imp (fun d G1 H1 _ e1 k v rv => ?_) (Gl.bind h))
  unfold g_isi at k
  split at k
  · rename_i b q
    exact ⟨G1, d, v, b, e1.s, rfl, rv, q, k.bl e1.s⟩
  · exact k.elim
end
abbrev GlO (mg : Str → Option Value) (W : WX) (G H : Hp) (σ : L2.St) (Q : Option Int → Hp → Prop) : Res (Option Int) → Prop := Gl mg W G H σ fun o _ H' => Q o H'
def DO (X : Cx) (W : WX) (o : Option Expr) (f : Env → Res (Option Int)) : Prop :=
  ∃ t : TO, PO X o t ∧ ∀ (G H : Hp) (σ : L2.St) (ρ : Env) (Q : Option Int → Hp → Prop), Sub G H → EnvR G σ ρ → GlO X.mg W G H σ Q (f ρ) → t σ H Q
def oNone : Env → Res (Option Int) := fun _ => .ok none
def iOf : D → Res (Option Int)
  | .int i => .ok (some i)
  | _ => .no
def oSome (f : Env → Res D) : Env → Res (Option Int) := fun ρ => f ρ >>= iOf
def cutA {α : Type} (xs : List α) (lo hi : Option Int) : List α := (xs.drop (HT.sIx xs.length 0 lo)).take (HT.sIx xs.length xs.length hi - HT.sIx xs.length 0 lo)
def g_sl : D → Option Int → Option Int → Res D
  | .lst xs, lo, hi => .ok (.lst (cutA xs lo hi))
  | .tup xs, lo, hi => .ok (.tup (cutA xs lo hi))
  | .str z, lo, hi => if z.length ≤ sizeLine then .ok (.str (cutS z lo hi)) else .no
  | _, _, _ => .no
def vSl (f : Env → Res D) (lo hi : Env → Res (Option Int)) : Env → Res D := fun ρ => f ρ >>= fun x => lo ρ >>= fun l => hi ρ >>= fun u => g_sl x l u
theorem Reps.cut {G : Hp} {ds : List D} {vs : List V} (r : Reps G ds vs) (lo hi : Option Int) : Reps G (cutA ds lo hi) (cutV vs lo hi) := by
  unfold cutA cutV
  rw [r.length]
  exact (r.drop _).take _
section
variable {X : Cx} {W : WX} {e e1 : Expr} {f : Env → Res D} {lo hi : Option Expr} {fl fh : Env → Res (Option Int)} {p2 pos : Pos}
theorem do_none : DO X W none oNone := ⟨_, po_none, fun G H σ ρ Q s e h => h G H (Ext.refl s)⟩
theorem do_some (d : DE X W e f) : DO X W (some e) (oSome f) := by
  obtain ⟨t1, p1, h1⟩ := d
  refine ⟨_, po_some p1, fun G H σ ρ Q s e h => ?_⟩
  refine h1 G H σ ρ _ s e (Gl.imp (fun x G1 H1 _ e1 k v rv => ?_) (Gl.bind h))
  cases x with
  | int i => exact ⟨i, rv, k G1 H1 (Ext.refl e1.s)⟩
  | _ => exact k.elim
theorem de_sl (d : DE X W e f) (dl : DO X W lo fl) (dh : DO X W hi fh) : DE X W (.Subscript e (.Slice lo hi none p2) pos) (vSl f fl fh) := by
  obtain ⟨t1, p1, h1⟩ := d
  obtain ⟨t2, p2, h2⟩ := dl
  obtain ⟨t3, p3, h3⟩ := dh
  refine ⟨_, pe_slice (sl_list.or (sl_tupA.or sl_str)) p1 p2 p3, fun G H σ ρ Q s e h => ?_⟩
  refine h1 G H σ ρ _ s e (Gl.imp (fun x G1 H1 _ e1 k v rv => ?_) (Gl.bind h))
  refine h2 G1 H1 σ ρ _ e1.s (e.le e1.le) (Gl.imp (fun l G2 H2 _ e2 k => ?_) (Gl.bind k))
  refine h3 G2 H2 σ ρ _ e2.s ((e.le e1.le).le e2.le) (Gl.imp (fun u G3 H3 _ e3 k => ?_) (Gl.bind k))
  have rv := (rv.le e2.le).le e3.le
  cases x with
  | lst xs =>
    obtain ⟨a, vs, rfl, h, q⟩ := rv
    exact .inl ⟨a, vs, rfl, e3.s.sqL h, fun p np => Gl.newL e3.s np (q.cut l u) k⟩
  | tup xs =>
    obtain ⟨a, vs, rfl, h, q⟩ := rv
    refine .inr (.inl ⟨a, vs, rfl, e3.s.sqT h, fun z => ?_, fun _ p np => Gl.newT e3.s np (q.cut l u) k⟩)
    have e4 : cutV vs l u = vs := by unfold cutV; rw [z.1, z.2]; simp
    exact Gl.val (d := .tup (cutA xs l u)) e3.s ⟨a, vs, rfl, h, by have := q.cut l u; rw [e4] at this; exact this⟩ k
  | str z =>
    simp only [g_sl] at k
    split at k
    · rename_i hz
      exact .inr (.inr ⟨z, rv, hz, Gl.str e3.s k⟩)
    · exact k.elim
  | _ => exact k.elim
end
end DL
namespace DL
open PySem PySem.Spec PyProof.Rows L2
def rdE (mg : Str → Option Value) (W : WX) (f : Env → Res D) : TE := fun σ H Q => ∃ G ρ, Sub G H ∧ EnvR G σ ρ ∧ GlE mg W G H σ Q (f ρ)
def rdT (mg : Str → Option Value) (W : WX) (f : Env → Res Bool) : TT := fun σ H Q => ∃ G ρ, Sub G H ∧ EnvR G σ ρ ∧ GlT mg W G H σ Q (f ρ)
section
variable {X : Cx} {W : WX} {e : Expr}
theorem DE.pe {f : Env → Res D} (d : DE X W e f) : PE X e (rdE X.mg W f) := by
  obtain ⟨t, p, h⟩ := d
  exact ⟨fun pins s σ H Q I ⟨G, ρ, sb, er, g⟩ => p.run pins s σ H Q I (h G H σ ρ Q sb er g)⟩
theorem DT.pt {f : Env → Res Bool} (d : DT X W e f) : PT X e (rdT X.mg W f) := by
  obtain ⟨t, p, h⟩ := d
  exact ⟨fun pins s σ H Q I ⟨G, ρ, sb, er, g⟩ => p.run pins s σ H Q I (h G H σ ρ Q sb er g)⟩
end
def ItD (J : It) (G : Hp) (ds : List D) : Prop :=
  ∀ (G2 H2 : Hp) (i : Nat), (∀ a o, G a = some o → G2 a = some o) → Sub G2 H2 →
    (∀ d, ds[i]? = some d → J.go i H2 ∧ ∀ x H', J.yld i H2 x H' → ∃ G', Ext G2 H2 G' H' ∧ Rep G' d x) ∧ (ds.length ≤ i → J.stop i H2)
abbrev GlI (mg : Str → Option Value) (W : WX) (G H : Hp) (σ : L2.St) (R : It → Hp → Prop) : Res (List D) → Prop := Gl mg W G H σ fun ds G' H' => ∀ J, ItD J G' ds → R J H'
def DI (X : Cx) (W : WX) (tg it : Expr) (f : Env → Res (List D)) : Prop :=
  ∃ wi : TI, PI X tg it wi ∧ ∀ (G H : Hp) (σ : L2.St) (ρ : Env) (R : It → Hp → Prop), Sub G H → EnvR G σ ρ → GlI X.mg W G H σ R (f ρ) → wi σ H R
def seqOf : D → Res (List D)
  | .lst xs => .ok xs
  | .tup xs => .ok xs
  | _ => .no
def lstOf : D → Res (List D)
  | .lst xs => .ok xs
  | _ => .no
def iSeq (f : Env → Res D) : Env → Res (List D) := fun ρ => f ρ >>= seqOf
section
variable {K : PySem.W.Frag} {G G2 H2 : Hp} {a : Addr} {vs : List V} {ds : List D}
theorem rd_up (g : ∀ a o, G a = some o → G2 a = some o) {u : HO} (h : Rd G a u) : Rd G2 a u := (Le.of g).1 _ _ h
theorem itd_list (h : Rd G a (.lst vs)) (r : Reps G ds vs) : ItD (Itl K a) G ds := by
  intro G2 H2 i g sb
  have h2 := sb.sqL (K := K) (rd_up g h)
  have r2 := r.le (Le.of g)
  refine ⟨fun d e => ?_, fun e => ⟨vs, h2, by rw [r.length]; exact e⟩⟩
  obtain ⟨v, e2, rv⟩ := r2.get e
  refine ⟨⟨vs, v, h2, e2⟩, fun x H' y => ?_⟩
  obtain ⟨rfl, y⟩ := y
  have y := y vs h2
  rw [e2] at y; cases y
  exact ⟨G2, Ext.refl sb, rv⟩
theorem itd_tup (h : G a = some (.tup vs)) (r : Reps G ds vs) : ItD (Itt K a) G ds := by
  intro G2 H2 i g sb
  have h2 := sb.sqT (K := K) (g _ _ h)
  have r2 := r.le (Le.of g)
  refine ⟨fun d e => ?_, fun e => ⟨vs, h2, by rw [r.length]; exact e⟩⟩
  obtain ⟨v, e2, rv⟩ := r2.get e
  refine ⟨⟨vs, v, h2, e2⟩, fun x H' y => ?_⟩
  obtain ⟨rfl, y⟩ := y
  have y := y vs h2
  rw [e2] at y; cases y
  exact ⟨G2, Ext.refl sb, rv⟩
def rangeD (lo : Int) (n : Nat) : List D := (List.range n).map fun (k : Nat) => D.int (lo + (k : Int))
theorem rangeD_get {lo : Int} {n i : Nat} (h : i < n) : (rangeD lo n)[i]? = some (.int (lo + (i : Int))) := by simp [rangeD, h]
theorem itd_rng {lo : Int} {n : Nat} : ItD (Itr lo n) G (rangeD lo n) := by
  intro G2 H2 i g sb
  refine ⟨fun d e => ?_, fun e => by show n ≤ i; simpa [rangeD] using e⟩
  have hi : i < n := by have := (List.getElem?_eq_some_iff.mp e).1; simpa [rangeD] using this
  rw [rangeD_get hi] at e; cases e
  refine ⟨hi, fun x H' y => ?_⟩
  obtain ⟨rfl, rfl⟩ := y
  exact ⟨G2, Ext.refl sb, rfl⟩
def enumD (ds : List D) : List D := ds.zipIdx.map fun p => D.tup [.int (p.2 : Int), p.1]
theorem enumD_get {i : Nat} {d : D} (h : (enumD ds)[i]? = some d) : ∃ x, ds[i]? = some x ∧ d = .tup [.int (i : Int), x] := by
  unfold enumD at h
  rw [List.getElem?_map, Option.map_eq_some_iff] at h
  obtain ⟨p, h1, h2⟩ := h
  rw [List.getElem?_zipIdx, Option.map_eq_some_iff] at h1
  obtain ⟨x, h3, rfl⟩ := h1
  exact ⟨x, h3, by rw [← h2]; simp⟩
theorem itd_enum (h : Rd G a (.lst vs)) (r : Reps G ds vs) : ItD (Ite K a) G (enumD ds) := by
  intro G2 H2 i g sb
  have h2 := sb.sqL (K := K) (rd_up g h)
  have r2 := r.le (Le.of g)
  refine ⟨fun d e => ?_, fun e => ⟨vs, h2, by rw [r.length]; simpa [enumD] using e⟩⟩
  obtain ⟨x, e1, rfl⟩ := enumD_get e
  obtain ⟨v, e2, rv⟩ := r2.get e1
  refine ⟨⟨vs, v, h2, e2⟩, fun w H' y => ?_⟩
  obtain ⟨T, z, rfl, nT, rfl, y⟩ := y
  have y := y vs h2
  rw [e2] at y; cases y
  have ex : Ext G2 H2 (upd G2 T (.tup [.int (i : Int), v])) (upd H2 T (.tup [.int (i : Int), v])) := Ext.new sb nT
  exact ⟨_, ex, T, _, rfl, upd_same, .int (i : Int), [v], rfl, rfl, v, [], rfl, rv.le ex.le, rfl⟩
def zipD : List D → List D → List D
  | x :: r, y :: s => .tup [x, y] :: zipD r s
  | _, _ => []
theorem zipD_get : ∀ {ds es : List D} {i : Nat} {d : D}, (zipD ds es)[i]? = some d → ∃ x y, ds[i]? = some x ∧ es[i]? = some y ∧ d = .tup [x, y]
  | [], _, _, _, h => by simp [zipD] at h
  | _ :: _, [], _, _, h => by simp [zipD] at h
  | x :: r, y :: s, 0, d, h => ⟨x, y, rfl, rfl, by simpa [zipD] using h.symm⟩
  | x :: r, y :: s, i + 1, d, h => by
    obtain ⟨u, w, h1, h2, h3⟩ := zipD_get (ds := r) (es := s) (i := i) (d := d) (by simpa [zipD] using h)
    exact ⟨u, w, by simpa using h1, by simpa using h2, h3⟩
theorem zipD_len : ∀ {ds es : List D}, (zipD ds es).length = min ds.length es.length
  | [], _ => by simp [zipD]
  | _ :: _, [] => by simp [zipD]
  | _ :: r, _ :: s => by simp only [zipD, List.length_cons, zipD_len (ds := r) (es := s)]; omega
theorem itd_zip {b : Addr} {ws : List V} {es : List D} (h : Rd G a (.lst vs)) (r : Reps G ds vs) (hb : Rd G b (.lst ws)) (rb : Reps G es ws) : ItD (Itz K a b) G (zipD ds es) := by
  intro G2 H2 i g sb
  have h2 := sb.sqL (K := K) (rd_up g h)
  have hb2 := sb.sqL (K := K) (rd_up g hb)
  have r2 := r.le (Le.of g)
  have rb2 := rb.le (Le.of g)
  refine ⟨fun d e => ?_, fun e => ⟨vs, ws, h2, hb2, by rw [r.length, rb.length]; rw [zipD_len] at e; omega⟩⟩
  obtain ⟨x, x', e1, e1', rfl⟩ := zipD_get e
  obtain ⟨v, e2, rv⟩ := r2.get e1
  obtain ⟨v', e2', rv'⟩ := rb2.get e1'
  refine ⟨⟨vs, ws, v, v', h2, hb2, e2, e2'⟩, fun w H' y => ?_⟩
  obtain ⟨T, z, z', rfl, nT, rfl, y, y'⟩ := y
  have y := y vs h2
  rw [e2] at y; cases y
  have y' := y' ws hb2
  rw [e2'] at y'; cases y'
  have ex : Ext G2 H2 (upd G2 T (.tup [v, v'])) (upd H2 T (.tup [v, v'])) := Ext.new sb nT
  exact ⟨_, ex, T, _, rfl, upd_same, v, [v'], rfl, rv.le ex.le, v', [], rfl, rv'.le ex.le, rfl⟩
theorem itd_str {x : Str} : ItD (Its x) G (x.cps.toList.map fun c => D.str ⟨#[c]⟩) := by
  intro G2 H2 i g sb
  refine ⟨fun d e => ?_, fun e => by show x.cps.size ≤ i; simpa using e⟩
  rw [List.getElem?_map, Option.map_eq_some_iff] at e
  obtain ⟨c, e1, rfl⟩ := e
  have e2 : x.cps[i]? = some c := by simpa using e1
  have hi : i < x.cps.size := (Array.getElem?_eq_some_iff.mp e2).1
  refine ⟨hi, fun w H' y => ?_⟩
  obtain ⟨rfl, c', e3, rfl⟩ := y
  rw [e2] at e3; cases e3
  exact ⟨G2, Ext.refl sb, rfl⟩
end
def iAny (K : PySem.W.Frag) (tl : TE) : TI := fun σ H R => tl σ H fun x H1 => ∃ a, x = .ref a ∧ (((∃ xs, SqL K H1 a xs) ∧ R (Itl K a) H1) ∨ ((∃ xs, SqT K H1 a xs) ∧ R (Itt K a) H1))
def iRange1 (f : Env → Res D) : Env → Res (List D) := fun ρ => f ρ >>= fun x => match x with
  | .int j => if -(2 ^ 62) ≤ j ∧ j < 2 ^ 62 then .ok (rangeD 0 j.toNat) else .no
  | _ => .no
def iRange2 (f g : Env → Res D) : Env → Res (List D) := fun ρ => f ρ >>= fun x => g ρ >>= fun y => match x, y with
  | .int i, .int j => if -(2 ^ 62) ≤ i ∧ i < 2 ^ 62 ∧ -(2 ^ 62) ≤ j ∧ j < 2 ^ 62 then .ok (rangeD i (j - i).toNat) else .no
  | _, _ => .no
def iEnumD (f : Env → Res D) : Env → Res (List D) := fun ρ => f ρ >>= lstOf >>= fun ds => .ok (enumD ds)
def strOf : D → Res Str
  | .str x => .ok x
  | _ => .no
def iStrD (f : Env → Res D) : Env → Res (List D) := fun ρ => f ρ >>= strOf >>= fun x => .ok (x.cps.toList.map fun c => D.str ⟨#[c]⟩)
theorem Res.assoc {α β γ : Type} (r : Res α) (f : α → Res β) (g : β → Res γ) : (r >>= f >>= g) = (r >>= fun x => f x >>= g) := by cases r <;> rfl
section
variable {X : Cx} {W : WX} {tg e e2 : Expr} {f g : Env → Res D} {p pos : Pos}
theorem pi_any {t : TE} (hl : PE X e t) : PI X tg e (iAny X.K t) := by
  refine ⟨fun pins s σ H R I h => ?_⟩
  refine thn (hl.run pins s σ H _ I h) fun v s1 ⟨x, H1, I1, r1, q1⟩ => ?_
  obtain ⟨a, rfl, q⟩ := q1
  cases r1
  rcases q with ⟨⟨xs, hq⟩, q⟩ | ⟨⟨xs, hq⟩, q⟩
  · obtain ⟨its, rv, p, hz⟩ := I1.list hq
    refine wpAny_pyIter_list p.isList ?_
    refine ⟨s1.heap.objs.size, [s1.heap.objs.size], _, _, H1, rfl, I1.kept (t' := s1.toks) fun b o e => Heap.get?_push_of_some _ e, turn_list a _, ⟨_, Heap.get?_push_size _ rfl, rfl, rfl⟩, fun b hb => ?_, q⟩
    have e : b = s1.heap.objs.size := by simpa using hb
    subst e
    exact I1.fpOk (Nat.le_refl _) (I1.hok.fresh (Nat.le_refl _))
  · obtain ⟨its, rv, p, hz⟩ := I1.tuple hq
    refine wpAny_pyIter_tuple (show s1.heap.IsTuple a its.toArray from p) ?_
    refine ⟨s1.heap.objs.size, [s1.heap.objs.size], _, _, H1, rfl, I1.kept (t' := s1.toks) fun b o e => Heap.get?_push_of_some _ e, turn_tuple a _, ⟨_, Heap.get?_push_size _ rfl, rfl, rfl⟩, fun b hb => ?_, q⟩
    have e : b = s1.heap.objs.size := by simpa using hb
    subst e
    exact I1.fpOk (Nat.le_refl _) (I1.hok.fresh (Nat.le_refl _))
theorem di_seq (d : DE X W e f) : DI X W tg e (iSeq f) := by
  obtain ⟨t, p, h1⟩ := d
  refine ⟨_, pi_any p, fun G H σ ρ R s e h => ?_⟩
  refine h1 G H σ ρ _ s e (Gl.imp (fun x G1 H1 _ e1 k v rv => ?_) (Gl.bind h))
  cases x with
  | lst xs =>
    obtain ⟨a, vs, rfl, h1, q⟩ := rv
    exact ⟨a, rfl, .inl ⟨⟨vs, e1.s.sqL h1⟩, k G1 H1 (Ext.refl e1.s) _ (itd_list h1 q)⟩⟩
  | tup xs =>
    obtain ⟨a, vs, rfl, h1, q⟩ := rv
    exact ⟨a, rfl, .inr ⟨⟨vs, e1.s.sqT h1⟩, k G1 H1 (Ext.refl e1.s) _ (itd_tup h1 q)⟩⟩
  | _ => exact k.elim
theorem di_str (d : DE X W e f) : DI X W tg e (iStrD f) := by
  obtain ⟨t, p, h1⟩ := d
  refine ⟨_, pi_str p, fun G H σ ρ R s e h => ?_⟩
  unfold iStrD at h
  rw [Res.assoc] at h
  refine h1 G H σ ρ _ s e (Gl.imp (fun x G1 H1 _ e1 k v rv => ?_) (Gl.bind h))
  cases x with
  | str x => exact ⟨x, rv, k G1 H1 (Ext.refl e1.s) _ itd_str⟩
  | _ => exact k.elim
theorem di_range1 (hg : L2.Gl X "range") (hm : X.mg "range" = none) (d : DE X W e f) (hs : starEach [e] X.env = [(false, eval e X.env)] := by rfl) : DI X W tg (.Call (.Name "range" p) [e] [] pos) (iRange1 f) := by
  obtain ⟨t, pe, h1⟩ := d
  refine ⟨_, pi_range1 hg hm (pa_cons pe pa_nil hs) hs, fun G H σ ρ R s e h => ?_⟩
  refine h1 G H σ ρ _ s e (Gl.imp (fun x G1 H1 _ e1 k v rv => ?_) (Gl.bind h))
  cases x with
  | int j =>
    have e2 : v = .int j := rv
    subst e2
    simp only at k
    split at k
    · rename_i z
      exact ⟨j, rfl, z.1, z.2, k G1 H1 (Ext.refl e1.s) _ itd_rng⟩
    · exact k.elim
  | _ => exact k.elim
theorem di_range2 (hg : L2.Gl X "range") (hm : X.mg "range" = none) (d : DE X W e f) (d2 : DE X W e2 g) (hs : starEach [e, e2] X.env = [(false, eval e X.env), (false, eval e2 X.env)] := by rfl) (hs2 : starEach [e2] X.env = [(false, eval e2 X.env)] := by rfl) :
    DI X W tg (.Call (.Name "range" p) [e, e2] [] pos) (iRange2 f g) := by
  obtain ⟨t, pe, h1⟩ := d
  obtain ⟨t2, pe2, h2⟩ := d2
  refine ⟨_, pi_range2 hg hm (pa_cons pe (pa_cons pe2 pa_nil hs2) (by rw [hs, hs2])) hs hs2, fun G H σ ρ R s e h => ?_⟩
  refine h1 G H σ ρ _ s e (Gl.imp (fun x G1 H1 _ e1 k v rv => ?_) (Gl.bind h))
  refine h2 G1 H1 σ ρ _ e1.s (e.le e1.le) (Gl.imp (fun y G2 H2 _ e2 k w rw' => ?_) (Gl.bind k))
  cases x with
  | int i =>
    cases y with
    | int j =>
      have e3 : v = .int i := rv
      have e4 : w = .int j := rw'
      subst e3 e4
      simp only at k
      split at k
      · rename_i z
        exact ⟨i, j, rfl, z, k G2 H2 (Ext.refl e2.s) _ itd_rng⟩
      · exact k.elim
    | _ => exact k.elim
  | _ => exact k.elim
theorem di_enum {elts : List Expr} {kk : Nat} {tpos : Pos} (hg : L2.Gl X "enumerate") (hm : X.mg "enumerate" = none) (d : DE X W e f) (hs : starEach [e] X.env = [(false, eval e X.env)] := by rfl) :
    DI X W (.Tuple elts kk tpos) (.Call (.Name "enumerate" p) [e] [] pos) (iEnumD f) := by
  obtain ⟨t, pe, h1⟩ := d
  refine ⟨_, pi_enum hg hm (pa_cons pe pa_nil hs) hs, fun G H σ ρ R s e h => ?_⟩
  unfold iEnumD at h
  rw [Res.assoc] at h
  refine h1 G H σ ρ _ s e (Gl.imp (fun x G1 H1 _ e1 k v rv => ?_) (Gl.bind h))
  cases x with
  | lst xs =>
    obtain ⟨a, vs, rfl, h1, q⟩ := rv
    exact ⟨a, vs, rfl, e1.s.sqL h1, k G1 H1 (Ext.refl e1.s) _ (itd_enum h1 q)⟩
  | _ => exact k.elim
end
def setE : Env → List Nat → List D → Env
  | ρ, i :: is, d :: ds => setE (ρ.set i (some d)) is ds
  | ρ, _, _ => ρ
def setS : L2.St → List Nat → List V → L2.St
  | σ, i :: is, d :: ds => setS (σ.set i (some d)) is ds
  | σ, _, _ => σ
theorem EnvR.sets {G : Hp} : ∀ {is : List Nat} {ds : List D} {vs : List V} {σ : L2.St} {ρ : Env}, EnvR G σ ρ → Reps G ds vs → EnvR G (setS σ is vs) (setE ρ is ds)
  | [], _, _, _, _, h, _ => by unfold setS setE; exact h
  | i :: is, [], _, _, _, h, r => by rw [show _ = [] from r]; exact h
  | i :: is, d :: ds, _, _, _, h, ⟨v, s, e, r1, r2⟩ => by
    subst e
    show EnvR G (setS (List.set _ i (some v)) is s) (setE (List.set _ i (some d)) is ds)
    exact EnvR.sets (h.set r1) r2
def DG (X : Cx) (tg : Expr) (is : List Nat) (ks : D → Res (List D)) : Prop :=
  ∃ t : TG, PG X tg t ∧ ∀ (G H : Hp) (σ : L2.St) (v : V) (d : D) (Q : L2.St → Hp → Prop) (l : List D), Sub G H → Rep G d v → ks d = .ok l →
    (∀ ws, Reps G l ws → ws.length = is.length → Q (setS σ is ws) H) → t v σ H Q
def DGs (X : Cx) (tg : List Expr) (is : List Nat) (ks : List D → Res (List D)) : Prop :=
  ∃ t : TGs, PGs X tg t ∧ ∀ (G H : Hp) (σ : L2.St) (vs : List V) (ds : List D) (Q : L2.St → Hp → Prop) (l : List D), Sub G H → Reps G ds vs → ks ds = .ok l →
    (∀ ws, Reps G l ws → ws.length = is.length → Q (setS σ is ws) H) → t vs σ H Q
def kName : D → Res (List D) := fun d => .ok [d]
def ksNil : List D → Res (List D) := fun ds => match ds with | [] => .ok [] | _ => .no
def ksCons (k : D → Res (List D)) (ks : List D → Res (List D)) : List D → Res (List D) := fun ds => match ds with
  | d :: r => k d >>= fun l => ks r >>= fun m => .ok (l ++ m)
  | [] => .no
def kTup (n : Nat) (ks : List D → Res (List D)) : D → Res (List D) := fun d => match d with
  | .tup ds => if ds.length = n then ks ds else .no
  | _ => .no
def rdG (is : List Nat) (ks : D → Res (List D)) : TG := fun v σ H Q => ∃ G d l, Sub G H ∧ Rep G d v ∧ ks d = .ok l ∧ ∀ ws, Reps G l ws → ws.length = is.length → Q (setS σ is ws) H
theorem setS_app : ∀ {is js : List Nat} {vs ws : List V} {σ : L2.St}, vs.length = is.length → setS σ (is ++ js) (vs ++ ws) = setS (setS σ is vs) js ws
  | [], _, [], _, _, _ => rfl
  | [], _, _ :: _, _, _, h => by simp at h
  | _ :: _, _, [], _, _, h => by simp at h
  | i :: is, js, v :: vs, ws, σ, h => by
    show setS (σ.set i (some v)) (is ++ js) (vs ++ ws) = _
    rw [setS_app (by simpa using h)]
    rfl
section
variable {X : Cx} {pos : Pos}
theorem DG.pg {tg : Expr} {is : List Nat} {ks : D → Res (List D)} (d : DG X tg is ks) : PG X tg (rdG is ks) := by
  obtain ⟨t, p, h⟩ := d
  exact ⟨fun pins s σ H v u Q I r ⟨G, d, l, sb, rd, e, k⟩ => p.run pins s σ H v u Q I r (h G H σ v d Q l sb rd e k)⟩
theorem dg_name {i : Nat} {x : Str} (p : PG X (.Name x pos) (gName i)) : DG X (.Name x pos) [i] kName := by
  refine ⟨_, p, fun G H σ v d Q l s r h k => ?_⟩
  have e : [d] = l := by simpa [kName] using h
  subst e
  exact k [v] ⟨v, [], rfl, r, rfl⟩ rfl
theorem dgs_nil : DGs X [] [] ksNil := by
  refine ⟨_, pgs_nil, fun G H σ vs ds Q l s r h k => ?_⟩
  unfold ksNil at h
  split at h
  · have e : [] = l := by simpa using h
    subst e
    exact ⟨r, k [] rfl rfl⟩
  · cases h
theorem dgs_cons {e : Expr} {es : List Expr} {is js : List Nat} {k1 : D → Res (List D)} {k2 : List D → Res (List D)} (d1 : DG X e is k1) (d2 : DGs X es js k2)
    (hs : (assignEach (e :: es) X.env).map (·.2) = assign e X.env :: (assignEach es X.env).map (·.2) := by rfl) : DGs X (e :: es) (is ++ js) (ksCons k1 k2) := by
  obtain ⟨t1, p1, h1⟩ := d1
  obtain ⟨t2, p2, h2⟩ := d2
  refine ⟨_, pgs_cons p1 p2 hs, fun G H σ vs ds Q l s r h k => ?_⟩
  unfold ksCons at h
  split at h
  · rename_i d ds
    obtain ⟨v, vs', ev, rv, rvs⟩ := r
    cases q1 : k1 d with
    | ok l1 =>
      rw [q1] at h
      cases q2 : k2 ds with
      | ok l2 =>
        rw [Res.bind_ok, q2] at h
        have e : l1 ++ l2 = l := by simpa using h
        subst e
        refine ⟨v, vs', ev, h1 G H σ v d _ l1 s rv q1 fun ws rw1 n1 => ?_⟩
        refine h2 G H _ vs' ds Q l2 s rvs q2 fun ws2 rw2 n2 => ?_
        have := k (ws ++ ws2) (rw1.append rw2) (by simp [n1, n2])
        rw [setS_app n1] at this
        exact this
      | ex c => rw [Res.bind_ok, q2] at h; cases h
      | no => rw [Res.bind_ok, q2] at h; cases h
    | ex c => rw [q1] at h; cases h
    | no => rw [q1] at h; cases h
  · cases h
theorem dg_tup {es : List Expr} {kk n : Nat} {is : List Nat} {ks : List D → Res (List D)} (hc : X.calm = true) (d : DGs X es is ks) (hn : (assignEach es X.env).length = n := by rfl) (hst : (assignEach es X.env).findIdx? (·.1) = none := by rfl) : DG X (.Tuple es kk pos) is (kTup n ks) := by
  obtain ⟨t, p, h1⟩ := d
  refine ⟨_, pg_tup hc p hn hst, fun G H σ v d Q l s r h k => ?_⟩
  unfold kTup at h
  split at h
  · rename_i ds
    split at h
    · rename_i z
      obtain ⟨a, vs, rfl, h2, q⟩ := r
      exact ⟨a, vs, rfl, s.sqT h2, by rw [q.length]; exact z, h1 G H σ vs ds Q l s q h k⟩
    · cases h
  · cases h
end
def wipeE (ρ : Env) : List Nat → Env
  | [] => ρ
  | v :: vs => (wipeE ρ vs).set v none
theorem EnvR.wipe {G : Hp} {σ : L2.St} {ρ : Env} (h : EnvR G σ ρ) : ∀ vs, EnvR G (L2.wipe σ vs) (wipeE ρ vs)
  | [] => h
  | v :: vs => (EnvR.wipe h vs).unset
theorem wipe_set_in {σ : L2.St} {i : Nat} {x : Option V} : ∀ {vs : List Nat}, i ∈ vs → L2.wipe (σ.set i x) vs = L2.wipe σ vs
  | [], h => by cases h
  | v :: vs, h => by
    unfold L2.wipe
    by_cases hm : i ∈ vs
    · rw [wipe_set_in hm]
    · have e : i = v := by
        rcases List.mem_cons.mp h with e | e
        · exact e
        · exact absurd e hm
      subst e
      have q : ∀ {ws : List Nat} {τ : L2.St}, i ∉ ws → L2.wipe (τ.set i x) ws = (L2.wipe τ ws).set i x := by
        intro ws
        induction ws with
        | nil => intro τ _; rfl
        | cons w ws ih =>
          intro τ hn
          simp only [List.mem_cons, not_or] at hn
          unfold L2.wipe
          rw [ih hn.2, List.set_comm _ _ hn.1]
      rw [q hm, List.set_set]
theorem wipe_sets {vs : List Nat} : ∀ {is : List Nat} {ws : List V} {σ : L2.St}, (∀ i ∈ is, i ∈ vs) → L2.wipe (setS σ is ws) vs = L2.wipe σ vs
  | [], _, _, _ => by unfold setS; rfl
  | i :: is, [], _, _ => rfl
  | i :: is, w :: ws, σ, h => by
    show L2.wipe (setS (σ.set i (some w)) is ws) vs = _
    rw [wipe_sets fun j hj => h j (List.mem_cons_of_mem _ hj), wipe_set_in (h i List.mem_cons_self)]
theorem wipe_set_none {σ : L2.St} {v : Nat} : ∀ {vs : List Nat}, (L2.wipe σ vs).set v none = L2.wipe (σ.set v none) vs
  | [] => rfl
  | w :: vs => by
    unfold L2.wipe
    by_cases e : v = w
    · subst e; rw [List.set_set, ← wipe_set_none, List.set_set]
    · rw [List.set_comm _ _ (Ne.symm e), wipe_set_none]
theorem wipe_wipe {σ : L2.St} : ∀ {vs : List Nat}, L2.wipe (L2.wipe σ vs) vs = L2.wipe σ vs
  | [] => rfl
  | v :: vs => by
    show (L2.wipe ((L2.wipe σ vs).set v none) vs).set v none = (L2.wipe σ vs).set v none
    rw [← wipe_set_none (σ := L2.wipe σ vs), List.set_set, wipe_wipe]
def noEx {α : Type} : Res α → Res α
  | .ok a => .ok a
  | _ => .no
def compL (is : List Nat) (ks : D → Res (List D)) (ft : Env → Res Bool) (fe : Env → Res D) (ρ : Env) : List D → Res (List D)
  | [] => .ok []
  | d :: r => ks d >>= fun l => noEx (ft (setE ρ is l)) >>= fun b => if b = true then noEx (fe (setE ρ is l)) >>= fun y => compL is ks ft fe ρ r >>= fun ys => .ok (y :: ys) else compL is ks ft fe ρ r
def nComp (fi : Env → Res (List D)) (is : List Nat) (ks : D → Res (List D)) (ft : Env → Res Bool) (fe : Env → Res D) (vs : List Nat) : Env → Res (List D) := fun ρ =>
  fi ρ >>= fun ds => noEx (compL is ks ft fe (wipeE ρ vs) ds) >>= fun ys => if ys.length ≤ sizeLine then .ok ys else .no
def DTs (X : Cx) (W : WX) (es : List Expr) (f : Env → Res Bool) : Prop :=
  ∃ t : TT, PTs X es t ∧ ∀ (G H : Hp) (σ : L2.St) (ρ : Env) (Q : Bool → Hp → Prop), Sub G H → EnvR G σ ρ → GlT X.mg W G H σ Q (f ρ) → t σ H Q
def tTrue : Env → Res Bool := fun _ => .ok true
theorem dts_nil {X : Cx} {W : WX} : DTs X W [] tTrue := ⟨_, pts_nil, fun G H σ ρ Q s e h => h G H (Ext.refl s)⟩
theorem dts_one {X : Cx} {W : WX} {c : Expr} {f : Env → Res Bool} (d : DT X W c f) : DTs X W [c] f := let ⟨t, p, h⟩ := d; ⟨t, pts_one p, h⟩
theorem DTs.pts {X : Cx} {W : WX} {es : List Expr} {f : Env → Res Bool} (d : DTs X W es f) : PTs X es (rdT X.mg W f) := by
  obtain ⟨t, p, h⟩ := d
  exact ⟨fun pins s σ H Q I ⟨G, ρ, sb, er, g⟩ => p.run pins s σ H Q I (h G H σ ρ Q sb er g)⟩
theorem noEx_ok {α : Type} {r : Res α} {a : α} (h : noEx r = .ok a) : r = .ok a := by cases r <;> simp_all [noEx]
theorem bind_ok' {α β : Type} {r : Res α} {f : α → Res β} {b : β} (h : (r >>= f) = .ok b) : ∃ a, r = .ok a ∧ f a = .ok b := by
  cases r with
  | ok a => exact ⟨a, rfl, h⟩
  | ex c => cases h
  | no => cases h
abbrev W0 : WX := fun _ _ _ _ => False
theorem lc_run {X : Cx} {W : WX} {is vs : List Nat} {ks : D → Res (List D)} {ft : Env → Res Bool} {fe : Env → Res D} {G1 H1 : Hp} {σ : L2.St} {ρ : Env} {Q : VK} {J : It} {ds ys : List D} {Da : Addr}
    (hv : ∀ i ∈ is, i ∈ vs) (er : EnvR G1 σ ρ) (sb : Sub G1 H1) (hJ : ItD J G1 ds) (nDa : H1 Da = none) (hl : compL is ks ft fe (wipeE ρ vs) ds = .ok ys) (hz : ys.length ≤ sizeLine)
    (hQ : ∀ G' H' acc, Ext G1 H1 G' H' → G' Da = none → H' Da = some (.lst acc) → Reps G' ys acc → Q (.ref Da) H') :
    ∃ W : Nat → Nat → Hp → Prop, (∃ m, W 0 m (upd H1 Da (.lst []))) ∧ ∀ i m H, W i m H →
      (J.stop i H ∧ Q (.ref Da) H) ∨ (J.go i H ∧ ∃ Nx : Hp → Prop, (∀ H', Nx H' → ∃ m', m' < m ∧ W (i + 1) m' H') ∧ ∀ x H', J.yld i H x H' → rdG is ks x (wipe σ vs) H' fun σ2 H2 => wipe σ2 vs = wipe σ vs ∧ rdT X.mg W0 ft σ2 H2 fun b H3 =>
        if b = true then rdE X.mg W0 fe σ2 H3 fun y H4 => ∃ acc, H4 Da = some (.lst acc) ∧ acc.length < sizeLine ∧ Nx (upd H4 Da (.lst (acc ++ [y]))) else Nx H3) := by
  let Iv : Nat → Hp → Prop := fun i H => ∃ G acc accD rest, Ext G1 H1 G H ∧ G Da = none ∧ H Da = some (.lst acc) ∧ Reps G accD acc ∧ compL is ks ft fe (wipeE ρ vs) (ds.drop i) = .ok rest ∧ accD ++ rest = ys ∧ i ≤ ds.length
  refine ⟨fun i m H => m = ds.length - i ∧ Iv i H, ⟨ds.length, by simp, G1, [], [], ys, Ext.hid sb nDa, ?_, upd_same, rfl, hl, rfl, Nat.zero_le _⟩, ?_⟩
  · cases q : G1 Da with
    | none => rfl
    | some o => rw [sb _ _ q] at nDa; cases nDa
  rintro i m H ⟨rfl, G, acc, accD, rest, ex, gD, hD, ra, hc, hy, hi⟩
  by_cases hlt : i < ds.length
  · refine .inr ?_
    have hd : ds.drop i = ds[i] :: ds.drop (i + 1) := List.drop_eq_getElem_cons hlt
    rw [hd] at hc
    obtain ⟨l, e1, hc⟩ := bind_ok' hc
    obtain ⟨b, e2, hc⟩ := bind_ok' hc
    have e2 := noEx_ok e2
    obtain ⟨go, yl⟩ := (hJ G H i ex.g ex.s).1 ds[i] (by simp [hlt])
    refine ⟨go, Iv (i + 1), fun H' iv => ⟨ds.length - (i + 1), by omega, rfl, iv⟩, fun x H2 y => ?_⟩
    obtain ⟨G2, ex2, rx⟩ := yl x H2 y
    have hD2 : H2 Da = some (.lst acc) := ex2.h _ _ hD
    refine ⟨G2, ds[i], l, ex2.s, rx, e1, fun ws rws nws => ⟨by rw [wipe_sets hv, wipe_wipe], ?_⟩⟩
    have er2 : EnvR G2 (setS (wipe σ vs) is ws) (setE (wipeE ρ vs) is l) := (((er.le ex.le).le ex2.le).wipe vs).sets rws
    refine ⟨G2, _, ex2.s, er2, ?_⟩
    rw [e2]
    intro G3 H3 ex3
    have hD3 : H3 Da = some (.lst acc) := ex3.h _ _ hD2
    have exA : Ext G H G3 H3 := ex2.trans ex3
    have nD : ∀ {G4 H4 : Hp}, Ext G H G4 H4 → G4 Da = none := fun {G4 H4} e4 => by
      cases q : G4 Da with
      | none => rfl
      | some o =>
        rcases e4.n _ _ q with z | z | ⟨_, z⟩
        · rw [gD] at z; cases z
        · rw [hD] at z; cases z
        · have z2 := e4.s _ _ q
          rw [e4.h _ _ hD] at z2; cases z2; cases z
    cases b with
    | false =>
      show ite _ _ _
      rw [if_neg Bool.false_ne_true]
      exact ⟨G3, acc, accD, rest, ex.trans exA, nD exA, hD3, ra.le exA.le, hc, hy, hlt⟩
    | true =>
      show ite _ _ _
      rw [if_pos rfl] at hc ⊢
      obtain ⟨y, e3, hc⟩ := bind_ok' hc
      have e3 := noEx_ok e3
      obtain ⟨ys', e4, hc⟩ := bind_ok' hc
      have e5 : y :: ys' = rest := by simpa using hc
      subst e5
      refine ⟨G3, _, ex3.s, er2.le ex3.le, ?_⟩
      rw [e3]
      intro G4 H4 ex4 v rv
      have exB : Ext G H G4 H4 := exA.trans ex4
      have hD4 : H4 Da = some (.lst acc) := ex4.h _ _ hD3
      refine ⟨acc, hD4, ?_, G4, acc ++ [v], accD ++ [y], ys', ?_, nD exB, upd_same, (ra.le exB.le).append (.one rv), e4, by simpa using hy, hlt⟩
      · have h1 := ra.length
        have h2 : ys.length = accD.length + (ys'.length + 1) := by rw [← hy]; simp
        omega
      · have exC := ex.trans exB
        refine ⟨fun a o q => ?_, exC.g, fun a o q => ?_, exC.n⟩
        · rw [upd_ne (ne_of_none q nDa)]; exact exC.h a o q
        · have : a ≠ Da := fun z => by subst z; rw [nD exB] at q; cases q
          rw [upd_ne this]; exact exC.s a o q
  · refine .inl ⟨(hJ G H i ex.g ex.s).2 (by omega), ?_⟩
    have e : i = ds.length := by omega
    subst e
    rw [List.drop_length] at hc
    have e2 : [] = rest := by simpa [compL] using hc
    subst e2
    rw [List.append_nil] at hy
    subst hy
    exact hQ G H acc ex gD hD ra
end DL
namespace DL
open PySem PySem.Spec PyProof.Rows L2
inductive Kd where
  /-- the list or dict itself is owned, its items stand in the region -/
  | sh
  /-- every list and dict within is owned -/
  | dp
  /-- (at i + 1000) slot i, as long as it owns something, holds v -/
  | pin (v : V)
  deriving DecidableEq
def Kd.pl : Kd → Bool
  | .pin _ => false
  | _ => true
mutual
def RepO (H : Hp) : D → V → List Addr → Prop
  | .non, v, fp => v = .non ∧ fp = []
  | .bl b, v, fp => v = .bl b ∧ fp = []
  | .int i, v, fp => v = .int i ∧ fp = []
  | .str x, v, fp => v = .str x ∧ fp = []
  | .tup ds, v, fp => ∃ a vs, v = .ref a ∧ H a = some (.tup vs) ∧ RepOs H ds vs fp
  | .lst ds, v, fp => ∃ a vs fq, v = .ref a ∧ H a = some (.lst vs) ∧ fp = a :: fq ∧ RepOs H ds vs fq
  | .dK kvs, v, fp => ∃ a ws fq, v = .ref a ∧ H a = some (.dK ws) ∧ fp = a :: fq ∧ RepOK H kvs ws fq
  | .dT kvs, v, fp => ∃ a ws fq, v = .ref a ∧ H a = some (.dT ws) ∧ fp = a :: fq ∧ RepOT H kvs ws fq
  | .obj C fs, v, fp => ∃ a dx ws fq, v = .ref a ∧ H a = some (.ins C dx ws) ∧ fp = a :: fq ∧ RepOF H fs ws fq
  | .dN _ _, _, _ => False
def RepOs (H : Hp) : List D → List V → List Addr → Prop
  | [], vs, fp => vs = [] ∧ fp = []
  | d :: r, vs, fp => ∃ v s f1 f2, vs = v :: s ∧ fp = f1 ++ f2 ∧ RepO H d v f1 ∧ RepOs H r s f2
def RepOK (H : Hp) : List (Key × D) → List (Key × V) → List Addr → Prop
  | [], vs, fp => vs = [] ∧ fp = []
  | (k, d) :: r, vs, fp => ∃ v s f1 f2, vs = (k, v) :: s ∧ fp = f1 ++ f2 ∧ RepO H d v f1 ∧ RepOK H r s f2
def RepOT (H : Hp) : List (List Key × D) → List (List Key × V) → List Addr → Prop
  | [], vs, fp => vs = [] ∧ fp = []
  | (k, d) :: r, vs, fp => ∃ v s f1 f2, vs = (k, v) :: s ∧ fp = f1 ++ f2 ∧ RepO H d v f1 ∧ RepOT H r s f2
def RepOF (H : Hp) : List (Str × D) → List (Str × V) → List Addr → Prop
  | [], vs, fp => vs = [] ∧ fp = []
  | (k, d) :: r, vs, fp => ∃ v s f1 f2, vs = (k, v) :: s ∧ fp = f1 ++ f2 ∧ RepO H d v f1 ∧ RepOF H r s f2
end
structure At (H H' : Hp) (fp : List Addr) : Prop where
  a : ∀ p ∈ fp, H' p = H p
  t : ∀ a vs, H a = some (.tup vs) → H' a = some (.tup vs)
theorem At.l {H H' : Hp} {f1 f2 : List Addr} (h : At H H' (f1 ++ f2)) : At H H' f1 := ⟨fun p hp => h.a p (List.mem_append_left _ hp), h.t⟩
theorem At.r {H H' : Hp} {f1 f2 : List Addr} (h : At H H' (f1 ++ f2)) : At H H' f2 := ⟨fun p hp => h.a p (List.mem_append_right _ hp), h.t⟩
theorem At.tl {H H' : Hp} {p : Addr} {f2 : List Addr} (h : At H H' (p :: f2)) : At H H' f2 := ⟨fun q hq => h.a q (List.mem_cons_of_mem _ hq), h.t⟩
mutual
theorem RepO.at {H H' : Hp} : ∀ {d : D} {v : V} {fp : List Addr}, At H H' fp → RepO H d v fp → RepO H' d v fp
  | .non, _, _, _, h => h
  | .bl _, _, _, _, h => h
  | .int _, _, _, _, h => h
  | .str _, _, _, _, h => h
  | .tup ds, _, _, l, ⟨a, vs, e, h, r⟩ => ⟨a, vs, e, l.t _ _ h, RepOs.at l r⟩
  | .lst ds, _, _, l, ⟨a, vs, fq, e, h, ef, r⟩ => by subst ef; exact ⟨a, vs, fq, e, (l.a a List.mem_cons_self).trans h, rfl, RepOs.at l.tl r⟩
  | .dK kvs, _, _, l, ⟨a, vs, fq, e, h, ef, r⟩ => by subst ef; exact ⟨a, vs, fq, e, (l.a a List.mem_cons_self).trans h, rfl, RepOK.at l.tl r⟩
  | .dT kvs, _, _, l, ⟨a, vs, fq, e, h, ef, r⟩ => by subst ef; exact ⟨a, vs, fq, e, (l.a a List.mem_cons_self).trans h, rfl, RepOT.at l.tl r⟩
  | .obj C fs, _, _, l, ⟨a, dx, ws, fq, e, h, ef, r⟩ => by subst ef; exact ⟨a, dx, ws, fq, e, (l.a a List.mem_cons_self).trans h, rfl, RepOF.at l.tl r⟩
  | .dN _ _, _, _, _, h => h.elim
theorem RepOs.at {H H' : Hp} : ∀ {ds : List D} {vs : List V} {fp : List Addr}, At H H' fp → RepOs H ds vs fp → RepOs H' ds vs fp
  | [], _, _, _, h => h
  | d :: r, _, _, l, ⟨v, s, f1, f2, e, ef, h, q⟩ => by subst ef; exact ⟨v, s, f1, f2, e, rfl, RepO.at l.l h, RepOs.at l.r q⟩
theorem RepOK.at {H H' : Hp} : ∀ {ds : List (Key × D)} {vs : List (Key × V)} {fp : List Addr}, At H H' fp → RepOK H ds vs fp → RepOK H' ds vs fp
  | [], _, _, _, h => h
  | (k, d) :: r, _, _, l, ⟨v, s, f1, f2, e, ef, h, q⟩ => by subst ef; exact ⟨v, s, f1, f2, e, rfl, RepO.at l.l h, RepOK.at l.r q⟩
theorem RepOT.at {H H' : Hp} : ∀ {ds : List (List Key × D)} {vs : List (List Key × V)} {fp : List Addr}, At H H' fp → RepOT H ds vs fp → RepOT H' ds vs fp
  | [], _, _, _, h => h
  | (k, d) :: r, _, _, l, ⟨v, s, f1, f2, e, ef, h, q⟩ => by subst ef; exact ⟨v, s, f1, f2, e, rfl, RepO.at l.l h, RepOT.at l.r q⟩
theorem RepOF.at {H H' : Hp} : ∀ {ds : List (Str × D)} {vs : List (Str × V)} {fp : List Addr}, At H H' fp → RepOF H ds vs fp → RepOF H' ds vs fp
  | [], _, _, _, h => h
  | (k, d) :: r, _, _, l, ⟨v, s, f1, f2, e, ef, h, q⟩ => by subst ef; exact ⟨v, s, f1, f2, e, rfl, RepO.at l.l h, RepOF.at l.r q⟩
end
mutual
theorem RepO.rep {H G : Hp} : ∀ {d : D} {v : V} {fp : List Addr}, At H G fp → RepO H d v fp → Rep G d v
  | .non, _, _, _, h => h.1
  | .bl _, _, _, _, h => h.1
  | .int _, _, _, _, h => h.1
  | .str _, _, _, _, h => h.1
  | .tup ds, _, _, l, ⟨a, vs, e, h, r⟩ => ⟨a, vs, e, l.t _ _ h, RepOs.rep l r⟩
  | .lst ds, _, _, l, ⟨a, vs, fq, e, h, ef, r⟩ => by subst ef; exact ⟨a, vs, e, .inl ((l.a a List.mem_cons_self).trans h), RepOs.rep l.tl r⟩
  | .dK kvs, _, _, l, ⟨a, vs, fq, e, h, ef, r⟩ => by subst ef; exact ⟨a, vs, e, .inl ((l.a a List.mem_cons_self).trans h), RepOK.rep l.tl r⟩
  | .dT kvs, _, _, l, ⟨a, vs, fq, e, h, ef, r⟩ => by subst ef; exact ⟨a, vs, e, .inl ((l.a a List.mem_cons_self).trans h), RepOT.rep l.tl r⟩
  | .obj C fs, _, _, l, ⟨a, dx, ws, fq, e, h, ef, r⟩ => by subst ef; exact ⟨a, dx, ws, e, (l.a a List.mem_cons_self).trans h, RepOF.rep l.tl r⟩
  | .dN _ _, _, _, _, h => h.elim
theorem RepOs.rep {H G : Hp} : ∀ {ds : List D} {vs : List V} {fp : List Addr}, At H G fp → RepOs H ds vs fp → Reps G ds vs
  | [], _, _, _, h => h.1
  | d :: r, _, _, l, ⟨v, s, f1, f2, e, ef, h, q⟩ => by subst ef; exact ⟨v, s, e, RepO.rep l.l h, RepOs.rep l.r q⟩
theorem RepOK.rep {H G : Hp} : ∀ {ds : List (Key × D)} {vs : List (Key × V)} {fp : List Addr}, At H G fp → RepOK H ds vs fp → RepK G ds vs
  | [], _, _, _, h => h.1
  | (k, d) :: r, _, _, l, ⟨v, s, f1, f2, e, ef, h, q⟩ => by subst ef; exact ⟨v, s, e, RepO.rep l.l h, RepOK.rep l.r q⟩
theorem RepOT.rep {H G : Hp} : ∀ {ds : List (List Key × D)} {vs : List (List Key × V)} {fp : List Addr}, At H G fp → RepOT H ds vs fp → RepT G ds vs
  | [], _, _, _, h => h.1
  | (k, d) :: r, _, _, l, ⟨v, s, f1, f2, e, ef, h, q⟩ => by subst ef; exact ⟨v, s, e, RepO.rep l.l h, RepOT.rep l.r q⟩
theorem RepOF.rep {H G : Hp} : ∀ {ds : List (Str × D)} {vs : List (Str × V)} {fp : List Addr}, At H G fp → RepOF H ds vs fp → RepF G ds vs
  | [], _, _, _, h => h.1
  | (k, d) :: r, _, _, l, ⟨v, s, f1, f2, e, ef, h, q⟩ => by subst ef; exact ⟨v, s, e, RepO.rep l.l h, RepOF.rep l.r q⟩
end
mutual
theorem RepO.mut {H : Hp} : ∀ {d : D} {v : V} {fp : List Addr}, RepO H d v fp → ∀ p ∈ fp, Mut (H p)
  | .non, _, _, h, p, hp => by rw [h.2] at hp; cases hp
  | .bl _, _, _, h, p, hp => by rw [h.2] at hp; cases hp
  | .int _, _, _, h, p, hp => by rw [h.2] at hp; cases hp
  | .str _, _, _, h, p, hp => by rw [h.2] at hp; cases hp
  | .tup ds, _, _, ⟨a, vs, e, h, r⟩, p, hp => RepOs.mut r p hp
  | .lst ds, _, _, ⟨a, vs, fq, e, h, ef, r⟩, p, hp => by
    subst ef
    rcases List.mem_cons.mp hp with z | hp
    · subst z; rw [h]; trivial
    · exact RepOs.mut r p hp
  | .dK kvs, _, _, ⟨a, vs, fq, e, h, ef, r⟩, p, hp => by
    subst ef
    rcases List.mem_cons.mp hp with z | hp
    · subst z; rw [h]; trivial
    · exact RepOK.mut r p hp
  | .dT kvs, _, _, ⟨a, vs, fq, e, h, ef, r⟩, p, hp => by
    subst ef
    rcases List.mem_cons.mp hp with z | hp
    · subst z; rw [h]; trivial
    · exact RepOT.mut r p hp
  | .obj C fs, _, _, ⟨a, dx, ws, fq, e, h, ef, r⟩, p, hp => by
    subst ef
    rcases List.mem_cons.mp hp with z | hp
    · subst z; rw [h]; trivial
    · exact RepOF.mut r p hp
  | .dN _ _, _, _, h, _, _ => h.elim
theorem RepOs.mut {H : Hp} : ∀ {ds : List D} {vs : List V} {fp : List Addr}, RepOs H ds vs fp → ∀ p ∈ fp, Mut (H p)
  | [], _, _, h, p, hp => by rw [h.2] at hp; cases hp
  | d :: r, _, _, ⟨v, s, f1, f2, e, ef, h, q⟩, p, hp => by
    subst ef
    rcases List.mem_append.mp hp with hp | hp
    · exact RepO.mut h p hp
    · exact RepOs.mut q p hp
theorem RepOK.mut {H : Hp} : ∀ {ds : List (Key × D)} {vs : List (Key × V)} {fp : List Addr}, RepOK H ds vs fp → ∀ p ∈ fp, Mut (H p)
  | [], _, _, h, p, hp => by rw [h.2] at hp; cases hp
  | (k, d) :: r, _, _, ⟨v, s, f1, f2, e, ef, h, q⟩, p, hp => by
    subst ef
    rcases List.mem_append.mp hp with hp | hp
    · exact RepO.mut h p hp
    · exact RepOK.mut q p hp
theorem RepOT.mut {H : Hp} : ∀ {ds : List (List Key × D)} {vs : List (List Key × V)} {fp : List Addr}, RepOT H ds vs fp → ∀ p ∈ fp, Mut (H p)
  | [], _, _, h, p, hp => by rw [h.2] at hp; cases hp
  | (k, d) :: r, _, _, ⟨v, s, f1, f2, e, ef, h, q⟩, p, hp => by
    subst ef
    rcases List.mem_append.mp hp with hp | hp
    · exact RepO.mut h p hp
    · exact RepOT.mut q p hp
theorem RepOF.mut {H : Hp} : ∀ {ds : List (Str × D)} {vs : List (Str × V)} {fp : List Addr}, RepOF H ds vs fp → ∀ p ∈ fp, Mut (H p)
  | [], _, _, h, p, hp => by rw [h.2] at hp; cases hp
  | (k, d) :: r, _, _, ⟨v, s, f1, f2, e, ef, h, q⟩, p, hp => by
    subst ef
    rcases List.mem_append.mp hp with hp | hp
    · exact RepO.mut h p hp
    · exact RepOF.mut q p hp
end
mutual
theorem RepO.of_imm {H : Hp} : ∀ {d : D} {v : V}, imm d = true → Rep H d v → RepO H d v []
  | .non, _, _, h => ⟨h, rfl⟩
  | .bl _, _, _, h => ⟨h, rfl⟩
  | .int _, _, _, h => ⟨h, rfl⟩
  | .str _, _, _, h => ⟨h, rfl⟩
  | .tup ds, _, i, ⟨a, vs, e, h, r⟩ => ⟨a, vs, e, h, RepOs.of_imm (by simpa [DL.imm] using i) r⟩
  | .lst ds, _, i, _ => by simp [DL.imm] at i
  | .dK kvs, _, i, _ => by simp [DL.imm] at i
  | .dT kvs, _, i, _ => by simp [DL.imm] at i
  | .obj C fs, _, i, _ => by simp [DL.imm] at i
  | .dN _ _, _, i, _ => by simp [DL.imm] at i
theorem RepOs.of_imm {H : Hp} : ∀ {ds : List D} {vs : List V}, imms ds = true → Reps H ds vs → RepOs H ds vs []
  | [], _, _, h => ⟨h, rfl⟩
  | d :: r, _, i, ⟨v, s, e, h, q⟩ => by
    have j := i
    simp only [imms, Bool.and_eq_true] at j
    exact ⟨v, s, [], [], e, rfl, RepO.of_imm j.1 h, RepOs.of_imm j.2 q⟩
end
def OwnS (G H : Hp) (p : Addr) : D → Prop
  | .lst ds => ∃ vs, H p = some (.lst vs) ∧ Reps G ds vs
  | .dK kvs => ∃ ws, H p = some (.dK ws) ∧ RepK G kvs ws
  | .dT kvs => ∃ ws, H p = some (.dT ws) ∧ RepT G kvs ws
  | .dN w kvs => ∃ o xs, H p = some (ObjX p o) ∧ DatN w p o xs ∧ RepN G kvs xs
  | _ => False
def OwnK (k : Kd) (G H : Hp) (d : D) (v : V) (fp : List Addr) : Prop := match k with
  | .sh => ∃ p, v = .ref p ∧ fp = [p] ∧ OwnS G H p d
  | .dp => RepO H d v fp ∧ fp.Nodup
  | .pin _ => False
theorem OwnS.at {G G' H H' : Hp} {p : Addr} {d : D} (l : Le G G') (e : H' p = H p) (h : OwnS G H p d) : OwnS G' H' p d := by
  cases d with
  | lst ds => obtain ⟨vs, h1, h2⟩ := h; exact ⟨vs, e.trans h1, h2.le l⟩
  | dK ds => obtain ⟨vs, h1, h2⟩ := h; exact ⟨vs, e.trans h1, h2.le l⟩
  | dT ds => obtain ⟨vs, h1, h2⟩ := h; exact ⟨vs, e.trans h1, h2.le l⟩
  | dN w ds => obtain ⟨o, xs, h1, h2, h3⟩ := h; exact ⟨o, xs, e.trans h1, h2, h3.le l⟩
  | _ => exact h.elim
theorem OwnK.at {k : Kd} {G G' H H' : Hp} {d : D} {v : V} {fp : List Addr} (l : Le G G') (a : At H H' fp) (h : OwnK k G H d v fp) : OwnK k G' H' d v fp := by
  cases k with
  | sh => obtain ⟨p, e, ef, h⟩ := h; subst ef; exact ⟨p, e, rfl, h.at l (a.a p List.mem_cons_self)⟩
  | dp => exact ⟨h.1.at a, h.2⟩
  | pin z => exact h.elim
theorem OwnK.rep {k : Kd} {G G' H : Hp} {d : D} {v : V} {fp : List Addr} (l : Le G G') (a : At H G' fp) (h : OwnK k G H d v fp) : Rep G' d v := by
  cases k with
  | sh =>
    obtain ⟨p, e, ef, h⟩ := h
    subst ef
    have ep := a.a p List.mem_cons_self
    cases d with
    | lst ds => obtain ⟨vs, h1, h2⟩ := h; exact ⟨p, vs, e, .inl (ep.trans h1), h2.le l⟩
    | dK ds => obtain ⟨vs, h1, h2⟩ := h; exact ⟨p, vs, e, .inl (ep.trans h1), h2.le l⟩
    | dT ds => obtain ⟨vs, h1, h2⟩ := h; exact ⟨p, vs, e, .inl (ep.trans h1), h2.le l⟩
    | dN w ds => obtain ⟨o, xs, h1, h2, h3⟩ := h; exact ⟨p, o, xs, e, .inl (ep.trans h1), h2, h3.le l⟩
    | _ => exact h.elim
  | dp => exact h.1.rep a
  | pin z => exact h.elim
theorem OwnK.mut {k : Kd} {G H : Hp} {d : D} {v : V} {fp : List Addr} (h : OwnK k G H d v fp) : ∀ p ∈ fp, Mut (H p) := by
  cases k with
  | sh =>
    obtain ⟨p, e, ef, h⟩ := h
    subst ef
    intro q hq
    have : q = p := by simpa using hq
    subst this
    cases d with
    | lst ds => obtain ⟨vs, h1, h2⟩ := h; rw [h1]; trivial
    | dK ds => obtain ⟨vs, h1, h2⟩ := h; rw [h1]; trivial
    | dT ds => obtain ⟨vs, h1, h2⟩ := h; rw [h1]; trivial
    | dN w ds => obtain ⟨o, xs, h1, h2, h3⟩ := h; rw [h1]; trivial
    | _ => exact h.elim
  | dp => exact h.1.mut
  | pin z => exact h.elim
abbrev Owns := List (Nat × Kd)
structure SIf (fp : Nat → List Addr) (G0 H0 : Hp) (ow : Owns) (G H : Hp) (σ : L2.St) (ρ : Env) : Prop where
  ext : Ext G0 H0 G H
  len : ρ.length = σ.length
  val : ∀ (i : Nat) (d : D), ρ[i]? = some (some d) → ow.lookup i = none → ∃ v, σ[i]? = some (some v) ∧ Rep G d v
  own : ∀ (i : Nat) (k : Kd) (d : D), ow.lookup i = some k → ρ[i]? = some (some d) → ∃ v, σ[i]? = some (some v) ∧ OwnK k G H d v (fp i)
  fpm : ∀ i p, p ∈ fp i → G p = none ∧ H0 p = none ∧ Mut (H p)
  fpd : ∀ i j p, i ≠ j → p ∈ fp i → p ∉ fp j
  pin : ∀ (i : Nat) (v : V), ow.lookup (i + 1000) = some (.pin v) → ow.lookup i ≠ none → σ[i]? = some (some v)
def SI (G0 H0 : Hp) (own : Owns) (G H : Hp) (σ : L2.St) (ρ : Env) : Prop := ∃ fp, SIf fp G0 H0 own G H σ ρ
def maskE (own : Owns) (ρ : Env) : Env := own.foldl (fun ρ p => ρ.set p.1 none) ρ
def viewG (H0 G H : Hp) : Hp := fun a => match H0 a, H a with
  | none, o => o
  | some _, some (.tup vs) => some (.tup vs)
  | some _, _ => G a
section
variable {G0 H0 G H G' H' : Hp} {own : Owns} {σ : L2.St} {ρ : Env}
theorem maskE_get : ∀ {own : Owns} {ρ : Env} {i : Nat} {d : D}, (maskE own ρ)[i]? = some (some d) → ρ[i]? = some (some d) ∧ own.lookup i = none
  | [], _, _, _, h => ⟨h, rfl⟩
  | (j, k) :: own, ρ, i, d, h => by
    have h : (maskE own (ρ.set j none))[i]? = some (some d) := h
    obtain ⟨h1, h2⟩ := maskE_get h
    by_cases e : j = i
    · subst e
      by_cases hv : j < ρ.length
      · rw [List.getElem?_set_self hv] at h1; cases h1
      · rw [List.getElem?_eq_none (by simpa using hv)] at h1; cases h1
    · rw [List.getElem?_set_ne e] at h1
      refine ⟨h1, ?_⟩
      rw [List.lookup_cons, show (i == j) = false by simpa using Ne.symm e]
      exact h2
theorem maskE_len : ∀ {own : Owns} {ρ : Env}, (maskE own ρ).length = ρ.length
  | [], _ => rfl
  | (j, k) :: own, ρ => by
    show (maskE own (ρ.set j none)).length = _
    rw [maskE_len, List.length_set]
theorem SIf.sub {fp} (I : SIf fp G0 H0 own G H σ ρ) : Sub G H := I.ext.s
theorem SI.ext (I : SI G0 H0 own G H σ ρ) : Ext G0 H0 G H := let ⟨_, I⟩ := I; I.ext
theorem SI.sub (I : SI G0 H0 own G H σ ρ) : Sub G H := I.ext.s
theorem SIf.masked {fp} (I : SIf fp G0 H0 own G H σ ρ) : EnvR G σ (maskE own ρ) := ⟨by rw [maskE_len]; exact I.len, fun i d e => by
  obtain ⟨h1, h2⟩ := maskE_get e
  exact I.val i d h1 h2⟩
theorem view_le (s : Sub G H) : Le G (viewG H0 G H) := Le.of fun a o e => by
  unfold viewG
  split
  · exact s a o e
  · rename_i x q
    have := s a o e
    rw [q] at this; cases this; rfl
  · exact e
theorem view_ext (x : Ext G0 H0 G H) : Ext G0 H0 (viewG H0 G H) H where
  h := x.h
  g := fun a o e => by
    have e2 := x.g a o e
    have e3 := x.s a o e2
    unfold viewG
    split
    · exact e3
    · rename_i q; rw [q] at e3; cases e3; rfl
    · exact e2
  s := fun a o e => by
    unfold viewG at e
    split at e
    · exact e
    · rename_i q; rw [q]; exact e
    · exact x.s a o e
  n := fun a o e => by
    unfold viewG at e
    split at e
    · rename_i q; exact .inr (.inl q)
    · exact .inr (.inr ⟨_, (Option.some.inj e).symm⟩)
    · exact x.n a o e
theorem view_at {fp : List Addr} (h : ∀ p ∈ fp, H0 p = none) : At H (viewG H0 G H) fp := ⟨fun p hp => by unfold viewG; rw [h p hp], fun a vs e => by
  unfold viewG; rw [e]; cases H0 a <;> rfl⟩
theorem SIf.view {fp} (I : SIf fp G0 H0 own G H σ ρ) : EnvR (viewG H0 G H) σ ρ := ⟨I.len, fun i d e => by
  cases q : own.lookup i with
  | none =>
    obtain ⟨v, h1, h2⟩ := I.val i d e q
    exact ⟨v, h1, h2.le (view_le I.sub)⟩
  | some k =>
    obtain ⟨v, h1, h2⟩ := I.own i k d q e
    exact ⟨v, h1, h2.rep (view_le I.sub) (view_at fun p hp => (I.fpm i p hp).2.1)⟩⟩
theorem Ext.mutn (x : Ext G H G' H') {p : Addr} (n : G p = none) (m : Mut (H p)) : G' p = none := by
  cases q : G' p with
  | none => rfl
  | some o =>
    rcases x.n p o q with z | z | ⟨vs, z⟩
    · rw [n] at z; cases z
    · rw [z] at m; exact m.elim
    · subst z
      have h1 := x.s _ _ q
      cases r : H p with
      | none => rw [r] at m; exact m.elim
      | some u =>
        have h2 := x.h _ _ r
        rw [h1] at h2; cases h2
        rw [r] at m; exact m.elim
theorem Ext.at (x : Ext G H G' H') {fp : List Addr} (m : ∀ p ∈ fp, Mut (H p)) : At H H' fp := ⟨fun p hp => by
  cases r : H p with
  | none => have := m p hp; rw [r] at this; exact this.elim
  | some u => exact x.h _ _ r, fun a vs e => x.h _ _ e⟩
theorem mut_keep (x : Ext G H G' H') {p : Addr} (m : Mut (H p)) : Mut (H' p) := by
  rw [(x.at (fp := [p]) fun q hq => by rw [show q = p by simpa using hq]; exact m).a p List.mem_cons_self]
  exact m
theorem SIf.grow {fp} (I : SIf fp G0 H0 own G H σ ρ) (x : Ext G H G' H') : SIf fp G0 H0 own G' H' σ ρ where
  ext := I.ext.trans x
  len := I.len
  val := fun i d e q => by
    obtain ⟨v, h1, h2⟩ := I.val i d e q
    exact ⟨v, h1, h2.le x.le⟩
  own := fun i k d q e => by
    obtain ⟨v, h1, h2⟩ := I.own i k d q e
    exact ⟨v, h1, h2.at x.le (x.at fun p hp => (I.fpm i p hp).2.2)⟩
  fpm := fun i p hp => by
    obtain ⟨h1, h2, h3⟩ := I.fpm i p hp
    exact ⟨x.mutn h1 h3, h2, mut_keep x h3⟩
  fpd := I.fpd
  pin := I.pin
theorem SIf.set {fp} (I : SIf fp G0 H0 own G H σ ρ) {j : Nat} {d : D} {v : V} (hj : own.lookup j = none) (r : Rep G d v) : SIf fp G0 H0 own G H (σ.set j (some v)) (ρ.set j (some d)) where
  ext := I.ext
  len := by simp [I.len]
  val := fun i d' e q => by
    by_cases hi : j = i
    · subst hi
      by_cases hv : j < ρ.length
      · rw [List.getElem?_set_self hv] at e; cases e
        exact ⟨v, List.getElem?_set_self (by rw [← I.len]; exact hv), r⟩
      · rw [List.getElem?_eq_none (by simpa using hv)] at e; cases e
    · rw [List.getElem?_set_ne hi] at e
      obtain ⟨w, h1, h2⟩ := I.val i d' e q
      exact ⟨w, by rw [List.getElem?_set_ne hi]; exact h1, h2⟩
  own := fun i k d' q e => by
    have hi : j ≠ i := fun z => by subst z; rw [hj] at q; cases q
    rw [List.getElem?_set_ne hi] at e
    obtain ⟨w, h1, h2⟩ := I.own i k d' q e
    exact ⟨w, by rw [List.getElem?_set_ne hi]; exact h1, h2⟩
  fpm := I.fpm
  fpd := I.fpd
  pin := fun i w q n => by
    have hi : j ≠ i := fun z => by subst z; exact n hj
    rw [List.getElem?_set_ne hi]
    exact I.pin i w q n
theorem SIf.sets {fp} : ∀ {is : List Nat} {ds : List D} {vs : List V} {σ : L2.St} {ρ : Env}, SIf fp G0 H0 own G H σ ρ → (∀ i ∈ is, own.lookup i = none) → Reps G ds vs → SIf fp G0 H0 own G H (setS σ is vs) (setE ρ is ds)
  | [], _, _, _, _, I, _, _ => by unfold setS setE; exact I
  | i :: is, [], _, _, _, I, _, r => by rw [show _ = [] from r]; exact I
  | i :: is, d :: ds, _, σ, ρ, I, hi, ⟨v, s, e, r1, r2⟩ => by
    subst e
    show SIf fp G0 H0 own G H (setS (σ.set i (some v)) is s) (setE (ρ.set i (some d)) is ds)
    exact SIf.sets (I.set (hi i List.mem_cons_self) r1) (fun j hj => hi j (List.mem_cons_of_mem _ hj)) r2
theorem SIf.weak {fp} (I : SIf fp G0 H0 own G H σ ρ) {ρ' : Env} (hl : ρ'.length = ρ.length) (h : ∀ (i : Nat) (d : D), ρ'[i]? = some (some d) → ρ[i]? = some (some d)) : SIf fp G0 H0 own G H σ ρ' :=
  ⟨I.ext, hl.trans I.len, fun i d e q => I.val i d (h i d e) q, fun i k d q e => I.own i k d q (h i d e), I.fpm, I.fpd, I.pin⟩
theorem SI.weak (I : SI G0 H0 own G H σ ρ) {ρ' : Env} (hl : ρ'.length = ρ.length) (h : ∀ (i : Nat) (d : D), ρ'[i]? = some (some d) → ρ[i]? = some (some d)) : SI G0 H0 own G H σ ρ' := let ⟨fp, I⟩ := I; ⟨fp, I.weak hl h⟩
end
def forget (ρ : Env) (is : List Nat) : Env := is.foldl (fun ρ i => ρ.set i none) ρ
theorem forget_len : ∀ {is : List Nat} {ρ : Env}, (forget ρ is).length = ρ.length
  | [], _ => rfl
  | i :: is, ρ => by
    show (forget (ρ.set i none) is).length = _
    rw [forget_len, List.length_set]
theorem forget_get : ∀ {is : List Nat} {ρ : Env} {i : Nat} {d : D}, (forget ρ is)[i]? = some (some d) → ρ[i]? = some (some d) ∧ i ∉ is
  | [], _, _, _, h => ⟨h, by simp⟩
  | j :: is, ρ, i, d, h => by
    have h : (forget (ρ.set j none) is)[i]? = some (some d) := h
    obtain ⟨h1, h2⟩ := forget_get h
    by_cases e : j = i
    · subst e
      by_cases hv : j < ρ.length
      · rw [List.getElem?_set_self hv] at h1; cases h1
      · rw [List.getElem?_eq_none (by simpa using hv)] at h1; cases h1
    · rw [List.getElem?_set_ne e] at h1
      exact ⟨h1, by simp only [List.mem_cons, not_or]; exact ⟨fun z => e z.symm, h2⟩⟩
theorem lookup_filter {i j : Nat} : ∀ {own : Owns}, (own.filter fun p => p.1 != i).lookup j = if j = i then none else own.lookup j
  | [] => by simp
  | (a, k) :: r => by
    have ih := @lookup_filter i j r
    by_cases ha : a = i
    · subst ha
      rw [List.filter_cons_of_neg (by simp), ih, List.lookup_cons]
      by_cases hj : j = a
      · simp [hj]
      · rw [if_neg hj, if_neg hj, show (j == a) = false by simpa using hj]
    · rw [List.filter_cons_of_pos (by simpa using ha), List.lookup_cons, List.lookup_cons]
      by_cases hj : j = a
      · subst hj; simp [ha]
      · rw [show (j == a) = false by simpa using hj]; exact ih
def disown (own : Owns) (i : Nat) : Owns := own.filter fun p => p.1 != i
theorem disown_self {own : Owns} {i : Nat} : (disown own i).lookup i = none := by unfold disown; rw [lookup_filter, if_pos rfl]
theorem disown_ne {own : Owns} {i j : Nat} (h : j ≠ i) : (disown own i).lookup j = own.lookup j := by unfold disown; rw [lookup_filter, if_neg h]
section
variable {G0 H0 G H G' H' : Hp} {own : Owns} {σ : L2.St} {ρ : Env}
def fpSet (fp : Nat → List Addr) (j : Nat) (fj : List Addr) : Nat → List Addr := fun i => if i = j then fj else fp i
theorem fpSet_self {fp : Nat → List Addr} {j : Nat} {fj : List Addr} : fpSet fp j fj j = fj := if_pos rfl
theorem fpSet_ne {fp : Nat → List Addr} {i j : Nat} {fj : List Addr} (h : i ≠ j) : fpSet fp j fj i = fp i := if_neg h
theorem fpSet_d {fp : Nat → List Addr} {j : Nat} {fj : List Addr} (h : ∀ i j p, i ≠ j → p ∈ fp i → p ∉ fp j) (hd : ∀ i p, i ≠ j → p ∈ fp i → p ∉ fj) : ∀ i i' p, i ≠ i' → p ∈ fpSet fp j fj i → p ∉ fpSet fp j fj i' := by
  intro i i' p hne hp
  by_cases hi : i = j
  · subst hi
    rw [fpSet_self] at hp
    rw [fpSet_ne (Ne.symm hne)]
    exact fun z => hd i' p (Ne.symm hne) z hp
  · rw [fpSet_ne hi] at hp
    by_cases hi' : i' = j
    · subst hi'; rw [fpSet_self]; exact hd i p hi hp
    · rw [fpSet_ne hi']; exact h i i' p hne hp
theorem SIf.take {fp} (I : SIf fp G0 H0 own G H σ ρ) {j : Nat} {k : Kd} {d : D} {v : V} {fj : List Addr} (o : OwnK k G H d v fj) (hn : ∀ p ∈ fj, G p = none ∧ H0 p = none) (hd : ∀ i p, i ≠ j → p ∈ fp i → p ∉ fj) (hpn : own.lookup (j + 1000) = none) :
    SIf (fpSet fp j fj) G0 H0 ((j, k) :: disown own j) G H (σ.set j (some v)) (ρ.set j (some d)) where
  ext := I.ext
  len := by simp [I.len]
  val := fun i d' e q => by
    have hi : j ≠ i := fun z => by subst z; simp at q
    rw [List.lookup_cons, show (i == j) = false by simpa using Ne.symm hi, disown_ne (Ne.symm hi)] at q
    rw [List.getElem?_set_ne hi] at e
    obtain ⟨w, h1, h2⟩ := I.val i d' e q
    exact ⟨w, by rw [List.getElem?_set_ne hi]; exact h1, h2⟩
  own := fun i k' d' q e => by
    by_cases hi : j = i
    · subst hi
      have ek : k = k' := by simpa using q
      subst ek
      by_cases hv : j < ρ.length
      · rw [List.getElem?_set_self hv] at e; cases e
        exact ⟨v, List.getElem?_set_self (by rw [← I.len]; exact hv), by rw [fpSet_self]; exact o⟩
      · rw [List.getElem?_eq_none (by simpa using hv)] at e; cases e
    · rw [List.lookup_cons, show (i == j) = false by simpa using Ne.symm hi, disown_ne (Ne.symm hi)] at q
      rw [List.getElem?_set_ne hi] at e
      obtain ⟨w, h1, h2⟩ := I.own i k' d' q e
      exact ⟨w, by rw [List.getElem?_set_ne hi]; exact h1, by rw [fpSet_ne (Ne.symm hi)]; exact h2⟩
  fpm := fun i p hp => by
    by_cases hi : i = j
    · subst hi
      rw [fpSet_self] at hp
      exact ⟨(hn p hp).1, (hn p hp).2, o.mut p hp⟩
    · rw [fpSet_ne hi] at hp
      exact I.fpm i p hp
  fpd := fpSet_d I.fpd hd
  pin := fun i w q n => by
    have hi : i ≠ j := fun z => by
      subst z
      rw [List.lookup_cons, show (i + 1000 == i) = false by simp, disown_ne (by omega), hpn] at q
      cases q
    have hi2 : i + 1000 ≠ j := fun z => by
      subst z
      have ek : k = .pin w := by simpa using q
      subst ek
      exact o.elim
    rw [List.lookup_cons, show (i + 1000 == j) = false by simpa using hi2, disown_ne hi2] at q
    rw [List.lookup_cons, show (i == j) = false by simpa using hi, disown_ne hi] at n
    rw [List.getElem?_set_ne (Ne.symm hi)]
    exact I.pin i w q n
theorem SIf.change {fp} (I : SIf fp G0 H0 own G H σ ρ) {j : Nat} {k : Kd} {d : D} {v : V} {fj : List Addr} (hj : own.lookup j = some k) (hv : σ[j]? = some (some v)) (hH : ∀ a, a ∉ fp j → H' a = H a ∨ (H a = none ∧ H0 a = none))
    (o : OwnK k G H' d v fj) (hn : ∀ p ∈ fj, G p = none ∧ H0 p = none) (hd : ∀ i p, i ≠ j → p ∈ fp i → p ∉ fj) (ht : ∀ p ∈ fp j, ∀ vs, H p ≠ some (.tup vs)) :
    SIf (fpSet fp j fj) G0 H0 own G H' σ (ρ.set j (some d)) where
  ext := by
    refine ⟨fun a o e => ?_, I.ext.g, fun a o e => ?_, I.ext.n⟩
    · have e2 := I.ext.h a o e
      have hp : a ∉ fp j := fun z => by rw [(I.fpm j a z).2.1] at e; cases e
      rcases hH a hp with q | q
      · rw [q]; exact e2
      · rw [q.1] at e2; cases e2
    · have e2 := I.ext.s a o e
      have hp : a ∉ fp j := fun z => by rw [(I.fpm j a z).1] at e; cases e
      rcases hH a hp with q | q
      · rw [q]; exact e2
      · rw [q.1] at e2; cases e2
  len := by simp [I.len]
  val := fun i d' e q => by
    have hi : j ≠ i := fun z => by subst z; rw [hj] at q; cases q
    rw [List.getElem?_set_ne hi] at e
    exact I.val i d' e q
  own := fun i k' d' q e => by
    by_cases hi : j = i
    · subst hi
      rw [hj] at q; cases q
      by_cases hl : j < ρ.length
      · rw [List.getElem?_set_self hl] at e; cases e
        exact ⟨v, hv, by rw [fpSet_self]; exact o⟩
      · rw [List.getElem?_eq_none (by simpa using hl)] at e; cases e
    · rw [List.getElem?_set_ne hi] at e
      obtain ⟨w, h1, h2⟩ := I.own i k' d' q e
      refine ⟨w, h1, ?_⟩
      rw [fpSet_ne (Ne.symm hi)]
      refine h2.at (Le.of fun _ _ e => e) ⟨fun p hp => ?_, fun a vs e => ?_⟩
      · rcases hH p (I.fpd i j p (Ne.symm hi) hp) with q | q
        · exact q
        · have := (I.fpm i p hp).2.2
          rw [q.1] at this; exact this.elim
      · by_cases ha : a ∈ fp j
        · exact absurd e (ht a ha vs)
        · rcases hH a ha with q | q
          · rw [q]; exact e
          · rw [q.1] at e; cases e
  fpm := fun i p hp => by
    by_cases hi : i = j
    · subst hi
      rw [fpSet_self] at hp
      exact ⟨(hn p hp).1, (hn p hp).2, o.mut p hp⟩
    · rw [fpSet_ne hi] at hp
      obtain ⟨h1, h2, h3⟩ := I.fpm i p hp
      refine ⟨h1, h2, ?_⟩
      rcases hH p (I.fpd i j p hi hp) with q | q
      · rw [q]; exact h3
      · rw [q.1] at h3; exact h3.elim
  fpd := fpSet_d I.fpd hd
  pin := I.pin
theorem SIf.pinD {fp} (I : SIf fp G0 H0 own G H σ ρ) (j : Nat) (i : Nat) (v : V) (q : (disown own j).lookup (i + 1000) = some (.pin v)) (n : (disown own j).lookup i ≠ none) : σ[i]? = some (some v) := by
  have hi : i ≠ j := fun z => by subst z; exact n disown_self
  have hi2 : i + 1000 ≠ j := fun z => by subst z; rw [disown_self] at q; cases q
  rw [disown_ne hi2] at q
  rw [disown_ne hi] at n
  exact I.pin i v q n
def joinG (G H : Hp) (fp : List Addr) : Hp := fun a => match H a with
  | some (.tup vs) => some (.tup vs)
  | o => if a ∈ fp then o else G a
theorem SIf.freeze {fp} (I : SIf fp G0 H0 own G H σ ρ) (j : Nat) : SIf (fpSet fp j []) G0 H0 (disown own j) (joinG G H (fp j)) H σ ρ := by
  have hg : ∀ a o, G a = some o → joinG G H (fp j) a = some o := fun a o e => by
    have e2 := I.sub a o e
    unfold joinG
    split
    · rename_i vs q; rw [q] at e2; cases e2; rfl
    · split
      · exact e2
      · exact e
  have hs : Sub (joinG G H (fp j)) H := fun a o e => by
    unfold joinG at e
    split at e
    · rename_i vs q; rw [q]; exact e
    · split at e
      · exact e
      · exact I.sub a o e
  have hn : ∀ a o, joinG G H (fp j) a = some o → G a = some o ∨ a ∈ fp j ∨ ∃ vs, o = .tup vs := fun a o e => by
    unfold joinG at e
    split at e
    · exact .inr (.inr ⟨_, (Option.some.inj e).symm⟩)
    · split at e
      · rename_i h; exact .inr (.inl h)
      · exact .inl e
  have hat : At H (joinG G H (fp j)) (fp j) := ⟨fun p hp => by
    unfold joinG
    split
    · rename_i vs q; rw [q]
    · rw [if_pos hp], fun a vs e => by unfold joinG; rw [e]⟩
  refine ⟨⟨I.ext.h, fun a o e => hg a o (I.ext.g a o e), hs, fun a o e => ?_⟩, I.len, fun i d e q => ?_, fun i k d q e => ?_, fun i p hp => ?_, ?_, I.pinD j⟩
  · rcases hn a o e with q | q | q
    · exact I.ext.n a o q
    · exact .inr (.inl (I.fpm j a q).2.1)
    · exact .inr (.inr q)
  · by_cases hi : i = j
    · subst hi
      cases r : own.lookup i with
      | none =>
        obtain ⟨v, h1, h2⟩ := I.val i d e r
        exact ⟨v, h1, h2.le (Le.of hg)⟩
      | some k =>
        obtain ⟨v, h1, h2⟩ := I.own i k d r e
        exact ⟨v, h1, h2.rep (Le.of hg) hat⟩
    · rw [disown_ne hi] at q
      obtain ⟨v, h1, h2⟩ := I.val i d e q
      exact ⟨v, h1, h2.le (Le.of hg)⟩
  · have hi : i ≠ j := fun z => by subst z; rw [disown_self] at q; cases q
    rw [disown_ne hi] at q
    obtain ⟨v, h1, h2⟩ := I.own i k d q e
    exact ⟨v, h1, by rw [fpSet_ne hi]; exact h2.at (Le.of hg) ⟨fun _ _ => rfl, fun _ _ e => e⟩⟩
  · by_cases hi : i = j
    · subst hi; rw [fpSet_self] at hp; cases hp
    · rw [fpSet_ne hi] at hp
      obtain ⟨h1, h2, h3⟩ := I.fpm i p hp
      refine ⟨?_, h2, h3⟩
      cases q : joinG G H (fp j) p with
      | none => rfl
      | some o =>
        rcases hn p o q with z | z | ⟨vs, z⟩
        · rw [h1] at z; cases z
        · exact absurd z (I.fpd i j p hi hp)
        · subst z
          rw [hs _ _ q] at h3; exact h3.elim
  · refine fpSet_d I.fpd fun i p hi hp => by simp
theorem SIf.drop {fp} (I : SIf fp G0 H0 own G H σ ρ) (j : Nat) : SIf fp G0 H0 (disown own j) G H σ (ρ.set j none) where
  ext := I.ext
  len := by simp [I.len]
  val := fun i d e q => by
    by_cases hi : j = i
    · subst hi
      by_cases hl : j < ρ.length
      · rw [List.getElem?_set_self hl] at e; cases e
      · rw [List.getElem?_eq_none (by simpa using hl)] at e; cases e
    · rw [List.getElem?_set_ne hi] at e
      rw [disown_ne (Ne.symm hi)] at q
      exact I.val i d e q
  own := fun i k d q e => by
    have hi : i ≠ j := fun z => by subst z; rw [disown_self] at q; cases q
    rw [disown_ne hi] at q
    rw [List.getElem?_set_ne (Ne.symm hi)] at e
    exact I.own i k d q e
  fpm := I.fpm
  fpd := I.fpd
  pin := I.pinD j
end
end DL
namespace DL
open PySem PySem.Spec PyProof.Rows L2
inductive Out where
  | nx (ρ : Env) | rt (d : D) | bk (ρ : Env) | ct (ρ : Env) | ex (c : Str) (ρ : Env) | no
abbrev DSem := Env → Out
def RetOk (rk : Option Kd) (G0 H0 : Hp) (Rt : VK) (d : D) : Prop := match rk with
  | none => ∀ G H v, Ext G0 H0 G H → Rep G d v → Rt v H
  | some k => ∀ G H v fj, Ext G0 H0 G H → OwnK k G H d v fj → (∀ p ∈ fj, G p = none ∧ H0 p = none) → Rt v H
def oxSub (ox own : Owns) : Bool := ox.all fun p => own.lookup p.1 == some p.2
structure Jd where
  W : WX
  L : Owns
  ox : Owns
  rk : Option Kd
def GS (mg : Str → Option Value) (J : Jd) (G0 H0 : Hp) (own' : Owns) (Dn : Ends) : Out → Prop
  | .nx ρ => ∀ G H σ, SI G0 H0 own' G H σ ρ → Dn.nx σ H
  | .rt d => RetOk J.rk G0 H0 Dn.rt d
  | .bk ρ => ∀ G H σ, SI G0 H0 J.L G H σ ρ → Dn.bk σ H
  | .ct ρ => ∀ G H σ, SI G0 H0 J.L G H σ ρ → Dn.ct σ H
  | .ex c ρ => ∀ C own G H σ, oxSub J.ox own = true → mg c = some (.ref C) → SI G0 H0 own G H σ ρ → J.W (.ref C) none σ H
  | .no => False
def DS (X : Cx) (J : Jd) (own own' : Owns) (st : Stmt) (F : DSem) : Prop :=
  ∃ t : TS, PS X st t ∧ ∀ (G0 H0 G H : Hp) (σ : L2.St) (ρ : Env) (Dn : Ends), SI G0 H0 own G H σ ρ → GS X.mg J G0 H0 own' Dn (F ρ) → t Dn σ H
def DSs (X : Cx) (J : Jd) (own own' : Owns) (st : List Stmt) (F : DSem) : Prop :=
  ∃ t : TS, PSs X st t ∧ ∀ (G0 H0 G H : Hp) (σ : L2.St) (ρ : Env) (Dn : Ends), SI G0 H0 own G H σ ρ → GS X.mg J G0 H0 own' Dn (F ρ) → t Dn σ H
section
variable {X : Cx} {J : Jd} {own own1 own2 : Owns} {st : Stmt} {rest : List Stmt} {F F1 F2 : DSem}
def sSeq (F1 F2 : DSem) : DSem := fun ρ => match F1 ρ with
  | .nx ρ' => F2 ρ'
  | o => o
def sNext : DSem := fun ρ => .nx ρ
theorem dss_nil : DSs X J own own [] sNext := ⟨_, pss_nil, fun G0 H0 G H σ ρ Dn I h => h G H σ I⟩
theorem dss_one (d : DS X J own own1 st F) : DSs X J own own1 [st] F := let ⟨t, p, h⟩ := d; ⟨t, pss_one p, h⟩
theorem dss_cons (d1 : DS X J own own1 st F1) (d2 : DSs X J own1 own2 rest F2) : DSs X J own own2 (st :: rest) (sSeq F1 F2) := by
  obtain ⟨t1, p1, h1⟩ := d1
  obtain ⟨t2, p2, h2⟩ := d2
  refine ⟨_, pss_cons p1 p2, fun G0 H0 G H σ ρ Dn I h => ?_⟩
  refine h1 G0 H0 G H σ ρ { Dn with nx := t2 Dn } I ?_
  unfold sSeq at h
  cases q : F1 ρ with
  | nx ρ' => rw [q] at h; exact fun G' H' σ' I' => h2 G0 H0 G' H' σ' ρ' Dn I' h
  | rt d => rw [q] at h; exact h
  | bk d => rw [q] at h; exact h
  | ct d => rw [q] at h; exact h
  | ex c d => rw [q] at h; exact h
  | no => rw [q] at h; exact h
theorem toP {G0 H0 G H : Hp} {σ : L2.St} {ρ : Env} {Dn : Ends} {α : Type} {r : Res α} {k : α → Out} {P : α → Hp → Hp → Prop} {fp} {G1 : Hp} (hx : oxSub J.ox own = true) (I : SIf fp G0 H0 own G H σ ρ) (h1 : Sub G1 H)
    (h : GS X.mg J G0 H0 own1 Dn (match r with | .ok a => k a | .ex c => .ex c ρ | .no => .no)) (hP : ∀ a, r = .ok a → GS X.mg J G0 H0 own1 Dn (k a) → ∀ G' H', Ext G1 H G' H' → P a G' H') : Gl X.mg J.W G1 H σ P r := by
  cases r with
  | ok a => exact hP a rfl h
  | ex c => exact fun C G' H' m e => h C own G H' σ hx m ⟨fp, I.grow (Ext.up I.sub e.h)⟩
  | no => exact h
end
def andThen {α : Type} (r : Res α) (ρ : Env) (k : α → Out) : Out := match r with
  | .ok a => k a
  | .ex c => .ex c ρ
  | .no => .no
section
variable {X : Cx} {J : Jd} {own own1 own2 : Owns} {st : Stmt} {rest : List Stmt} {e : Expr} {f : Env → Res D} {pos : Pos}
theorem onMasked {t : TE} {G0 H0 G H : Hp} {σ : L2.St} {ρ : Env} {Dn : Ends} {k : D → Out} {Q : VK} {fp} (hx : oxSub J.ox own = true)
    (h1 : ∀ (G H : Hp) (σ : L2.St) (ρ : Env) (Q : VK), Sub G H → EnvR G σ ρ → GlE X.mg J.W G H σ Q (f ρ) → t σ H Q) (I : SIf fp G0 H0 own G H σ ρ) (h : GS X.mg J G0 H0 own1 Dn (andThen (f (maskE own ρ)) ρ k))
    (hP : ∀ d, GS X.mg J G0 H0 own1 Dn (k d) → ∀ G' H' v, Ext G H G' H' → SIf fp G0 H0 own G' H' σ ρ → Rep G' d v → Q v H') : t σ H Q :=
  h1 G H σ (maskE own ρ) Q I.sub I.masked (toP hx I I.sub h fun d _ hk G' H' e v rv => hP d hk G' H' v e (I.grow e) rv)
theorem onView {t : TE} {G0 H0 G H : Hp} {σ : L2.St} {ρ : Env} {Dn : Ends} {k : D → Out} {Q : VK} {fp} (hx : oxSub J.ox own = true)
    (h1 : ∀ (G H : Hp) (σ : L2.St) (ρ : Env) (Q : VK), Sub G H → EnvR G σ ρ → GlE X.mg J.W G H σ Q (f ρ) → t σ H Q) (I : SIf fp G0 H0 own G H σ ρ) (h : GS X.mg J G0 H0 own1 Dn (andThen (f ρ) ρ k))
    (hP : ∀ d, GS X.mg J G0 H0 own1 Dn (k d) → ∀ G' H' v, Ext (viewG H0 G H) H G' H' → SIf fp G0 H0 own (tupG G H') H' σ ρ → Rep G' d v → (imm d = true → Rep (tupG G H') d v) → Q v H') : t σ H Q := by
  have s := (view_ext I.ext).s
  exact h1 _ H σ ρ Q s I.view (toP hx I s h fun d _ hk G' H' e v rv => hP d hk G' H' v e (I.grow (Ext.tups I.sub e.h)) rv fun hi => Rep.imm (fun a vs q => tupG_tup (e.s _ _ q)) hi rv)
def sAsg (own : Owns) (j : Nat) (f : Env → Res D) : DSem := fun ρ => andThen (f (maskE own ρ)) ρ fun d => .nx (ρ.set j (some d))
def sAsgI (j : Nat) (f : Env → Res D) : DSem := fun ρ => andThen (f ρ) ρ fun d => if imm d = true then .nx (ρ.set j (some d)) else .no
theorem set_none_set {σ : Env} {j : Nat} {x : Option D} : (σ.set j none).set j x = σ.set j x := List.set_set ..
def AE (X : Cx) (W : WX) (st : Stmt) (j : Nat) (f : Env → Res D) : Prop :=
  ∃ t : TE, PS X st (tAsg t (gName j)) ∧ ∀ (G H : Hp) (σ : L2.St) (ρ : Env) (Q : VK), Sub G H → EnvR G σ ρ → GlE X.mg W G H σ Q (f ρ) → t σ H Q
theorem ae_set {j : Nat} {x : Str} {pos' : Pos} (hN : X.N.Nodup) (hi : X.N[j]? = some x) (hl : Loc X.env.scope x) (d : DE X J.W e f) (hs : swapsWith e (some (.Name x pos')) pos.line X.env = pure false := by rfl) (hf : X.fn x = true ∨ X.env.scope.names.lookup x = some .local := by first | exact .inl rfl | exact .inr rfl | assumption) :
    AE X J.W (.Assign [.Name x pos'] e pos) j f := let ⟨t, p, h⟩ := d; ⟨t, ps_set hN hi hl p hs hf, h⟩
theorem ds_asg {j : Nat} (d : AE X J.W st j f) (hx : oxSub J.ox own = true := by rfl) : DS X J own (disown own j) st (sAsg own j f) := by
  obtain ⟨t, pe, h1⟩ := d
  refine ⟨_, pe, fun G0 H0 G H σ ρ Dn ⟨fp, I⟩ h => ?_⟩
  refine onMasked hx h1 I h fun d hk G' H' v e I' rv => ?_
  have I2 := (I'.drop j).set (j := j) (d := d) (v := v) disown_self rv
  rw [set_none_set] at I2
  exact hk G' H' _ ⟨fp, I2⟩
theorem ds_asgI {j : Nat} (d : AE X J.W st j f) (hx : oxSub J.ox own = true := by rfl) : DS X J own (disown own j) st (sAsgI j f) := by
  obtain ⟨t, pe, h1⟩ := d
  refine ⟨_, pe, fun G0 H0 G H σ ρ Dn ⟨fp, I⟩ h => ?_⟩
  refine onView hx h1 I h fun d hk G' H' v e I' _ rv => ?_
  split at hk
  · rename_i hi
    have I2 := (I'.drop j).set (j := j) (d := d) (v := v) disown_self (rv hi)
    rw [set_none_set] at I2
    exact hk _ H' _ ⟨fp, I2⟩
  · exact hk.elim
def sRet (f : Env → Res D) : DSem := fun ρ => andThen (f ρ) ρ fun d => .rt d
theorem ds_ret (hk : J.rk = none) (d : DE X J.W e f) (hx : oxSub J.ox own = true := by rfl) : DS X J own own1 (.Return (some e) pos) (sRet f) := by
  obtain ⟨t, pe, h1⟩ := d
  refine ⟨_, ps_ret pe, fun G0 H0 G H σ ρ Dn ⟨fp, I⟩ h => ?_⟩
  refine onView hx h1 I h fun d hr G' H' v e I' rv _ => ?_
  have hr : RetOk J.rk G0 H0 Dn.rt d := hr
  unfold RetOk at hr
  rw [hk] at hr
  exact hr G' H' v ((view_ext I.ext).trans e) rv
def sDrop (f : Env → Res D) : DSem := fun ρ => andThen (f ρ) ρ fun _ => .nx ρ
theorem ds_expr (d : DE X J.W e f) (hx : oxSub J.ox own = true := by rfl) (hs : swapsWith e none pos.line X.env = pure false := by rfl) : DS X J own own (.Expr e pos) (sDrop f) := by
  obtain ⟨t, pe, h1⟩ := d
  refine ⟨_, ps_expr pe hs, fun G0 H0 G H σ ρ Dn ⟨fp, I⟩ h => ?_⟩
  exact onView hx h1 I h fun d hr G' H' v e I' rv _ => hr _ H' σ ⟨fp, I'⟩
def sIf (c : Env → Res Bool) (F1 F2 : DSem) : DSem := fun ρ => andThen (c ρ) ρ fun b => if b = true then F1 ρ else F2 ρ
theorem ds_if {c : Expr} {a b : List Stmt} {fc : Env → Res Bool} {F1 F2 : DSem} (d : DT X J.W c fc) (d1 : DSs X J own own1 a F1) (d2 : DSs X J own own1 b F2) (hx : oxSub J.ox own = true := by rfl) : DS X J own own1 (.If c a b pos) (sIf fc F1 F2) := by
  obtain ⟨t, pt, h1⟩ := d
  obtain ⟨ta, pa, ha⟩ := d1
  obtain ⟨tb, pb, hb⟩ := d2
  refine ⟨_, ps_if pt pa pb, fun G0 H0 G H σ ρ Dn ⟨fp, I⟩ h => ?_⟩
  have s := (view_ext I.ext).s
  refine h1 _ H σ ρ _ s I.view (toP hx I s h fun x _ hk G' H' e => ?_)
  have I' : SI G0 H0 own (tupG G H') H' σ ρ := ⟨fp, I.grow (Ext.tups I.sub e.h)⟩
  cases x with
  | true => exact ha G0 H0 _ H' σ ρ Dn I' hk
  | false => exact hb G0 H0 _ H' σ ρ Dn I' hk
def sThen (F : DSem) (g : Env → Env) : DSem := fun ρ => match F ρ with
  | .nx ρ' => .nx (g ρ')
  | o => o
theorem dss_drop {sts : List Stmt} {F : DSem} (j : Nat) (d : DSs X J own own1 sts F) : DSs X J own (disown own1 j) sts (sThen F fun ρ => ρ.set j none) := by
  obtain ⟨t, p, h⟩ := d
  refine ⟨t, p, fun G0 H0 G H σ ρ Dn I hg => h G0 H0 G H σ ρ Dn I ?_⟩
  unfold sThen at hg
  cases q : F ρ with
  | nx ρ' => rw [q] at hg; exact fun G' H' σ' ⟨fp, I'⟩ => hg _ H' σ' ⟨_, I'.drop j⟩
  | rt d => rw [q] at hg; exact hg
  | bk d => rw [q] at hg; exact hg
  | ct d => rw [q] at hg; exact hg
  | ex c d => rw [q] at hg; exact hg
  | no => rw [q] at hg; exact hg
theorem ds_freeze {F : DSem} (j : Nat) (d : DS X J (disown own j) own1 st F) : DS X J own own1 st F := by
  obtain ⟨t, p, h⟩ := d
  exact ⟨t, p, fun G0 H0 G H σ ρ Dn ⟨fp, I⟩ hg => h G0 H0 _ H σ ρ Dn ⟨_, I.freeze j⟩ hg⟩
end
def forF (is : List Nat) (ks : D → Res (List D)) (F : DSem) (fg : List Nat) : List D → DSem
  | [], ρ => .nx ρ
  | d :: r, ρ => match ks d with
    | .ok l => (match F (setE ρ is l) with
      | .nx ρ' => forF is ks F fg r (forget ρ' fg)
      | .ct ρ' => forF is ks F fg r (forget ρ' fg)
      | .bk ρ' => .nx (forget ρ' fg)
      | o => o)
    | _ => .no
def sFor (own : Owns) (fi : Env → Res (List D)) (is : List Nat) (ks : D → Res (List D)) (F : DSem) (fg : List Nat) : DSem := fun ρ => andThen (fi (maskE own ρ)) ρ fun ds => forF is ks F fg ds (forget ρ fg)
section
variable {X : Cx} {J : Jd} {own : Owns} {pos : Pos} {G0 H0 : Hp}
theorem SI.forget {G H : Hp} {σ : L2.St} {ρ : Env} (I : SI G0 H0 own G H σ ρ) (is : List Nat) : SI G0 H0 own G H σ (DL.forget ρ is) := I.weak forget_len fun i d e => (forget_get e).1
noncomputable def holeH (H : Hp) (fp : Nat → List Addr) : Hp := fun a => open Classical in if ∃ i, a ∈ fp i then none else H a
theorem hole_none {H : Hp} {fp : Nat → List Addr} {a : Addr} (h : holeH H fp a = none) : H a = none ∨ ∃ i, a ∈ fp i := by
  unfold holeH at h
  split at h
  · rename_i q; exact .inr q
  · exact .inl h
theorem hole_some {H : Hp} {fp : Nat → List Addr} {a : Addr} {o : HO} (h : holeH H fp a = some o) : H a = some o := by
  unfold holeH at h
  split at h
  · cases h
  · exact h
theorem hole_in {H : Hp} {fp : Nat → List Addr} {a : Addr} {i : Nat} (h : a ∈ fp i) : holeH H fp a = none := by unfold holeH; rw [if_pos ⟨i, h⟩]
theorem hole_out {H : Hp} {fp : Nat → List Addr} {a : Addr} (h : ∀ i, a ∉ fp i) : holeH H fp a = H a := by unfold holeH; rw [if_neg fun ⟨i, q⟩ => h i q]
theorem SIf.ground {fp} {G H : Hp} {σ : L2.St} {ρ : Env} (I : SIf fp G0 H0 own G H σ ρ) : SIf fp G (holeH H fp) own G H σ ρ where
  ext := ⟨fun a o e => hole_some e, fun _ _ e => e, I.sub, fun a o e => .inl e⟩
  len := I.len
  val := I.val
  own := I.own
  fpm := fun i p hp => ⟨(I.fpm i p hp).1, hole_in hp, (I.fpm i p hp).2.2⟩
  fpd := I.fpd
  pin := I.pin
theorem Ext.unground {fp} {G H G' H' : Hp} {σ : L2.St} {ρ : Env} (I : SIf fp G0 H0 own G H σ ρ) (x : Ext G (holeH H fp) G' H') : Ext G0 H0 G' H' where
  h := fun a o e => x.h a o (by
    rw [hole_out fun i hp => by rw [(I.fpm i a hp).2.1] at e; cases e]
    exact I.ext.h a o e)
  g := fun a o e => x.g a o (I.ext.g a o e)
  s := x.s
  n := fun a o e => by
    rcases x.n a o e with q | q | q
    · exact I.ext.n a o q
    · rcases hole_none q with z | ⟨i, z⟩
      · exact .inr (.inl (I.ext.free z))
      · exact .inr (.inl (I.fpm i a z).2.1)
    · exact .inr (.inr q)
theorem unground_none {fp} {G H : Hp} {σ : L2.St} {ρ : Env} (I : SIf fp G0 H0 own G H σ ρ) {p : Addr} (h : holeH H fp p = none) : H0 p = none := by
  rcases hole_none h with z | ⟨i, z⟩
  · exact I.ext.free z
  · exact (I.fpm i p z).2.1
theorem SI.unground {fp} {G H G' H' : Hp} {σ σ' : L2.St} {ρ ρ' : Env} {own' : Owns} (I : SIf fp G0 H0 own G H σ ρ) (I' : SI G (holeH H fp) own' G' H' σ' ρ') : SI G0 H0 own' G' H' σ' ρ' := by
  obtain ⟨fq, I'⟩ := I'
  exact ⟨fq, ⟨Ext.unground I I'.ext, I'.len, I'.val, I'.own, fun i p hp => ⟨(I'.fpm i p hp).1, unground_none I (I'.fpm i p hp).2.1, (I'.fpm i p hp).2.2⟩, I'.fpd, I'.pin⟩⟩
theorem RetOk.ground {fp} {G H : Hp} {σ : L2.St} {ρ : Env} {rk : Option Kd} {Rt : VK} {d : D} (I : SIf fp G0 H0 own G H σ ρ) (h : RetOk rk G0 H0 Rt d) : RetOk rk G (holeH H fp) Rt d := by
  unfold RetOk at h ⊢
  cases rk with
  | none => exact fun G' H' v x r => h G' H' v (Ext.unground I x) r
  | some k => exact fun G' H' v fj x o n => h G' H' v fj (Ext.unground I x) o fun p hp => ⟨(n p hp).1, unground_none I (n p hp).2⟩
theorem GS.ground {fp} {G H : Hp} {σ : L2.St} {ρ : Env} {own' : Owns} {Dn : Ends} {o : Out} (I : SIf fp G0 H0 own G H σ ρ) (h : GS X.mg J G0 H0 own' Dn o) : GS X.mg J G (holeH H fp) own' Dn o := by
  cases o with
  | nx ρ' => exact fun G' H' σ' I' => h G' H' σ' (SI.unground I I')
  | bk ρ' => exact fun G' H' σ' I' => h G' H' σ' (SI.unground I I')
  | ct ρ' => exact fun G' H' σ' I' => h G' H' σ' (SI.unground I I')
  | rt d => exact RetOk.ground I h
  | ex c ρ' => exact fun C own2 G' H' σ' hx m I' => h C own2 G' H' σ' hx m (SI.unground I I')
  | no => exact h
theorem for_run {tb : TS} {F : DSem} {fg is : List Nat} {ks : D → Res (List D)} {ds : List D} {It' : It} {tg : TG} {G H : Hp} {σ : L2.St} {ρ : Env} {Dn : Ends}
    (h3 : ∀ (G H : Hp) (σ : L2.St) (v : V) (d : D) (Q : L2.St → Hp → Prop) (l : List D), Sub G H → Rep G d v → ks d = .ok l → (∀ ws, Reps G l ws → ws.length = is.length → Q (setS σ is ws) H) → tg v σ H Q)
    (hb : ∀ (G0 H0 G H : Hp) (σ : L2.St) (ρ : Env) (Dn : Ends), SI G0 H0 own G H σ ρ → GS X.mg { J with L := own } G0 H0 own Dn (F ρ) → tb Dn σ H)
    (hi : ∀ i ∈ is, own.lookup i = none) (I : SI G H0 own G H σ ρ) (hJ : ∀ (G2 H2 : Hp) (i : Nat), (∀ a o, G a = some o → G2 a = some o) → Sub G2 H2 → (∀ d, ds[i]? = some d → It'.go i H2 ∧ ∀ x H', It'.yld i H2 x H' → ∃ G', Ext G2 H2 G' H' ∧ Rep G' d x) ∧ (ds.length ≤ i → It'.stop i H2))
    (h : GS X.mg J G H0 own Dn (forF is ks F fg ds ρ)) :
    ∃ W : Nat → Nat → L2.St → Hp → Prop, (∃ m, W 0 m σ H) ∧ ∀ i m σ H, W i m σ H →
      (It'.stop i H ∧ Dn.nx σ H) ∨ (It'.go i H ∧ ∃ N : L2.St → Hp → Prop, (∀ σ' H', N σ' H' → ∃ m', m' < m ∧ W (i + 1) m' σ' H') ∧ ∀ x H', It'.yld i H x H' → tg x σ H' fun σ2 H2 => tb { Dn with nx := N, ct := N, bk := Dn.nx } σ2 H2) := by
  refine ⟨fun i m σ H => m = ds.length - i ∧ i ≤ ds.length ∧ ∃ G' ρ, SI G H0 own G' H σ ρ ∧ GS X.mg J G H0 own Dn (forF is ks F fg (ds.drop i) ρ), ⟨ds.length, by simp, Nat.zero_le _, G, ρ, I, h⟩, ?_⟩
  rintro i m σ H ⟨rfl, hle, G1, ρ1, I1, h1⟩
  obtain ⟨hgo, hstop⟩ := hJ G1 H i I1.ext.g I1.sub
  by_cases hlt : i < ds.length
  · refine .inr ?_
    have hd : ds.drop i = ds[i] :: ds.drop (i + 1) := List.drop_eq_getElem_cons hlt
    rw [hd] at h1
    obtain ⟨go, yl⟩ := hgo ds[i] (by simp [hlt])
    refine ⟨go, _, fun σ' H' w => ⟨ds.length - (i + 1), by omega, rfl, hlt, w⟩, fun x H' y => ?_⟩
    obtain ⟨G2, ex, rx⟩ := yl x H' y
    unfold forF at h1
    split at h1
    · rename_i l q
      refine h3 G2 H' σ x ds[i] _ l ex.s rx q fun ws rws nws => ?_
      obtain ⟨fp, I1⟩ := I1
      have I2 : SI G H0 own G2 H' (setS σ is ws) (setE ρ1 is l) := ⟨fp, (I1.grow ex).sets hi rws⟩
      refine hb G H0 G2 H' _ _ _ I2 ?_
      cases q : F (setE ρ1 is l) with
      | nx ρ' => rw [q] at h1; exact fun G3 H3 σ3 I3 => ⟨G3, _, I3.forget fg, h1⟩
      | ct ρ' => rw [q] at h1; exact fun G3 H3 σ3 I3 => ⟨G3, _, I3.forget fg, h1⟩
      | bk ρ' => rw [q] at h1; exact fun G3 H3 σ3 I3 => h1 G3 H3 σ3 (I3.forget fg)
      | rt d => rw [q] at h1; exact h1
      | ex c d => rw [q] at h1; exact h1
      | no => rw [q] at h1; exact h1
    · exact h1.elim
  · exact .inl ⟨hstop (by omega), by
      have e : i = ds.length := by omega
      subst e
      rw [List.drop_length] at h1
      exact h1 G1 H σ I1⟩
theorem ds_for {tg it : Expr} {body : List Stmt} {fi : Env → Res (List D)} {is fg : List Nat} {ks : D → Res (List D)} {F : DSem} (hp : PassesOwn (model X.prog X.w) X.A X.env X.xe) (hc : X.calm = true) (di : DI X J.W tg it fi) (dg : DG X tg is ks) (db : DSs X { J with L := own } own own body F)
    (hi : ∀ i ∈ is, own.lookup i = none) (hx : oxSub J.ox own = true := by rfl) (hs : ∀ x, foldedSetIterable it X.env x = pure x := by intro _; rfl) : DS X J own own (.For tg it body [] pos) (sFor own fi is ks F fg) := by
  obtain ⟨wi, pi, h1⟩ := di
  obtain ⟨tg', pg, h3⟩ := dg
  obtain ⟨tb, pb, hb⟩ := db
  refine ⟨_, ps_for hp hc pi pg pb hs, fun G0 H0 G H σ ρ Dn ⟨fp, I⟩ h => ?_⟩
  refine h1 G H σ (maskE own ρ) _ I.sub I.masked (toP hx I I.sub h fun ds _ hk G' H' e It' hJ => ?_)
  have I1 := I.grow e
  have I2 := I1.ground
  exact for_run h3 hb hi (SI.forget ⟨fp, I2⟩ fg) hJ (hk.ground I1)
end
def startE (n : Nat) (ds : List D) : Env := ds.map some ++ List.replicate (n - ds.length) none
def runF (n : Nat) (F : DSem) (ds : List D) : Res D := match F (startE n ds) with
  | .rt d => .ok d
  | .nx _ => .ok .non
  | .ex c _ => .ex c
  | _ => .no
def spK (mg : Str → Option Value) (rk : Option Kd) (n : Nat) (f : List D → Res D) : Sp := fun vs H Q E => vs.length = n ∧ ∃ G ds, Sub G H ∧ Reps G ds vs ∧ match f ds with
  | .ok d => RetOk rk G H Q d
  | .ex c => ∀ C G' H', mg c = some (.ref C) → Ext G H G' H' → E (.ref C) none H'
  | .no => False
theorem startR {G : Hp} {N : List Str} : ∀ {ds : List D} {vs : List V}, Reps G ds vs → EnvR G (L2.start N vs) (startE N.length ds) := by
  intro ds vs r
  refine ⟨by simp [startE, L2.start, r.length], fun i d e => ?_⟩
  unfold startE at e
  by_cases hi : i < ds.length
  · rw [List.getElem?_append_left (by simpa using hi), List.getElem?_map] at e
    cases q : ds[i]? with
    | none => rw [q] at e; cases e
    | some x =>
      rw [q] at e
      have e : x = d := by simpa using e
      subst e
      obtain ⟨v, h1, h2⟩ := r.get q
      refine ⟨v, ?_, h2⟩
      unfold L2.start
      rw [List.getElem?_append_left (by rw [List.length_map, r.length]; exact hi), List.getElem?_map, h1]
      rfl
  · rw [List.getElem?_append_right (by simpa using hi), List.getElem?_replicate] at e
    split at e <;> cases e
section
variable {P : Program} {w : World} {K : PySem.W.Frag} {mg : Str → Option Value} {base : Heap}
theorem def_ok {x qual : Str} {st : Stmt} {f : Addr} {fd : FuncData} {N ps : List Str} {k : Nat} {rk : Option Kd} {F : DSem} (Fn : Fun K x qual st f fd) (S : FnScope N ps (defScope st)) {own' : Owns} (hend : rk = none ∨ rk = some .dp)
    (hb : ∀ (cdv : Value) (A : Around) (outer : List PySem.Env) (s : Shared) (H : Hp) (E : XK), Room k (A.deeper (envOfC qual (defScope st) s.heap.objs.size f cdv)) →
      Takes (cxOf (L2.CX P w) P w K mg base N qual (defScope st) f cdv A outer s H E) (fun cls d _ H => E cls d H) →
      PassesOwn (model P w) (cxOf (L2.CX P w) P w K mg base N qual (defScope st) f cdv A outer s H E).A (cxOf (L2.CX P w) P w K mg base N qual (defScope st) f cdv A outer s H E).env (cxOf (L2.CX P w) P w K mg base N qual (defScope st) f cdv A outer s H E).xe →
      DSs (cxOf (L2.CX P w) P w K mg base N qual (defScope st) f cdv A outer s H E) ⟨fun cls d _ H => E cls d H, [], [], rk⟩ [] own' (defBody st) F) :
    FnOk P w K mg base (L2.CX P w) (k + 1) f fd ps (spK mg rk ps.length (runF N.length F)) := by
  refine Fn.okX S (fun vs H Q E h => h.1) fun cdv A outer s H vs Q E hr h => ?_
  obtain ⟨t, pt, ht⟩ := hb cdv A outer s H E hr (takes_of rfl rfl rfl rfl) (passes_of rfl)
  obtain ⟨hl, G, ds, sb, rs, hq⟩ := h
  refine ⟨t, pt, ?_⟩
  have er := startR (N := N) rs
  refine ht G H G H (L2.start N vs) (startE N.length ds) _ ⟨fun _ => [], ⟨Ext.refl sb, er.len, fun i d e _ => er.val i d e, fun i k d q => by simp at q, fun i p hp => by simp at hp, fun i j p _ hp => by simp at hp, fun i v q => by simp at q⟩⟩ ?_
  unfold runF at hq
  cases q : F (startE N.length ds) with
  | nx ρ' =>
    rw [q] at hq
    intro G' H' σ' I'
    have hq : RetOk rk G H Q .non := hq
    unfold RetOk at hq
    rcases hend with e | e
    · rw [e] at hq; exact hq G' H' .non I'.ext rfl
    · rw [e] at hq; exact hq G' H' .non [] I'.ext ⟨⟨rfl, rfl⟩, List.nodup_nil⟩ fun p hp => by cases hp
  | rt d => rw [q] at hq; exact hq
  | ex c ρ' => rw [q] at hq; exact fun C own G' H' σ' _ m I' => hq C G' H' m I'.ext
  | bk ρ' => rw [q] at hq; exact hq.elim
  | ct ρ' => rw [q] at hq; exact hq.elim
  | no => rw [q] at hq; exact hq.elim
end
end DL
namespace DL
open PySem PySem.Spec PyProof.Rows L2
theorem RepOs.append {H : Hp} : ∀ {ds es : List D} {vs ws : List V} {f g : List Addr}, RepOs H ds vs f → RepOs H es ws g → RepOs H (ds ++ es) (vs ++ ws) (f ++ g)
  | [], _, _, _, _, _, h, q => by rw [h.1, h.2]; exact q
  | d :: r, _, _, _, _, _, ⟨v, s, f1, f2, e, ef, h, q⟩, q2 => by
    subst ef
    exact ⟨v, s ++ _, f1, f2 ++ _, by rw [e]; rfl, by simp, h, RepOs.append q q2⟩
theorem joinG_le {G H : Hp} (s : Sub G H) (fj : List Addr) : ∀ a o, G a = some o → joinG G H fj a = some o := fun a o e => by
  have e2 := s a o e
  unfold joinG
  split
  · rename_i vs q; rw [q] at e2; cases e2; rfl
  · split
    · exact e2
    · exact e
theorem joinG_sub {G H : Hp} (s : Sub G H) (fj : List Addr) : Sub (joinG G H fj) H := fun a o e => by
  unfold joinG at e
  split at e
  · rename_i vs q; rw [q]; exact e
  · split at e
    · exact e
    · exact s a o e
theorem joinG_at {G H : Hp} {fj : List Addr} : At H (joinG G H fj) fj := ⟨fun p hp => by
  unfold joinG
  split
  · rename_i vs q; rw [q]
  · rw [if_pos hp], fun a vs e => by unfold joinG; rw [e]⟩
theorem joinG_ext {G H G' H' : Hp} {fj : List Addr} (x : Ext G H G' H') (hn : ∀ p ∈ fj, H p = none) : Ext G H (joinG G' H' fj) H' where
  h := x.h
  g := fun a o e => joinG_le x.s fj a o (x.g a o e)
  s := joinG_sub x.s fj
  n := fun a o e => by
    unfold joinG at e
    split at e
    · exact .inr (.inr ⟨_, (Option.some.inj e).symm⟩)
    · split at e
      · rename_i h; exact .inr (.inl (hn a h))
      · exact x.n a o e
abbrev GlF (mg : Str → Option Value) (W : WX) (k : Kd) (G H : Hp) (σ : L2.St) (Q : VK) : Res D → Prop := Gl mg W G H σ fun d G' H' => ∀ v fj, OwnK k G' H' d v fj → (∀ p ∈ fj, G' p = none ∧ H p = none) → Q v H'
def DF (X : Cx) (W : WX) (k : Kd) (e : Expr) (f : Env → Res D) : Prop :=
  ∃ t : TE, PE X e t ∧ ∀ (G H : Hp) (σ : L2.St) (ρ : Env) (Q : VK), Sub G H → EnvR G σ ρ → GlF X.mg W k G H σ Q (f ρ) → t σ H Q
theorem DF.de {X : Cx} {W : WX} {k : Kd} {e : Expr} {f : Env → Res D} (d : DF X W k e f) : DE X W e f := by
  obtain ⟨t, p, h1⟩ := d
  refine ⟨t, p, fun G H σ ρ Q s e h => h1 G H σ ρ Q s e ?_⟩
  cases q : f ρ with
  | ok d =>
    rw [q] at h
    intro G1 H1 e1 v fj o hn
    exact h _ H1 (joinG_ext e1 fun p hp => (hn p hp).2) v (o.rep (Le.of (joinG_le e1.s fj)) joinG_at)
  | ex c => rw [q] at h; exact h
  | no => rw [q] at h; exact h
section
variable {X : Cx} {W : WX} {k : Nat} {f : Addr} {fd : FuncData} {ps : List Str} {rk : Option Kd} {n : Nat} {fn : List D → Res D} {x : Str} {p pos : Pos} {e : Expr} {es : List Expr} {g : Env → Res (List D)}
theorem call_rep {G H : Hp} {σ : L2.St} {Q : VK} {ds : List D} {vs : List V} (s : Sub G H) (r : Reps G ds vs) (hl : vs.length = n) (h : GlE X.mg W G H σ Q (fn ds)) : spK X.mg rk n fn vs H Q (WE W σ) := by
  refine ⟨hl, G, ds, s, r, ?_⟩
  cases q : fn ds with
  | ok d =>
    rw [q] at h
    show RetOk rk G H Q d
    unfold RetOk
    cases rk with
    | none => exact fun G' H' v e rv => h G' H' e v rv
    | some k => exact fun G' H' v fj e o hn => h _ H' (joinG_ext e fun p hp => (hn p hp).2) v (o.rep (Le.of (joinG_le e.s fj)) joinG_at)
  | ex c => rw [q] at h; exact fun C G' H' m e => h C G' H' m e
  | no => rw [q] at h; exact h
def vCallN (n : Nat) (fn : List D → Res D) (g : Env → Res (List D)) : Env → Res D := fun ρ => g ρ >>= fun ds => if ds.length = n then fn ds else .no
theorem de_call (F : FnOk X.prog X.w X.K X.mg X.base (L2.CX X.prog X.w) k f fd ps (spK X.mg rk n fn)) (tk : Takes X W) (hr : Room k X.A) (hg : L2.Gl X x) (hm : X.mg x = some (.ref f)) (hk : PySem.W.keepIn X.K (.ref f) = true) (hb : Binds X.K fd ps [])
    (d : DA X W (e :: es) g) (hdb : (x == ("__debug__" : Str)) = false := by decide) (he : starEach (e :: es) X.env = (false, eval e X.env) :: starEach es X.env := by rfl) (hpl : (backTo pos (starEach es X.env)).any (·.1) = false := by rfl) :
    DE X W (.Call (.Name x p) (e :: es) [] pos) (vCallN n fn g) := by
  obtain ⟨t, pa, h1⟩ := d
  refine ⟨_, pe_callS F hr hg hm hk hb (fun σ => passAt tk σ) pa hdb he hpl, fun G H σ ρ Q s e h => ?_⟩
  refine h1 G H σ ρ _ s e (Gl.imp (fun ds G1 H1 _ e1 k vs rv => ?_) (Gl.bind h))
  split at k
  · rename_i hl
    exact call_rep e1.s rv (by rw [rv.length]; exact hl) k
  · exact k.elim
end
abbrev GlN (mg : Str → Option Value) (W : WX) (G H : Hp) (σ : L2.St) (Q : VK) : Res (List D) → Prop := Gl mg W G H σ fun ds G' H' => ∀ p vs, G' p = none → H' p = some (.lst vs) → (∀ a o, H a = some o → a ≠ p) → Reps G' ds vs → Q (.ref p) H'
def DN (X : Cx) (W : WX) (e : Expr) (f : Env → Res (List D)) : Prop :=
  ∃ t : TE, PE X e t ∧ ∀ (G H : Hp) (σ : L2.St) (ρ : Env) (Q : VK), Sub G H → EnvR G σ ρ → GlN X.mg W G H σ Q (f ρ) → t σ H Q
def vLstOf (f : Env → Res (List D)) : Env → Res D := fun ρ => f ρ >>= fun ds => .ok (.lst ds)
def vLstI (f : Env → Res (List D)) : Env → Res D := fun ρ => f ρ >>= fun ds => if imms ds = true then .ok (.lst ds) else .no
theorem none_of_ne {H : Hp} {p : Addr} (h : ∀ a o, H a = some o → a ≠ p) : H p = none := by
  cases q : H p with
  | none => rfl
  | some o => exact absurd rfl (h p o q)
section
variable {X : Cx} {W : WX} {e e1 e2 : Expr} {es : List Expr} {f : Env → Res (List D)} {pos : Pos}
theorem DN.sh (d : DN X W e f) : DF X W .sh e (vLstOf f) := by
  obtain ⟨t, p, h1⟩ := d
  refine ⟨t, p, fun G H σ ρ Q s e h => h1 G H σ ρ Q s e ?_⟩
  unfold vLstOf at h
  cases q : f ρ with
  | ok ds =>
    rw [q] at h
    intro G1 H1 e1 p vs gp hp hn r
    exact h G1 H1 e1 (.ref p) [p] ⟨p, rfl, rfl, vs, hp, r⟩ fun a ha => by rw [show a = p by simpa using ha]; exact ⟨gp, none_of_ne hn⟩
  | ex c => rw [q] at h; exact h
  | no => rw [q] at h; exact h
theorem DN.dp (d : DN X W e f) : DF X W .dp e (vLstI f) := by
  obtain ⟨t, p, h1⟩ := d
  refine ⟨t, p, fun G H σ ρ Q s e h => h1 G H σ ρ Q s e ?_⟩
  unfold vLstI at h
  cases q : f ρ with
  | ok ds =>
    rw [q, Res.bind_ok] at h
    split at h
    · rename_i hi
      intro G1 H1 e1 p vs gp hp hn r
      exact h G1 H1 e1 (.ref p) [p] ⟨⟨p, vs, [], rfl, hp, rfl, RepOs.of_imm hi (r.le (Le.of e1.s))⟩, by simp⟩ fun a ha => by rw [show a = p by simpa using ha]; exact ⟨gp, none_of_ne hn⟩
    · exact h.elim
  | ex c => rw [q] at h; exact h
  | no => rw [q] at h; exact h
theorem DN.de (d : DN X W e f) : DE X W e (vLstOf f) := d.sh.de
theorem GlN.end {G H G1 H1 : Hp} {Q : VK} {ds : List D} {vs : List V} {p : Addr} (e1 : Ext G H G1 H1) (np : H1 p = none) (r : Reps G1 ds vs) (h : ∀ G' H', Ext G H G' H' → ∀ p vs, G' p = none → H' p = some (.lst vs) → (∀ a o, H a = some o → a ≠ p) → Reps G' ds vs → Q (.ref p) H') : Q (.ref p) (upd H1 p (.lst vs)) := by
  refine h G1 _ (e1.trans (Ext.hid e1.s np)) p vs ?_ upd_same (fun a o q z => ?_) r
  · cases q : G1 p with
    | none => rfl
    | some o => rw [e1.s _ _ q] at np; cases np
  · subst z; rw [e1.h _ _ q] at np; cases np
def nLst (g : Env → Res (List D)) : Env → Res (List D) := fun ρ => g ρ >>= fun xs => if xs.length ≤ sizeLine then .ok xs else .no
theorem dn_lst {g : Env → Res (List D)} (d : DA X W es g) : DN X W (.List es pos) (nLst g) := by
  obtain ⟨t1, p1, h1⟩ := d
  refine ⟨_, pe_lst p1, fun G H σ ρ Q s e h => ?_⟩
  refine h1 G H σ ρ _ s e ?_
  unfold nLst at h
  cases q : g ρ with
  | ok xs =>
    rw [q, Res.bind_ok] at h
    intro G1 H1 e1 vs rvs
    split at h
    · rename_i z
      exact ⟨by rw [rvs.length]; exact z, fun p np => GlN.end e1 np rvs h⟩
    · exact h.elim
  | ex c => rw [q] at h; exact h
  | no => rw [q] at h; exact h
def nCat (f g : Env → Res D) : Env → Res (List D) := fun ρ => f ρ >>= fun x => g ρ >>= fun y => match x, y with
  | .lst xs, .lst ys => if xs.length + ys.length ≤ sizeLine then .ok (xs ++ ys) else .no
  | _, _ => .no
theorem dn_cat {f g : Env → Res D} (d1 : DE X W e1 f) (d2 : DE X W e2 g) : DN X W (.BinOp e1 .Add e2 pos) (nCat f g) := by
  obtain ⟨t1, p1, h1⟩ := d1
  obtain ⟨t2, p2, h2⟩ := d2
  refine ⟨_, pe_op op_catR p1 p2, fun G H σ ρ Q s e h => ?_⟩
  refine h1 G H σ ρ _ s e ?_
  unfold nCat at h
  cases q : f ρ with
  | ok x =>
    rw [q, Res.bind_ok] at h
    intro G1 H1 e1 v rv
    refine h2 G1 H1 σ ρ _ e1.s (e.le e1.le) ?_
    cases q2 : g ρ with
    | ok y =>
      rw [q2, Res.bind_ok] at h
      intro G2 H2 e2 w rw'
      have rv := rv.le e2.le
      cases x with
      | lst xs =>
        cases y with
        | lst ys =>
          simp only at h
          split at h
          · rename_i z
            obtain ⟨a, vs, rfl, ha, ra⟩ := rv
            obtain ⟨b, ws, rfl, hb, rb⟩ := rw'
            exact ⟨a, b, vs, ws, rfl, rfl, e2.s.rd ha, e2.s.rd hb, by rw [ra.length, rb.length]; exact z, fun p np => GlN.end (e1.trans e2) np (ra.append rb) h⟩
          · exact h.elim
        | _ => exact h.elim
      | _ => exact h.elim
    | ex c => rw [q2] at h; exact fun C G' H' m x => h C G' H' m (e1.trans x)
    | no => rw [q2] at h; exact h
  | ex c => rw [q] at h; exact h
  | no => rw [q] at h; exact h
end
section
variable {X : Cx} {W : WX} {elt tg iter : Expr} {ifs : List Expr} {scope : Scope} {own : List (Str × Nat)} {is : List Nat} {ks : D → Res (List D)} {fi : Env → Res (List D)} {ft : Env → Res Bool} {fe : Env → Res D} {pos : Pos}
theorem lc_N {wi : TI} {vs : List Nat} (h1 : ∀ (G H : Hp) (σ : L2.St) (ρ : Env) (R : It → Hp → Prop), Sub G H → EnvR G σ ρ → GlI X.mg W G H σ R (fi ρ) → wi σ H R) (hv : ∀ i ∈ is, i ∈ vs)
    (G H : Hp) (σ : L2.St) (ρ : Env) (Q : VK) (s : Sub G H) (e : EnvR G σ ρ) (h : GlN X.mg W G H σ Q (nComp fi is ks ft fe vs ρ)) : tLc wi (rdG is ks) (rdT X.mg W0 ft) (rdE X.mg W0 fe) vs σ H Q := by
  refine h1 G H σ ρ _ s e ?_
  unfold nComp at h
  cases q : fi ρ with
  | ok ds =>
    rw [q, Res.bind_ok] at h
    intro G1 H1 e1 J hJ Da nDa
    cases q2 : compL is ks ft fe (wipeE ρ vs) ds with
    | ok ys =>
      rw [q2] at h
      simp only [noEx, Res.bind_ok] at h
      split at h
      · rename_i hz
        exact lc_run (W := W) hv (e.le e1.le) e1.s hJ nDa q2 hz fun G2 H2 acc e2 gD hD r => h G2 H2 (e1.trans e2) Da acc gD hD (fun a o q z => by subst z; rw [e1.h _ _ q] at nDa; cases nDa) r
      · exact h.elim
    | ex c => rw [q2] at h; exact h.elim
    | no => rw [q2] at h; exact h.elim
  | ex c => rw [q] at h; exact h
  | no => rw [q] at h; exact h
theorem dn_comp (hc : X.calm = true) (hN : X.N.Nodup) (di : DI X W tg iter fi) (ok : BlkOk X.N X.env.scope scope own)
    (dg : ∀ (s : Shared) (H : Hp) (C : Addr) (cl : List (Str × Addr)) (fp : List Addr), DG (X.blk s H scope (compEnvC scope cl C X.env) fp) tg is ks)
    (dt : ∀ (s : Shared) (H : Hp) (C : Addr) (cl : List (Str × Addr)) (fp : List Addr), DTs (X.blk s H scope (compEnvC scope cl C X.env) fp) W0 ifs ft)
    (de : ∀ (s : Shared) (H : Hp) (C : Addr) (cl : List (Str × Addr)) (fp : List Addr), DE (X.blk s H scope (compEnvC scope cl C X.env) fp) W0 elt fe)
    (hv : ∀ i ∈ is, i ∈ own.map (·.2)) (hs : ∀ x, foldedSetIterable iter X.env x = pure x := by intro _; rfl) : DN X W (.ListComp elt [⟨tg, iter, ifs, 0⟩] scope pos) (nComp fi is ks ft fe (own.map (·.2))) := by
  obtain ⟨wi, pi, h1⟩ := di
  exact ⟨_, pe_lc (te := rdE X.mg W0 fe) (tt := rdT X.mg W0 ft) (g := rdG is ks) hc hN pi ok (fun s H C cl fp => (dg s H C cl fp).pg) (fun s H C cl fp => (dt s H C cl fp).pts) (fun s H C cl fp => (de s H C cl fp).pe) hs, lc_N h1 hv⟩
def AN (X : Cx) (W : WX) (st : Stmt) (j : Nat) (f : Env → Res (List D)) : Prop :=
  ∃ t : TE, PS X st (tAsg t (gName j)) ∧ ∀ (G H : Hp) (σ : L2.St) (ρ : Env) (Q : VK), Sub G H → EnvR G σ ρ → GlN X.mg W G H σ Q (f ρ) → t σ H Q
def AF (X : Cx) (W : WX) (k : Kd) (st : Stmt) (j : Nat) (f : Env → Res D) : Prop :=
  ∃ t : TE, PS X st (tAsg t (gName j)) ∧ ∀ (G H : Hp) (σ : L2.St) (ρ : Env) (Q : VK), Sub G H → EnvR G σ ρ → GlF X.mg W k G H σ Q (f ρ) → t σ H Q
theorem an_comp {i : Nat} {y : Str} {py spos : Pos} (hc : X.calm = true) (hN : X.N.Nodup) (hy : X.N[i]? = some y) (hyl : X.env.scope.names.lookup y = some .local)
    (hsw : swapsWith (.ListComp elt [⟨tg, iter, ifs, 0⟩] scope pos) (some (.Name y py)) spos.line X.env = pure true) (di : DI X W tg iter fi) (ok : BlkOk X.N X.env.scope scope own)
    (dg : ∀ (s : Shared) (H : Hp) (C : Addr) (cl : List (Str × Addr)) (fp : List Addr), DG (X.blk s H scope (compEnvC scope cl C X.env) fp) tg is ks)
    (dt : ∀ (s : Shared) (H : Hp) (C : Addr) (cl : List (Str × Addr)) (fp : List Addr), DTs (X.blk s H scope (compEnvC scope cl C X.env) fp) W0 ifs ft)
    (de : ∀ (s : Shared) (H : Hp) (C : Addr) (cl : List (Str × Addr)) (fp : List Addr), DE (X.blk s H scope (compEnvC scope cl C X.env) fp) W0 elt fe)
    (hv : ∀ i ∈ is, i ∈ own.map (·.2)) (hs : ∀ x, foldedSetIterable iter X.env x = pure x := by intro _; rfl) : AN X W (.Assign [.Name y py] (.ListComp elt [⟨tg, iter, ifs, 0⟩] scope pos) spos) i (nComp fi is ks ft fe (own.map (·.2))) := by
  obtain ⟨wi, pi, h1⟩ := di
  exact ⟨_, ps_setLc (te := rdE X.mg W0 fe) (tt := rdT X.mg W0 ft) (g := rdG is ks) hc hN hy hyl hsw pi ok (fun s H C cl fp => (dg s H C cl fp).pg) (fun s H C cl fp => (dt s H C cl fp).pts) (fun s H C cl fp => (de s H C cl fp).pe) hs, lc_N h1 hv⟩
end
section
variable {X : Cx} {W : WX} {st : Stmt} {j : Nat} {f : Env → Res (List D)}
theorem AN.sh (d : AN X W st j f) : AF X W .sh st j (vLstOf f) := by
  obtain ⟨t, p, h1⟩ := d
  refine ⟨t, p, fun G H σ ρ Q s e h => h1 G H σ ρ Q s e ?_⟩
  unfold vLstOf at h
  cases q : f ρ with
  | ok ds =>
    rw [q] at h
    intro G1 H1 e1 p vs gp hp hn r
    exact h G1 H1 e1 (.ref p) [p] ⟨p, rfl, rfl, vs, hp, r⟩ fun a ha => by rw [show a = p by simpa using ha]; exact ⟨gp, none_of_ne hn⟩
  | ex c => rw [q] at h; exact h
  | no => rw [q] at h; exact h
theorem AF.ae {k : Kd} {f : Env → Res D} (d : AF X W k st j f) : AE X W st j f := by
  obtain ⟨t, p, h1⟩ := d
  refine ⟨t, p, fun G H σ ρ Q s e h => h1 G H σ ρ Q s e ?_⟩
  cases q : f ρ with
  | ok d =>
    rw [q] at h
    intro G1 H1 e1 v fj o hn
    exact h _ H1 (joinG_ext e1 fun p hp => (hn p hp).2) v (o.rep (Le.of (joinG_le e1.s fj)) joinG_at)
  | ex c => rw [q] at h; exact h
  | no => rw [q] at h; exact h
theorem AN.ae (d : AN X W st j f) : AE X W st j (vLstOf f) := d.sh.ae
end
section
variable {X : Cx} {W : WX} {e : Expr} {j : Nat} {x : Str} {pos pos' : Pos}
theorem af_set {k : Kd} {f : Env → Res D} (hN : X.N.Nodup) (hi : X.N[j]? = some x) (hl : Loc X.env.scope x) (d : DF X W k e f) (hs : swapsWith e (some (.Name x pos')) pos.line X.env = pure false := by rfl) (hf : X.fn x = true ∨ X.env.scope.names.lookup x = some .local := by first | exact .inl rfl | exact .inr rfl | assumption) :
    AF X W k (.Assign [.Name x pos'] e pos) j f := let ⟨t, p, h⟩ := d; ⟨t, ps_set hN hi hl p hs hf, h⟩
end
section
variable {X : Cx} {W : WX} {pos : Pos}
theorem upd_none {G H : Hp} (s : Sub G H) {p : Addr} (np : H p = none) : G p = none := by
  cases q : G p with
  | none => rfl
  | some o => rw [s _ _ q] at np; cases np
end
end DL
namespace DL
open PySem PySem.Spec PyProof.Rows L2
section
variable {X : Cx} {J : Jd} {own own1 own2 : Owns} {st : Stmt} {e : Expr} {f : Env → Res D} {pos : Pos}
theorem toF {G0 H0 G H : Hp} {σ : L2.St} {ρ : Env} {Dn : Ends} {k : D → Out} {kd : Kd} {Q : VK} {fp} {G1 : Hp} {r : Res D} (hx : oxSub J.ox own = true) (I : SIf fp G0 H0 own G H σ ρ) (h1 : Sub G1 H)
    (h : GS X.mg J G0 H0 own1 Dn (andThen r ρ k)) (hP : ∀ d, GS X.mg J G0 H0 own1 Dn (k d) → ∀ G' H', Ext G1 H G' H' → ∀ v fj, OwnK kd G' H' d v fj → (∀ p ∈ fj, G' p = none ∧ H p = none) → Q v H') : GlF X.mg J.W kd G1 H σ Q r := by
  cases r with
  | ok a => exact fun G' H' e => hP a h G' H' e
  | ex c => exact fun C G' H' m e => h C own G H' σ hx m ⟨fp, I.grow (Ext.up I.sub e.h)⟩
  | no => exact h
theorem own_new {G0 H0 G H : Hp} {σ : L2.St} {ρ : Env} {fp} (I : SIf fp G0 H0 own G H σ ρ) {fj : List Addr} (hn : ∀ p ∈ fj, H p = none) : ∀ i p, p ∈ fp i → p ∉ fj := fun i p hp hq => by
  have := (I.fpm i p hp).2.2
  rw [hn p hq] at this
  exact this
theorem ds_asgS {j : Nat} (d : AF X J.W .sh st j f) (hx : oxSub J.ox own = true := by rfl) (hpn : own.lookup (j + 1000) = none := by rfl) : DS X J own ((j, .sh) :: disown own j) st (sAsg own j f) := by
  obtain ⟨t, pe, h1⟩ := d
  refine ⟨_, pe, fun G0 H0 G H σ ρ Dn ⟨fp, I⟩ h => ?_⟩
  refine h1 G H σ (maskE own ρ) _ I.sub I.masked (toF hx I I.sub h fun d hk G' H' e v fj o hn => ?_)
  exact hk G' H' _ ⟨_, (I.grow e).take o (fun p hp => ⟨(hn p hp).1, I.ext.free (hn p hp).2⟩) (fun i p _ hp => own_new I (fun p hp => (hn p hp).2) i p hp) hpn⟩
def sAsgV (j : Nat) (f : Env → Res D) : DSem := fun ρ => andThen (f ρ) ρ fun d => .nx (ρ.set j (some d))
theorem ds_asgD {j : Nat} (d : AF X J.W .dp st j f) (hx : oxSub J.ox own = true := by rfl) (hpn : own.lookup (j + 1000) = none := by rfl) : DS X J own ((j, .dp) :: disown own j) st (sAsgV j f) := by
  obtain ⟨t, pe, h1⟩ := d
  refine ⟨_, pe, fun G0 H0 G H σ ρ Dn ⟨fp, I⟩ h => ?_⟩
  have s := (view_ext I.ext).s
  refine h1 _ H σ ρ _ s I.view (toF hx I s h fun d hk G' H' e v fj o hn => ?_)
  have o' : OwnK .dp (tupG G H') H' d v fj := o
  refine hk _ H' _ ⟨_, (I.grow (Ext.tups I.sub e.h)).take o' (fun p hp => ⟨?_, I.ext.free (hn p hp).2⟩) (fun i p _ hp => own_new I (fun p hp => (hn p hp).2) i p hp) hpn⟩
  have m := o.mut p hp
  have gp : G p = none := upd_none I.sub (hn p hp).2
  unfold tupG
  split
  · rename_i vs q; rw [q] at m; exact m.elim
  · exact gp
theorem ds_retF {k : Kd} (hk : J.rk = some k) (d : DF X J.W k e f) (hx : oxSub J.ox own = true := by rfl) : DS X J own own1 (.Return (some e) pos) (sRet f) := by
  obtain ⟨t, pe, h1⟩ := d
  refine ⟨_, ps_ret pe, fun G0 H0 G H σ ρ Dn ⟨fp, I⟩ h => ?_⟩
  have s := (view_ext I.ext).s
  refine h1 _ H σ ρ _ s I.view (toF hx I s h fun d hr G' H' e v fj o hn => ?_)
  have hr : RetOk J.rk G0 H0 Dn.rt d := hr
  unfold RetOk at hr
  rw [hk] at hr
  exact hr G' H' v fj ((view_ext I.ext).trans e) o fun p hp => ⟨(hn p hp).1, I.ext.free (hn p hp).2⟩
theorem OwnK.app {kd : Kd} {G H : Hp} {ds : List D} {d : D} {v y : V} {fj : List Addr} (hs : Sub G H) (o : OwnK kd G H (.lst ds) v fj) (hd : kd = .sh ∨ imm d = true) (rd : Rep G d y) :
    ∃ p vs, v = .ref p ∧ p ∈ fj ∧ H p = some (.lst vs) ∧ vs.length = ds.length ∧ OwnK kd G (upd H p (.lst (vs ++ [y]))) (.lst (ds ++ [d])) v fj := by
  cases kd with
  | pin z => exact o.elim
  | sh =>
    obtain ⟨p, e, ef, vs, hp, r⟩ := o
    subst ef
    exact ⟨p, vs, e, List.mem_cons_self, hp, r.length, ⟨p, e, rfl, vs ++ [y], upd_same, r.append (.one rd)⟩⟩
  | dp =>
    have him : imm d = true := by rcases hd with q | q; · cases q
                                  · exact q
    obtain ⟨⟨p, vs, fq, e, hp, ef, r⟩, nd⟩ := o
    subst ef
    have pn : p ∉ fq := (List.nodup_cons.mp nd).1
    have at' : At H (upd H p (.lst (vs ++ [y]))) fq := ⟨fun q hq => upd_ne fun z => pn (z ▸ hq), fun a ws q => by rw [upd_ne (ne_of q hp (by intro z; cases z))]; exact q⟩
    refine ⟨p, vs, e, List.mem_cons_self, hp, (r.rep (G := H) ⟨fun _ _ => rfl, fun _ _ e => e⟩).length, ⟨p, vs ++ [y], fq, e, upd_same, rfl, ?_⟩, nd⟩
    have r1 := r.at at'
    have r2 : RepO (upd H p (.lst (vs ++ [y]))) d y [] := RepO.of_imm him (Rep.imm (fun a ws q => at'.t _ _ (hs _ _ q)) him rd)
    have r3 : RepOs (upd H p (.lst (vs ++ [y]))) [d] [y] [] := ⟨y, [], [], [], rfl, rfl, r2, rfl, rfl⟩
    have := r1.append r3
    rwa [List.append_nil] at this
theorem OwnK.lst {kd : Kd} {G H : Hp} {ds : List D} {v : V} {fj : List Addr} (o : OwnK kd G H (.lst ds) v fj) : ∃ p vs, v = .ref p ∧ p ∈ fj ∧ H p = some (.lst vs) ∧ vs.length = ds.length := by
  cases kd with
  | pin z => exact o.elim
  | sh => obtain ⟨p, e, ef, vs, hp, r⟩ := o; subst ef; exact ⟨p, vs, e, List.mem_cons_self, hp, r.length⟩
  | dp => obtain ⟨⟨p, vs, fq, e, hp, ef, r⟩, nd⟩ := o; subst ef; exact ⟨p, vs, e, List.mem_cons_self, hp, (r.rep (G := H) ⟨fun _ _ => rfl, fun _ _ e => e⟩).length⟩
theorem SIf.write {fp} {G0 H0 G H : Hp} {σ : L2.St} {ρ : Env} (I : SIf fp G0 H0 own G H σ ρ) {j : Nat} {k : Kd} {d : D} {v : V} {p : Addr} {o' : HO} (hj : own.lookup j = some k) (hv : σ[j]? = some (some v)) (hp : p ∈ fp j)
    (o : OwnK k G (upd H p o') d v (fp j)) : SI G0 H0 own G (upd H p o') σ (ρ.set j (some d)) :=
  ⟨_, I.change hj hv (fun a ha => .inl (upd_ne fun z => ha (z ▸ hp))) o (fun q hq => ⟨(I.fpm j q hq).1, (I.fpm j q hq).2.1⟩) (fun i q hne hq => I.fpd i j q hne hq) fun q hq vs z => by
    have := (I.fpm j q hq).2.2
    rw [z] at this
    exact this⟩
def appD (ρ : Env) (j : Nat) (d : D) : Out := match ρ[j]? with
  | some (some (.lst ds)) => if ds.length < sizeLine then .nx (ρ.set j (some (.lst (ds ++ [d])))) else .no
  | _ => .no
def isLst (ρ : Env) (j : Nat) : Bool := match ρ[j]? with
  | some (some (.lst _)) => true
  | _ => false
def sApp (own : Owns) (j : Nat) (f : Env → Res D) : DSem := fun ρ => if isLst ρ j = true then andThen (f (maskE own ρ)) ρ fun d => appD ρ j d else .no
def sAppI (j : Nat) (f : Env → Res D) : DSem := fun ρ => if isLst ρ j = true then andThen (f ρ) ρ fun d => if imm d = true then appD ρ j d else .no else .no
theorem isLst_get {ρ : Env} {j : Nat} (h : isLst ρ j = true) : ∃ ds, ρ[j]? = some (some (.lst ds)) := by
  unfold isLst at h
  split at h
  · rename_i ds q; exact ⟨ds, q⟩
  · cases h
theorem app_end {kd : Kd} {G0 H0 G H : Hp} {σ : L2.St} {ρ : Env} {Dn : Ends} {fp} {j : Nat} {d : D} {v0 y : V} (I : SIf fp G0 H0 own G H σ ρ) (hj : own.lookup j = some kd) (hv : σ[j]? = some (some v0)) (hd : kd = .sh ∨ imm d = true) (rd : Rep G d y)
    (h : GS X.mg J G0 H0 own Dn (appD ρ j d)) : rAppend v0 [y] H (fun _ H' => Dn.nx σ H') := by
  unfold appD at h
  split at h
  · rename_i ds q
    split at h
    · rename_i hz
      obtain ⟨v, hv', o⟩ := I.own j kd _ hj q
      rw [hv] at hv'; cases hv'
      obtain ⟨p, vs, e, hp, hH, hl, o'⟩ := o.app I.sub hd rd
      subst e
      exact ⟨p, vs, y, rfl, rfl, hH, by rw [hl]; exact hz, h G _ σ (I.write hj hv hp o')⟩
    · exact h.elim
  · exact h.elim
theorem lst_ty {kd : Kd} {G0 H0 G H : Hp} {σ : L2.St} {ρ : Env} {fp} {j : Nat} (I : SIf fp G0 H0 own G H σ ρ) (hj : own.lookup j = some kd) (hl : isLst ρ j = true) : ∃ v, σ[j]? = some (some v) ∧ tyV X.K "list" v H := by
  obtain ⟨ds, q⟩ := isLst_get hl
  obtain ⟨v, hv, o⟩ := I.own j kd _ hj q
  obtain ⟨p, vs, rfl, hp, hH, _⟩ := o.lst
  exact ⟨_, hv, .inl ⟨rfl, vs, SqL.of hH⟩⟩
theorem ds_app {j : Nat} {x : Str} {p1 apos cpos : Pos} (hj : own.lookup j = some .sh) (pn : PE X (.Name x p1) (tVar j)) (d : DE X J.W e f) (hx : oxSub J.ox own = true := by rfl)
    (pe : ∀ {t : TE}, PE X e t → PE X (.Call (.Attribute (.Name x p1) "append" apos) [e] [] cpos) (tBM X.K "list" rAppend (tVar j) (tCons t tNil))) (hs : swapsWith (.Call (.Attribute (.Name x p1) "append" apos) [e] [] cpos) none pos.line X.env = pure false := by rfl) :
    DS X J own own (.Expr (.Call (.Attribute (.Name x p1) "append" apos) [e] [] cpos) pos) (sApp own j f) := by
  obtain ⟨t, p, h1⟩ := d
  refine ⟨_, ps_expr (pe p) hs, fun G0 H0 G H σ ρ Dn ⟨fp, I⟩ h => ?_⟩
  unfold sApp at h
  split at h
  · rename_i hl
    obtain ⟨v, hv, ty⟩ := lst_ty (X := X) I hj hl
    refine ⟨v, hv, ty, ?_⟩
    exact onMasked hx h1 I h fun d hk G' H' y e I' ry => app_end I' hj hv (.inl rfl) ry hk
  · exact h.elim
theorem ds_appI {kd : Kd} {j : Nat} {x : Str} {p1 apos cpos : Pos} (hj : own.lookup j = some kd) (pn : PE X (.Name x p1) (tVar j)) (d : DE X J.W e f) (hx : oxSub J.ox own = true := by rfl)
    (pe : ∀ {t : TE}, PE X e t → PE X (.Call (.Attribute (.Name x p1) "append" apos) [e] [] cpos) (tBM X.K "list" rAppend (tVar j) (tCons t tNil))) (hs : swapsWith (.Call (.Attribute (.Name x p1) "append" apos) [e] [] cpos) none pos.line X.env = pure false := by rfl) :
    DS X J own own (.Expr (.Call (.Attribute (.Name x p1) "append" apos) [e] [] cpos) pos) (sAppI j f) := by
  obtain ⟨t, p, h1⟩ := d
  refine ⟨_, ps_expr (pe p) hs, fun G0 H0 G H σ ρ Dn ⟨fp, I⟩ h => ?_⟩
  unfold sAppI at h
  split at h
  · rename_i hl
    obtain ⟨v, hv, ty⟩ := lst_ty (X := X) I hj hl
    refine ⟨v, hv, ty, ?_⟩
    refine onView hx h1 I h fun d hk G' H' y e I' _ ry => ?_
    split at hk
    · rename_i hi
      exact app_end I' hj hv (.inr hi) (ry hi) hk
    · exact hk.elim
  · exact h.elim
def hasE (ρ : Env) (j : Nat) : Bool := match ρ[j]? with
  | some (some _) => true
  | _ => false
theorem hasE_get {ρ : Env} {j : Nat} (h : hasE ρ j = true) : ∃ d, ρ[j]? = some (some d) := by
  unfold hasE at h
  split at h
  · rename_i d q; exact ⟨d, q⟩
  · cases h
def setD (c k d : D) : Res D := match c, k with
  | .lst ds, .int i => (match ixN ds.length i with
    | some n => .ok (.lst (ds.set n d))
    | none => .no)
  | _, _ => .no
def setO (ρ : Env) (j : Nat) (k d : D) : Out := match ρ[j]? with
  | some (some c) => (match setD c k d with
    | .ok c' => .nx (ρ.set j (some c'))
    | _ => .no)
  | _ => .no
def sSetL (own : Owns) (j : Nat) (fk fv : Env → Res D) : DSem := fun ρ => if hasE ρ j = true then andThen (fv (maskE own ρ)) ρ fun d => andThen (fk ρ) ρ fun k => setO ρ j k d else .no
theorem ds_setL {i value : Expr} {j : Nat} {x : Str} {p1 pos' : Pos} {fk fv : Env → Res D} (hj : own.lookup j = some .sh) (pn : PE X (.Name x p1) (tVar j)) (dk : DE X J.W i fk) (dv : DE X J.W value fv) (hx : oxSub J.ox own = true := by rfl)
    (hs : swapsWithSole [.Subscript (.Name x p1) i pos'] value pos.line X.env = pure false := by rfl) (hw : swappedStores [.Subscript (.Name x p1) i pos'] value X.env = pure none := by rfl)
    (h1 : (assignEach [.Subscript (.Name x p1) i pos'] X.env).map (·.2) = [assign (.Subscript (.Name x p1) i pos') X.env] := by rfl)
    (ha : ∀ v, assign (.Subscript (.Name x p1) i pos') X.env v = (do
      let ov ← holding [v] (eval (.Name x p1) X.env)
      let iv ← holding [v, ov] (eval i X.env)
      standAt pos'
      holding [v, ov, iv] (setItem ov iv v)
      release [v, ov, iv] []) := by intro _; rfl) : DS X J own own (.Assign [.Subscript (.Name x p1) i pos'] value pos) (sSetL own j fk fv) := by
  obtain ⟨tk, pk, hk⟩ := dk
  obtain ⟨tv, pv, hv⟩ := dv
  refine ⟨_, ps_asg pv (pg_sub pn pk set_list ha) hs hw h1, fun G0 H0 G H σ ρ Dn ⟨fp, I⟩ h => ?_⟩
  unfold sSetL at h
  split at h
  · rename_i hh
    obtain ⟨c, q⟩ := hasE_get hh
    refine onMasked hx hv I h fun d hd G1 H1 y e I1 ry => ?_
    obtain ⟨v, hv, _⟩ := I1.own j .sh c hj q
    refine ⟨v, hv, ?_⟩
    have s := (view_ext I1.ext).s
    refine hk _ H1 σ ρ _ s I1.view (toP hx I1 s hd fun k _ hk' G2 H2 e2 kv rk => ?_)
    have I2 := I1.grow (Ext.up I1.sub e2.h)
    unfold setO at hk'
    rw [q] at hk'
    simp only at hk'
    split at hk'
    · rename_i c' ec
      obtain ⟨v', hv', p, ep, ef, o⟩ := I2.own j .sh _ hj q
      rw [hv] at hv'; cases hv'
      unfold setD at ec
      split at ec
      · rename_i ds n eqk o9
        split at ec
        · rename_i m em
          cases ec
          obtain ⟨vs, hp, r⟩ := o
          refine ⟨p, vs, n, m, ep, rk, hp, by rw [r.length]; exact em, ?_⟩
          exact hk' G1 _ σ (I2.write hj hv (by rw [ef]; exact List.mem_cons_self) ⟨p, ep, ef, _, upd_same, r.set m ry⟩)
        · cases ec
      · cases ec
    · exact hk'.elim
  · exact h.elim
end
theorem hu1 {A : Around} {k : Nat} (hr : Room k A) : A.units + 1 < cLine := by have := hr.un; omega
theorem hu64 {A : Around} {k : Nat} (hr : Room k A) : A.units + 64 < cLine := by have := hr.un; omega
theorem hu65 {A : Around} {k : Nat} (hr : Room k A) : A.units + 65 < cLine := by have := hr.un; omega
theorem pe_append {X : Cx} {x : Str} {p1 apos cpos : Pos} {e : Expr} {j : Nat} (pn : PE X (.Name x p1) (tVar j)) (hbase : attributeBase (.Name x p1) "append" X.env (eval (.Name x p1) X.env) = eval (.Name x p1) X.env := by rfl)
    (hfew : ((backTo cpos (starEach (e :: []) X.env)).all (fun x => !x.1) && (backToKw cpos (keywordEach [] X.env)).all (fun x => x.1.isSome)
      && decide ((e :: ([] : List Expr)).length + ([] : List Keyword).length + (if ([] : List Keyword).isEmpty then 0 else 1) < 30)) = true := by rfl)
    (hline : (apos.endLine == cpos.line) = true := by rfl) (hs : starEach (e :: []) X.env = (false, eval e X.env) :: starEach [] X.env := by rfl) (hplain : (backTo cpos (starEach [] X.env)).any (·.1) = false := by rfl) {t : TE} (p : PE X e t) :
    PE X (.Call (.Attribute (.Name x p1) "append" apos) [e] [] cpos) (tBM X.K "list" rAppend (tVar j) (tCons t tNil)) :=
  pe_bm PySem.F.plainAttrs_list PySem.F.slot_list_append PySem.F.type_list_append mt_append pn (pa_cons p pa_nil hs) hbase hfew hline hs hplain
end DL
namespace DL
open PySem PySem.Spec PyProof.Rows L2
def spLaw : Sp := fun vs H Q _ => ∃ (a : Addr) (ns : List Int), vs = [.ref a] ∧ Rd H a (.lst (ns.map V.int)) ∧ ns.length ≤ 63 ∧ ∀ H', Q (.bl true) H'
theorem reps_ints {G : Hp} : ∀ ns : List Int, Reps G (ns.map D.int) (ns.map V.int)
  | [] => rfl
  | n :: r => ⟨.int n, r.map V.int, rfl, rfl, reps_ints r⟩
section
variable {P : Program} {w : World} {K : PySem.W.Frag} {mg : Str → Option Value} {base : Heap}
theorem law_ok {k : Nat} {f : Addr} {fd : FuncData} {x : Str} {m : List D → Res D} (F : FnOk P w K mg base (L2.CX P w) k f fd [x] (spK mg none 1 m)) (h : ∀ ns : List Int, ns.length ≤ 63 → m [.lst (ns.map D.int)] = .ok (.bl true)) : FnOk P w K mg base (L2.CX P w) k f fd [x] spLaw :=
  F.imp fun vs H Q E ⟨a, ns, e, hr, hl, q⟩ => by
    subst e
    refine ⟨rfl, H, [.lst (ns.map D.int)], fun _ _ e => e, ⟨.ref a, [], rfl, ⟨a, _, rfl, hr, reps_ints ns⟩, rfl⟩, ?_⟩
    rw [h ns hl]
    intro G' H' v _ rv
    have e : v = .bl true := rv
    subst e
    exact q H'
theorem spLaw_start {H : Hp} {a : Addr} {ns : List Int} {E : XK} (hl : ns.length ≤ 63) (hS : SqL K H a (ns.map V.int)) (hK : ∀ o, K.lookup a = some o → o.cls ≠ .type "list") : spLaw [.ref a] H (fun v _ => v = .bl true) E := by
  rcases hS with h | ⟨o, _, _, h, c, _⟩
  · exact ⟨a, ns, rfl, h, hl, fun _ => rfl⟩
  · exact absurd c (hK o h)
theorem cx_never {P : Program} {w : World} {outer : List PySem.Env} {H : Hp} {s : Shared} {e : Value} {s' : Shared} (h : L2.CX P w outer H s (fun _ _ _ => False) e s') : False := by
  obtain ⟨_, _, _, _, _, _, _, _, _, _, _, _, z⟩ := h
  exact z
theorem mem_look {α β : Type} [BEq α] [LawfulBEq α] {a : α} {o : β} (K : List (α × β)) (h : K.lookup a = some o) : (a, o) ∈ K := by
  induction K with
  | nil => cases h
  | cons p r ih =>
    obtain ⟨b, u⟩ := p
    rw [List.lookup_cons] at h
    cases q : a == b with
    | true => rw [q] at h; have e : a = b := by simpa using q
              subst e; cases h; exact List.mem_cons_self
    | false => rw [q] at h; exact List.mem_cons_of_mem _ (ih h)
theorem noList {K : PySem.W.Frag} (h : K.all (fun p => p.2.cls != .type "list") = true) (a : Addr) (o : Obj) (e : K.lookup a = some o) : o.cls ≠ .type "list" := by
  have hm : (a, o) ∈ K := mem_look K e
  have := List.all_eq_true.mp h _ hm
  simpa using this
end
end DL
namespace DL
open PySem PySem.Spec PyProof.Rows L2
def rdS (mg : Str → Option Value) (J : Jd) (own own' : Owns) (F : DSem) : TS := fun Dn σ H => ∃ G0 H0 G ρ, SI G0 H0 own G H σ ρ ∧ GS mg J G0 H0 own' Dn (F ρ)
theorem DSs.pss {X : Cx} {J : Jd} {own own' : Owns} {st : List Stmt} {F : DSem} (d : DSs X J own own' st F) : PSs X st (rdS X.mg J own own' F) := by
  obtain ⟨t, p, h⟩ := d
  exact ⟨fun pins s σ H D I ⟨G0, H0, G, ρ, si, g⟩ => p.run pins s σ H D I (h G0 H0 G H σ ρ D si g)⟩
def sRaise (c : Str) : DSem := fun ρ => .ex c ρ
theorem ds_raise {X : Cx} {J : Jd} {own own1 : Owns} {pos : Pos} {e : Expr} {c : Str} {C : Addr} (hc : X.calm = true) (tk : Takes X J.W) (pm : PMk X e (fun _ H Q => Q (.ref C) none H)) (hm : X.mg c = some (.ref C)) (hx : oxSub J.ox own = true := by rfl) :
    DS X J own own1 (.Raise (some e) none pos) (sRaise c) :=
  ⟨_, ps_raise hc tk pm, fun G0 H0 G H σ ρ Dn I h => h C own G H σ hx hm I⟩
theorem SIf.congr {fp} {G0 H0 G H : Hp} {own own' : Owns} {σ : L2.St} {ρ : Env} (I : SIf fp G0 H0 own G H σ ρ) (h : ∀ i, own'.lookup i = own.lookup i) : SIf fp G0 H0 own' G H σ ρ :=
  ⟨I.ext, I.len, fun i d e q => I.val i d e (by rw [← h]; exact q), fun i k d q e => I.own i k d (by rw [← h]; exact q) e, I.fpm, I.fpd, fun i v q n => I.pin i v (by rw [← h]; exact q) (by rw [← h]; exact n)⟩
theorem lookup_fst {own : Owns} {i : Nat} {k : Kd} (h : own.lookup i = some k) : i ∈ own.map (·.1) := by
  induction own with
  | nil => cases h
  | cons p r ih =>
    obtain ⟨j, k'⟩ := p
    rw [List.lookup_cons] at h
    by_cases e : i = j
    · subst e; simp
    · rw [show (i == j) = false by simpa using e] at h
      simp only [List.map_cons, List.mem_cons]
      exact .inr (ih h)
theorem SI.freezeAll {G0 H0 H : Hp} {σ : L2.St} {ρ : Env} : ∀ (js : List Nat) {own : Owns} {G : Hp}, SI G0 H0 own G H σ ρ → ∃ own' G', SI G0 H0 own' G' H σ ρ ∧ ∀ i, own'.lookup i = if i ∈ js then none else own.lookup i
  | [], own, G, I => ⟨own, G, I, fun i => by simp⟩
  | j :: js, own, G, ⟨fp, I⟩ => by
    obtain ⟨own', G', I', h⟩ := SI.freezeAll js (own := disown own j) ⟨_, I.freeze j⟩
    refine ⟨own', G', I', fun i => ?_⟩
    rw [h i]
    by_cases hj : i = j
    · subst hj; rw [disown_self]; simp
    · rw [disown_ne hj]; simp [hj]
theorem oxSub_look {ox own : Owns} (h : oxSub ox own = true) {i : Nat} {k : Kd} (e : ox.lookup i = some k) : own.lookup i = some k := by
  have hm : (i, k) ∈ ox := mem_look ox e
  have := List.all_eq_true.mp h _ hm
  simpa using this
theorem SI.toOwn {G0 H0 G H : Hp} {own own2 : Owns} {σ : L2.St} {ρ : Env} (hx : oxSub own own2 = true) (I : SI G0 H0 own2 G H σ ρ) : ∃ G', SI G0 H0 own G' H σ ρ := by
  obtain ⟨own', G', I', h⟩ := I.freezeAll ((own2.map (·.1)).filter fun i => (own.lookup i).isNone)
  obtain ⟨fp, I'⟩ := I'
  refine ⟨G', fp, I'.congr fun i => ?_⟩
  rw [h i]
  cases q : own.lookup i with
  | some k =>
    rw [if_neg (by simp [q]), oxSub_look hx q]
  | none =>
    cases q2 : own2.lookup i with
    | none => simp
    | some k => rw [if_pos (List.mem_filter.mpr ⟨lookup_fst q2, by simp [q]⟩)]
theorem oxSub_trans {a b c : Owns} (h1 : oxSub a b = true) (h2 : oxSub b c = true) : oxSub a c = true := by
  refine List.all_eq_true.mpr fun p hp => ?_
  have h3 := List.all_eq_true.mp h1 p hp
  have h4 : b.lookup p.1 = some p.2 := by simpa using h3
  have := oxSub_look h2 h4
  simpa using this
def TblOk (mg : Str → Option Value) (K : PySem.W.Frag) (hv : Value) (l : List (Str × Bool)) : Prop := ∀ c b, l.lookup c = some b → ∀ C, mg c = some (.ref C) → PySem.W.exmOne K (.ref C) hv = some b
theorem tbl_nil {mg : Str → Option Value} {K : PySem.W.Frag} {hv : Value} : TblOk mg K hv [] := fun _ _ h => by cases h
theorem tbl_cons {mg : Str → Option Value} {K : PySem.W.Frag} {hv : Value} {c : Str} {b : Bool} {l : List (Str × Bool)} {C0 : Addr} (hm : mg c = some (.ref C0)) (he : PySem.W.exmOne K (.ref C0) hv = some b) (r : TblOk mg K hv l) : TblOk mg K hv ((c, b) :: l) := fun c' b' h C m => by
  rw [List.lookup_cons] at h
  by_cases e : c' = c
  · subst e
    rw [show (c' == c') = true by simp] at h
    cases h
    rw [hm] at m; cases m
    exact he
  · rw [show (c' == c) = false by simpa using e] at h
    exact r c' b' h C m
def noExO : Out → Out
  | .ex _ _ => .no
  | o => o
def hdsF (c : Str) (ρ : Env) : List (List (Str × Bool) × DSem) → Out
  | [] => .ex c ρ
  | (tbl, F) :: r => match tbl.lookup c with
    | some true => noExO (F ρ)
    | some false => hdsF c ρ r
    | none => .no
def sTry (F1 : DSem) (hs : List (List (Str × Bool) × DSem)) : DSem := fun ρ => match F1 ρ with
  | .ex c ρ' => hdsF c ρ' hs
  | o => o
inductive DHds (X : Cx) (J : Jd) (own own1 : Owns) : List ExceptHandler → List (List (Str × Bool) × DSem) → Prop
  | nil : DHds X J own own1 [] []
  | cons {x : Str} {hv : Value} {tbl : List (Str × Bool)} {F : DSem} {b0 : Stmt} {suite : List Stmt} {np pos' : Pos} {hds : List ExceptHandler} {l : List (List (Str × Bool) × DSem)} (hc : Names X x hv) (tb : TblOk X.mg X.K hv tbl)
      (d : ∀ (a : Addr) (oe : Obj) (cls : Value) (dd : Option Addr) (pn : List (Addr × Obj)), Zc cls dd oe → (∃ vs, oe.data = .fields vs) → DSs (X.suite a ((a, oe) :: pn)) ⟨W0, J.L, [], J.rk⟩ own own1 (b0 :: suite) F) (r : DHds X J own own1 hds l) :
      DHds X J own own1 (.ExceptHandler (some (.Name x np)) none (b0 :: suite) pos' :: hds) ((tbl, F) :: l)
theorem GS.noEx {mg : Str → Option Value} {J : Jd} {G0 H0 : Hp} {own1 : Owns} {Dn : Ends} {o : Out} (h : GS mg J G0 H0 own1 Dn (noExO o)) : GS mg ⟨W0, J.L, [], J.rk⟩ G0 H0 own1 Dn o := by
  cases o with
  | ex c ρ => exact h.elim
  | nx ρ => exact h
  | rt d => exact h
  | bk ρ => exact h
  | ct ρ => exact h
  | no => exact h
theorem hds_ok {X : Cx} {J : Jd} {own own1 : Owns} {hds : List ExceptHandler} {l : List (List (Str × Bool) × DSem)} (d : DHds X J own own1 hds l) : ∃ l2 : List (Value × (Addr → Value → Option Addr → TS)), HdsOk X hds l2 ∧
    ∀ (G0 H0 G H : Hp) (σ : L2.St) (ρ : Env) (Dn : Ends) (c : Str) (C : Addr) (own2 : Owns), oxSub J.ox own = true → X.mg c = some (.ref C) → oxSub own own2 = true → SI G0 H0 own2 G H σ ρ → GS X.mg J G0 H0 own1 Dn (hdsF c ρ l) → wMany X.K J.W Dn l2 (.ref C) none σ H := by
  induction d with
  | nil => exact ⟨[], .nil, fun G0 H0 G H σ ρ Dn c C own2 hx m hs I h => h C own2 G H σ (oxSub_trans hx hs) m I⟩
  | @cons x hv tbl F b0 suite np pos' hds l hc tb d r ih =>
    obtain ⟨l2, h1, h2⟩ := ih
    refine ⟨(hv, fun _ _ _ => rdS X.mg ⟨W0, J.L, [], J.rk⟩ own own1 F) :: l2, .cons hc (fun a oe cls dd pn z v => (d a oe cls dd pn z v).pss) h1, fun G0 H0 G H σ ρ Dn c C own2 hx m hs I h => ?_⟩
    unfold hdsF at h
    cases q : tbl.lookup c with
    | none => rw [q] at h; exact h.elim
    | some b =>
      rw [q] at h
      refine ⟨b, tb c b q C m, fun e a _ => ?_, fun e => ?_⟩
      · subst e
        obtain ⟨G', I'⟩ := I.toOwn hs
        exact ⟨G0, H0, G', ρ, I', h.noEx⟩
      · subst e
        exact h2 G0 H0 G H σ ρ Dn c C own2 hx m hs I h
theorem ds_try {X : Cx} {J : Jd} {own own1 : Owns} {body : List Stmt} {h0 : ExceptHandler} {hds : List ExceptHandler} {l : List (List (Str × Bool) × DSem)} {F1 : DSem} {pos : Pos} (hs : X.stack = X.env :: X.outer) (hf : X.env.frame = some X.env.locals) (tk : Takes X J.W)
    (hb : ∀ (W : WX) (pn : List (Addr × Obj)) (xe : Value → Shared → Prop), Takes (X.tr pn xe) W → PassesOwn (model X.prog X.w) X.A X.env xe → DSs (X.tr pn xe) ⟨W, J.L, own, J.rk⟩ own own1 body F1)
    (hh : DHds X J own own1 (h0 :: hds) l) (hx : oxSub J.ox own = true := by rfl) : DS X J own own1 (.Try body (h0 :: hds) [] [] pos) (sTry F1 l) := by
  obtain ⟨l2, h1, h2⟩ := hds_ok hh
  refine ⟨_, ps_try_many (tb := fun W => rdS X.mg ⟨W, J.L, own, J.rk⟩ own own1 F1) hs hf tk (fun W pn xe t p => (hb W pn xe t p).pss) h1, fun G0 H0 G H σ ρ Dn I h => ?_⟩
  refine ⟨G0, H0, G, ρ, I, ?_⟩
  unfold sTry at h
  cases q : F1 ρ with
  | ex c ρ' =>
    rw [q] at h
    exact fun C own2 G' H' σ' hx2 m I' => h2 G0 H0 G' H' σ' ρ' Dn c C own2 hx m hx2 I' h
  | nx ρ' => rw [q] at h; exact h
  | rt d => rw [q] at h; exact h
  | bk ρ' => rw [q] at h; exact h
  | ct ρ' => rw [q] at h; exact h
  | no => rw [q] at h; exact h
end DL
namespace DL
open PySem PySem.Spec PyProof.Rows L2
def RepOP {κ : Type} (H : Hp) : List (κ × D) → List (κ × V) → List Addr → Prop
  | [], vs, fp => vs = [] ∧ fp = []
  | (k, d) :: r, vs, fp => ∃ v s f1 f2, vs = (k, v) :: s ∧ fp = f1 ++ f2 ∧ RepO H d v f1 ∧ RepOP H r s f2
theorem repOK_iff {H : Hp} : ∀ {kvs : List (Key × D)} {ws : List (Key × V)} {fp : List Addr}, RepOK H kvs ws fp ↔ RepOP H kvs ws fp
  | [], _, _ => Iff.rfl
  | (k, d) :: r, ws, fp => by
    unfold RepOK RepOP
    constructor
    · rintro ⟨v, s, f1, f2, e, ef, h, q⟩; exact ⟨v, s, f1, f2, e, ef, h, repOK_iff.mp q⟩
    · rintro ⟨v, s, f1, f2, e, ef, h, q⟩; exact ⟨v, s, f1, f2, e, ef, h, repOK_iff.mpr q⟩
theorem repOT_iff {H : Hp} : ∀ {kvs : List (List Key × D)} {ws : List (List Key × V)} {fp : List Addr}, RepOT H kvs ws fp ↔ RepOP H kvs ws fp
  | [], _, _ => Iff.rfl
  | (k, d) :: r, ws, fp => by
    unfold RepOT RepOP
    constructor
    · rintro ⟨v, s, f1, f2, e, ef, h, q⟩; exact ⟨v, s, f1, f2, e, ef, h, repOT_iff.mp q⟩
    · rintro ⟨v, s, f1, f2, e, ef, h, q⟩; exact ⟨v, s, f1, f2, e, ef, h, repOT_iff.mpr q⟩
theorem At.sub {H H' : Hp} {f f' : List Addr} (h : At H H' f) (s : ∀ p ∈ f', p ∈ f) : At H H' f' := ⟨fun p hp => h.a p (s p hp), h.t⟩
section
variable {κ : Type} [DecidableEq κ]
theorem RepOP.at {H H' : Hp} : ∀ {kvs : List (κ × D)} {ws : List (κ × V)} {fp : List Addr}, At H H' fp → RepOP H kvs ws fp → RepOP H' kvs ws fp
  | [], _, _, _, h => h
  | (k, d) :: r, _, _, l, ⟨v, s, f1, f2, e, ef, h, q⟩ => by subst ef; exact ⟨v, s, f1, f2, e, rfl, RepO.at l.l h, RepOP.at l.r q⟩
def setA (kvs : List (κ × D)) (k : κ) (d : D) : List (κ × D) := match kvs with
  | [] => []
  | (k', x) :: r => if k' = k then (k', d) :: r else (k', x) :: setA r k d
theorem RepOP.focus {H : Hp} : ∀ {kvs : List (κ × D)} {ws : List (κ × V)} {fq : List Addr} {k : κ} {d' : D}, RepOP H kvs ws fq → getA kvs k = some d' →
    ∃ v' f1 f f2, fq = f1 ++ (f ++ f2) ∧ valV ws k = some v' ∧ RepO H d' v' f ∧ ∀ (H' : Hp) (d'' : D) (f' : List Addr), At H H' (f1 ++ f2) → RepO H' d'' v' f' → RepOP H' (setA kvs k d'') ws (f1 ++ (f' ++ f2))
  | [], _, _, _, _, _, e => by simp [getA] at e
  | (k', x) :: r, _, _, k, d', ⟨v, s, f1, f2, e, ef, h, q⟩, g => by
    subst e ef
    by_cases hk : k' = k
    · have gx : x = d' := by simpa [getA, hk] using g
      subst gx
      refine ⟨v, [], f1, f2, rfl, valV_pos hk, h, fun H' d'' f' a o => ?_⟩
      unfold setA
      rw [if_pos hk]
      exact ⟨v, s, f', f2, rfl, rfl, o, q.at (a.sub fun p hp => by simpa using hp)⟩
    · have g2 : getA r k = some d' := by rw [← g]; simp [getA, List.find?_cons, hk]
      obtain ⟨v', g1, gf, gg, e1, e2, e3, e4⟩ := RepOP.focus q g2
      subst e1
      refine ⟨v', f1 ++ g1, gf, gg, by simp, by rw [valV_neg (p := (k', v)) hk]; exact e2, e3, fun H' d'' f' a o => ?_⟩
      unfold setA
      rw [if_neg hk]
      exact ⟨v, s, f1, g1 ++ (f' ++ gg), rfl, by simp, h.at (a.sub fun p hp => by simp [hp]), e4 H' d'' f' (a.sub fun p hp => by
        rcases List.mem_append.mp hp with hp | hp <;> simp [hp]) o⟩
end
theorem RepOs.focus {H : Hp} : ∀ {ds : List D} {vs : List V} {fq : List Addr} {n : Nat} {d' : D}, RepOs H ds vs fq → ds[n]? = some d' →
    ∃ v' f1 f f2, fq = f1 ++ (f ++ f2) ∧ vs[n]? = some v' ∧ RepO H d' v' f ∧ ∀ (H' : Hp) (d'' : D) (f' : List Addr), At H H' (f1 ++ f2) → RepO H' d'' v' f' → RepOs H' (ds.set n d'') vs (f1 ++ (f' ++ f2))
  | [], _, _, _, _, _, e => by simp at e
  | x :: r, _, _, 0, d', ⟨v, s, f1, f2, e, ef, h, q⟩, g => by
    subst e ef
    have gx : x = d' := by simpa using g
    subst gx
    exact ⟨v, [], f1, f2, rfl, rfl, h, fun H' d'' f' a o => ⟨v, s, f', f2, rfl, rfl, o, q.at (a.sub fun p hp => by simpa using hp)⟩⟩
  | x :: r, _, _, n + 1, d', ⟨v, s, f1, f2, e, ef, h, q⟩, g => by
    subst e ef
    obtain ⟨v', g1, gf, gg, e1, e2, e3, e4⟩ := RepOs.focus (n := n) q (by simpa using g)
    subst e1
    exact ⟨v', f1 ++ g1, gf, gg, by simp, by simpa using e2, e3, fun H' d'' f' a o => ⟨v, s, f1, g1 ++ (f' ++ gg), rfl, by simp, h.at (a.sub fun p hp => by simp [hp]), e4 H' d'' f' (a.sub fun p hp => by
        rcases List.mem_append.mp hp with hp | hp <;> simp [hp]) o⟩⟩
theorem repOF_iff {H : Hp} : ∀ {kvs : List (Str × D)} {ws : List (Str × V)} {fp : List Addr}, RepOF H kvs ws fp ↔ RepOP H kvs ws fp
  | [], _, _ => Iff.rfl
  | (k, d) :: r, ws, fp => by
    unfold RepOF RepOP
    constructor
    · rintro ⟨v, s, f1, f2, e, ef, h, q⟩; exact ⟨v, s, f1, f2, e, ef, h, repOF_iff.mp q⟩
    · rintro ⟨v, s, f1, f2, e, ef, h, q⟩; exact ⟨v, s, f1, f2, e, ef, h, repOF_iff.mpr q⟩
inductive Stp where
  | ix (n : Nat) | kK (k : Key) | kT (k : List Key) | fld (x : Str)
def getS : D → Stp → Option D
  | .tup xs, .ix n => xs[n]?
  | .lst xs, .ix n => xs[n]?
  | .dK kvs, .kK k => getA kvs k
  | .dT kvs, .kT k => getA kvs k
  | .obj _ fs, .fld x => getA fs x
  | _, _ => none
def setSt (d : D) (s : Stp) (x : D) : D := match d, s with
  | .tup xs, .ix n => .tup (xs.set n x)
  | .lst xs, .ix n => .lst (xs.set n x)
  | .dK kvs, .kK k => .dK (setA kvs k x)
  | .dT kvs, .kT k => .dT (setA kvs k x)
  | .obj C fs, .fld y => .obj C (setA fs y x)
  | d, _ => d
def getP : D → List Stp → Option D
  | d, [] => some d
  | d, s :: p => (getS d s).bind fun e => getP e p
def setP : D → List Stp → D → D
  | _, [], x => x
  | d, s :: p, x => match getS d s with
    | some e => setSt d s (setP e p x)
    | none => d
def StpV (H : Hp) (v : V) (s : Stp) (v' : V) : Prop := ∃ a, v = .ref a ∧ match s with
  | .ix n => ∃ vs, (H a = some (.tup vs) ∨ H a = some (.lst vs)) ∧ vs[n]? = some v'
  | .kK k => ∃ ws, H a = some (.dK ws) ∧ valV ws k = some v'
  | .kT k => ∃ ws, H a = some (.dT ws) ∧ valV ws k = some v'
  | .fld x => ∃ C dx ws, H a = some (.ins C dx ws) ∧ valV ws x = some v'
def AtV (H : Hp) : V → List Stp → V → Prop
  | v, [], v' => v' = v
  | v, s :: p, v' => ∃ w, StpV H v s w ∧ AtV H w p v'
theorem StpV.up {H H' : Hp} (h : ∀ a o, H a = some o → H' a = some o) {v : V} {s : Stp} {v' : V} (q : StpV H v s v') : StpV H' v s v' := by
  obtain ⟨a, e, q⟩ := q
  refine ⟨a, e, ?_⟩
  cases s with
  | ix n => obtain ⟨vs, q, g⟩ := q; exact ⟨vs, q.imp (h _ _) (h _ _), g⟩
  | kK k => obtain ⟨vs, q, g⟩ := q; exact ⟨vs, h _ _ q, g⟩
  | kT k => obtain ⟨vs, q, g⟩ := q; exact ⟨vs, h _ _ q, g⟩
  | fld x => obtain ⟨C, dx, vs, q, g⟩ := q; exact ⟨C, dx, vs, h _ _ q, g⟩
theorem AtV.up {H H' : Hp} (h : ∀ a o, H a = some o → H' a = some o) : ∀ {p : List Stp} {v v' : V}, AtV H v p v' → AtV H' v p v'
  | [], _, _, q => q
  | _ :: _, _, _, ⟨w, q, r⟩ => ⟨w, q.up h, AtV.up h r⟩
theorem StpV.fn {H : Hp} {v : V} {s : Stp} {v1 v2 : V} (q : StpV H v s v1) (r : StpV H v s v2) : v1 = v2 := by
  obtain ⟨a, e, q⟩ := q
  obtain ⟨b, e2, r⟩ := r
  subst e
  cases e2
  cases s with
  | ix n =>
    obtain ⟨vs, q, g⟩ := q
    obtain ⟨ws, r, g2⟩ := r
    have : vs = ws := by
      rcases q with q | q <;> rcases r with r | r <;> rw [q] at r <;> cases r <;> rfl
    subst this
    rw [g] at g2; cases g2; rfl
  | kK k => obtain ⟨vs, q, g⟩ := q; obtain ⟨ws, r, g2⟩ := r; rw [q] at r; cases r; rw [g] at g2; cases g2; rfl
  | kT k => obtain ⟨vs, q, g⟩ := q; obtain ⟨ws, r, g2⟩ := r; rw [q] at r; cases r; rw [g] at g2; cases g2; rfl
  | fld x => obtain ⟨C, dx, vs, q, g⟩ := q; obtain ⟨C', dx', ws, r, g2⟩ := r; rw [q] at r; cases r; rw [g] at g2; cases g2; rfl
theorem AtV.fn {H : Hp} : ∀ {p : List Stp} {v v1 v2 : V}, AtV H v p v1 → AtV H v p v2 → v1 = v2
  | [], _, _, _, q, r => q.trans r.symm
  | _ :: _, _, _, _, ⟨w, q, r⟩, ⟨w2, q2, r2⟩ => by
    have e := q.fn q2
    subst e
    exact AtV.fn r r2
theorem AtV.snoc {H : Hp} {s : Stp} : ∀ {p : List Stp} {v w v' : V}, AtV H v p w → StpV H w s v' → AtV H v (p ++ [s]) v'
  | [], _, _, _, q, r => by rw [show _ = _ from q] at r; exact ⟨_, r, rfl⟩
  | _ :: _, _, _, _, ⟨w, q, r⟩, r2 => ⟨w, q, AtV.snoc r r2⟩
theorem RepO.step {H : Hp} {d d' : D} {v : V} {fp : List Addr} {s : Stp} (h : RepO H d v fp) (g : getS d s = some d') :
    ∃ v' f1 f f2, fp = f1 ++ (f ++ f2) ∧ StpV H v s v' ∧ RepO H d' v' f ∧ ∀ (H' : Hp) (d'' : D) (f' : List Addr), At H H' (f1 ++ f2) → RepO H' d'' v' f' → RepO H' (setSt d s d'') v (f1 ++ (f' ++ f2)) ∧ StpV H' v s v' := by
  cases d with
  | tup ds =>
    cases s with
    | ix n =>
      obtain ⟨a, vs, e, ha, r⟩ := h
      obtain ⟨v', f1, f, f2, e1, e2, e3, e4⟩ := r.focus g
      exact ⟨v', f1, f, f2, e1, ⟨a, e, vs, .inl ha, e2⟩, e3, fun H' d'' f' at' o => ⟨⟨a, vs, e, at'.t _ _ ha, e4 H' d'' f' at' o⟩, a, e, vs, .inl (at'.t _ _ ha), e2⟩⟩
    | _ => cases g
  | lst ds =>
    cases s with
    | ix n =>
      obtain ⟨a, vs, fq, e, ha, ef, r⟩ := h
      obtain ⟨v', f1, f, f2, e1, e2, e3, e4⟩ := r.focus g
      subst ef e1
      exact ⟨v', a :: f1, f, f2, rfl, ⟨a, e, vs, .inr ha, e2⟩, e3, fun H' d'' f' at' o => ⟨⟨a, vs, _, e, (at'.a a (by simp)).trans ha, rfl, e4 H' d'' f' (at'.sub fun p hp => List.mem_cons_of_mem _ hp) o⟩, a, e, vs, .inr ((at'.a a (by simp)).trans ha), e2⟩⟩
    | _ => cases g
  | dK kvs =>
    cases s with
    | kK k =>
      obtain ⟨a, ws, fq, e, ha, ef, r⟩ := h
      obtain ⟨v', f1, f, f2, e1, e2, e3, e4⟩ := (repOK_iff.mp r).focus g
      subst ef e1
      exact ⟨v', a :: f1, f, f2, rfl, ⟨a, e, ws, ha, e2⟩, e3, fun H' d'' f' at' o => ⟨⟨a, ws, _, e, (at'.a a (by simp)).trans ha, rfl, repOK_iff.mpr (e4 H' d'' f' (at'.sub fun p hp => List.mem_cons_of_mem _ hp) o)⟩, a, e, ws, (at'.a a (by simp)).trans ha, e2⟩⟩
    | _ => cases g
  | dT kvs =>
    cases s with
    | kT k =>
      obtain ⟨a, ws, fq, e, ha, ef, r⟩ := h
      obtain ⟨v', f1, f, f2, e1, e2, e3, e4⟩ := (repOT_iff.mp r).focus g
      subst ef e1
      exact ⟨v', a :: f1, f, f2, rfl, ⟨a, e, ws, ha, e2⟩, e3, fun H' d'' f' at' o => ⟨⟨a, ws, _, e, (at'.a a (by simp)).trans ha, rfl, repOT_iff.mpr (e4 H' d'' f' (at'.sub fun p hp => List.mem_cons_of_mem _ hp) o)⟩, a, e, ws, (at'.a a (by simp)).trans ha, e2⟩⟩
    | _ => cases g
  | obj C fs =>
    cases s with
    | fld x =>
      obtain ⟨a, dx, ws, fq, e, ha, ef, r⟩ := h
      obtain ⟨v', f1, f, f2, e1, e2, e3, e4⟩ := (repOF_iff.mp r).focus g
      subst ef e1
      exact ⟨v', a :: f1, f, f2, rfl, ⟨a, e, C, dx, ws, ha, e2⟩, e3, fun H' d'' f' at' o => ⟨⟨a, dx, ws, _, e, (at'.a a (by simp)).trans ha, rfl, repOF_iff.mpr (e4 H' d'' f' (at'.sub fun p hp => List.mem_cons_of_mem _ hp) o)⟩, a, e, C, dx, ws, (at'.a a (by simp)).trans ha, e2⟩⟩
    | _ => cases g
  | _ => cases s <;> cases g
theorem RepO.path {H : Hp} : ∀ {p : List Stp} {d d' : D} {v : V} {fp : List Addr}, RepO H d v fp → getP d p = some d' →
    ∃ v' f1 f f2, fp = f1 ++ (f ++ f2) ∧ AtV H v p v' ∧ RepO H d' v' f ∧ ∀ (H' : Hp) (d'' : D) (f' : List Addr), At H H' (f1 ++ f2) → RepO H' d'' v' f' → RepO H' (setP d p d'') v (f1 ++ (f' ++ f2)) ∧ AtV H' v p v'
  | [], d, d', v, fp, h, g => by
    have e : d = d' := by simpa [getP] using g
    subst e
    exact ⟨v, [], fp, [], by simp, rfl, h, fun H' d'' f' _ o => ⟨by simpa [setP] using o, rfl⟩⟩
  | s :: p, d, d', v, fp, h, g => by
    obtain ⟨e, g1, g2⟩ := Option.bind_eq_some_iff.mp g
    obtain ⟨w, f1, f, f2, e1, e2, e3, e4⟩ := h.step g1
    obtain ⟨v', h1, hf, h2, k1, k2, k3, k4⟩ := RepO.path e3 g2
    subst e1 k1
    refine ⟨v', f1 ++ h1, hf, h2 ++ f2, by simp, ⟨w, e2, k2⟩, k3, fun H' d'' f' at' o => ?_⟩
    have o2 := k4 H' d'' f' (at'.sub fun q hq => by rcases List.mem_append.mp hq with hq | hq <;> simp [hq]) o
    have := e4 H' (setP e p d'') (h1 ++ (f' ++ h2)) (at'.sub fun q hq => by rcases List.mem_append.mp hq with hq | hq <;> simp [hq]) o2.1
    refine ⟨?_, w, this.2, o2.2⟩
    rw [show f1 ++ h1 ++ (f' ++ (h2 ++ f2)) = f1 ++ (h1 ++ (f' ++ h2) ++ f2) by simp]
    show RepO H' (match getS d s with | some e => setSt d s (setP e p d'') | none => d) v _
    rw [g1]
    exact this.1
theorem SIf.pathWrite {fp} {G0 H0 G H H' : Hp} {own : Owns} {σ : L2.St} {ρ : Env} (I : SIf fp G0 H0 own G H σ ρ) {j : Nat} {d1 d'' : D} {v0 v' : V} {p : List Stp} {f1 f f2 f' : List Addr} (hj : own.lookup j = some .dp) (hv : σ[j]? = some (some v0)) (nd : (fp j).Nodup) (ef : fp j = f1 ++ (f ++ f2))
    (up : ∀ (H' : Hp) (d'' : D) (f' : List Addr), At H H' (f1 ++ f2) → RepO H' d'' v' f' → RepO H' (setP d1 p d'') v0 (f1 ++ (f' ++ f2)) ∧ AtV H' v0 p v') (o : RepO H' d'' v' f') (nd' : f'.Nodup) (hf : ∀ q ∈ f', q ∈ f ∨ (G q = none ∧ H0 q = none ∧ ∀ i, q ∉ fp i))
    (hH : ∀ a, a ∉ f → H' a = H a ∨ (H a = none ∧ H0 a = none)) : (∃ fpn, SIf fpn G0 H0 own G H' σ (ρ.set j (some (setP d1 p d''))) ∧ ∀ i q, q ∈ fpn i → q ∈ fp i ∨ q ∈ f') ∧ AtV H' v0 p v' := by
  have nd1 := List.nodup_append.mp (ef ▸ nd)
  have nd2 := List.nodup_append.mp nd1.2.1
  have nf : ∀ q, q ∈ f1 ++ f2 → q ∉ f := fun q hq hq2 => by
    rcases List.mem_append.mp hq with hq | hq
    · exact nd1.2.2 q hq q (List.mem_append_left _ hq2) rfl
    · exact nd2.2.2 q hq2 q hq rfl
  have inj : ∀ q, q ∈ f1 ++ f2 → q ∈ fp j := fun q hq => by rw [ef]; rcases List.mem_append.mp hq with hq | hq <;> simp [hq]
  have inf : ∀ q, q ∈ f → q ∈ fp j := fun q hq => by rw [ef]; simp [hq]
  have tup : ∀ a vs, H a = some (.tup vs) → H' a = some (.tup vs) := fun a vs e => by
    have hna : a ∉ f := fun hq => by have := (I.fpm j a (inf a hq)).2.2; rw [e] at this; exact this
    rcases hH a hna with q | q
    · rw [q]; exact e
    · rw [q.1] at e; cases e
  have at' : At H H' (f1 ++ f2) := ⟨fun q hq => by
    rcases hH q (nf q hq) with z | z
    · exact z
    · have := (I.fpm j q (inj q hq)).2.2; rw [z.1] at this; exact this.elim, tup⟩
  have o2 := up H' d'' f' at' o
  have fresh : ∀ q ∈ f', q ∉ f1 ++ f2 := fun q hq hq2 => by
    rcases hf q hq with z | z
    · exact nf q hq2 z
    · exact z.2.2 j (inj q hq2)
  have ndn : (f1 ++ (f' ++ f2)).Nodup := List.nodup_append.mpr ⟨nd1.1, List.nodup_append.mpr ⟨nd', nd2.2.1, fun a ha b hb z => fresh a ha (by subst z; simp [hb])⟩, fun a ha b hb z => by
    subst z
    rcases List.mem_append.mp hb with hb | hb
    · exact fresh a hb (by simp [ha])
    · exact nd1.2.2 a ha a (by simp [hb]) rfl⟩
  have src : ∀ q ∈ f1 ++ (f' ++ f2), q ∈ fp j ∨ (G q = none ∧ H0 q = none ∧ ∀ i, q ∉ fp i) := fun q hq => by
    rcases List.mem_append.mp hq with hq | hq
    · exact .inl (inj q (by simp [hq]))
    · rcases List.mem_append.mp hq with hq | hq
      · rcases hf q hq with z | z
        · exact .inl (inf q z)
        · exact .inr z
      · exact .inl (inj q (by simp [hq]))
  refine ⟨⟨_, I.change (k := .dp) (fj := f1 ++ (f' ++ f2)) hj hv (fun a ha => hH a fun z => ha (inf a z)) ⟨o2.1, ndn⟩ (fun q hq => ?_) (fun i q hne hq hq2 => ?_) fun q hq vs z => ?_, fun i q hq => ?_⟩, o2.2⟩
  · rcases src q hq with z | z
    · exact ⟨(I.fpm j q z).1, (I.fpm j q z).2.1⟩
    · exact ⟨z.1, z.2.1⟩
  · rcases src q hq2 with z | z
    · exact I.fpd i j q hne hq z
    · exact z.2.2 i hq
  · have := (I.fpm j q hq).2.2
    rw [z] at this
    exact this
  · by_cases hi : i = j
    · subst hi
      rw [fpSet_self] at hq
      rcases List.mem_append.mp hq with hq | hq
      · exact .inl (inj q (by simp [hq]))
      · rcases List.mem_append.mp hq with hq | hq
        · exact .inr hq
        · exact .inl (inj q (by simp [hq]))
    · rw [fpSet_ne hi] at hq
      exact .inl hq
theorem SIf.pathWriteS {fp} {G0 H0 G H H' : Hp} {own : Owns} {σ : L2.St} {ρ : Env} (I : SIf fp G0 H0 own G H σ ρ) {j : Nat} {d1 d'' : D} {v0 v' : V} {p : List Stp} {f1 f f2 f' : List Addr} (hj : own.lookup j = some .dp) (hv : σ[j]? = some (some v0)) (nd : (fp j).Nodup) (ef : fp j = f1 ++ (f ++ f2))
    (up : ∀ (H' : Hp) (d'' : D) (f' : List Addr), At H H' (f1 ++ f2) → RepO H' d'' v' f' → RepO H' (setP d1 p d'') v0 (f1 ++ (f' ++ f2)) ∧ AtV H' v0 p v') (o : RepO H' d'' v' f') (nd' : f'.Nodup) (hf : ∀ q ∈ f', q ∈ f ∨ (G q = none ∧ H0 q = none ∧ ∀ i, q ∉ fp i))
    (hH : ∀ a, a ∉ f → H' a = H a ∨ (H a = none ∧ H0 a = none)) : SI G0 H0 own G H' σ (ρ.set j (some (setP d1 p d''))) :=
  let ⟨⟨fpn, W, _⟩, _⟩ := I.pathWrite hj hv nd ef up o nd' hf hH
  ⟨fpn, W⟩
end DL
namespace DL
open PySem PySem.Spec PyProof.Rows L2
abbrev Sel := Env → Res (D × List Stp)
structure DPk (j : Nat) (fp fp' : Nat → List Addr) (G H G' H' : Hp) : Prop where
  keep : ∀ a o, H a = some o → a ∉ fp j → H' a = some o
  fps : ∀ i q, q ∈ fp' i → q ∈ fp i ∨ q ∈ fp j ∨ H q = none
  reg : ∀ q o, G' q = some o → G q = some o ∨ H q = none ∨ ∃ vs, o = .tup vs
  le : ∀ q o, G q = some o → G' q = some o
theorem DPk.refl {j : Nat} {fp : Nat → List Addr} {G H : Hp} : DPk j fp fp G H G H := ⟨fun _ _ e _ => e, fun i _ h => .inl h, fun _ _ e => .inl e, fun _ _ e => e⟩
theorem DPk.up {j : Nat} {fp fp' : Nat → List Addr} {G H G' H' H2 : Hp} (k : DPk j fp fp' G H G' H') (h : ∀ a o, H' a = some o → H2 a = some o) : DPk j fp fp' G H G' H2 := ⟨fun a o e n => h a o (k.keep a o e n), k.fps, k.reg, k.le⟩
def DP (X : Cx) (own : Owns) (j : Nat) (e : Expr) (sel : Sel) : Prop :=
  ∃ t : TE, PE X e t ∧ ∀ (fp : Nat → List Addr) (G0 H0 G H : Hp) (σ : L2.St) (ρ : Env) (Q : VK), SIf fp G0 H0 own G H σ ρ →
    (∃ d1 p, sel ρ = .ok (d1, p) ∧ ∀ (fp' : Nat → List Addr) (G' H' : Hp) (v0 v' : V), DPk j fp fp' G H G' H' → SIf fp' G0 H0 own G' H' σ (ρ.set j (some d1)) → σ[j]? = some (some v0) → AtV H' v0 p v' → Q v' H') → t σ H Q
def stpOf : D → D → Option Stp
  | .lst xs, .int i => (ixN xs.length i).map .ix
  | .tup xs, .int i => (ixN xs.length i).map .ix
  | .dK _, k => (keyD k).map .kK
  | .dT _, .tup ks => (keysD ks).map .kT
  | _, _ => none
def pName (j : Nat) : Sel := fun ρ => match ρ[j]? with
  | some (some d) => .ok (d, [])
  | _ => .no
def stepTo (d1 : D) (p : List Stp) (k : D) : Res (D × List Stp) := match getP d1 p with
  | some c => (match stpOf c k with
    | some s => if (getS c s).isSome = true then .ok (d1, p ++ [s]) else .no
    | none => .no)
  | none => .no
def pIx (j : Nat) (sel : Sel) (f : Env → Res D) : Sel := fun ρ => noEx (sel ρ) >>= fun x => noEx (f (ρ.set j (some x.1))) >>= fun k => stepTo x.1 x.2 k
theorem set_self {ρ : Env} {j : Nat} {x : Option D} (h : ρ[j]? = some x) : ρ.set j x = ρ := by
  apply List.ext_getElem?
  intro i
  by_cases hi : j = i
  · subst hi
    have := (List.getElem?_eq_some_iff.mp h).1
    rw [List.getElem?_set_self this, h]
  · rw [List.getElem?_set_ne hi]
section
variable {X : Cx} {J : Jd} {own own1 : Owns} {j : Nat} {e e2 e3 : Expr} {sel : Sel} {f f3 : Env → Res D} {pos : Pos}
theorem dp_name {x : Str} (hj : own.lookup j = some .dp) (pn : PE X (.Name x pos) (tVar j)) : DP X own j (.Name x pos) (pName j) := by
  refine ⟨_, pn, fun fp G0 H0 G H σ ρ Q I ⟨d1, p, e, q⟩ => ?_⟩
  unfold pName at e
  split at e
  · rename_i d h
    cases e
    obtain ⟨v, hv, o⟩ := I.own j .dp _ hj h
    exact ⟨v, hv, q fp G H v v .refl (by rw [set_self h]; exact I) hv rfl⟩
  · cases e
theorem glE_ok {W : WX} {G H : Hp} {σ : L2.St} {Q : VK} {r : Res D} {d : D} (h : r = .ok d) (q : ∀ G' H' v, Ext G H G' H' → Rep G' d v → Q v H') : GlE X.mg W G H σ Q r := by
  rw [h]; exact fun G' H' e v rv => q G' H' v e rv
theorem SIf.place {fp} {G0 H0 G H : Hp} {σ : L2.St} {ρ : Env} {d1 d' : D} {v0 v' : V} {p : List Stp} (I : SIf fp G0 H0 own G H σ ρ) (hj : own.lookup j = some .dp) (hd : ρ[j]? = some (some d1)) (hv : σ[j]? = some (some v0)) (ha : AtV H v0 p v') (g : getP d1 p = some d') :
    ∃ f1 f f2, (fp j).Nodup ∧ fp j = f1 ++ (f ++ f2) ∧ RepO H d' v' f ∧ ∀ (H' : Hp) (d'' : D) (f' : List Addr), At H H' (f1 ++ f2) → RepO H' d'' v' f' → RepO H' (setP d1 p d'') v0 (f1 ++ (f' ++ f2)) ∧ AtV H' v0 p v' := by
  obtain ⟨v, hv', o, nd⟩ := I.own j .dp _ hj hd
  rw [hv] at hv'; cases hv'
  obtain ⟨w, f1, f, f2, e1, e2, e3, e4⟩ := o.path g
  have := e2.fn ha
  subst this
  exact ⟨f1, f, f2, nd, e1, e3, e4⟩
theorem step_ix {H G2 : Hp} {c k : D} {s : Stp} {v' kv : V} {fq : List Addr} {d' : D} {Q : VK} (s2 : Sub G2 H) (rc : RepO H c v' fq) (rk : Rep G2 k kv) (es : stpOf c k = some s) (eg : getS c s = some d') (qq : ∀ w, StpV H v' s w → Q w H) : rIxAny X.K v' kv H Q := by
  obtain ⟨w, f1, f, f2, e1, e2, e3, e4⟩ := rc.step eg
  have q := qq w e2
  obtain ⟨a, ea, e2⟩ := e2
  clear e3 e4
  cases c with
  | lst ds =>
    cases k with
    | int i =>
      simp only [stpOf, Option.map_eq_some_iff] at es
      obtain ⟨n, hn, rfl⟩ := es
      obtain ⟨vs, hvs, gv⟩ := e2
      obtain ⟨a2, vs2, fq2, ea2, ha2, _, r⟩ := rc
      rw [ea] at ea2; cases ea2
      have : vs = vs2 := by rcases hvs with z | z <;> rw [z] at ha2 <;> cases ha2; rfl
      subst this
      have hl : vs.length = ds.length := (r.rep (G := H) ⟨fun _ _ => rfl, fun _ _ e => e⟩).length
      exact .inl ⟨a, vs, i, w, ea, rk, SqL.of ha2, by unfold L2.atI; rw [hl, hn]; exact gv, q⟩
    | _ => cases es
  | tup ds =>
    cases k with
    | int i =>
      simp only [stpOf, Option.map_eq_some_iff] at es
      obtain ⟨n, hn, rfl⟩ := es
      obtain ⟨vs, hvs, gv⟩ := e2
      obtain ⟨a2, vs2, ea2, ha2, r⟩ := rc
      rw [ea] at ea2; cases ea2
      have : vs = vs2 := by rcases hvs with z | z <;> rw [z] at ha2 <;> cases ha2; rfl
      subst this
      have hl : vs.length = ds.length := (r.rep (G := H) ⟨fun _ _ => rfl, fun _ _ e => e⟩).length
      exact .inr (.inl ⟨a, vs, i, w, ea, rk, SqT.of ha2, by unfold L2.atI; rw [hl, hn]; exact gv, q⟩)
    | _ => cases es
  | dK kvs =>
    have es : (keyD k).map Stp.kK = some s := by cases k <;> exact es
    obtain ⟨kk, hk, rfl⟩ := Option.map_eq_some_iff.mp es
    obtain ⟨ws, hws, gv⟩ := e2
    exact .inr (.inr (.inr ⟨a, w, ea, by rw [keyD_rep hk rk, ← gv]; exact DGet.k hws, q⟩))
  | dT kvs =>
    cases k with
    | tup ks =>
      simp only [stpOf, Option.map_eq_some_iff] at es
      obtain ⟨kk, hk, rfl⟩ := es
      obtain ⟨ws, hws, gv⟩ := e2
      obtain ⟨b, vs, eb, hb, rs⟩ := rk
      subst eb
      refine .inr (.inr (.inr ⟨a, w, ea, ?_, q⟩))
      rw [← gv]
      exact DGet.t hws (by rw [← keysD_rep hk rs]; exact s2 _ _ hb)
    | _ => cases es
  | _ => cases k <;> cases es
theorem dp_ix (hu : X.A.units + 1 < cLine) (hj : own.lookup j = some .dp) (d1 : DP X own j e sel) (d2 : DE X W0 e2 f) (hs : PlainIx e2) : DP X own j (.Subscript e e2 pos) (pIx j sel f) := by
  obtain ⟨t1, p1, h1⟩ := d1
  obtain ⟨t2, p2, h2⟩ := d2
  refine ⟨_, pe_ix (ix_any hu) p1 p2 hs, fun fp G0 H0 G H σ ρ Q I ⟨dd, p, es, q⟩ => ?_⟩
  unfold pIx at es
  obtain ⟨⟨dx, px⟩, e1, es⟩ := bind_ok' es
  obtain ⟨k, e2, es⟩ := bind_ok' es
  have e1 := noEx_ok e1
  have e2 := noEx_ok e2
  unfold stepTo at es
  split at es
  · rename_i c gc
    split at es
    · rename_i s ss
      split at es
      · rename_i gs
        cases es
        obtain ⟨d', eg⟩ := Option.isSome_iff_exists.mp gs
        refine h1 fp G0 H0 G H σ ρ _ I ⟨_, px, e1, fun fp' G' H' v0 v' kp I' hv ha => ?_⟩
        have hr : (ρ.set j (some dx))[j]? = some (some dx) := by
          have hl : j < ρ.length := by have := (List.getElem?_eq_some_iff.mp hv).1; have := I.len; omega
          exact List.getElem?_set_self hl
        refine h2 _ H' σ _ _ (view_ext I'.ext).s I'.view (glE_ok e2 fun G2 H2 kv ex rk => ?_)
        have I2 := I'.grow (Ext.up I'.sub ex.h)
        have ha2 := ha.up ex.h
        obtain ⟨f1, f, f2, nd, ef, o, _⟩ := I2.place hj hr hv ha2 gc
        exact step_ix ex.s o rk ss eg fun w hw => q fp' G' H2 v0 w (kp.up ex.h) I2 hv (ha2.snoc hw)
      · cases es
    · cases es
  · cases es
end
end DL
namespace DL
open PySem PySem.Spec PyProof.Rows L2
mutual
theorem RepO.imm_nil {H : Hp} : ∀ {d : D} {v : V} {fp : List Addr}, imm d = true → RepO H d v fp → fp = []
  | .non, _, _, _, h => h.2
  | .bl _, _, _, _, h => h.2
  | .int _, _, _, _, h => h.2
  | .str _, _, _, _, h => h.2
  | .tup ds, _, _, i, ⟨a, vs, e, h, r⟩ => RepOs.imm_nil (by simpa [DL.imm] using i) r
  | .lst ds, _, _, i, _ => by simp [DL.imm] at i
  | .dK kvs, _, _, i, _ => by simp [DL.imm] at i
  | .dT kvs, _, _, i, _ => by simp [DL.imm] at i
  | .obj C fs, _, _, i, _ => by simp [DL.imm] at i
  | .dN _ _, _, _, i, _ => by simp [DL.imm] at i
theorem RepOs.imm_nil {H : Hp} : ∀ {ds : List D} {vs : List V} {fp : List Addr}, imms ds = true → RepOs H ds vs fp → fp = []
  | [], _, _, _, h => h.2
  | d :: r, _, _, i, ⟨v, s, f1, f2, e, ef, h, q⟩ => by
    have j : imm d = true ∧ imms r = true := by simpa [imms] using i
    rw [ef, RepO.imm_nil j.1 h, RepOs.imm_nil j.2 q]; rfl
end
section
variable {X : Cx} {J : Jd} {own own1 : Owns} {j : Nat} {e e2 e3 o : Expr} {sel : Sel} {f f3 : Env → Res D} {pos apos cpos : Pos}
theorem hasJ {fp} {G0 H0 G H : Hp} {σ : L2.St} {ρ : Env} {v0 : V} {x : D} (I : SIf fp G0 H0 own G H σ (ρ.set j (some x))) (hv : σ[j]? = some (some v0)) : (ρ.set j (some x))[j]? = some (some x) := by
  have hl : j < ρ.length := by have := (List.getElem?_eq_some_iff.mp hv).1; have := I.len; simp at this; omega
  exact List.getElem?_set_self hl
def pApp (j : Nat) (ρ : Env) (d1 : D) (p : List Stp) (d : D) : Out := match getP d1 p with
  | some (.lst ds) => if ds.length < sizeLine then .nx (ρ.set j (some (setP d1 p (.lst (ds ++ [d]))))) else .no
  | _ => .no
def isLstP (d1 : D) (p : List Stp) : Bool := match getP d1 p with
  | some (.lst _) => true
  | _ => false
def atSel (r : Res (D × List Stp)) (k : D → List Stp → Out) : Out := match r with
  | .ok (d1, p) => k d1 p
  | _ => .no
def sPAppI (j : Nat) (sel : Sel) (f : Env → Res D) : DSem := fun ρ => atSel (sel ρ) fun d1 p => if isLstP d1 p = true then andThen (f (ρ.set j (some d1))) (ρ.set j (some d1)) fun d => if imm d = true then pApp j (ρ.set j (some d1)) d1 p d else .no else .no
theorem lst_at {fp} {G0 H0 G H : Hp} {σ : L2.St} {ρ : Env} {v0 v' : V} {d1 : D} {p : List Stp} (I : SIf fp G0 H0 own G H σ (ρ.set j (some d1))) (hj : own.lookup j = some .dp) (hv : σ[j]? = some (some v0)) (ha : AtV H v0 p v') (hl : isLstP d1 p = true) : tyV X.K "list" v' H := by
  unfold isLstP at hl
  split at hl
  · rename_i ds g
    obtain ⟨_, _, _, _, _, o, _⟩ := I.place hj (hasJ I hv) hv ha g
    obtain ⟨a, vs, fq, ea, hH, _, _⟩ := o
    subst ea
    exact .inl ⟨rfl, vs, SqL.of hH⟩
  · cases hl
theorem papp_end {fp} {G0 H0 G H : Hp} {σ : L2.St} {ρ : Env} {Dn : Ends} {v0 v' y : V} {d1 d : D} {p : List Stp} {fd : List Addr} (I : SIf fp G0 H0 own G H σ (ρ.set j (some d1))) (hj : own.lookup j = some .dp) (hv : σ[j]? = some (some v0)) (ha : AtV H v0 p v')
    (od : RepO H d y fd) (nd : fd.Nodup) (hf : ∀ q ∈ fd, G q = none ∧ H0 q = none ∧ ∀ i, q ∉ fp i) (h : GS X.mg J G0 H0 own Dn (pApp j (ρ.set j (some d1)) d1 p d)) : rAppend v' [y] H (fun _ H' => Dn.nx σ H') := by
  unfold pApp at h
  split at h
  · rename_i ds g
    split at h
    · rename_i hz
      obtain ⟨f1, fc, f2, ndj, ef, oc, upd'⟩ := I.place hj (hasJ I hv) hv ha g
      obtain ⟨a, vs, fq, ea, hH, efc, r⟩ := oc
      subst ea efc
      have hl : vs.length = ds.length := (r.rep (G := H) ⟨fun _ _ => rfl, fun _ _ e => e⟩).length
      have ndc : (a :: fq).Nodup := (List.nodup_append.mp (List.nodup_append.mp (ef ▸ ndj)).2.1).1
      have na : a ∉ fq := (List.nodup_cons.mp ndc).1
      have inc : ∀ q ∈ a :: fq, q ∈ fp j := fun q hq => by rw [ef]; exact List.mem_append_right _ (List.mem_append_left _ hq)
      have nfd : a ∉ fd := fun z => (hf a z).2.2 j (inc a List.mem_cons_self)
      have at1 : ∀ {fz : List Addr}, a ∉ fz → At H (upd H a (.lst (vs ++ [y]))) fz := fun hz => ⟨fun q hq => upd_ne fun z => hz (z ▸ hq), fun b ws e => by rw [upd_ne (ne_of e hH (by intro z; cases z))]; exact e⟩
      have oc' : RepO (upd H a (.lst (vs ++ [y]))) (.lst (ds ++ [d])) (.ref a) (a :: (fq ++ fd)) := ⟨a, _, fq ++ fd, rfl, upd_same, rfl, (r.at (at1 na)).append ⟨y, [], fd, [], rfl, by simp, od.at (at1 nfd), rfl, rfl⟩⟩
      have W := I.pathWriteS (H' := upd H a (.lst (vs ++ [y]))) hj hv ndj ef upd' oc' (List.nodup_cons.mpr ⟨fun z => (List.mem_append.mp z).elim na nfd, List.nodup_append.mpr ⟨(List.nodup_cons.mp ndc).2, nd, fun x hx z hz e => (hf z hz).2.2 j (inc z (by rw [← e]; exact List.mem_cons_of_mem _ hx))⟩⟩)
        (fun q hq => by
          rcases List.mem_cons.mp hq with z | hq
          · exact .inl (by rw [z]; exact List.mem_cons_self)
          · rcases List.mem_append.mp hq with hq | hq
            · exact .inl (List.mem_cons_of_mem _ hq)
            · exact .inr (hf q hq)) (fun b hb => .inl (upd_ne fun z => hb (by rw [z]; exact List.mem_cons_self)))
      exact ⟨a, vs, y, rfl, rfl, hH, by rw [hl]; exact hz, h G _ σ W⟩
    · exact h.elim
  · exact h.elim
theorem ds_pappI (hj : own.lookup j = some .dp) (dp : DP X own j o sel) (d : DE X J.W e f) (hbase : attributeBase o "append" X.env (eval o X.env) = eval o X.env := by rfl)
    (hfew : ((backTo cpos (starEach (e :: []) X.env)).all (fun x => !x.1) && (backToKw cpos (keywordEach [] X.env)).all (fun x => x.1.isSome)
      && decide ((e :: ([] : List Expr)).length + ([] : List Keyword).length + (if ([] : List Keyword).isEmpty then 0 else 1) < 30)) = true := by rfl)
    (hline : (apos.endLine == cpos.line) = true := by rfl) (hs1 : starEach (e :: []) X.env = (false, eval e X.env) :: starEach [] X.env := by rfl) (hplain : (backTo cpos (starEach [] X.env)).any (·.1) = false := by rfl)
    (hs : swapsWith (.Call (.Attribute o "append" apos) [e] [] cpos) none pos.line X.env = pure false := by rfl) (hx : oxSub J.ox own = true := by rfl) : DS X J own own (.Expr (.Call (.Attribute o "append" apos) [e] [] cpos) pos) (sPAppI j sel f) := by
  obtain ⟨t1, p1, h1⟩ := dp
  obtain ⟨t, p, h2⟩ := d
  refine ⟨_, ps_expr (pe_bm PySem.F.plainAttrs_list PySem.F.slot_list_append PySem.F.type_list_append mt_append p1 (pa_cons p pa_nil hs1) hbase hfew hline hs1 hplain) hs, fun G0 H0 G H σ ρ Dn ⟨fp, I⟩ h => ?_⟩
  unfold sPAppI atSel at h
  split at h <;> (try simp only at h)
  · rename_i d1 pp es
    split at h
    · rename_i hl
      refine h1 fp G0 H0 G H σ ρ _ I ⟨d1, pp, es, fun fp' G' H' v0 v' kp I' hv ha => ⟨lst_at I' hj hv ha hl, ?_⟩⟩
      refine onView hx h2 I' h fun d hk G2 H2 y ex I2 _ ry => ?_
      split at hk
      · rename_i hi
        have I2' := I'.grow (Ext.up I'.sub ex.h)
        exact papp_end I2 hj hv (ha.up ex.h) (RepO.of_imm hi ((ry hi).le (Le.of I2.sub))) List.nodup_nil (fun q hq => by cases hq) hk
      · exact hk.elim
    · exact h.elim
  · exact h.elim
end
end DL
namespace DL
end DL
namespace DL
end DL
namespace DL
open PySem PySem.Spec PyProof.Rows L2
def g_neg : D → Res D
  | .int i => .ok (.int (-i))
  | _ => .no
instance (i j : Int) : Decidable (CPow i j) := inferInstanceAs (Decidable (_ ∧ _ ∧ _))
def g_pow : D → D → Res D
  | .int i, .int j => if CPow i j then .ok (.int (i ^ j.toNat)) else .no
  | _, _ => .no
instance (i j : Int) : Decidable (CMulW i j) := inferInstanceAs (Decidable (_ < _))
section
variable {X : Cx} {W : WX} {e : Expr} {f : Env → Res D} {pos : Pos}
theorem de_neg (d : DE X W e f) : DE X W (.UnaryOp .USub e pos) (v1 g_neg f) := by
  obtain ⟨t1, p1, h1⟩ := d
  refine ⟨_, pe_un un_neg p1, fun G H σ ρ Q s e h => ?_⟩
  refine h1 G H σ ρ _ s e (Gl.imp (fun x G1 H1 _ e1 k v rv => ?_) (Gl.bind h))
  cases x with
  | int i => exact ⟨i, rv, Gl.int e1.s k⟩
  | _ => exact k.elim
theorem say_pow : Say2 X W (rI CPow fun i j => .int (i ^ j.toNat)) g_pow := by
  intro G H σ Q x y a b s r1 r2 h
  cases x with
  | int i =>
    cases y with
    | int j =>
      simp only [g_pow] at h
      split at h
      · rename_i z; exact ⟨i, j, r1, r2, z, h.int s⟩
      · exact h.elim
    | _ => exact h.elim
  | _ => exact h.elim
end
end DL
namespace DL
open PySem PySem.Spec PyProof.Rows L2
section
variable {X : Cx} {i : Nat} {a D0 : Addr} {oe : Obj} {pn : List (Addr × Obj)} {pos : Pos}
def DSp (X : Cx) (J : Jd) (own own' : Owns) (i : Nat) (a : Addr) (st : List Stmt) (F : DSem) : Prop :=
  ∃ t : TS, PSs X st t ∧ ∀ (G0 H0 G H : Hp) (σ : L2.St) (ρ : Env) (Dn : Ends), SI G0 H0 own G H σ ρ → σ[i]? = some (some (.ref a)) → GS X.mg J G0 H0 own' Dn (F ρ) → t Dn σ H
end
end DL
namespace DL
end DL
namespace DL
end DL
namespace DL
open PySem PySem.Spec PyProof.Rows L2
def vChain (g g' : D → D → Res D) (f1 f2 f3 : Env → Res D) : Env → Res D := fun ρ => f1 ρ >>= fun x => f2 ρ >>= fun y => g x y >>= fun z => bOf z >>= fun k => if k = true then f3 ρ >>= fun w => g' y w else .ok (.bl false)
section
variable {X : Cx} {W : WX} {e1 e2 e3 : Expr} {f1 f2 f3 : Env → Res D} {pos : Pos} {op op' : CmpOp} {p p' : Int → Int → Bool}
theorem chain_reads {t1 t2 t3 : TE} (h1 : ∀ (G H : Hp) (σ : L2.St) (ρ : Env) (Q : VK), Sub G H → EnvR G σ ρ → GlE X.mg W G H σ Q (f1 ρ) → t1 σ H Q) (h2 : ∀ (G H : Hp) (σ : L2.St) (ρ : Env) (Q : VK), Sub G H → EnvR G σ ρ → GlE X.mg W G H σ Q (f2 ρ) → t2 σ H Q)
    (h3 : ∀ (G H : Hp) (σ : L2.St) (ρ : Env) (Q : VK), Sub G H → EnvR G σ ρ → GlE X.mg W G H σ Q (f3 ρ) → t3 σ H Q) (G H : Hp) (σ : L2.St) (ρ : Env) (Q : VK) (s : Sub G H) (e : EnvR G σ ρ) (h : GlE X.mg W G H σ Q (vChain (gI p) (gI p') f1 f2 f3 ρ)) :
    tChain (rI0 fun i j => .bl (p i j)) (rI0 fun i j => .bl (p' i j)) t1 t2 t3 σ H Q := by
  refine h1 G H σ ρ _ s e (Gl.imp (fun x G1 H1 _ e1 k v rv => ?_) (Gl.bind h))
  refine h2 G1 H1 σ ρ _ e1.s (e.le e1.le) (Gl.imp (fun y G2 H2 _ e2 k w rw => ?_) (Gl.bind k))
  refine say_I (X := X) (W := W) G2 H2 σ _ x y v w e2.s (rv.le e2.le) rw (Gl.imp (fun z G3 H3 _ e3 k u ru => ?_) (Gl.bind k))
  cases z with
  | bl b =>
    refine ⟨b, ru, ?_⟩
    cases b with
    | false => exact k G3 H3 (Ext.refl e3.s) _ rfl
    | true =>
      have k2 : GlE X.mg W G3 H3 σ Q (f3 ρ >>= fun w => gI p' y w) := k
      refine h3 G3 H3 σ ρ _ e3.s ((e.le (e1.trans e2).le).le e3.le) (Gl.imp (fun c G4 H4 _ e4 k t rt => ?_) (Gl.bind k2))
      exact say_I (X := X) (W := W) G4 H4 σ Q y c w t e4.s ((rw.le e3.le).le e4.le) rt k
  | _ => exact k.elim
theorem de_chain (ho : OpR X (compareOp op) (rI0 fun i j => .bl (p i j))) (ho' : OpR X (compareOp op') (rI0 fun i j => .bl (p' i j))) (d1 : DE X W e1 f1) (d2 : DE X W e2 f2) (d3 : DE X W e3 f3) (hm : lastMarks [op, op'] [e2, e3] = false := by with_unfolding_all rfl) :
    DE X W (.Compare e1 [op, op'] [e2, e3] pos) (vChain (gI p) (gI p') f1 f2 f3) := by
  obtain ⟨t1, p1, h1⟩ := d1
  obtain ⟨t2, p2, h2⟩ := d2
  obtain ⟨t3, p3, h3⟩ := d3
  exact ⟨_, pe_chain ho ho' p1 p2 p3 hm, chain_reads h1 h2 h3⟩
theorem dt_chain (ho : OpR X (compareOp op) (rI0 fun i j => .bl (p i j))) (ho' : OpR X (compareOp op') (rI0 fun i j => .bl (p' i j))) (d1 : DE X W e1 f1) (d2 : DE X W e2 f2) (d3 : DE X W e3 f3) (hm : lastMarks [op, op'] [e2, e3] = false := by with_unfolding_all rfl) :
    DT X W (.Compare e1 [op, op'] [e2, e3] pos) (vB (vChain (gI p) (gI p') f1 f2 f3)) := by
  obtain ⟨t1, p1, h1⟩ := d1
  obtain ⟨t2, p2, h2⟩ := d2
  obtain ⟨t3, p3, h3⟩ := d3
  refine ⟨_, pt_chain ho ho' p1 p2 p3 hm, fun G H σ ρ Q s e h => ?_⟩
  refine chain_reads h1 h2 h3 G H σ ρ _ s e (Gl.imp (fun x G1 H1 _ e1 k v rv => ?_) (Gl.bind h))
  cases x with
  | bl b => exact ⟨b, rv, k G1 H1 (Ext.refl e1.s)⟩
  | _ => exact k.elim
end
end DL
namespace DL
open PySem PySem.Spec PyProof.Rows L2
def zipR : D → D → Res (List D)
  | .lst xs, .lst ys => .ok (zipD xs ys)
  | .tup xs, .tup ys => .ok (zipD xs ys)
  | _, _ => .no
def iZip2 (f g : Env → Res D) : Env → Res (List D) := fun ρ => f ρ >>= fun x => g ρ >>= fun y => zipR x y
section
variable {K : PySem.W.Frag} {G : Hp} {a : Addr} {vs : List V} {ds : List D}
theorem itd_zipT {b : Addr} {ws : List V} {es : List D} (h : G a = some (.tup vs)) (r : Reps G ds vs) (hb : G b = some (.tup ws)) (rb : Reps G es ws) : ItD (RZ.ItzT K a b) G (zipD ds es) := by
  intro G2 H2 i g sb
  have h2 := sb.sqT (K := K) (g _ _ h)
  have hb2 := sb.sqT (K := K) (g _ _ hb)
  have r2 := r.le (Le.of g)
  have rb2 := rb.le (Le.of g)
  refine ⟨fun d e => ?_, fun e => ⟨vs, ws, h2, hb2, by rw [r.length, rb.length]; rw [zipD_len] at e; omega⟩⟩
  obtain ⟨x, x', e1, e1', rfl⟩ := zipD_get e
  obtain ⟨v, e2, rv⟩ := r2.get e1
  obtain ⟨v', e2', rv'⟩ := rb2.get e1'
  refine ⟨⟨vs, ws, v, v', h2, hb2, e2, e2'⟩, fun w H' y => ?_⟩
  obtain ⟨T, z, z', rfl, nT, rfl, y, y'⟩ := y
  have y := y vs h2
  rw [e2] at y; cases y
  have y' := y' ws hb2
  rw [e2'] at y'; cases y'
  have ex : Ext G2 H2 (upd G2 T (.tup [v, v'])) (upd H2 T (.tup [v, v'])) := Ext.new sb nT
  exact ⟨_, ex, T, _, rfl, upd_same, v, [v'], rfl, rv.le ex.le, v', [], rfl, rv'.le ex.le, rfl⟩
end
section
variable {X : Cx} {W : WX} {e e2 : Expr} {f g : Env → Res D} {p pos : Pos}
theorem di_zip2 {elts : List Expr} {kk : Nat} {tpos : Pos} (hg : L2.Gl X "zip") (hm : X.mg "zip" = none) (d : DE X W e f) (d2 : DE X W e2 g) (hs : starEach [e, e2] X.env = (false, eval e X.env) :: starEach [e2] X.env := by rfl) (hs2 : starEach [e2] X.env = (false, eval e2 X.env) :: starEach [] X.env := by rfl)
    (hpl : (backTo pos (starEach [e2] X.env)).any (·.1) = false := by rfl) : DI X W (.Tuple elts kk tpos) (.Call (.Name "zip" p) [e, e2] [] pos) (iZip2 f g) := by
  obtain ⟨t, pe, h1⟩ := d
  obtain ⟨t2, pe2, h2⟩ := d2
  refine ⟨_, RZ.pi_zipA hg hm (pa_cons pe (pa_cons pe2 pa_nil hs2) hs) hs hpl, fun G H σ ρ R s e h => ?_⟩
  refine h1 G H σ ρ _ s e (Gl.imp (fun x G1 H1 _ e1 k v rv => ?_) (Gl.bind h))
  refine h2 G1 H1 σ ρ _ e1.s (e.le e1.le) (Gl.imp (fun y G2 H2 _ e2 k w rw' => ?_) (Gl.bind k))
  cases x with
  | lst xs =>
    cases y with
    | lst ys =>
      obtain ⟨a, vs, rfl, ha, ra⟩ := rv.le e2.le
      obtain ⟨b, ws, rfl, hb, rb⟩ := rw'
      exact ⟨a, b, vs, ws, rfl, .inl ⟨e2.s.sqL ha, e2.s.sqL hb, k G2 H2 (Ext.refl e2.s) _ (itd_zip ha ra hb rb)⟩⟩
    | _ => exact k.elim
  | tup xs =>
    cases y with
    | tup ys =>
      obtain ⟨a, vs, rfl, ha, ra⟩ := rv.le e2.le
      obtain ⟨b, ws, rfl, hb, rb⟩ := rw'
      exact ⟨a, b, vs, ws, rfl, .inr ⟨e2.s.sqT ha, e2.s.sqT hb, k G2 H2 (Ext.refl e2.s) _ (itd_zipT ha ra hb rb)⟩⟩
    | _ => exact k.elim
  | _ => exact k.elim
end
end DL
namespace DL
open PySem PySem.Spec PyProof.Rows L2
def rdF (mg : Str → Option Value) (W : WX) (k : Kd) (f : Env → Res D) : TE := fun σ H Q => ∃ G ρ, Sub G H ∧ EnvR G σ ρ ∧ GlF mg W k G H σ Q (f ρ)
theorem DF.pe {X : Cx} {W : WX} {k : Kd} {e : Expr} {f : Env → Res D} (d : DF X W k e f) : PE X e (rdF X.mg W k f) := by
  obtain ⟨t, p, h⟩ := d
  exact ⟨fun pins s σ H Q I ⟨G, ρ, sb, er, g⟩ => p.run pins s σ H Q I (h G H σ ρ Q sb er g)⟩
theorem lc_runF {X : Cx} {W : WX} {is vs : List Nat} {ks : D → Res (List D)} {ft : Env → Res Bool} {fe : Env → Res D} {G1 H1 : Hp} {σ : L2.St} {ρ : Env} {Q : VK} {J : It} {ds ys : List D} {Da : Addr}
    (hv : ∀ i ∈ is, i ∈ vs) (er : EnvR G1 σ ρ) (sb : Sub G1 H1) (hJ : ItD J G1 ds) (nDa : H1 Da = none) (hl : compL is ks ft fe (wipeE ρ vs) ds = .ok ys) (hz : ys.length ≤ sizeLine)
    (hQ : ∀ G' H' acc fj, Ext G1 H1 G' H' → G' Da = none → H' Da = some (.lst acc) → RepOs H' ys acc fj → fj.Nodup → (∀ p ∈ fj, G' p = none ∧ H1 p = none) → Da ∉ fj → Q (.ref Da) H') :
    ∃ W : Nat → Nat → Hp → Prop, (∃ m, W 0 m (upd H1 Da (.lst []))) ∧ ∀ i m H, W i m H →
      (J.stop i H ∧ Q (.ref Da) H) ∨ (J.go i H ∧ ∃ Nx : Hp → Prop, (∀ H', Nx H' → ∃ m', m' < m ∧ W (i + 1) m' H') ∧ ∀ x H', J.yld i H x H' → rdG is ks x (wipe σ vs) H' fun σ2 H2 => wipe σ2 vs = wipe σ vs ∧ rdT X.mg W0 ft σ2 H2 fun b H3 =>
        if b = true then rdF X.mg W0 .dp fe σ2 H3 fun y H4 => ∃ acc, H4 Da = some (.lst acc) ∧ acc.length < sizeLine ∧ Nx (upd H4 Da (.lst (acc ++ [y]))) else Nx H3) := by
  let Iv : Nat → Hp → Prop := fun i H => ∃ G acc accD rest fj, Ext G1 H1 G H ∧ G Da = none ∧ H Da = some (.lst acc) ∧ RepOs H accD acc fj ∧ (fj.Nodup ∧ (∀ p ∈ fj, G p = none ∧ H1 p = none) ∧ Da ∉ fj) ∧ compL is ks ft fe (wipeE ρ vs) (ds.drop i) = .ok rest ∧ accD ++ rest = ys ∧ i ≤ ds.length
  refine ⟨fun i m H => m = ds.length - i ∧ Iv i H, ⟨ds.length, by simp, G1, [], [], ys, [], Ext.hid sb nDa, ?_, upd_same, ⟨rfl, rfl⟩, ⟨List.nodup_nil, fun p hp => (by cases hp), by simp⟩, hl, rfl, Nat.zero_le _⟩, ?_⟩
  · cases q : G1 Da with
    | none => rfl
    | some o => rw [sb _ _ q] at nDa; cases nDa
  rintro i m H ⟨rfl, G, acc, accD, rest, fj, ex, gD, hD, ra, ⟨nd, nw, nDf⟩, hc, hy, hi⟩
  by_cases hlt : i < ds.length
  · refine .inr ?_
    have hd : ds.drop i = ds[i] :: ds.drop (i + 1) := List.drop_eq_getElem_cons hlt
    rw [hd] at hc
    obtain ⟨l, e1, hc⟩ := bind_ok' hc
    obtain ⟨b, e2, hc⟩ := bind_ok' hc
    have e2 := noEx_ok e2
    obtain ⟨go, yl⟩ := (hJ G H i ex.g ex.s).1 ds[i] (by simp [hlt])
    refine ⟨go, Iv (i + 1), fun H' iv => ⟨ds.length - (i + 1), by omega, rfl, iv⟩, fun x H2 y => ?_⟩
    obtain ⟨G2, ex2, rx⟩ := yl x H2 y
    have hD2 : H2 Da = some (.lst acc) := ex2.h _ _ hD
    refine ⟨G2, ds[i], l, ex2.s, rx, e1, fun ws rws nws => ⟨by rw [wipe_sets hv, wipe_wipe], ?_⟩⟩
    have er2 : EnvR G2 (setS (wipe σ vs) is ws) (setE (wipeE ρ vs) is l) := (((er.le ex.le).le ex2.le).wipe vs).sets rws
    refine ⟨G2, _, ex2.s, er2, ?_⟩
    rw [e2]
    intro G3 H3 ex3
    have hD3 : H3 Da = some (.lst acc) := ex3.h _ _ hD2
    have exA : Ext G H G3 H3 := ex2.trans ex3
    have mu : ∀ p ∈ fj, Mut (H p) := ra.mut
    have nD : ∀ {G4 H4 : Hp}, Ext G H G4 H4 → G4 Da = none := fun {G4 H4} e4 => e4.mutn gD (by rw [hD]; trivial)
    cases b with
    | false =>
      show ite _ _ _
      rw [if_neg Bool.false_ne_true]
      exact ⟨G3, acc, accD, rest, fj, ex.trans exA, nD exA, hD3, ra.at (exA.at mu), ⟨nd, fun p hp => ⟨exA.mutn (nw p hp).1 (mu p hp), (nw p hp).2⟩, nDf⟩, hc, hy, hlt⟩
    | true =>
      show ite _ _ _
      rw [if_pos rfl] at hc ⊢
      obtain ⟨y, e3, hc⟩ := bind_ok' hc
      have e3 := noEx_ok e3
      obtain ⟨ys', e4, hc⟩ := bind_ok' hc
      have e5 : y :: ys' = rest := by simpa using hc
      subst e5
      refine ⟨G3, _, ex3.s, er2.le ex3.le, ?_⟩
      rw [e3]
      intro G4 H4 ex4 v fv ov hnv
      have exB : Ext G H G4 H4 := exA.trans ex4
      have hD4 : H4 Da = some (.lst acc) := ex4.h _ _ hD3
      have dv : Da ∉ fv := fun z => by have := (hnv Da z).2; rw [hD3] at this; cases this
      have dA : Da ∉ fj ++ fv := fun z => by
        rcases List.mem_append.mp z with z | z
        · exact nDf z
        · exact dv z
      have at2 : At H4 (upd H4 Da (.lst (acc ++ [v]))) (fj ++ fv) := ⟨fun p hp => upd_ne fun z => dA (z ▸ hp), fun a us e => by
        rw [upd_ne]; exact e
        intro z; subst z; rw [hD4] at e; cases e⟩
      have r4 : RepOs H4 accD acc fj := ra.at (exB.at mu)
      have all4 : RepOs H4 (accD ++ [y]) (acc ++ [v]) (fj ++ fv) := by
        have := RepOs.append r4 (es := [y]) (ws := [v]) (g := fv ++ []) ⟨v, [], fv, [], rfl, rfl, ov.1, rfl, rfl⟩
        simpa using this
      refine ⟨acc, hD4, ?_, G4, acc ++ [v], accD ++ [y], ys', fj ++ fv, ?_, nD exB, upd_same, all4.at at2, ⟨?_, fun p hp => ?_, dA⟩, e4, by simpa using hy, hlt⟩
      · have h1 : acc.length = accD.length := (ra.rep (G := H) ⟨fun _ _ => rfl, fun _ _ e => e⟩).length
        have h2 : ys.length = accD.length + (ys'.length + 1) := by rw [← hy]; simp
        omega
      · have exC := ex.trans exB
        refine ⟨fun a o q => ?_, exC.g, fun a o q => ?_, exC.n⟩
        · rw [upd_ne (ne_of_none q nDa)]; exact exC.h a o q
        · have : a ≠ Da := fun z => by subst z; rw [nD exB] at q; cases q
          rw [upd_ne this]; exact exC.s a o q
      · refine List.nodup_append.mpr ⟨nd, ov.2, fun a ha b hb z => ?_⟩
        subst z
        have := mut_keep exA (mu a ha)
        rw [(hnv a hb).2] at this
        exact this
      · rcases List.mem_append.mp hp with hp | hp
        · exact ⟨exB.mutn (nw p hp).1 (mu p hp), (nw p hp).2⟩
        · exact ⟨(hnv p hp).1, (ex.trans exA).free (hnv p hp).2⟩
  · refine .inl ⟨(hJ G H i ex.g ex.s).2 (by omega), ?_⟩
    have e : i = ds.length := by omega
    subst e
    rw [List.drop_length] at hc
    have e2 : [] = rest := by simpa [compL] using hc
    subst e2
    rw [List.append_nil] at hy
    subst hy
    exact hQ G H acc fj ex gD hD ra nd nw nDf
section
variable {X : Cx} {W : WX} {elt tg iter : Expr} {ifs : List Expr} {scope : Scope} {own : List (Str × Nat)} {is : List Nat} {ks : D → Res (List D)} {fi : Env → Res (List D)} {ft : Env → Res Bool} {fe : Env → Res D} {pos : Pos}
theorem lc_F {wi : TI} {vs : List Nat} (h1 : ∀ (G H : Hp) (σ : L2.St) (ρ : Env) (R : It → Hp → Prop), Sub G H → EnvR G σ ρ → GlI X.mg W G H σ R (fi ρ) → wi σ H R) (hv : ∀ i ∈ is, i ∈ vs)
    (G H : Hp) (σ : L2.St) (ρ : Env) (Q : VK) (s : Sub G H) (e : EnvR G σ ρ) (h : GlF X.mg W .dp G H σ Q (vLstOf (nComp fi is ks ft fe vs) ρ)) : tLc wi (rdG is ks) (rdT X.mg W0 ft) (rdF X.mg W0 .dp fe) vs σ H Q := by
  refine h1 G H σ ρ _ s e ?_
  unfold vLstOf nComp at h
  cases q : fi ρ with
  | ok ds =>
    rw [q] at h
    simp only [Res.bind_ok] at h
    intro G1 H1 e1 J hJ Da nDa
    cases q2 : compL is ks ft fe (wipeE ρ vs) ds with
    | ok ys =>
      rw [q2] at h
      simp only [noEx, Res.bind_ok] at h
      split at h
      · rename_i hz
        exact lc_runF (W := W) hv (e.le e1.le) e1.s hJ nDa q2 hz fun G2 H2 acc fj e2 gD hD r nd nw nDf => h G2 H2 (e1.trans e2) (.ref Da) (Da :: fj) ⟨⟨Da, acc, fj, rfl, hD, rfl, r⟩, List.nodup_cons.mpr ⟨nDf, nd⟩⟩ fun p hp => by
          rcases List.mem_cons.mp hp with z | hp
          · subst z; exact ⟨gD, e1.free nDa⟩
          · exact ⟨(nw p hp).1, e1.free (nw p hp).2⟩
      · exact h.elim
    | ex c => rw [q2] at h; exact h.elim
    | no => rw [q2] at h; exact h.elim
  | ex c => rw [q] at h; exact h
  | no => rw [q] at h; exact h
theorem af_comp {i : Nat} {y : Str} {py spos : Pos} (hc : X.calm = true) (hN : X.N.Nodup) (hy : X.N[i]? = some y) (hyl : X.env.scope.names.lookup y = some .local)
    (hsw : swapsWith (.ListComp elt [⟨tg, iter, ifs, 0⟩] scope pos) (some (.Name y py)) spos.line X.env = pure true) (di : DI X W tg iter fi) (ok : BlkOk X.N X.env.scope scope own)
    (dg : ∀ (s : Shared) (H : Hp) (C : Addr) (cl : List (Str × Addr)) (fp : List Addr), DG (X.blk s H scope (compEnvC scope cl C X.env) fp) tg is ks)
    (dt : ∀ (s : Shared) (H : Hp) (C : Addr) (cl : List (Str × Addr)) (fp : List Addr), DTs (X.blk s H scope (compEnvC scope cl C X.env) fp) W0 ifs ft)
    (de : ∀ (s : Shared) (H : Hp) (C : Addr) (cl : List (Str × Addr)) (fp : List Addr), DF (X.blk s H scope (compEnvC scope cl C X.env) fp) W0 .dp elt fe)
    (hv : ∀ i ∈ is, i ∈ own.map (·.2)) (hs : ∀ x, foldedSetIterable iter X.env x = pure x := by intro _; rfl) : AF X W .dp (.Assign [.Name y py] (.ListComp elt [⟨tg, iter, ifs, 0⟩] scope pos) spos) i (vLstOf (nComp fi is ks ft fe (own.map (·.2)))) := by
  obtain ⟨wi, pi, h1⟩ := di
  exact ⟨_, ps_setLc (te := rdF X.mg W0 .dp fe) (tt := rdT X.mg W0 ft) (g := rdG is ks) hc hN hy hyl hsw pi ok (fun s H C cl fp => (dg s H C cl fp).pg) (fun s H C cl fp => (dt s H C cl fp).pts) (fun s H C cl fp => (de s H C cl fp).pe) hs, lc_F h1 hv⟩
end
end DL
namespace DL
end DL
namespace DL
open PySem PySem.Spec PyProof.Rows L2
def Le2 (G G' : Hp) : Prop := (∀ a u, (∀ o w, u ≠ .frz o w) → Rd G a u → Rd G' a u) ∧ (∀ a vs, G a = some (.tup vs) → G' a = some (.tup vs)) ∧ ∀ a C dx ws, G a = some (.ins C dx ws) → G' a = some (.ins C dx ws)
mutual
theorem Rep.le2 {G G' : Hp} (l : Le2 G G') : ∀ {d : D} {v : V}, Rep G d v → Rep G' d v
  | .non, _, h => h
  | .bl _, _, h => h
  | .int _, _, h => h
  | .str _, _, h => h
  | .tup ds, _, ⟨a, vs, e, h, r⟩ => ⟨a, vs, e, l.2.1 _ _ h, Reps.le2 l r⟩
  | .lst ds, _, ⟨a, vs, e, h, r⟩ => ⟨a, vs, e, l.1 _ _ (fun _ _ z => nomatch z) h, Reps.le2 l r⟩
  | .dK kvs, _, ⟨a, vs, e, h, r⟩ => ⟨a, vs, e, l.1 _ _ (fun _ _ z => nomatch z) h, RepK.le2 l r⟩
  | .dT kvs, _, ⟨a, vs, e, h, r⟩ => ⟨a, vs, e, l.1 _ _ (fun _ _ z => nomatch z) h, RepT.le2 l r⟩
  | .obj C fs, _, ⟨a, dx, ws, e, h, r⟩ => ⟨a, dx, ws, e, l.2.2 _ _ _ _ h, RepF.le2 l r⟩
  | .dN w kvs, _, ⟨a, o, xs, e, h, dt, r⟩ => ⟨a, o, xs, e, l.1 _ _ (fun _ _ z => nomatch z) h, dt, RepN.le2 l r⟩
theorem Reps.le2 {G G' : Hp} (l : Le2 G G') : ∀ {ds : List D} {vs : List V}, Reps G ds vs → Reps G' ds vs
  | [], _, h => h
  | d :: r, _, ⟨v, s, e, h, q⟩ => ⟨v, s, e, Rep.le2 l h, Reps.le2 l q⟩
theorem RepK.le2 {G G' : Hp} (l : Le2 G G') : ∀ {ds : List (Key × D)} {vs : List (Key × V)}, RepK G ds vs → RepK G' ds vs
  | [], _, h => h
  | (k, d) :: r, _, ⟨v, s, e, h, q⟩ => ⟨v, s, e, Rep.le2 l h, RepK.le2 l q⟩
theorem RepT.le2 {G G' : Hp} (l : Le2 G G') : ∀ {ds : List (List Key × D)} {vs : List (List Key × V)}, RepT G ds vs → RepT G' ds vs
  | [], _, h => h
  | (k, d) :: r, _, ⟨v, s, e, h, q⟩ => ⟨v, s, e, Rep.le2 l h, RepT.le2 l q⟩
theorem RepF.le2 {G G' : Hp} (l : Le2 G G') : ∀ {ds : List (Str × D)} {vs : List (Str × V)}, RepF G ds vs → RepF G' ds vs
  | [], _, h => h
  | (k, d) :: r, _, ⟨v, s, e, h, q⟩ => ⟨v, s, e, Rep.le2 l h, RepF.le2 l q⟩
theorem RepN.le2 {G G' : Hp} (l : Le2 G G') : ∀ {ds : List (NestedKey × D)} {vs : List NEnt}, RepN G ds vs → RepN G' ds vs
  | [], _, h => h
  | (k, d) :: r, _, ⟨b, v, s, e, hk, h, q⟩ => ⟨b, v, s, e, hk.le l.2.1, Rep.le2 l h, RepN.le2 l q⟩
end
end DL
namespace DL
open PySem PySem.Spec PyProof.Rows L2
inductive AOut where
  | nx (ρ : Env) | rt (d : D) (ρ : Env) | no
abbrev ASem := List Stp → Env → AOut
end DL
namespace DL
end DL
namespace DL
end DL
namespace DL
end DL
namespace DL
end DL
namespace DL
end DL
namespace DL
open PySem PySem.Spec PyProof.Rows L2
def gIdx (ds : List D) (y : D) : Res D := if SeqAt.shaped (py (.lst ds)) = true ∧ SeqAt.shaped (py y) = true then (match (pys ds).findIdx? (fun z => PyData.eqv z (py y)) with | some j => .ok (.int (j : Int)) | none => .no) else .no
def ixK (g : Env → Res D) (ρ : Env) : D → Res D
  | .lst ds => g ρ >>= gIdx ds
  | _ => .no
def vIndex (f g : Env → Res D) : Env → Res D := fun ρ => f ρ >>= ixK g ρ
theorem de_index {X : Cx} {W : WX} {o e : Expr} {f g : Env → Res D} {apos cpos : Pos} (hu : X.A.units + 65 < cLine) (d1 : DE X W o f) (d2 : DE X W e g)
    (hbase : attributeBase o "index" X.env (eval o X.env) = eval o X.env := by rfl)
    (hfew : ((backTo cpos (starEach [e] X.env)).all (fun x => !x.1) && (backToKw cpos (keywordEach [] X.env)).all (fun x => x.1.isSome)
      && decide (([e] : List Expr).length + ([] : List Keyword).length + (if ([] : List Keyword).isEmpty then 0 else 1) < 30)) = true := by rfl)
    (hline : (apos.endLine == cpos.line) = true := by rfl) (hs : starEach [e] X.env = (false, eval e X.env) :: starEach [] X.env := by rfl) (hplain : (backTo cpos (starEach [] X.env)).any (·.1) = false := by rfl) :
    DE X W (.Call (.Attribute o "index" apos) [e] [] cpos) (vIndex f g) := by
  obtain ⟨t1, p1, h1⟩ := d1
  obtain ⟨t2, p2, h2⟩ := d2
  refine ⟨_, pe_bm F.plainAttrs_list F.slot_list_index F.type_list_index (mt_indexD hu) p1 (pa_cons p2 pa_nil hs) hbase hfew hline hs hplain, fun G H σ ρ Q s e h => ?_⟩
  refine h1 G H σ ρ _ s e (Gl.imp (fun x G1 H1 _ e1 k v rv => ?_) (Gl.bind h))
  cases x with
  | lst ds =>
    have rv0 := rv
    obtain ⟨a, vs, rfl, hR, q⟩ := rv
    refine ⟨.inl ⟨rfl, vs, e1.s.sqL hR⟩, ?_⟩
    · refine h2 G1 H1 σ ρ _ e1.s (e.le e1.le) (Gl.imp (fun y G2 H2 _ e2 k2 w rw' => ?_) (Gl.bind (show Gl X.mg W G1 H1 σ _ (g ρ >>= gIdx ds) from k)))
      unfold gIdx at k2
      split at k2
      · rename_i z
        split at k2
        · rename_i j hj
          obtain ⟨hlt, hp, hno⟩ := List.findIdx?_eq_some_iff_getElem.mp hj
          refine ⟨a, w, py y, pys ds, j, (pys ds)[j], rfl, rfl, dp_of (d := .lst ds) e2.s (SeqAt.canLay_of_shaped z.1) (rv0.le e2.le), dp_of e2.s (SeqAt.canLay_of_shaped z.2) rw', z.1, z.2, List.getElem?_eq_getElem hlt, hp, fun m z' hm hz' => ?_, ?_⟩
          · obtain ⟨hl2, rfl⟩ := List.getElem?_eq_some_iff.mp hz'
            simpa using hno m hm
          · exact k2 G2 H2 (Ext.refl e2.s) _ rfl
        · exact k2.elim
      · exact k2.elim
  | _ => exact k.elim
end DL
namespace DL
open PySem PySem.Spec PyProof.Rows L2
def rInT (K : PySem.W.Frag) : R2 := fun x y H Q => ∃ d ds, Dp K H x d ∧ Dp K H y (.tuple ds) ∧ SeqAt.shaped d = true ∧ SeqAt.shaped (.tuple ds) = true ∧ Q (.bl (ds.any fun z => PyData.eqv z d)) H
theorem op_inT {X : Cx} (hu : X.A.units + 65 < cLine) : OpR X (compareOp .In) (rInT X.K) := by
  intro pins s σ H x y v u Q I rx ry h
  obtain ⟨d, ds, hd, he, sd, se, q⟩ := h
  obtain ⟨as, r1⟩ := Dp.reads I d x v hd rx
  obtain ⟨bs, r2⟩ := Dp.reads I (.tuple ds) y u he ry
  exact SeqAt.in_tuple_reads r2 r1 (SeqAt.canLay_of_shaped se) (SeqAt.canLay_of_shaped sd) (room_in_shaped sd hu) ⟨.bl _, H, I, rfl, q⟩
def g_inT : D → D → Res D
  | x, .tup ys => if SeqAt.shaped (py x) = true ∧ SeqAt.shaped (py (.tup ys)) = true then .ok (.bl ((pys ys).any fun z => PyData.eqv z (py x))) else .no
  | _, _ => .no
theorem say_inT {X : Cx} {W : WX} : Say2 X W (rInT X.K) g_inT := by
  intro G H σ Q x y a b s r1 r2 h
  cases y with
  | tup ys =>
    simp only [g_inT] at h
    split at h
    · rename_i z
      have d2 : Dp X.K H b (py (.tup ys)) := dp_of s (SeqAt.canLay_of_shaped z.2) r2
      exact ⟨_, pys ys, dp_of s (SeqAt.canLay_of_shaped z.1) r1, d2, z.1, z.2, h.bl s⟩
    · exact h.elim
  | _ => exact h.elim
end DL
namespace DL
open PySem L2
def Res.thn {α β : Type} (r : Res α) (k : α → Res β) : Res β := r >>= k
section
variable {α β : Type} {k : α → Res β}
@[simp] theorem thn_ok {a : α} : Res.thn (.ok a) k = k a := rfl
@[simp] theorem thn_ex {c : Str} : Res.thn (.ex c) k = .ex c := rfl
@[simp] theorem thn_no : Res.thn .no k = .no := rfl
end
def Out.thn (o : Out) (k : DSem) : Out := match o with
  | .nx ρ => k ρ
  | o => o
section
variable {k : DSem} {ρ : Env}
@[simp] theorem othn_nx : Out.thn (.nx ρ) k = k ρ := rfl
@[simp] theorem othn_rt {d : D} : Out.thn (.rt d) k = .rt d := rfl
@[simp] theorem othn_bk : Out.thn (.bk ρ) k = .bk ρ := rfl
@[simp] theorem othn_ct : Out.thn (.ct ρ) k = .ct ρ := rfl
@[simp] theorem othn_ex {c : Str} : Out.thn (.ex c ρ) k = .ex c ρ := rfl
@[simp] theorem othn_no : Out.thn .no k = .no := rfl
end
section
variable {α : Type} {ρ : Env} {k : α → Out}
@[simp] theorem andThen_ok {a : α} : andThen (.ok a) ρ k = k a := rfl
@[simp] theorem andThen_ex {c : Str} : andThen (.ex c) ρ k = .ex c ρ := rfl
@[simp] theorem andThen_no : andThen .no ρ k = .no := rfl
end
def Out.res : Out → Res D
  | .rt d => .ok d
  | .nx _ => .ok .non
  | .ex c _ => .ex c
  | _ => .no
@[simp] theorem res_rt {d : D} : Out.res (.rt d) = .ok d := rfl
@[simp] theorem res_nx {ρ : Env} : Out.res (.nx ρ) = .ok .non := rfl
@[simp] theorem res_ex {c : Str} {ρ : Env} : Out.res (.ex c ρ) = .ex c := rfl
@[simp] theorem runF_eq (n : Nat) (F : DSem) (ds : List D) : runF n F ds = (F (startE n ds)).res := by unfold runF Out.res; rfl
section
variable {ρ : Env} {f g h : Env → Res D} {c c' : Env → Res Bool} {F G : DSem} {own : Owns} {i j n : Nat}
def getR : Option (Option D) → Res D
  | some (some d) => .ok d
  | _ => .no
@[simp] theorem getR_some {d : D} : getR (some (some d)) = .ok d := rfl
@[simp] theorem getR_none : getR none = .no := rfl
@[simp] theorem getR_none' : getR (some none) = .no := rfl
@[simp] theorem e_var : vVar i ρ = getR ρ[i]? := by unfold vVar getR; rfl
@[simp] theorem e_C {d : D} : vC d ρ = .ok d := rfl
@[simp] theorem e_v2 {o : D → D → Res D} : v2 o f g ρ = (f ρ).thn fun x => (g ρ).thn fun y => o x y := rfl
@[simp] theorem e_v1 {o : D → Res D} : v1 o f ρ = (f ρ).thn o := rfl
@[simp] theorem e_B : vB f ρ = (f ρ).thn bOf := rfl
@[simp] theorem e_aNil : aNil ρ = .ok [] := rfl
@[simp] theorem e_aCons {a : Env → Res (List D)} : aCons f a ρ = (f ρ).thn fun x => (a ρ).thn fun xs => .ok (x :: xs) := rfl
@[simp] theorem e_tup {a : Env → Res (List D)} : vTup a ρ = (a ρ).thn fun xs => if xs.length ≤ sizeLine then .ok (.tup xs) else .no := rfl
@[simp] theorem e_lstOf {a : Env → Res (List D)} : vLstOf a ρ = (a ρ).thn fun ds => .ok (.lst ds) := rfl
@[simp] theorem e_lstI {a : Env → Res (List D)} : vLstI a ρ = (a ρ).thn fun ds => if imms ds = true then .ok (.lst ds) else .no := rfl
@[simp] theorem e_nLst {a : Env → Res (List D)} : nLst a ρ = (a ρ).thn fun xs => if xs.length ≤ sizeLine then .ok xs else .no := rfl
def catR : D → D → Res (List D)
  | .lst xs, .lst ys => if xs.length + ys.length ≤ sizeLine then .ok (xs ++ ys) else .no
  | _, _ => .no
@[simp] theorem e_nCat : nCat f g ρ = (f ρ).thn fun x => (g ρ).thn fun y => catR x y := by unfold nCat Res.thn; congr 1
@[simp] theorem e_sl {lo hi : Env → Res (Option Int)} : vSl f lo hi ρ = (f ρ).thn fun x => (lo ρ).thn fun l => (hi ρ).thn fun u => g_sl x l u := rfl
@[simp] theorem e_oNone : oNone ρ = .ok none := rfl
@[simp] theorem e_oSome : oSome f ρ = (f ρ).thn iOf := rfl
@[simp] theorem e_call {o : List D → Res D} {a : Env → Res (List D)} : vCall o a ρ = (a ρ).thn o := rfl
@[simp] theorem e_callN {o : List D → Res D} {a : Env → Res (List D)} : vCallN n o a ρ = (a ρ).thn fun ds => if ds.length = n then o ds else .no := rfl
@[simp] theorem e_and : vAnd f g ρ = (f ρ).thn fun x => (bOf x).thn fun b => if b = true then g ρ else .ok (.bl false) := by unfold vAnd Res.thn; cases f ρ <;> rfl
@[simp] theorem e_or : vOr f g ρ = (f ρ).thn fun x => (bOf x).thn fun b => if b = true then .ok (.bl true) else g ρ := by unfold vOr Res.thn; cases f ρ <;> rfl
@[simp] theorem e_not : vNot f ρ = (f ρ).thn fun x => (bOf x).thn fun b => .ok (.bl (!b)) := by unfold vNot Res.thn; cases f ρ <;> rfl
@[simp] theorem e_notD : tNotD c ρ = (c ρ).thn fun b => .ok (!b) := rfl
@[simp] theorem e_andD : tAndD c c' ρ = (c ρ).thn fun b => if b = true then c' ρ else .ok false := rfl
@[simp] theorem e_orD : tOrD c c' ρ = (c ρ).thn fun b => if b = true then .ok true else c' ρ := rfl
@[simp] theorem e_true : tTrue ρ = .ok true := rfl
@[simp] theorem e_iSeq : iSeq f ρ = (f ρ).thn seqOf := rfl
def rng1 : D → Res (List D)
  | .int j => if -(2 ^ 62) ≤ j ∧ j < 2 ^ 62 then .ok (rangeD 0 j.toNat) else .no
  | _ => .no
def rng2 : D → D → Res (List D)
  | .int i, .int j => if -(2 ^ 62) ≤ i ∧ i < 2 ^ 62 ∧ -(2 ^ 62) ≤ j ∧ j < 2 ^ 62 then .ok (rangeD i (j - i).toNat) else .no
  | _, _ => .no
@[simp] theorem e_range1 : iRange1 f ρ = (f ρ).thn rng1 := by unfold iRange1 Res.thn; congr 1
@[simp] theorem e_range2 : iRange2 f g ρ = (f ρ).thn fun x => (g ρ).thn fun y => rng2 x y := by unfold iRange2 Res.thn; congr 1
@[simp] theorem e_enum : iEnumD f ρ = (f ρ).thn fun x => (lstOf x).thn fun ds => .ok (enumD ds) := by unfold iEnumD Res.thn; cases f ρ <;> rfl
@[simp] theorem e_comp {fi : Env → Res (List D)} {is vs : List Nat} {ks : D → Res (List D)} {ft : Env → Res Bool} : nComp fi is ks ft f vs ρ = (fi ρ).thn fun ds => (noEx (compL is ks ft f (wipeE ρ vs) ds)).thn fun ys => if ys.length ≤ sizeLine then .ok ys else .no := rfl
@[simp] theorem s_seq : sSeq F G ρ = (F ρ).thn G := by unfold sSeq Out.thn; rfl
@[simp] theorem s_next : sNext ρ = .nx ρ := rfl
@[simp] theorem s_asg : sAsg own j f ρ = andThen (f (maskE own ρ)) ρ fun d => .nx (ρ.set j (some d)) := rfl
@[simp] theorem s_asgI : sAsgI j f ρ = andThen (f ρ) ρ fun d => if imm d = true then .nx (ρ.set j (some d)) else .no := rfl
@[simp] theorem s_asgV : sAsgV j f ρ = andThen (f ρ) ρ fun d => .nx (ρ.set j (some d)) := rfl
@[simp] theorem s_ret : sRet f ρ = andThen (f ρ) ρ fun d => .rt d := rfl
@[simp] theorem s_drop : sDrop f ρ = andThen (f ρ) ρ fun _ => .nx ρ := rfl
def ifK (F G : DSem) (ρ : Env) (b : Bool) : Out := if b = true then F ρ else G ρ
@[simp] theorem ifK_true : ifK F G ρ true = F ρ := rfl
@[simp] theorem ifK_false : ifK F G ρ false = G ρ := rfl
@[simp] theorem s_if : sIf c F G ρ = andThen (c ρ) ρ (ifK F G ρ) := rfl
@[simp] theorem s_then {g : Env → Env} : sThen F g ρ = (F ρ).thn fun ρ' => .nx (g ρ') := by unfold sThen Out.thn; rfl
@[simp] theorem s_app : sApp own j f ρ = if isLst ρ j = true then andThen (f (maskE own ρ)) ρ fun d => appD ρ j d else .no := rfl
@[simp] theorem s_appI : sAppI j f ρ = if isLst ρ j = true then andThen (f ρ) ρ fun d => if imm d = true then appD ρ j d else .no else .no := rfl
@[simp] theorem s_setL : sSetL own j f g ρ = if hasE ρ j = true then andThen (g (maskE own ρ)) ρ fun d => andThen (f ρ) ρ fun k => setO ρ j k d else .no := rfl
@[simp] theorem s_for {fi : Env → Res (List D)} {is fg : List Nat} {ks : D → Res (List D)} : sFor own fi is ks F fg ρ = andThen (fi (maskE own ρ)) ρ fun ds => forF is ks F fg ds (forget ρ fg) := rfl
end
@[simp] theorem isLst_ok {ρ : Env} {j : Nat} {ds : List D} (h : ρ[j]? = some (some (.lst ds))) : isLst ρ j = true := by unfold isLst; rw [h]
@[simp] theorem hasE_ok {ρ : Env} {j : Nat} {d : D} (h : ρ[j]? = some (some d)) : hasE ρ j = true := by unfold hasE; rw [h]
@[simp] theorem g_add_int (i j : Int) : g_add (.int i) (.int j) = .ok (.int (i + j)) := rfl
@[simp] theorem g_sub_int (i j : Int) : g_sub (.int i) (.int j) = .ok (.int (i - j)) := rfl
theorem g_mul_int {i j : Int} (h : (-18446744073709551616 < i ∧ i < 18446744073709551616) ∨ (-18446744073709551616 < j ∧ j < 18446744073709551616)) : g_mul (.int i) (.int j) = .ok (.int (i * j)) := by
  have h : CMul i j := h
  simp [g_mul, h]
theorem g_mod_int {i j : Int} (h : 0 < j) : g_mod (.int i) (.int j) = .ok (.int (i % j)) := by simp [g_mod, h]
theorem g_fdiv_int {i j : Int} (h : 0 < j) (h2 : j < 18446744073709551616) : g_fdiv (.int i) (.int j) = .ok (.int (i / j)) := by
  have : CDivW i j := wide_div (b := 64) h (by omega) (by omega) (by omega)
  simp [g_fdiv, this]
@[simp] theorem gI_int (p : Int → Int → Bool) (i j : Int) : gI p (.int i) (.int j) = .ok (.bl (p i j)) := rfl
@[simp] theorem bOf_bl (b : Bool) : bOf (.bl b) = .ok b := rfl
@[simp] theorem iOf_int (i : Int) : iOf (.int i) = .ok (some i) := rfl
@[simp] theorem seqOf_lst (xs : List D) : seqOf (.lst xs) = .ok xs := rfl
@[simp] theorem seqOf_tup (xs : List D) : seqOf (.tup xs) = .ok xs := rfl
@[simp] theorem lstOf_lst (xs : List D) : lstOf (.lst xs) = .ok xs := rfl
@[simp] theorem c_len_lst (xs : List D) : c_len [.lst xs] = .ok (.int xs.length) := rfl
@[simp] theorem c_len_tup (xs : List D) : c_len [.tup xs] = .ok (.int xs.length) := rfl
@[simp] theorem kName_ok (d : D) : kName d = .ok [d] := rfl
@[simp] theorem g_sl_tup (xs : List D) (l u : Option Int) : g_sl (.tup xs) l u = .ok (.tup (cutA xs l u)) := rfl
@[simp] theorem g_sl_lst (xs : List D) (l u : Option Int) : g_sl (.lst xs) l u = .ok (.lst (cutA xs l u)) := rfl
@[simp] theorem maskE_nil (ρ : Env) : maskE [] ρ = ρ := rfl
end DL
namespace DL
open PySem L2
mutual
def nb : Nat → D → Bool
  | _, .non => true
  | _, .int _ => true
  | _, .str x => PyData.strOk x
  | n, .tup xs => match n with | 0 => false | n + 1 => nbs n xs
  | n, .lst xs => match n with | 0 => false | n + 1 => nbs n xs
  | _, _ => false
def nbs : Nat → List D → Bool
  | _, [] => true
  | n, x :: r => nb n x && nbs n r
end
mutual
theorem nb_lay : ∀ (x : D) (n : Nat), nb n x = true → (py x).canLay0 = true ∧ (py x).depth ≤ n
  | .non, n, _ => ⟨rfl, Nat.zero_le _⟩
  | .int _, n, _ => ⟨rfl, Nat.zero_le _⟩
  | .str x, n, h => ⟨by show PyData.strOk x = true; simpa [nb] using h, Nat.zero_le _⟩
  | .bl _, n, h => by simp [nb] at h
  | .dK _, n, h => by simp [nb] at h
  | .dT _, n, h => by simp [nb] at h
  | .obj _ _, n, h => by simp [nb] at h
  | .dN _ _, n, h => by simp [nb] at h
  | .tup xs, 0, h => by simp [nb] at h
  | .tup xs, n + 1, h => by
    have q := nbs_lay xs n (by simpa [nb] using h)
    exact ⟨by simpa [py, PyData.canLay0] using q.1, by have := q.2; simp only [py, PyData.depth]; omega⟩
  | .lst xs, 0, h => by simp [nb] at h
  | .lst xs, n + 1, h => by
    have q := nbs_lay xs n (by simpa [nb] using h)
    exact ⟨by simpa [py, PyData.canLay0] using q.1, by have := q.2; simp only [py, PyData.depth]; omega⟩
theorem nbs_lay : ∀ (xs : List D) (n : Nat), nbs n xs = true → PyData.canLayAll0 (pys xs) = true ∧ PyData.depthAll (pys xs) ≤ n
  | [], n, _ => ⟨rfl, Nat.zero_le _⟩
  | x :: r, n, h => by
    have h2 : nb n x = true ∧ nbs n r = true := by simpa [nbs] using h
    have q1 := nb_lay x n h2.1
    have q2 := nbs_lay r n h2.2
    refine ⟨by simp only [pys, PyData.canLayAll0, Bool.and_eq_true]; exact ⟨q1.1, q2.1⟩, ?_⟩
    simp only [pys, PyData.depthAll]
    omega
end
mutual
theorem nb_eqv : ∀ (x y : D) (n m : Nat), nb n x = true → nb m y = true → (PyData.eqv (py x) (py y) = true ↔ x = y)
  | .bl _, _, n, _, h, _ => by simp [nb] at h
  | .dK _, _, n, _, h, _ => by simp [nb] at h
  | .dT _, _, n, _, h, _ => by simp [nb] at h
  | .obj _ _, _, n, _, h, _ => by simp [nb] at h
  | .dN _ _, _, n, _, h, _ => by simp [nb] at h
  | _, .bl _, _, n, _, h => by simp [nb] at h
  | _, .dK _, _, n, _, h => by simp [nb] at h
  | _, .dT _, _, n, _, h => by simp [nb] at h
  | _, .obj _ _, _, n, _, h => by simp [nb] at h
  | _, .dN _ _, _, n, _, h => by simp [nb] at h
  | .non, .non, _, _, _, _ => by simp [py, PyData.eqv]
  | .non, .int _, _, _, _, _ => by simp [py, PyData.eqv]
  | .non, .str _, _, _, _, _ => by simp [py, PyData.eqv]
  | .non, .tup _, _, _, _, _ => by simp [py, PyData.eqv]
  | .non, .lst _, _, _, _, _ => by simp [py, PyData.eqv]
  | .int _, .non, _, _, _, _ => by simp [py, PyData.eqv]
  | .int _, .int _, _, _, _, _ => by simp [py, PyData.eqv]
  | .int _, .str _, _, _, _, _ => by simp [py, PyData.eqv]
  | .int _, .tup _, _, _, _, _ => by simp [py, PyData.eqv]
  | .int _, .lst _, _, _, _, _ => by simp [py, PyData.eqv]
  | .str _, .non, _, _, _, _ => by simp [py, PyData.eqv]
  | .str _, .int _, _, _, _, _ => by simp [py, PyData.eqv]
  | .str _, .str _, _, _, _, _ => by simp [py, PyData.eqv]
  | .str _, .tup _, _, _, _, _ => by simp [py, PyData.eqv]
  | .str _, .lst _, _, _, _, _ => by simp [py, PyData.eqv]
  | .tup _, .non, _, _, _, _ => by simp [py, PyData.eqv]
  | .tup _, .int _, _, _, _, _ => by simp [py, PyData.eqv]
  | .tup _, .str _, _, _, _, _ => by simp [py, PyData.eqv]
  | .tup _, .lst _, _, _, _, _ => by simp [py, PyData.eqv]
  | .lst _, .non, _, _, _, _ => by simp [py, PyData.eqv]
  | .lst _, .int _, _, _, _, _ => by simp [py, PyData.eqv]
  | .lst _, .str _, _, _, _, _ => by simp [py, PyData.eqv]
  | .lst _, .tup _, _, _, _, _ => by simp [py, PyData.eqv]
  | .tup xs, .tup ys, 0, _, h, _ => by simp [nb] at h
  | .tup xs, .tup ys, _ + 1, 0, _, h => by simp [nb] at h
  | .tup xs, .tup ys, n + 1, m + 1, h, h2 => by
    have := nbs_eqv xs ys n m (by simpa [nb] using h) (by simpa [nb] using h2)
    simp only [py, PyData.eqv, this, D.tup.injEq]
  | .lst xs, .lst ys, 0, _, h, _ => by simp [nb] at h
  | .lst xs, .lst ys, _ + 1, 0, _, h => by simp [nb] at h
  | .lst xs, .lst ys, n + 1, m + 1, h, h2 => by
    have := nbs_eqv xs ys n m (by simpa [nb] using h) (by simpa [nb] using h2)
    simp only [py, PyData.eqv, this, D.lst.injEq]
theorem nbs_eqv : ∀ (xs ys : List D) (n m : Nat), nbs n xs = true → nbs m ys = true → (PyData.eqvAll (pys xs) (pys ys) = true ↔ xs = ys)
  | [], [], _, _, _, _ => by simp [pys, PyData.eqvAll]
  | [], _ :: _, _, _, _, _ => by simp [pys, PyData.eqvAll]
  | _ :: _, [], _, _, _, _ => by simp [pys, PyData.eqvAll]
  | x :: xs, y :: ys, n, m, h, h2 => by
    have a : nb n x = true ∧ nbs n xs = true := by simpa [nbs] using h
    have b : nb m y = true ∧ nbs m ys = true := by simpa [nbs] using h2
    simp only [pys, PyData.eqvAll, Bool.and_eq_true, nb_eqv x y n m a.1 b.1, nbs_eqv xs ys n m a.2 b.2, List.cons.injEq]
end
open Classical in
theorem deq_nb {x y : D} {n m : Nat} (hx : nb n x = true) (hy : nb m y = true) (hn : n ≤ 64) (hm : m ≤ 64) : deq x y = .ok (decide (x = y)) := by
  have q1 := nb_lay x n hx
  have q2 := nb_lay y m hy
  have s1 : SeqAt.shaped (py x) = true := by unfold SeqAt.shaped; rw [q1.1]; simp; omega
  have s2 : SeqAt.shaped (py y) = true := by unfold SeqAt.shaped; rw [q2.1]; simp; omega
  unfold deq
  rw [if_pos ⟨s1, s2⟩]
  congr 1
  have := nb_eqv x y n m hx hy
  by_cases e : x = y
  · rw [decide_eq_true e]; exact this.mpr e
  · rw [decide_eq_false e]
    cases q : PyData.eqv (py x) (py y) with
    | true => exact absurd (this.mp q) e
    | false => rfl
theorem deq_int (i j : Int) : deq (.int i) (.int j) = .ok (decide (i = j)) := by
  rw [deq_nb (n := 0) (m := 0) rfl rfl (by omega) (by omega)]
  simp
theorem g_ne_int (i j : Int) : g_ne (.int i) (.int j) = .ok (.bl (!decide (i = j))) := by unfold g_ne; rw [deq_int]; rfl
theorem nbs_map' {α : Type} {f : α → D} {n : Nat} : ∀ {xs : List α}, (∀ x ∈ xs, nb n (f x) = true) → nbs n (xs.map f) = true
  | [], _ => rfl
  | x :: r, h => by simp only [List.map_cons, nbs, h x List.mem_cons_self, nbs_map' fun y hy => h y (List.mem_cons_of_mem _ hy), Bool.and_self]
@[simp] theorem nb_int (n : Nat) (i : Int) : nb n (.int i) = true := by unfold nb; rfl
@[simp] theorem nb_tup (n : Nat) (xs : List D) : nb (n + 1) (.tup xs) = nbs n xs := by simp [nb]
@[simp] theorem nb_lst (n : Nat) (xs : List D) : nb (n + 1) (.lst xs) = nbs n xs := by simp [nb]
@[simp] theorem nbs_nil (n : Nat) : nbs n [] = true := rfl
@[simp] theorem nbs_cons (n : Nat) (x : D) (r : List D) : nbs n (x :: r) = (nb n x && nbs n r) := rfl
theorem imms_map {α : Type} {f : α → D} (h : ∀ x, imm (f x) = true) : ∀ xs : List α, imms (xs.map f) = true
  | [] => rfl
  | x :: r => by simp only [List.map_cons, imms, h x, imms_map h r, Bool.and_self]
@[simp] theorem imm_int (i : Int) : imm (.int i) = true := by unfold imm; rfl
@[simp] theorem imm_str (i : Str) : imm (.str i) = true := by unfold imm; rfl
@[simp] theorem imm_tup (xs : List D) : imm (.tup xs) = imms xs := by simp [imm]
@[simp] theorem imms_nil : imms [] = true := rfl
@[simp] theorem imms_cons (x : D) (r : List D) : imms (x :: r) = (imm x && imms r) := rfl
@[simp] theorem imms_ints (xs : List Int) : imms (xs.map D.int) = true := imms_map (fun x => imm_int x) xs
theorem imms_append : ∀ (xs ys : List D), imms (xs ++ ys) = (imms xs && imms ys)
  | [], ys => by simp
  | x :: r, ys => by simp only [List.cons_append, imms, imms_append r ys, Bool.and_assoc]
theorem atI_map {α : Type} (f : α → D) (xs : List α) (k : Nat) (h : k < xs.length) : atI (xs.map f) ((k : Nat) : Int) = some (f xs[k]) := atI_nat (by simp [h])
theorem g_ix_lst {α : Type} (f : α → D) (xs : List α) (k : Nat) (h : k < xs.length) : g_ix (.lst (xs.map f)) (.int ((k : Nat) : Int)) = .ok (f xs[k]) := by simp only [g_ix, atI_map f xs k h]
theorem g_ix_lst' {α : Type} (f : α → D) (xs : List α) (i : Int) (h0 : 0 ≤ i) (h : i < xs.length) : g_ix (.lst (xs.map f)) (.int i) = .ok (f (xs[i.toNat]'(by omega))) := by
  obtain ⟨k, rfl⟩ := Int.eq_ofNat_of_zero_le h0
  exact g_ix_lst f xs k (by omega)
theorem g_ix_nat (xs : List D) (k : Nat) (h : k < xs.length) : g_ix (.lst xs) (.int ((k : Nat) : Int)) = .ok xs[k] := by
  have : atI xs ((k : Nat) : Int) = some xs[k] := atI_nat (by simp [h])
  simp only [g_ix, this]
theorem g_ix_cons0 (x : D) (r : List D) : g_ix (.lst (x :: r)) (.int 0) = .ok x := g_ix_nat (x :: r) 0 (by simp)
theorem g_ix_t0 (x : D) (r : List D) : g_ix (.tup (x :: r)) (.int 0) = .ok x := by
  have : atI (x :: r) ((0 : Nat) : Int) = some x := atI_nat rfl
  simp only [g_ix]; rw [show (0 : Int) = ((0 : Nat) : Int) from rfl, this]
theorem g_ix_t1 (x y : D) (r : List D) : g_ix (.tup (x :: y :: r)) (.int 1) = .ok y := by
  have : atI (x :: y :: r) ((1 : Nat) : Int) = some y := atI_nat rfl
  simp only [g_ix]; rw [show (1 : Int) = ((1 : Nat) : Int) from rfl, this]
theorem g_ix_t2 (x y z : D) (r : List D) : g_ix (.tup (x :: y :: z :: r)) (.int 2) = .ok z := by
  have : atI (x :: y :: z :: r) ((2 : Nat) : Int) = some z := atI_nat rfl
  simp only [g_ix]; rw [show (2 : Int) = ((2 : Nat) : Int) from rfl, this]
theorem cutA_to {α : Type} (xs : List α) (k : Nat) : cutA xs none (some (k : Int)) = xs.take k := by
  unfold cutA
  rw [HT.sIx_none, HT.sIx_nat]
  simp [List.take_eq_take_iff]
theorem cutA_from {α : Type} (xs : List α) (k : Nat) : cutA xs (some (k : Int)) none = xs.drop k := by
  unfold cutA
  rw [HT.sIx_none, HT.sIx_nat]
  by_cases h : k ≤ xs.length
  · rw [Nat.min_eq_left h, List.take_of_length_le (by simp)]
  · rw [Nat.min_eq_right (by omega), List.drop_eq_nil_of_le (Nat.le_refl _), List.drop_eq_nil_of_le (by omega)]; simp
theorem cutA_mid {α : Type} (xs : List α) (k m : Nat) : cutA xs (some (k : Int)) (some (m : Int)) = (xs.drop k).take (m - k) := by
  unfold cutA
  rw [HT.sIx_nat, HT.sIx_nat]
  by_cases h : k ≤ xs.length
  · rw [Nat.min_eq_left h, List.take_eq_take_iff, List.length_drop]; omega
  · rw [Nat.min_eq_right (show xs.length ≤ k by omega), List.drop_eq_nil_of_le (Nat.le_refl _), List.drop_eq_nil_of_le (show xs.length ≤ k by omega)]; simp
theorem cutA_map {α β : Type} (f : α → β) (xs : List α) (l u : Option Int) : cutA (xs.map f) l u = (cutA xs l u).map f := by
  unfold cutA
  simp [List.map_take, List.map_drop]
theorem compL_map {α : Type} {is : List Nat} {ks : D → Res (List D)} {ft : Env → Res Bool} {fe : Env → Res D} {ρ : Env} (enc g : α → D) : ∀ {xs : List α}, (∀ x ∈ xs, ∃ l, ks (enc x) = .ok l ∧ ft (setE ρ is l) = .ok true ∧ fe (setE ρ is l) = .ok (g x)) →
    compL is ks ft fe ρ (xs.map enc) = .ok (xs.map g)
  | [], _ => rfl
  | x :: r, h => by
    obtain ⟨l, h1, h2, h3⟩ := h x List.mem_cons_self
    have ih := compL_map enc g fun y hy => h y (List.mem_cons_of_mem _ hy)
    simp only [List.map_cons, compL, h1, h2, h3, noEx, Res.bind_ok, if_pos, ih]
theorem compL_filter {α : Type} {is : List Nat} {ks : D → Res (List D)} {ft : Env → Res Bool} {fe : Env → Res D} {ρ : Env} (enc g : α → D) (p : α → Bool) : ∀ {xs : List α}, (∀ x ∈ xs, ∃ l, ks (enc x) = .ok l ∧ ft (setE ρ is l) = .ok (p x) ∧ (p x = true → fe (setE ρ is l) = .ok (g x))) →
    compL is ks ft fe ρ (xs.map enc) = .ok ((xs.filter p).map g)
  | [], _ => rfl
  | x :: r, h => by
    obtain ⟨l, h1, h2, h3⟩ := h x List.mem_cons_self
    have ih := compL_filter enc g p fun y hy => h y (List.mem_cons_of_mem _ hy)
    cases q : p x with
    | true => rw [List.filter_cons_of_pos q]; simp only [List.map_cons, compL, h1, h2, q, h3 q, noEx, Res.bind_ok, if_pos, ih]
    | false => rw [List.filter_cons_of_neg (by simp [q])]; simp only [List.map_cons, compL, h1, h2, q, noEx, Res.bind_ok, Bool.false_eq_true, if_false, ih]
theorem enumD_map {α : Type} (f : α → D) (xs : List α) : enumD (xs.map f) = xs.zipIdx.map fun p => D.tup [.int (p.2 : Int), f p.1] := by
  unfold enumD
  rw [List.zipIdx_map, List.map_map]
  rfl
theorem rangeD_eq (n : Nat) : rangeD 0 n = (List.range n).map fun (k : Nat) => D.int (k : Int) := by
  unfold rangeD
  simp
theorem rng1_ok {j : Int} (h0 : 0 ≤ j) (h : j < 4611686018427387904) : rng1 (.int j) = .ok ((List.range j.toNat).map fun (k : Nat) => D.int (k : Int)) := by
  show (if -(2 ^ 62) ≤ j ∧ j < 2 ^ 62 then Res.ok (rangeD 0 j.toNat) else Res.no) = _
  rw [if_pos ⟨by omega, by omega⟩, rangeD_eq]
end DL
namespace DL
end DL
namespace DL
end DL
namespace DL
open PySem PySem.Spec PyProof.Rows L2
def dispR (x y : D) : Res D := match keyD x with
  | some kk => .ok (.dK [(kk, y)])
  | none => .no
def vDisp1 (fk fv : Env → Res D) : Env → Res D := fun ρ => noEx (fk ρ) >>= fun x => noEx (fv ρ) >>= fun y => dispR x y
theorem df_disp1 {X : Cx} {W : WX} {a b : Expr} {fk fv : Env → Res D} {pos : Pos} (d1 : DE X W a fk) (d2 : DE X W b fv) : DF X W .sh (.Dict [some a] [b] pos) (vDisp1 fk fv) := by
  obtain ⟨t1, p1, h1⟩ := d1
  obtain ⟨t2, p2, h2⟩ := d2
  refine ⟨_, pe_disp (pps_cons p1 p2 pps_nil) rfl rfl (by simp) (by simp), fun G H σ ρ Q s e h p np => ?_⟩
  have hid : Ext G H G (upd H p (.dK [])) := Ext.hid s np
  unfold vDisp1 at h
  cases q1 : fk ρ with
  | ok x =>
    rw [q1] at h
    refine h1 G _ σ ρ _ hid.s e ?_
    rw [q1]
    intro G1 H1 e1 v rv
    cases q2 : fv ρ with
    | ok y =>
      rw [q2] at h
      refine h2 G1 H1 σ ρ _ e1.s (e.le e1.le) ?_
      rw [q2]
      intro G2 H2 e2 w rw'
      have e12 := e1.trans e2
      have hp : H2 p = some (.dK []) := e12.h _ _ upd_same
      have h : GlF X.mg W .sh G H σ Q (dispR x y) := h
      unfold dispR at h
      cases q3 : keyD x with
      | some kk =>
        rw [q3] at h
        have ev : v = kV kk := keyD_rep q3 rv
        refine ⟨hp, [(kk, w)], by rw [ev]; rfl, by simp, ?_⟩
        have gp : G2 p = none := by
          cases z : G2 p with
          | none => rfl
          | some o =>
            exfalso
            have z2 := e2.s _ _ z
            rw [hp] at z2
            cases z2
            rcases e12.n _ _ z with a | a | ⟨vs, a⟩
            · rw [s _ _ a] at np; cases np
            · rw [upd_same] at a; cases a
            · cases a
        have ex : Ext G H G2 (upd H2 p (.dK [(kk, w)])) := by
          refine ⟨fun a o z => ?_, fun a o z => e12.g a o z, fun a o z => ?_, fun a o z => ?_⟩
          · rw [upd_ne (ne_of_none z np)]; exact e12.h a o (hid.h a o z)
          · rw [upd_ne (ne_of_none z gp)]; exact e12.s a o z
          · rcases e12.n a o z with b | b | b
            · exact .inl b
            · refine .inr (.inl ?_)
              by_cases c : a = p
              · rw [c]; exact np
              · rwa [upd_ne c] at b
            · exact .inr (.inr b)
        exact h G2 _ ex (.ref p) [p] ⟨p, rfl, rfl, [(kk, w)], upd_same, w, [], rfl, rw', rfl⟩ fun a ha => by rw [show a = p by simpa using ha]; exact ⟨gp, np⟩
      | none => rw [q3] at h; exact h.elim
    | ex c => rw [q2] at h; exact h.elim
    | no => rw [q2] at h; exact h.elim
  | ex c => rw [q1] at h; exact h.elim
  | no => rw [q1] at h; exact h.elim
end DL
namespace DL
end DL
namespace DL
end DL
namespace DL
end DL
namespace DL
end DL
namespace DL
end DL
namespace DL
open PySem PySem.Spec PyProof.Rows L2
inductive HdsAs (X : Cx) (n : Str) : List ExceptHandler → List (Value × (Addr → Value → Option Addr → TS)) → Prop
  | nil : HdsAs X n [] []
  | cons {x : Str} {c : Value} {ts : Addr → Value → Option Addr → TS} {b₀ : Stmt} {suite : List Stmt} {np pos' : Pos} {hds : List ExceptHandler} {l : List (Value × (Addr → Value → Option Addr → TS))} (hc : Names X x c)
      (hsu : ∀ (a : Addr) (oe : Obj) (cls : Value) (d : Option Addr) (pn : List (Addr × Obj)), Zc cls d oe → (∃ vs, oe.data = .fields vs) → PSs (X.suite a ((a, oe) :: pn)) (b₀ :: suite) (ts a cls d)) (r : HdsAs X n hds l) :
      HdsAs X n (.ExceptHandler (some (.Name x np)) (some n) (b₀ :: suite) pos' :: hds) ((c, ts) :: l)
inductive DHdsAs (X : Cx) (J : Jd) (own : Owns) (i : Nat) (n : Str) : List ExceptHandler → List (Str × List (Str × Bool) × DSem) → Prop
  | nil : DHdsAs X J own i n [] []
  | cons {x : Str} {hv : Value} {c0 : Str} {C0 : Addr} {tbl : List (Str × Bool)} {F : DSem} {b0 : Stmt} {suite : List Stmt} {np pos' : Pos} {hds : List ExceptHandler} {l : List (Str × List (Str × Bool) × DSem)} (hc : Names X x hv) (hm : X.mg c0 = some (.ref C0)) (he : PySem.W.exmOne X.K (.ref C0) hv = some true) (tb : TblOk X.mg X.K hv tbl)
      (hsu : ∀ (a : Addr) (oe : Obj) (pn : List (Addr × Obj)), Zc (.ref C0) none oe → (∃ vs, oe.data = .fields vs) → DSp (X.suite a ((a, oe) :: pn)) ⟨W0, J.L, [], J.rk⟩ own own i a (b0 :: suite) F) (r : DHdsAs X J own i n hds l) :
      DHdsAs X J own i n (.ExceptHandler (some (.Name x np)) (some n) (b0 :: suite) pos' :: hds) ((c0, tbl, F) :: l)
end DL
namespace DL
open PySem PySem.Calls PyProof.Rows PyProof.V PySem.Spec
section
variable {prog : Program} {w : World} {K : Type} [DecidableEq K] {knd : HeapKind prog w K} {A : Around} {E : Value → Shared → Prop} {s : Shared}
inductive HitsH {K : Type} (A : Around) (s : Shared) (kb : List (K × Addr × Value)) : List (K × Addr × Value) → Bool → Prop
  | nil : HitsH A s kb [] true
  | miss {k : K} {v : Addr × Value} {r : List (K × Addr × Value)} (h : ∀ (j : Nat) (p : Addr × Value), kb[j]? ≠ some (k, p)) : HitsH A s kb ((k, v) :: r) false
  | hit {k : K} {p q : Addr} {v y : Value} {r : List (K × Addr × Value)} {e b : Bool} {j : Nat} (h : kb[j]? = some (k, q, y)) (he : SeqAt.EqAt A s v y e) (hr : HitsH A s kb r b) : HitsH A s kb ((k, p, v) :: r) (e && b)
end
end DL
namespace DL
end DL
namespace DL
end DL
namespace DL
end DL
namespace DL
open PySem PySem.Spec PyProof.Rows L2
theorem reps_str {G : Hp} : ∀ ys : List Str, Reps G (ys.map D.str) (ys.map V.str)
  | [] => rfl
  | y :: r => ⟨_, _, rfl, rfl, reps_str r⟩
theorem strs_of_reps {G : Hp} : ∀ {ys : List Str} {vs : List V}, Reps G (ys.map D.str) vs → vs = ys.map V.str
  | [], _, h => h
  | y :: r, _, ⟨v, s, e, h1, h2⟩ => by
    subst e
    cases (show v = V.str y from h1)
    rw [strs_of_reps h2]; rfl
def strsOf : List D → Option (List Str)
  | [] => some []
  | .str x :: r => (strsOf r).map (x :: ·)
  | _ => none
theorem strsOf_eq : ∀ {ds : List D} {ys : List Str}, strsOf ds = some ys → ds = ys.map D.str
  | [], ys, h => by simp only [strsOf, Option.some.injEq] at h; subst h; rfl
  | d :: r, ys, h => by
    cases d with
    | str x =>
      simp only [strsOf] at h
      obtain ⟨zs, h1, rfl⟩ := Option.map_eq_some_iff.mp h
      rw [strsOf_eq h1]; rfl
    | _ => simp [strsOf] at h
def splR (a : Str) : D → Res (List D)
  | .str b => if (b.length == 0) = false ∧ a.length + 2 ≤ sizeLine then .ok ((Txt.split a b).map D.str) else .no
  | _ => .no
def splK (g : Env → Res D) (ρ : Env) : D → Res (List D)
  | .str a => g ρ >>= splR a
  | _ => .no
def nSplit (f g : Env → Res D) : Env → Res (List D) := fun ρ => f ρ >>= splK g ρ
def joinR (a : Str) : D → Res D
  | .lst ds => (match strsOf ds with
    | some ys => if (ys.map (·.length)).sum + ys.length * a.length ≤ 16777216 then .ok (.str (Txt.join a ys)) else .no
    | none => .no)
  | _ => .no
def joinK (g : Env → Res D) (ρ : Env) : D → Res D
  | .str a => g ρ >>= joinR a
  | _ => .no
def vJoin (f g : Env → Res D) : Env → Res D := fun ρ => f ρ >>= joinK g ρ
def c_str : List D → Res D
  | [.int i] => if i.natAbs.log2 < 1920 then .ok (.str (toString i)) else .no
  | [.str a] => .ok (.str a)
  | _ => .no
def c_intS : List D → Res D
  | [.str a] => (match PySem.intText? a with
    | some n => if a.length ≤ 640 then .ok (.int n) else .no
    | none => .no)
  | _ => .no
section
variable {X : Cx} {W : WX} {o e : Expr} {f g : Env → Res D} {apos cpos pos p : Pos}
theorem dn_split (d1 : DE X W o f) (d2 : DE X W e g) (hbase : attributeBase o "split" X.env (eval o X.env) = eval o X.env := by rfl)
    (hfew : ((backTo cpos (starEach [e] X.env)).all (fun x => !x.1) && (backToKw cpos (keywordEach [] X.env)).all (fun x => x.1.isSome)
      && decide (([e] : List Expr).length + ([] : List Keyword).length + (if ([] : List Keyword).isEmpty then 0 else 1) < 30)) = true := by rfl)
    (hline : (apos.endLine == cpos.line) = true := by rfl) (hs : starEach [e] X.env = (false, eval e X.env) :: starEach [] X.env := by rfl) (hplain : (backTo cpos (starEach [] X.env)).any (·.1) = false := by rfl) :
    DN X W (.Call (.Attribute o "split" apos) [e] [] cpos) (nSplit f g) := by
  obtain ⟨t1, p1, h1⟩ := d1
  obtain ⟨t2, p2, h2⟩ := d2
  refine ⟨_, pe_bm PySem.F.plainAttrs_str PySem.F.slot_str_split PySem.F.type_str_split mt_split p1 (pa_cons p2 pa_nil hs) hbase hfew hline hs hplain, fun G H σ ρ Q s e h => ?_⟩
  refine h1 G H σ ρ _ s e ?_
  unfold nSplit at h
  cases q : f ρ with
  | ok x =>
    rw [q, Res.bind_ok] at h
    intro G1 H1 e1 v rv
    cases x with
    | str a =>
      cases (show v = V.str a from rv)
      refine ⟨rfl, ?_⟩
      refine h2 G1 H1 σ ρ _ e1.s (e.le e1.le) ?_
      have h : GlN X.mg W G H σ Q (g ρ >>= splR a) := h
      cases q2 : g ρ with
      | ok y =>
        rw [q2, Res.bind_ok] at h
        intro G2 H2 e2 w rw'
        cases y with
        | str b =>
          cases (show w = V.str b from rw')
          unfold splR at h
          simp only at h
          split at h
          · rename_i z
            exact ⟨a, b, rfl, rfl, z.1, z.2, fun p np => GlN.end (e1.trans e2) np (reps_str _) h⟩
          · exact h.elim
        | _ => exact h.elim
      | ex c => rw [q2] at h; exact fun C G' H' m x => h C G' H' m (e1.trans x)
      | no => rw [q2] at h; exact h
    | _ => exact h.elim
  | ex c => rw [q] at h; exact h
  | no => rw [q] at h; exact h
theorem de_join (d1 : DE X W o f) (d2 : DE X W e g) (hbase : attributeBase o "join" X.env (eval o X.env) = eval o X.env := by rfl)
    (hfew : ((backTo cpos (starEach [e] X.env)).all (fun x => !x.1) && (backToKw cpos (keywordEach [] X.env)).all (fun x => x.1.isSome)
      && decide (([e] : List Expr).length + ([] : List Keyword).length + (if ([] : List Keyword).isEmpty then 0 else 1) < 30)) = true := by rfl)
    (hline : (apos.endLine == cpos.line) = true := by rfl) (hs : starEach [e] X.env = (false, eval e X.env) :: starEach [] X.env := by rfl) (hplain : (backTo cpos (starEach [] X.env)).any (·.1) = false := by rfl) :
    DE X W (.Call (.Attribute o "join" apos) [e] [] cpos) (vJoin f g) := by
  obtain ⟨t1, p1, h1⟩ := d1
  obtain ⟨t2, p2, h2⟩ := d2
  refine ⟨_, pe_bm PySem.F.plainAttrs_str PySem.F.slot_str_join PySem.F.type_str_join mt_join p1 (pa_cons p2 pa_nil hs) hbase hfew hline hs hplain, fun G H σ ρ Q s e h => ?_⟩
  refine h1 G H σ ρ _ s e (Gl.imp (fun x G1 H1 _ e1 k v rv => ?_) (Gl.bind h))
  cases x with
  | str a =>
    cases (show v = V.str a from rv)
    refine ⟨rfl, ?_⟩
    refine h2 G1 H1 σ ρ _ e1.s (e.le e1.le) (Gl.imp (fun y G2 H2 _ e2 k2 w rw' => ?_) (Gl.bind (show Gl X.mg W G1 H1 σ _ (g ρ >>= joinR a) from k)))
    cases y with
    | lst ds =>
      obtain ⟨b, ws, rfl, hb, rb⟩ := rw'
      unfold joinR at k2
      simp only at k2
      split at k2
      · rename_i ys hys
        split at k2
        · rename_i z
          have := strsOf_eq hys
          subst this
          have ew := strs_of_reps rb
          subst ew
          exact ⟨a, b, ys, rfl, rfl, .inl (e2.s.sqL hb), z, k2.str e2.s⟩
        · exact k2.elim
      · exact k2.elim
    | _ => exact k2.elim
  | _ => exact k.elim
theorem call_strD {X : Cx} : CallR X (.type "str") (fun xs H Q => (∃ i, xs = [.int i] ∧ i.natAbs.log2 < 1920 ∧ Q (.str (toString i)) H) ∨ ∃ a, xs = [.str a] ∧ Q (.str a) H) := by
  intro pins s σ H xs us Q I r h
  rcases h with h | h
  · exact L2.call_str_int pins s σ H xs us Q I r h
  · exact SkE.call_str_str pins s σ H xs us Q I r h
theorem say_strD {X : Cx} {W : WX} : SayC X W (fun xs H Q => (∃ i, xs = [.int i] ∧ i.natAbs.log2 < 1920 ∧ Q (.str (toString i)) H) ∨ ∃ a, xs = [.str a] ∧ Q (.str a) H) c_str := by
  intro G H σ Q ds vs s r h
  unfold c_str at h
  split at h
  · rename_i i
    obtain ⟨v, _, e, r1, e2⟩ := r
    have e3 : v = .int i := r1
    have e4 : _ = [] := e2
    subst e3 e4
    split at h
    · rename_i z
      exact .inl ⟨i, e, z, h.str s⟩
    · exact h.elim
  · rename_i a
    obtain ⟨v, _, e, r1, e2⟩ := r
    have e3 : v = .str a := r1
    have e4 : _ = [] := e2
    subst e3 e4
    exact .inr ⟨a, e, h.str s⟩
  · exact h.elim
theorem say_intS {X : Cx} {W : WX} : SayC X W (fun xs H Q => ∃ a n, xs = [.str a] ∧ PySem.intText? a = some n ∧ a.length ≤ 640 ∧ Q (.int n) H) c_intS := by
  intro G H σ Q ds vs s r h
  unfold c_intS at h
  split at h
  · rename_i a
    obtain ⟨v, _, e, r1, e2⟩ := r
    have e3 : v = .str a := r1
    have e4 : _ = [] := e2
    subst e3 e4
    split at h
    · rename_i n hn
      split at h
      · rename_i z
        exact ⟨a, n, e, hn, z, h.int s⟩
      · exact h.elim
    · exact h.elim
  · exact h.elim
theorem de_globS {x : Str} {a : Str} {tk : Tok} (hg : L2.Gl X x) (hm : X.mg x = some (.str a tk)) (hd : (x == ("__debug__" : Str)) = false := by decide) : DE X W (.Name x pos) (vC (.str a)) :=
  ⟨_, pe_glob (v := .str a) hg hm ⟨tk, rfl⟩ hd, fun G H σ ρ Q s e h => h G H (Ext.refl s) _ rfl⟩
end
end DL
namespace DL
open PySem PySem.Spec PyProof.Rows L2
def onceT (xs : List Str) : List Str := xs.foldl (fun acc x => if x ∈ acc then acc else acc ++ [x]) []
theorem onceT_snoc (xs : List Str) (x : Str) : onceT (xs ++ [x]) = if x ∈ onceT xs then onceT xs else onceT xs ++ [x] := by
  unfold onceT
  rw [List.foldl_append]
  rfl
theorem mem_onceT (y : Str) : ∀ (n : Nat) (xs : List Str), xs.length = n → (y ∈ onceT xs ↔ y ∈ xs)
  | 0, xs, h => by
    have := List.length_eq_zero_iff.mp h
    subst this
    simp [onceT]
  | n + 1, xs, h => by
    have hne : xs ≠ [] := fun e => by subst e; simp at h
    obtain ⟨ys, x, rfl⟩ : ∃ ys x, xs = ys ++ [x] := ⟨xs.dropLast, xs.getLast hne, (List.dropLast_concat_getLast hne).symm⟩
    have ih := mem_onceT y n ys (by simpa using h)
    have ix := mem_onceT x n ys (by simpa using h)
    rw [onceT_snoc]
    by_cases hx : x ∈ onceT ys
    · rw [if_pos hx, ih, List.mem_append, List.mem_singleton]
      exact ⟨.inl, fun q => q.elim id fun e => e ▸ ix.mp hx⟩
    · rw [if_neg hx, List.mem_append, List.mem_append, ih]
theorem onceT_take {xs : List Str} {i : Nat} (h : i < xs.length) :
    onceT (xs.take (i + 1)) = if xs.getD i Str.empty ∈ xs.take i then onceT (xs.take i) else onceT (xs.take i) ++ [xs.getD i Str.empty] := by
  have e : xs.take (i + 1) = xs.take i ++ [xs.getD i Str.empty] := by
    rw [List.take_succ, List.getElem?_eq_getElem h]
    simp [h]
  rw [e, onceT_snoc]
  by_cases q : xs.getD i Str.empty ∈ xs.take i
  · rw [if_pos q, if_pos ((mem_onceT _ _ _ rfl).mpr q)]
  · rw [if_neg q, if_neg fun z => q ((mem_onceT _ _ _ rfl).mp z)]
theorem mem_takeS {xs : List Str} {i : Nat} (h : i < xs.length) (y : Str) : y ∈ xs.take (i + 1) ↔ y ∈ xs.take i ∨ y = xs.getD i Str.empty := by
  have e : xs.take (i + 1) = xs.take i ++ [xs.getD i Str.empty] := by
    rw [List.take_succ, List.getElem?_eq_getElem h]
    simp [h]
  rw [e, List.mem_append, List.mem_singleton]
theorem onceT_le : ∀ (n : Nat) (xs : List Str), xs.length = n → (onceT xs).length ≤ n
  | 0, xs, h => by
    have := List.length_eq_zero_iff.mp h
    subst this
    simp [onceT]
  | n + 1, xs, h => by
    have hne : xs ≠ [] := fun e => by subst e; simp at h
    obtain ⟨ys, x, rfl⟩ : ∃ ys x, xs = ys ++ [x] := ⟨xs.dropLast, xs.getLast hne, (List.dropLast_concat_getLast hne).symm⟩
    have ih := onceT_le n ys (by simpa using h)
    rw [onceT_snoc]
    split
    · omega
    · simp; omega
section
variable {prog : Program} {w : World} {A : Around} {R : Result → Shared → Prop} {I : Addr} {fp wr : List Addr} {G : Array GenState → Array GenState → Prop} {n : Nat} {P : Nat → Value → Prop} {St : Nat → Shared → Prop}
theorem texts_in (W : WalksS prog w A.in1 I fp wr G n P St) (S : Addr) (hSf : S ∉ fp) (xs : List Str) (hsz : xs.length = n) (hn : n ≤ 60) (hval : ∀ i v, P i v → ∃ t, v = .str (xs.getD i Str.empty) t)
    (left : Nat) : ∀ (i : Nat) (s : Shared), i + left = n → St i s → s.heap.SetOf (PySem.strKind prog w) S (fun y => decide (y ∈ xs.take i)) (onceT (xs.take i)).length →
      (∀ s', Moved (S :: wr) G s s' → s'.heap.SetOf (PySem.strKind prog w) S (fun y => decide (y ∈ xs)) (onceT xs).length → R (.ok (.ret .none)) s') →
      codeAny (model prog w) A (.builtin "set.update.loop" ⟨[.ref S, .ref I], []⟩) R s := by
  have hSw : S ∉ wr := fun h => hSf (W.sub _ h)
  have up : ∀ b ∈ wr, b ∈ S :: wr := fun b hb => List.mem_cons_of_mem _ hb
  induction left with
  | zero =>
    intro i s e hst hS hR
    have e' : i = xs.length := by omega
    subst e'
    rw [List.take_length] at hS
    refine codeAny_builtin PyProof.Rows.F.entry_set_update_loop ?_
    rw [Around.under_plainId PyProof.Rows.F.plain_set_update_loop _]
    show wpAny _ A.in1 (pyNext (.ref I) >>= _) _ _ s
    have e2 : n = xs.length := hsz.symm
    refine wpAny_bind (W.done s _ _ (by rw [e2]; exact hst) fun s' hm => ?_)
    show wpAny _ A.in1 (ret Value.none) _ _ s'
    refine wpAny_pure (hR s' (hm.mono up) ?_)
    obtain ⟨o, es, ep, t, ho, rest⟩ := hS
    exact ⟨o, es, ep, t, hm.heap S _ hSw ho, rest⟩
  | succ left ih =>
    intro i s e hst hS hR
    have lt : i < xs.length := by omega
    refine codeAny_builtin PyProof.Rows.F.entry_set_update_loop ?_
    rw [Around.under_plainId PyProof.Rows.F.plain_set_update_loop _]
    show wpAny _ A.in1 (pyNext (.ref I) >>= _) _ _ s
    refine wpAny_bind (W.item i s _ _ (by omega) hst fun v s1 hP hst1 hm => ?_)
    obtain ⟨t, rfl⟩ := hval i v hP
    have hS1 : s1.heap.SetOf (PySem.strKind prog w) S (fun y => decide (y ∈ xs.take i)) (onceT (xs.take i)).length := by
      obtain ⟨o, es, ep, tb, ho, rest⟩ := hS
      exact ⟨o, es, ep, tb, hm.heap S _ hSw ho, rest⟩
    show wpAny _ A.in1 (holding [Value.str (xs.getD i Str.empty) t] (setAdd S (.str (xs.getD i Str.empty) t)) >>= _) _ _ s1
    have few : (onceT (xs.take i)).length ≤ i := Nat.le_trans (onceT_le _ _ rfl) (List.length_take_le ..)
    unfold setAdd
    refine wpAny_bind (wpAny_holding (wpAny_holding (wpAny_bind ((PySem.strKind prog w).pyHash (k := xs.getD i Str.empty) (strKind_is _ _ _ _) ?_))))
    refine wpAny_setAddHashed_of (knd := PySem.strKind prog w) (s := { s1 with toks := s1.toks + 1 }) (strKind_is _ _ _ _) rfl hS1 (by unfold scanBound; omega) fun h' sb hS2 => ?_
    have hS3 : h'.SetOf (PySem.strKind prog w) S (fun y => decide (y ∈ xs.take (i + 1))) (onceT (xs.take (i + 1))).length := by
      refine SetOf_congr hS2 (fun y => ?_) ?_
      · rw [← Bool.decide_or]
        exact decide_eq_decide.mpr (mem_takeS lt y).symm
      · rw [onceT_take lt]
        by_cases q : xs.getD i Str.empty ∈ xs.take i
        · simp only [q, decide_true, if_true]
        · simp only [q, decide_false, if_false, Bool.false_eq_true, List.length_append, List.length_singleton]
    refine wpAny_pure ⟨plainId_quiet PyProof.Rows.F.plain_set_update_loop _, ih (i + 1) _ (by omega) (W.frame _ s1 _ _ hst1 (Nat.le_succ _) fun b hb o e => ?_) hS3 fun s2 hm2 hS4 => hR s2 (Moved.trans W.gtrans ((hm.mono up).then_heap (Nat.le_succ _) fun b o hb e => ?_) hm2) hS4⟩
    · exact (sb.2 b fun z => hSf (z ▸ hb)).trans e
    · exact (sb.2 b fun z => hb (z ▸ List.mem_cons_self)).trans e
end
section
variable {prog : Program} {w : World} {A : Around} {E : Value → Shared → Prop} {s : Shared}
theorem set_of_texts {l : Addr} {items : Array Value} {xs : List Str} {Q : Value → Shared → Prop}
    (hh : A.handled = none) (hl : s.heap.IsList l items) (hi : PyProof.Rows.StrsAre items.toList xs) (hn : xs.length ≤ 60)
    (h : ∀ (h' : Heap) (tk : Nat), h'.SetOf (PySem.strKind prog w) s.heap.objs.size (fun y => decide (y ∈ xs)) (onceT xs).length →
      (∀ b o, b < s.heap.objs.size → s.heap.get? b = some o → h'.get? b = some o) → Q (.ref s.heap.objs.size) { s with heap := h', toks := tk }) :
    wpAny (model prog w) A (call (.type "set") [.ref l]) Q E s := by
  obtain ⟨c, tl, hmro⟩ := PySem.F.called_set.mro
  have hmade := PySem.F.called_set.made
  have hsub := PySem.F.called_set.sub
  refine wpAny_call (codeAny_of_tree ?_)
  show wpAny _ _ (callAny (.type "set") _) _ _ _
  refine wpAny_pure ⟨Code.quiet_builtin _ (by decide +kernel), codeAny_builtin PySem.F.entry_type_call ?_⟩
  rw [Around.under_plain (weight_type_call_type "set" [.ref l] []) rfl]
  have h1 := PySem.F.called_set.notType
  have h2 := PySem.F.called_set.canCreate
  have hct := PySem.F.typeCall_set_1 (.ref l)
  repeat (any_goals (first | assumption | wp_step))
  refine codeAny_mono (code_set_new_1 (.ref l) (E := E) (Q₁ := fun obj s₁ => ∃ led : Bool, obj = .ref s.heap.objs.size ∧ s₁ = { s with heap := s.heap.push { cls := .type "set", dict := none, data := .set #[] 0 (.fresh 0 0 led) } }) fun led => ⟨led, rfl, rfl⟩) fun r s₁ hr => ?_
  cases r with
  | error e => exact hr
  | ok fl =>
    cases fl with
    | ret obj =>
      obtain ⟨led, rfl, rfl⟩ := hr
      have hS : (s.heap.push { cls := .type "set", dict := none, data := .set #[] 0 (.fresh 0 0 led) }).get? s.heap.objs.size = some { cls := .type "set", dict := none, data := .set #[] 0 (.fresh 0 0 led) } := Heap.get?_push_size _ rfl
      have hT : Shared.TypeIs { s with heap := s.heap.push { cls := .type "set", dict := none, data := .set #[] 0 (.fresh 0 0 led) } } (.ref s.heap.objs.size) "set" := ⟨_, hS, rfl⟩
      have hli := PySem.F.called_set.init.lookup
      have hbi := PySem.F.called_set.init.bind (.ref s.heap.objs.size)
      repeat (any_goals (first | assumption | wp_step))
      refine codeAny_mono (codeAny_call_builtin (R := wants (fun r s₂ => r = .none ∧ ∃ h' tk, s₂ = { s with heap := h', toks := tk } ∧
          h'.SetOf (PySem.strKind prog w) s.heap.objs.size (fun y => decide (y ∈ xs)) (onceT xs).length ∧
          (∀ b o, b < s.heap.objs.size → s.heap.get? b = some o → h'.get? b = some o)) E) PySem.F.called_set.init.plain PySem.F.entry_set_init (check_set_init_1 hT ?_)) fun r₂ s₂ hr₂ => ?_
      · obtain ⟨ol, hol, hcl, nl, hdl⟩ := hl
        obtain ⟨ocls, odict, odata, oslots⟩ := ol
        simp only at hcl hdl
        subst hcl; subst hdl
        have hol' : (s.heap.push { cls := .type "set", dict := none, data := .set #[] 0 (.fresh 0 0 led) }).get? l = some { cls := .type "list", dict := odict, data := .seq items nl, slots := oslots } := Heap.get?_push_of_some _ hol
        have hsls := PySem.F.sub_list_set
        have hslf := PySem.F.sub_list_frozenset
        have hne : (Value.type "list" == Value.type "dict") = false := by decide
        have hl1 : (s.heap.push { cls := .type "set", dict := none, data := .set #[] 0 (.fresh 0 0 led) }).IsList l items := ⟨_, hol', rfl, nl, rfl⟩
        unfold Builtin.«set.__init__» noKeywords Builtin.Frozenset.updateFrom
        generalize hPI : pyIter = PI
        wp_walk
        subst hPI
        refine wpAny_pyIter_list hl1 ?_
        refine wpAny_bind (wpAny_runValue ?_)
        have hlS : l < s.heap.objs.size := Heap.lt_size hol
        have hh3 : A.in1.in1.in1.handled = none := by simp [hh]
        have hneI : l ≠ (s.heap.push { cls := .type "set", dict := none, data := .set #[] 0 (.fresh 0 0 led) }).objs.size := by
          rw [Heap.size_push]; exact Nat.ne_of_lt (Nat.lt_succ_of_lt hlS)
        have hSf : s.heap.objs.size ∉ [(s.heap.push { cls := .type "set", dict := none, data := .set #[] 0 (.fresh 0 0 led) }).objs.size, l] := by
          rw [Heap.size_push]; simp only [List.mem_cons, List.mem_singleton, List.not_mem_nil, or_false, not_or]
          exact ⟨Nat.ne_of_lt (Nat.lt_succ_self _), Nat.ne_of_gt hlS⟩
        have hsz : xs.length = items.size := by rw [← StrsAre.len_eq hi, Array.length_toList]
        refine texts_in ((Walks.list hh3 _ l hneI items).toS) s.heap.objs.size hSf xs hsz (by rw [← hsz]; exact hn)
          (fun i v hv => SS.strs_at hi i v (by rw [Array.getElem?_toList]; exact hv)) items.size 0 _ (by omega) ⟨⟨_, Heap.get?_push_size _ rfl, rfl, rfl⟩, (hl1.push _)⟩ ?hS0 ?hR
        case hS0 =>
          have hget : ((s.heap.push { cls := .type "set", dict := none, data := .set #[] 0 (.fresh 0 0 led) }).push { cls := .type "list_iterator", data := .fields #[.ref l, .int 0 0] }).get? s.heap.objs.size
              = some { cls := .type "set", dict := none, data := .set #[] 0 (.fresh 0 0 led) } := Heap.get?_push_of_some _ hS
          exact PyProof.Rows.SetOf_congr ((PyProof.Rows.setObjOf_fresh (knd := PySem.strKind prog w) led).setOf hget (by unfold scanBound; omega)) (fun _ => by simp) rfl
        case hR =>
          intro s' hm hS'
          obtain ⟨h', g', d', tk', os'⟩ := s'
          have eg : g' = s.gens := hm.gens
          have ed : d' = s.drawn := hm.drawn
          have eo : os' = s.os := hm.os
          subst eg; subst ed; subst eo
          show wpAny _ _ _ _ _ _
          refine wpAny_pure ?_
          show wpAny _ _ (ret Value.none) _ _ _
          refine wpAny_pure ⟨rfl, h', tk', rfl, hS', fun b o hb e => ?_⟩
          have hb2 : b ≠ (s.heap.push { cls := .type "set", dict := none, data := .set #[] 0 (.fresh 0 0 led) }).objs.size := by
            rw [Heap.size_push]; exact Nat.ne_of_lt (Nat.lt_succ_of_lt hb)
          exact hm.heap b o (by simp only [List.mem_cons, List.mem_singleton, List.not_mem_nil, or_false, not_or]; exact ⟨Nat.ne_of_lt hb, hb2⟩) (Heap.get?_push_of_some _ (Heap.get?_push_of_some _ e))
      · cases r₂ with
        | error e => exact hr₂
        | ok fl₂ =>
          cases fl₂ with
          | ret r =>
            obtain ⟨rfl, h', tk, rfl, hS', hk'⟩ := hr₂
            repeat (any_goals (first | assumption | wp_step))
            exact h _ _ hS' hk'
          | _ => exact hr₂.elim
    | _ => exact hr.elim
end
def tLenTexts (K : PySem.W.Frag) (ta : TE) : TE := fun σ H Q => ta σ H fun x H1 => ∃ l, ∃ xs : List Str, x = .ref l ∧ SqL K H1 l (xs.map V.str) ∧ xs.length ≤ 60 ∧ Q (.int (onceT xs).length) H1
theorem pe_lenTexts {X : Cx} {a : Expr} {ta : TE} {p p2 q pos : Pos} (hc : X.calm = true) (hg : L2.Gl X "len") (hm : X.mg "len" = none) (hg2 : L2.Gl X "set") (hm2 : X.mg "set" = none) (ha : PE X a ta)
    (na : starEach [a] X.env = (false, eval a X.env) :: starEach [] X.env := by rfl) : PE X (.Call (.Name "len" p) [.Call (.Name "set" p2) [a] [] q] [] pos) (tLenTexts X.K ta) := by
  refine ⟨fun pins s σ H Q I h => ?_⟩
  refine Call_ (ld_blt I hg hm boot_len ?_)
  refine PyProof.Rows.callWith_builtin1 (PyProof.Rows.args_cons ?_ rfl) rfl rfl
  refine Call_ (ld_blt I hg2 hm2 boot_set ?_)
  refine PyProof.Rows.callWith_type1 (PyProof.Rows.args_cons (thn (ha.run pins s σ H _ I h) fun v s1 ⟨x, H1, I1, r1, q1⟩ => PyProof.Rows.args_nil ?_) na) na rfl
  obtain ⟨l, xs, rfl, hq, h1, q1⟩ := q1
  cases r1
  obtain ⟨its, r, pl, hz⟩ := I1.list hq
  refine set_of_texts (I1.ok.hd hc) pl.isList (by simpa using strsAre_of r) h1 fun h' tk hS hk => PyProof.Rows.args_nil ?_
  obtain ⟨o, es, ep, t, ho, hex, hd, _, _, _, hf, hn⟩ := hS
  have I2 : Inv X pins σ H1 { s1 with heap := h', toks := tk } := I1.kept fun b o e => hk b o (Heap.lt_size e) e
  have := onceT_le _ xs rfl
  exact call_len_set ho hex hd hf (by rw [hn]; omega) ⟨.int (onceT xs).length, H1, I2.tok _, ⟨_, by rw [hn]⟩, q1⟩
def g_lenT : D → Res D
  | .lst ds => (match strsOf ds with
    | some ys => if ys.length ≤ 60 then .ok (.int (onceT ys).length) else .no
    | none => .no)
  | _ => .no
theorem de_lenT {X : Cx} {W : WX} {e : Expr} {f : Env → Res D} {p p2 q pos : Pos} (hc : X.calm = true) (hg : L2.Gl X "len") (hm : X.mg "len" = none) (hg2 : L2.Gl X "set") (hm2 : X.mg "set" = none) (d : DE X W e f)
    (na : starEach [e] X.env = (false, eval e X.env) :: starEach [] X.env := by rfl) : DE X W (.Call (.Name "len" p) [.Call (.Name "set" p2) [e] [] q] [] pos) (v1 g_lenT f) := by
  obtain ⟨t, pe, h1⟩ := d
  refine ⟨_, pe_lenTexts hc hg hm hg2 hm2 pe na, fun G H σ ρ Q s e h => ?_⟩
  refine h1 G H σ ρ _ s e (Gl.imp (fun x G1 H1 _ e1 k v rv => ?_) (Gl.bind h))
  cases x with
  | lst ds =>
    obtain ⟨b, ws, rfl, hb, rb⟩ := rv
    unfold g_lenT at k
    simp only at k
    split at k
    · rename_i ys hys
      split at k
      · rename_i z
        have := strsOf_eq hys
        subst this
        have ew := strs_of_reps rb
        subst ew
        exact ⟨b, ys, rfl, e1.s.sqL hb, z, k.int e1.s⟩
      · exact k.elim
    · exact k.elim
  | _ => exact k.elim
end DL
namespace DL
open PySem PySem.Spec PyProof.Rows L2
def ItzM (K : PySem.W.Frag) (a b : Addr) : It :=
  ⟨fun i H => ∃ (xs ys : List V) (x y : V), SqT K H a xs ∧ SqL K H b ys ∧ xs[i]? = some x ∧ ys[i]? = some y,
    fun i H v H' => ∃ T x y, v = .ref T ∧ H T = none ∧ H' = upd H T (.tup [x, y]) ∧ (∀ xs, SqT K H a xs → xs[i]? = some x) ∧ ∀ ys, SqL K H b ys → ys[i]? = some y,
    fun i H => ∃ xs ys : List V, SqT K H a xs ∧ SqL K H b ys ∧ (xs.length ≤ i ∨ ys.length ≤ i)⟩
theorem overT {prog : Program} {w : World} {A : Around} (hh : A.handled = none) (it l : Addr) (items : Array Value) (i : Nat) (hx : items[i]? = none) :
    Draws prog w A it [it, l] i (fun _ _ => True) (fun j h => j = i ∧ h.IsTupleIter it l i ∧ h.IsTuple l items) where
  live := fun _ _ st => let ⟨o, ho, _⟩ := st.2.1; ⟨o, ho⟩
  frame := fun _ _ _ st hk => ⟨st.1, st.2.1.at fun o e => hk it (by simp) o e, st.2.2.at fun o e => hk l (by simp) o e⟩
  item := fun j s Q E hj st hQ => absurd st.1 (Nat.ne_of_lt hj)
  done := fun s Q E st hE => wpAny_nextOf_tuple_end hh st.2.1 st.2.2 hx hE
theorem overL {prog : Program} {w : World} {A : Around} (hh : A.handled = none) (it l : Addr) (items : Array Value) (i : Nat) (hx : items[i]? = none) :
    Draws prog w A it [it, l] i (fun _ _ => True) (fun j h => j = i ∧ h.IsListIter it l i ∧ h.IsList l items) where
  live := fun _ _ st => let ⟨o, ho, _⟩ := st.2.1; ⟨o, ho⟩
  frame := fun _ _ _ st hk => ⟨st.1, st.2.1.at fun o e => hk it (by simp) o e, st.2.2.at fun o e => hk l (by simp) o e⟩
  item := fun j s Q E hj st hQ => absurd st.1 (Nat.ne_of_lt hj)
  done := fun s Q E st hE => wpAny_nextOf_list_end hh st.2.1 st.2.2 hx hE
theorem turn_zipM {P : Program} {w : World} {K : PySem.W.Frag} {elts : List Expr} {kk : Nat} {tpos : Pos} {a b z TI TO i1 i2 : Addr} (D : ZipSep2 z TI TO i1 i2 [i1, a] [i2, b]) (na : a ≠ i1) (nb : b ≠ i2) :
    Turn P w K (.Tuple elts kk tpos) (ItzM K a b) [z, TI, TO, i1, i2] z (fun i h => IsZip h z TI TO .none ∧ IsTupOf2 h TI (.ref i1) (.ref i2) ∧ (∃ x y, IsTupOf2 h TO x y) ∧ h.IsTupleIter i1 a i ∧ h.IsListIter i2 b i) where
  mem := by simp
  obj := fun i h st c hc => by
    obtain ⟨hz, hTI, ⟨x, y, hTO⟩, ⟨o1, e1, _, d1⟩, ⟨o2, e2, _, d2⟩⟩ := st
    simp only [List.mem_cons, List.not_mem_nil, or_false] at hc
    rcases hc with rfl | rfl | rfl | rfl | rfl
    · exact ⟨_, hz, fun v q => nomatch q⟩
    · exact ⟨_, hTI, fun v q => nomatch q⟩
    · exact ⟨_, hTO, fun v q => nomatch q⟩
    · exact ⟨o1, e1, fun v q => by rw [d1] at q; cases q⟩
    · exact ⟨o2, e2, fun v q => by rw [d2] at q; cases q⟩
  keep := fun i h h' st k => by
    obtain ⟨hz, hTI, ⟨x, y, hTO⟩, h1, h2⟩ := st
    exact ⟨k z (by simp) _ hz, k TI (by simp) _ hTI, ⟨x, y, k TO (by simp) _ hTO⟩, h1.at fun o q => k i1 (by simp) o q, h2.at fun o q => k i2 (by simp) o q⟩
  item := by
    intro X hP hw hK hc i pins s σ H E I hf st hg
    subst hP hw hK
    obtain ⟨hz, hTI, ⟨x0, y0, hTO⟩, h1, h2⟩ := st
    obtain ⟨xs, ys, x, y, hqx, hqy, hx, hy⟩ := hg
    obtain ⟨its, rv, p, _⟩ := I.tuple hqx
    obtain ⟨its2, rv2, p2, _⟩ := I.list hqy
    obtain ⟨u, hu, ru⟩ := rv.get hx
    obtain ⟨u2, hu2, ru2⟩ := rv2.get hy
    have hzl : z < s.heap.objs.size := Heap.lt_size hz
    have hd : X.A.in1.handled = none := by have := I.ok.hd hc; simpa using this
    have n1 : i < its.toArray.size := by have := (List.getElem?_eq_some_iff.mp hu).1; simpa using this
    have n2 : i < its2.toArray.size := by have := (List.getElem?_eq_some_iff.mp hu2).1; simpa using this
    refine wpAny_pyNext_zipD2_item D (Draws.tuple hd i1 a na its.toArray) (Draws.list hd i2 b nb its2.toArray) hz hTI hTO ⟨h1, show s.heap.IsTuple a its.toArray from p⟩ ⟨h2, p2.isList⟩ n1 n2 fun x1 x2 h' tk ex1 ex2 z' TO' st1 st2 hT hsz hk => ?_
    have q1 : x1 = u := by
      have : its.toArray[i]? = some u := by simpa using hu
      rw [this] at ex1; exact (Option.some.inj ex1).symm
    have q2 : x2 = u2 := by
      have : its2.toArray[i]? = some u2 := by simpa using hu2
      rw [this] at ex2; exact (Option.some.inj ex2).symm
    subst q1 q2
    refine ⟨_, rfl, wpAny_letOwnedTupleGo_zip (s := { s with heap := h', toks := tk }) z' fun h'' z'' sb => ?_⟩
    have hT2 : h''.get? s.heap.objs.size = some { cls := .type "tuple", data := .seq #[x1, x2] } := (sb.2 _ (Nat.ne_of_gt hzl)).trans hT
    have new : ObjOk X.prog X.w (upd H s.heap.objs.size (.tup [x, y])) h'' s.heap.objs.size (.tup [x, y]) :=
      ⟨by show 2 ≤ sizeLine; decide, [x1, x2], .cons ru (.cons ru2 .nil), ⟨_, hT2, rfl, _, rfl⟩⟩
    have I1 : Inv X pins σ (upd H s.heap.objs.size (.tup [x, y])) { s with heap := h'', toks := tk } :=
      I.turnedNew (t' := tk) (ch := [z, TI, TO, i1, i2]) (fun c o hb q => (sb.2 c (fun q' => hb (by simp [q']))).trans (hk c o (fun q' => hb (by simp [q'])) (fun q' => hb (by simp [q'])) (fun q' => hb (by simp [q'])) (fun q' => hb (by simp [q'])) q)) hf (Nat.le_refl _) new
    refine ⟨.ref s.heap.objs.size, _, I1, rfl, ⟨_, x, y, rfl, I.hok.fresh (Nat.le_refl _), rfl, fun l hl => by rw [I.tuple_inj hl hqx]; exact hx, fun l hl => by rw [I.list_inj hl hqy]; exact hy⟩, ⟨z'', ?_, ⟨x1, x2, ?_⟩, ?_, ?_⟩, fun c hcm => ?_⟩
    · exact (sb.2 _ D.TIz).trans (hk _ _ D.TIz D.TITO D.TIi1 D.TIi2 hTI)
    · exact (sb.2 _ D.TOz).trans TO'
    · exact st1.1.at fun o q => (sb.2 _ D.zi1.symm).trans q
    · exact st2.1.at fun o q => (sb.2 _ D.zi2.symm).trans q
    · have hlt : c < s.heap.objs.size := by
        simp only [List.mem_cons, List.not_mem_nil, or_false] at hcm
        rcases hcm with rfl | rfl | rfl | rfl | rfl
        · exact hzl
        · exact Heap.lt_size hTI
        · exact Heap.lt_size hTO
        · obtain ⟨_, e1, _⟩ := h1; exact Heap.lt_size e1
        · obtain ⟨_, e2, _⟩ := h2; exact Heap.lt_size e2
      rw [upd_ne (Nat.ne_of_lt hlt)]
      exact (hf c hcm).1
  done := by
    intro X hP hw hK hc i pins s σ H E I hf st hg
    subst hP hw hK
    obtain ⟨hz, hTI, ⟨x0, y0, hTO⟩, h1, h2⟩ := st
    obtain ⟨xs, ys, hqx, hqy, hend⟩ := hg
    obtain ⟨its, rv, p, _⟩ := I.tuple hqx
    obtain ⟨its2, rv2, p2, _⟩ := I.list hqy
    have l1 := rv.length
    have l2 := rv2.length
    have hd : X.A.in1.handled = none := by have := I.ok.hd hc; simpa using this
    have P1 : s.heap.IsTuple a its.toArray := p
    have P2 : s.heap.IsList b its2.toArray := p2.isList
    have fin : ∀ (h' : Heap) (tk : Nat), (∀ c o, c ≠ z → c ≠ TO → c ≠ i1 → c ≠ i2 → s.heap.get? c = some o → h'.get? c = some o) → (none : Option Value) = none ∧ Inv X pins σ H { s with heap := h', toks := tk } := fun h' tk hk => ⟨rfl, I.turnedL (t' := tk) (ch := [z, TI, TO, i1, i2]) (fun c o hb q =>
      hk c o (fun q' => hb (by simp [q'])) (fun q' => hb (by simp [q'])) (fun q' => hb (by simp [q'])) (fun q' => hb (by simp [q'])) q) hf⟩
    by_cases e1 : its.toArray[i]? = none
    · by_cases e2 : its2.toArray[i]? = none
      · exact wpAny_pyNext_zipD2_end D (overT hd i1 a its.toArray i e1) (overL hd i2 b its2.toArray i e2) hz hTI hTO ⟨rfl, h1, P1⟩ ⟨rfl, h2, P2⟩ (Nat.le_refl _) (Nat.le_refl _) (.inl rfl) fin
      · have : i < its2.toArray.size := by simpa using e2
        exact wpAny_pyNext_zipD2_end D (overT hd i1 a its.toArray i e1) (Draws.list hd i2 b nb its2.toArray) hz hTI hTO ⟨rfl, h1, P1⟩ ⟨h2, P2⟩ (Nat.le_refl _) (Nat.le_of_lt this) (.inl rfl) fin
    · have lt : i < its.toArray.size := by simpa using e1
      have e2 : its2.toArray[i]? = none := by
        have q : i < its.length := by simpa using lt
        have q2 : its2.length ≤ i := by rcases hend with h | h <;> omega
        simpa using q2
      exact wpAny_pyNext_zipD2_end D (Draws.tuple hd i1 a na its.toArray) (overL hd i2 b its2.toArray i e2) hz hTI hTO ⟨h1, P1⟩ ⟨rfl, h2, P2⟩ (Nat.le_of_lt lt) (Nat.le_refl _) (.inr rfl) fin
  self := fun A i s Q E st h => wpAny_pyIter_zip st.1 h
def iZipM (K : PySem.W.Frag) (ta : TA) : TI := fun σ H R => ta σ H fun vs H1 => ∃ a b xs ys, vs = [.ref a, .ref b] ∧ SqT K H1 a xs ∧ SqL K H1 b ys ∧ R (ItzM K a b) H1
theorem pi_zipM {X : Cx} {e e2 : Expr} {ta : TA} {p pos tpos : Pos} {elts : List Expr} {kk : Nat} (hg : L2.Gl X "zip") (hm : X.mg "zip" = none) (ha : PA X [e, e2] ta)
    (hs : starEach [e, e2] X.env = (false, eval e X.env) :: starEach [e2] X.env := by rfl) (hpl : (backTo pos (starEach [e2] X.env)).any (·.1) = false := by rfl) :
    PI X (.Tuple elts kk tpos) (.Call (.Name "zip" p) [e, e2] [] pos) (iZipM X.K ta) := by
  refine ⟨fun pins s σ H R I h => ?_⟩
  refine Call_ (ld_blt I hg hm PyProof.Rows.boot_zip (PyProof.Rows.callWith_type1 (thn (ha.run pos pins s σ H _ I h) fun us s1 ⟨vs, H1, I1, r1, q1⟩ => ?_) hs hpl))
  obtain ⟨a, b, xs, ys, ex, hqx, hqy, q⟩ := q1
  subst ex
  obtain ⟨u1, us, rfl, ra, rr⟩ : ∃ u1 us', us = u1 :: us' ∧ RelV (.ref a) u1 ∧ Vals [.ref b] us' := by cases r1 with | cons r rr => exact ⟨_, _, rfl, r, rr⟩
  obtain ⟨u2, rfl, rb⟩ := vals1 rr
  cases ra
  cases rb
  obtain ⟨its, rv, p1, _⟩ := I1.tuple hqx
  obtain ⟨its2, rv2, p2, _⟩ := I1.list hqy
  obtain ⟨o1, ho1, _⟩ := id p1
  have la : a < s1.heap.objs.size := Heap.lt_size ho1
  have lb : b < s1.heap.objs.size := p2.lt
  have P2 : s1.heap.IsList b its2.toArray := p2.isList
  have fresh5 : ∀ c, c ∈ [s1.heap.objs.size + 4, s1.heap.objs.size + 2, s1.heap.objs.size + 3, s1.heap.objs.size, s1.heap.objs.size + 1] → FpOk X pins H1 c := fun c hcm => by
    have hle : s1.heap.objs.size ≤ c := by
      simp only [List.mem_cons, List.not_mem_nil, or_false] at hcm
      rcases hcm with z | z | z | z | z
      · rw [z]; exact Nat.le_add_right _ _
      · rw [z]; exact Nat.le_add_right _ _
      · rw [z]; exact Nat.le_add_right _ _
      · rw [z]; exact Nat.le_refl _
      · rw [z]; exact Nat.le_add_right _ _
    exact I1.fpOk hle (I1.hok.fresh hle)
  refine zip_begins2 (begins_tuple a its.toArray) (begins_list b its2.toArray) (show s1.heap.IsTuple a its.toArray from p1) P2 fun h' hz hTI hTO g1 g2 hsz hk => wpAny_pyIter_zip hz ?_
  have I2 : Inv X pins σ H1 { s1 with heap := h' } := I1.kept (t' := s1.toks) hk
  have S : ZipSep2 (s1.heap.objs.size + 4) (s1.heap.objs.size + 2) (s1.heap.objs.size + 3) s1.heap.objs.size (s1.heap.objs.size + 1) [s1.heap.objs.size, a] [s1.heap.objs.size + 1, b] :=
    zip_sep2 (fun c hc => by rw [List.mem_singleton.mp hc]; exact la) (fun c hc => by rw [List.mem_singleton.mp hc]; exact lb)
  exact ⟨s1.heap.objs.size + 4, [s1.heap.objs.size + 4, s1.heap.objs.size + 2, s1.heap.objs.size + 3, s1.heap.objs.size, s1.heap.objs.size + 1], _, _, H1, rfl, I2, turn_zipM S (Nat.ne_of_lt la) (Nat.ne_of_lt (Nat.lt_succ_of_lt lb)), ⟨hz, hTI, ⟨_, _, hTO⟩, ⟨_, g1, rfl, rfl⟩, ⟨_, g2, rfl, rfl⟩⟩, fresh5, q⟩
def zipMR : D → D → Res (List D)
  | .tup xs, .lst ys => .ok (zipD xs ys)
  | _, _ => .no
def iZip2M (f g : Env → Res D) : Env → Res (List D) := fun ρ => f ρ >>= fun x => g ρ >>= fun y => zipMR x y
section
variable {K : PySem.W.Frag} {G : Hp} {a : Addr} {vs : List V} {ds : List D}
theorem itd_zipM {b : Addr} {ws : List V} {es : List D} (h : G a = some (.tup vs)) (r : Reps G ds vs) (hb : Rd G b (.lst ws)) (rb : Reps G es ws) : ItD (ItzM K a b) G (zipD ds es) := by
  intro G2 H2 i g sb
  have h2 := sb.sqT (K := K) (g _ _ h)
  have hb2 := sb.sqL (K := K) (rd_up g hb)
  have r2 := r.le (Le.of g)
  have rb2 := rb.le (Le.of g)
  refine ⟨fun d e => ?_, fun e => ⟨vs, ws, h2, hb2, ?_⟩⟩
  · obtain ⟨x, x', e1, e1', rfl⟩ := zipD_get e
    obtain ⟨v, e2, rv⟩ := r2.get e1
    obtain ⟨v', e2', rv'⟩ := rb2.get e1'
    refine ⟨⟨vs, ws, v, v', h2, hb2, e2, e2'⟩, fun w H' y => ?_⟩
    obtain ⟨T, z, z', rfl, nT, rfl, y, y'⟩ := y
    have y := y vs h2
    rw [e2] at y; cases y
    have y' := y' ws hb2
    rw [e2'] at y'; cases y'
    have ex : Ext G2 H2 (upd G2 T (.tup [v, v'])) (upd H2 T (.tup [v, v'])) := Ext.new sb nT
    exact ⟨_, ex, T, _, rfl, upd_same, v, [v'], rfl, rv.le ex.le, v', [], rfl, rv'.le ex.le, rfl⟩
  · rw [r.length, rb.length]; rw [zipD_len] at e; omega
end
section
variable {X : Cx} {W : WX} {e e2 : Expr} {f g : Env → Res D} {p pos : Pos}
theorem di_zip2M {elts : List Expr} {kk : Nat} {tpos : Pos} (hg : L2.Gl X "zip") (hm : X.mg "zip" = none) (d : DE X W e f) (d2 : DE X W e2 g) (hs : starEach [e, e2] X.env = (false, eval e X.env) :: starEach [e2] X.env := by rfl) (hs2 : starEach [e2] X.env = (false, eval e2 X.env) :: starEach [] X.env := by rfl)
    (hpl : (backTo pos (starEach [e2] X.env)).any (·.1) = false := by rfl) : DI X W (.Tuple elts kk tpos) (.Call (.Name "zip" p) [e, e2] [] pos) (iZip2M f g) := by
  obtain ⟨t, pe, h1⟩ := d
  obtain ⟨t2, pe2, h2⟩ := d2
  refine ⟨_, pi_zipM hg hm (pa_cons pe (pa_cons pe2 pa_nil hs2) hs) hs hpl, fun G H σ ρ R s e h => ?_⟩
  refine h1 G H σ ρ _ s e (Gl.imp (fun x G1 H1 _ e1 k v rv => ?_) (Gl.bind h))
  refine h2 G1 H1 σ ρ _ e1.s (e.le e1.le) (Gl.imp (fun y G2 H2 _ e2 k w rw' => ?_) (Gl.bind k))
  cases x with
  | tup xs =>
    cases y with
    | lst ys =>
      obtain ⟨a, vs, rfl, ha, ra⟩ := rv.le e2.le
      obtain ⟨b, ws, rfl, hb, rb⟩ := rw'
      exact ⟨a, b, vs, ws, rfl, e2.s.sqT ha, e2.s.sqL hb, k G2 H2 (Ext.refl e2.s) _ (itd_zipM ha ra hb rb)⟩
    | _ => exact k.elim
  | _ => exact k.elim
end
end DL
namespace DL
open PySem PySem.Spec PyProof.Rows L2
def rNotInT (K : PySem.W.Frag) : R2 := fun x y H Q => ∃ d ds, Dp K H x d ∧ Dp K H y (.tuple ds) ∧ SeqAt.shaped d = true ∧ SeqAt.shaped (.tuple ds) = true ∧ Q (.bl (!(ds.any fun z => PyData.eqv z d))) H
theorem op_notInT {X : Cx} (hu : X.A.units + 65 < cLine) : OpR X (compareOp .NotIn) (rNotInT X.K) := by
  intro pins s σ H x y v u Q I rx ry h
  obtain ⟨d, ds, hd, he, sd, se, q⟩ := h
  obtain ⟨as, r1⟩ := Dp.reads I d x v hd rx
  obtain ⟨bs, r2⟩ := Dp.reads I (.tuple ds) y u he ry
  exact SeqAt.notIn_tuple_reads r2 r1 (SeqAt.canLay_of_shaped se) (SeqAt.canLay_of_shaped sd) (room_in_shaped sd hu) ⟨.bl _, H, I, rfl, q⟩
def g_notinT : D → D → Res D
  | x, .tup ys => if SeqAt.shaped (py x) = true ∧ SeqAt.shaped (py (.tup ys)) = true then .ok (.bl (!((pys ys).any fun z => PyData.eqv z (py x)))) else .no
  | _, _ => .no
theorem say_notinT {X : Cx} {W : WX} : Say2 X W (rNotInT X.K) g_notinT := by
  intro G H σ Q x y a b s r1 r2 h
  cases y with
  | tup ys =>
    simp only [g_notinT] at h
    split at h
    · rename_i z
      have d2 : Dp X.K H b (py (.tup ys)) := dp_of s (SeqAt.canLay_of_shaped z.2) r2
      exact ⟨_, pys ys, dp_of s (SeqAt.canLay_of_shaped z.1) r1, d2, z.1, z.2, h.bl s⟩
    · exact h.elim
  | _ => exact h.elim
theorem de_textG {X : Cx} {W : WX} {x : Str} {a : Str} {pos : Pos} (hg : L2.Gl X x) (hm : ∃ tk, X.mg x = some (.str a tk)) (hd : (x == ("__debug__" : Str)) = false := by decide) : DE X W (.Name x pos) (vC (.str a)) :=
  Exists.elim hm fun _ h => de_globS hg h hd
end DL
namespace DL
open PySem PySem.Spec PyProof.Rows L2
section
variable {X : Cx} {W : WX}
inductive DJ (X : Cx) (W : WX) : List Expr → List (Env → Res D) → Prop where
  | nil : DJ X W [] []
  | cons {e : Expr} {f : Env → Res D} {es : List Expr} {fs : List (Env → Res D)} (h : DE X W e f) (r : DJ X W es fs) : DJ X W (e :: es) (f :: fs)
end
end DL
namespace DL
end DL
namespace DL
end DL
namespace DL
end DL
namespace DL
end DL
namespace DL
end DL
namespace DL
end DL
namespace DL
end DL
namespace DL
end DL
namespace DL
end DL
namespace DL
open PySem PySem.Spec PyProof.Rows L2
mutual
theorem reads_imm {h : Heap} : ∀ {d : D} {v : Value} {as : List Addr}, imm d = true → PySem.Reads h v (py d) as → as = []
  | .non, _, _, _, r => by cases (show PySem.Reads h _ .none _ from r); rfl
  | .bl b, _, _, _, r => by cases (show PySem.Reads h _ (.bool b) _ from r); rfl
  | .int i, _, _, _, r => by cases (show PySem.Reads h _ (.int i) _ from r); rfl
  | .str x, _, _, _, r => by cases (show PySem.Reads h _ (.str x) _ from r); rfl
  | .tup xs, _, _, i, r => by
    cases (show PySem.Reads h _ (.tuple (pys xs)) _ from r) with
    | tuple h1 h2 h3 h4 => exact readsAll_imm (by simpa [imm] using i) h4
  | .lst xs, _, _, i, _ => by simp [imm] at i
  | .dK xs, _, _, i, _ => by simp [imm] at i
  | .dT xs, _, _, i, _ => by simp [imm] at i
  | .obj _ _, _, _, i, _ => by simp [imm] at i
  | .dN _ _, _, _, i, _ => by simp [imm] at i
theorem readsAll_imm {h : Heap} : ∀ {ds : List D} {vs : List Value} {as : List Addr}, imms ds = true → PySem.ReadsAll h vs (pys ds) as → as = []
  | [], _, _, _, r => by cases (show PySem.ReadsAll h _ [] _ from r); rfl
  | d :: ds, _, _, i, r => by
    have j : imm d = true ∧ imms ds = true := by simpa [imms] using i
    cases (show PySem.ReadsAll h _ (py d :: pys ds) _ from r) with
    | cons h1 h2 => rw [reads_imm j.1 h1, readsAll_imm j.2 h2]; rfl
end
end DL
namespace DL
end DL
namespace DL
end DL
namespace DL
end DL
namespace DL
end DL
namespace DL
end DL
namespace DL
end DL
namespace DL
end DL
namespace DL
end DL
namespace DL
end DL
namespace DL
end DL
namespace DL
end DL
namespace DL
open PySem L2
theorem kb_NoneType_int : kitB "NoneType" "int" = some false := by decide +kernel
@[simp] theorem isi_int_non  : g_isi "int" (.non ) = .ok (.bl false) := by show (match kitB "NoneType" "int" with | some b => Res.ok (D.bl b) | none => .no) = _; rw [kb_NoneType_int]
theorem kb_int_int : kitB "int" "int" = some true := by decide +kernel
@[simp] theorem isi_int_int (i : Int) : g_isi "int" (.int i) = .ok (.bl true) := by show (match kitB "int" "int" with | some b => Res.ok (D.bl b) | none => .no) = _; rw [kb_int_int]
theorem kb_str_int : kitB "str" "int" = some false := by decide +kernel
@[simp] theorem isi_int_str (x : Str) : g_isi "int" (.str x) = .ok (.bl false) := by show (match kitB "str" "int" with | some b => Res.ok (D.bl b) | none => .no) = _; rw [kb_str_int]
theorem kb_int_bool : kitB "int" "bool" = some false := by decide +kernel
@[simp] theorem isi_bool_int (i : Int) : g_isi "bool" (.int i) = .ok (.bl false) := by show (match kitB "int" "bool" with | some b => Res.ok (D.bl b) | none => .no) = _; rw [kb_int_bool]
theorem kb_NoneType_str : kitB "NoneType" "str" = some false := by decide +kernel
@[simp] theorem isi_str_non  : g_isi "str" (.non ) = .ok (.bl false) := by show (match kitB "NoneType" "str" with | some b => Res.ok (D.bl b) | none => .no) = _; rw [kb_NoneType_str]
theorem kb_bool_str : kitB "bool" "str" = some false := by decide +kernel
@[simp] theorem isi_str_bl (b : Bool) : g_isi "str" (.bl b) = .ok (.bl false) := by show (match kitB "bool" "str" with | some b => Res.ok (D.bl b) | none => .no) = _; rw [kb_bool_str]
theorem kb_int_str : kitB "int" "str" = some false := by decide +kernel
@[simp] theorem isi_str_int (i : Int) : g_isi "str" (.int i) = .ok (.bl false) := by show (match kitB "int" "str" with | some b => Res.ok (D.bl b) | none => .no) = _; rw [kb_int_str]
theorem kb_str_str : kitB "str" "str" = some true := by decide +kernel
@[simp] theorem isi_str_str (x : Str) : g_isi "str" (.str x) = .ok (.bl true) := by show (match kitB "str" "str" with | some b => Res.ok (D.bl b) | none => .no) = _; rw [kb_str_str]
theorem kb_tuple_str : kitB "tuple" "str" = some false := by decide +kernel
@[simp] theorem isi_str_tup (xs : List D) : g_isi "str" (.tup xs) = .ok (.bl false) := by show (match kitB "tuple" "str" with | some b => Res.ok (D.bl b) | none => .no) = _; rw [kb_tuple_str]
theorem kb_list_str : kitB "list" "str" = some false := by decide +kernel
@[simp] theorem isi_str_lst (xs : List D) : g_isi "str" (.lst xs) = .ok (.bl false) := by show (match kitB "list" "str" with | some b => Res.ok (D.bl b) | none => .no) = _; rw [kb_list_str]
theorem kb_dict_str : kitB "dict" "str" = some false := by decide +kernel
@[simp] theorem isi_str_dK (xs : List (Key × D)) : g_isi "str" (.dK xs) = .ok (.bl false) := by show (match kitB "dict" "str" with | some b => Res.ok (D.bl b) | none => .no) = _; rw [kb_dict_str]
theorem kb_list_list : kitB "list" "list" = some true := by decide +kernel
@[simp] theorem isi_list_lst (xs : List D) : g_isi "list" (.lst xs) = .ok (.bl true) := by show (match kitB "list" "list" with | some b => Res.ok (D.bl b) | none => .no) = _; rw [kb_list_list]
theorem kb_tuple_tuple : kitB "tuple" "tuple" = some true := by decide +kernel
@[simp] theorem isi_tuple_tup (xs : List D) : g_isi "tuple" (.tup xs) = .ok (.bl true) := by show (match kitB "tuple" "tuple" with | some b => Res.ok (D.bl b) | none => .no) = _; rw [kb_tuple_tuple]
end DL
namespace DL
open PySem L2
section
variable {ρ : Env}
@[simp] theorem forget_nil : forget ρ [] = ρ := rfl
@[simp] theorem forget_cons {i : Nat} {r : List Nat} : forget ρ (i :: r) = forget (ρ.set i none) r := rfl
@[simp] theorem wipeE_nil : wipeE ρ [] = ρ := rfl
@[simp] theorem wipeE_cons {v : Nat} {vs : List Nat} : wipeE ρ (v :: vs) = (wipeE ρ vs).set v none := rfl
@[simp] theorem setE_nil {ds : List D} : setE ρ [] ds = ρ := by unfold setE; rfl
@[simp] theorem setE_cons {i : Nat} {is : List Nat} {d : D} {ds : List D} : setE ρ (i :: is) (d :: ds) = setE (ρ.set i (some d)) is ds := rfl
@[simp] theorem startE_eq {n : Nat} {ds : List D} : startE n ds = ds.map some ++ List.replicate (n - ds.length) none := rfl
@[simp] theorem maskE_cons {i : Nat} {k : Kd} {own : Owns} : maskE ((i, k) :: own) ρ = maskE own (ρ.set i none) := rfl
@[simp] theorem ksNil_nil : ksNil [] = .ok [] := rfl
@[simp] theorem ksCons_cons {k : D → Res (List D)} {ks : List D → Res (List D)} {d : D} {r : List D} : ksCons k ks (d :: r) = (k d).thn fun l => (ks r).thn fun m => .ok (l ++ m) := rfl
@[simp] theorem kTup_tup {n : Nat} {ks : List D → Res (List D)} {ds : List D} : kTup n ks (.tup ds) = if ds.length = n then ks ds else .no := rfl
@[simp] theorem lenZ : sizeLine = 16777216 := rfl
@[simp] theorem imms_app (xs ys : List D) : imms (xs ++ ys) = (imms xs && imms ys) := imms_append xs ys
end
@[simp] theorem appD_eq {ρ : Env} {j : Nat} {d : D} : appD ρ j d = (match ρ[j]? with | some (some (.lst ds)) => if ds.length < sizeLine then .nx (ρ.set j (some (.lst (ds ++ [d])))) else .no | _ => .no) := rfl
@[simp] theorem isLst_eq {ρ : Env} {j : Nat} : isLst ρ j = (match ρ[j]? with | some (some (.lst _)) => true | _ => false) := rfl
@[simp] theorem catR_lst {xs ys : List D} : catR (.lst xs) (.lst ys) = if xs.length + ys.length ≤ sizeLine then .ok (xs ++ ys) else .no := rfl
end DL
namespace DL
open PySem L2
noncomputable instance instDecD : DecidableEq D := fun a b => Classical.propDecidable (a = b)
@[simp] theorem deq_S {x y : D} (hx : nb 20 x = true) (hy : nb 20 y = true) : deq x y = .ok (decide (x = y)) := by
  rw [deq_nb hx hy (by omega) (by omega)]
@[simp] theorem g_eq_S {x y : D} (hx : nb 20 x = true) (hy : nb 20 y = true) : g_eq x y = .ok (.bl (decide (x = y))) := by
  unfold g_eq; rw [deq_S hx hy]; rfl
@[simp] theorem g_ne_S {x y : D} (hx : nb 20 x = true) (hy : nb 20 y = true) : g_ne x y = .ok (.bl (!decide (x = y))) := by
  unfold g_ne; rw [deq_S hx hy]; rfl
@[simp] theorem ixt0 (x : D) (r : List D) : g_ix (.tup (x :: r)) (.int 0) = .ok x := g_ix_t0 x r
@[simp] theorem ixt1 (x y : D) (r : List D) : g_ix (.tup (x :: y :: r)) (.int 1) = .ok y := g_ix_t1 x y r
@[simp] theorem ixt2 (x y z : D) (r : List D) : g_ix (.tup (x :: y :: z :: r)) (.int 2) = .ok z := g_ix_t2 x y z r
@[simp] theorem ixl0 (x : D) (r : List D) : g_ix (.lst (x :: r)) (.int 0) = .ok x := g_ix_cons0 x r
@[simp] theorem ixl1 (x y : D) (r : List D) : g_ix (.lst (x :: y :: r)) (.int 1) = .ok y := g_ix_nat (x :: y :: r) 1 (by simp)
end DL
namespace DL
open PySem L2
def turn (is : List Nat) (ks : D → Res (List D)) (F : DSem) (fg : List Nat) (d : D) (ρ : DL.Env) : Sum DL.Env Out := match ks d with
  | .ok l => (match F (setE ρ is l) with
    | .nx ρ' => .inl (forget ρ' fg)
    | .ct ρ' => .inl (forget ρ' fg)
    | .bk ρ' => .inr (.nx (forget ρ' fg))
    | .rt d => .inr (.rt d)
    | .ex c ρ' => .inr (.ex c ρ')
    | .no => .inr .no)
  | _ => .inr .no
def turnO (fg : List Nat) : Out → Sum DL.Env Out
  | .nx ρ' => .inl (forget ρ' fg)
  | .ct ρ' => .inl (forget ρ' fg)
  | .bk ρ' => .inr (.nx (forget ρ' fg))
  | .rt d => .inr (.rt d)
  | .ex c ρ' => .inr (.ex c ρ')
  | .no => .inr .no
section
variable {fg : List Nat} {ρ : DL.Env} {d : D} {c : Str}
@[simp] theorem turnO_nx : turnO fg (.nx ρ) = .inl (forget ρ fg) := rfl
@[simp] theorem turnO_ct : turnO fg (.ct ρ) = .inl (forget ρ fg) := rfl
@[simp] theorem turnO_bk : turnO fg (.bk ρ) = .inr (.nx (forget ρ fg)) := rfl
@[simp] theorem turnO_rt : turnO fg (.rt d) = .inr (.rt d) := rfl
@[simp] theorem turnO_ex : turnO fg (.ex c ρ) = .inr (.ex c ρ) := rfl
def turnK (is : List Nat) (F : DSem) (fg : List Nat) (ρ : DL.Env) : Res (List D) → Sum DL.Env Out
  | .ok l => turnO fg (F (setE ρ is l))
  | _ => .inr .no
@[simp] theorem turnK_ok {is : List Nat} {F : DSem} {l : List D} : turnK is F fg ρ (.ok l) = turnO fg (F (setE ρ is l)) := rfl
@[simp] theorem turn_eq {is : List Nat} {ks : D → Res (List D)} {F : DSem} : turn is ks F fg d ρ = turnK is F fg ρ (ks d) := by
  unfold turn turnK
  cases ks d with
  | ok l => simp only; cases F (setE ρ is l) <;> rfl
  | ex c => rfl
  | no => rfl
end
theorem forF_cons {is fg : List Nat} {ks : D → Res (List D)} {F : DSem} {d : D} {r : List D} {ρ : DL.Env} : forF is ks F fg (d :: r) ρ = (match turn is ks F fg d ρ with
    | .inl ρ' => forF is ks F fg r ρ'
    | .inr o => o) := by
  unfold turn
  conv => lhs; unfold forF
  cases ks d with
  | ok l => simp only; cases F (setE ρ is l) <;> rfl
  | ex c => rfl
  | no => rfl
def foldO {α S : Type} (φ : S → DL.Env) (step : S → α → Sum S Out) : List α → S → Out
  | [], s => .nx (φ s)
  | x :: r, s => match step s x with
    | .inl s' => foldO φ step r s'
    | .inr o => o
def mapL {S : Type} (φ : S → DL.Env) : Sum S Out → Sum DL.Env Out
  | .inl s => .inl (φ s)
  | .inr o => .inr o
@[simp] theorem mapL_l {S : Type} {φ : S → DL.Env} {s : S} : mapL φ (.inl s) = .inl (φ s) := rfl
@[simp] theorem mapL_r {S : Type} {φ : S → DL.Env} {o : Out} : mapL φ (.inr o) = .inr o := rfl
theorem forF_gen {α S : Type} {is fg : List Nat} {ks : D → Res (List D)} {F : DSem} {enc : α → D} {ρ : DL.Env} (φ : S → DL.Env) (step : S → α → Sum S Out) (Iv : Nat → S → Prop) : ∀ {xs : List α} {s : S} (n : Nat),
    (∀ i s x, xs[i]? = some x → Iv (n + i) s → turn is ks F fg (enc x) (φ s) = mapL φ (step s x) ∧ ∀ s', step s x = .inl s' → Iv (n + i + 1) s') → Iv n s → ρ = φ s →
      forF is ks F fg (xs.map enc) ρ = foldO φ step xs s
  | [], s, n, _, _, e => by rw [e]; rfl
  | x :: r, s, n, hs, h, e => by
    obtain ⟨h1, h2⟩ := hs 0 s x rfl h
    rw [List.map_cons, forF_cons, e, h1]
    unfold foldO
    cases q : step s x with
    | inr o => rfl
    | inl s' =>
      simp only [mapL]
      exact forF_gen φ step Iv (n + 1) (fun i s2 x2 e2 iv => by
        have := hs (i + 1) s2 x2 (by simpa using e2) (by rwa [show n + (i + 1) = n + 1 + i by omega])
        rwa [show n + (i + 1) = n + 1 + i by omega] at this) (h2 s' q) rfl
theorem foldO_inl {α S : Type} {φ : S → DL.Env} {step : S → α → S} : ∀ {xs : List α} {s : S}, foldO φ (fun s x => .inl (step s x)) xs s = .nx (φ (xs.foldl step s))
  | [], _ => rfl
  | x :: r, s => by unfold foldO; exact foldO_inl
theorem forF_eq {α S : Type} {is fg : List Nat} {ks : D → Res (List D)} {F : DSem} {enc : α → D} {ρ : DL.Env} (φ : S → DL.Env) (step : S → α → S) (Iv : Nat → S → Prop) {xs : List α} {s : S}
    (hs : ∀ i s x, xs[i]? = some x → Iv i s → turn is ks F fg (enc x) (φ s) = .inl (φ (step s x)) ∧ Iv (i + 1) (step s x)) (h : Iv 0 s) (e : ρ = φ s) :
      forF is ks F fg (xs.map enc) ρ = .nx (φ (xs.foldl step s)) := by
  rw [forF_gen φ (fun s x => .inl (step s x)) Iv 0 (fun i s x e iv => ?_) h e, foldO_inl]
  have := hs i s x e (by simpa using iv)
  exact ⟨this.1, fun s' q => by cases q; simpa using this.2⟩
theorem forF_skip {α : Type} {is fg : List Nat} {ks : D → Res (List D)} {F : DSem} {enc : α → D} {ρ : DL.Env} {xs : List α} (hs : ∀ x ∈ xs, turn is ks F fg (enc x) ρ = .inl ρ) : forF is ks F fg (xs.map enc) ρ = .nx ρ := by
  rw [forF_eq (S := Unit) (fun _ => ρ) (fun _ _ => ()) (fun _ _ => True) (s := ()) (fun i s x e _ => ⟨hs x (List.mem_of_getElem? e), trivial⟩) trivial rfl]
end DL
namespace DL
@[simp] theorem if_ok {α : Type} {P : Prop} [Decidable P] {a b : α} : (if P then Res.ok a else Res.ok b) = Res.ok (if P then a else b) := by split <;> rfl
theorem mem_getElem? {α : Type} {xs : List α} {i : Nat} {x : α} (h : xs[i]? = some x) : x ∈ xs := List.mem_of_getElem? h
theorem idx_lt {α : Type} {xs : List α} {i : Nat} {x : α} (h : xs[i]? = some x) : i < xs.length := (List.getElem?_eq_some_iff.mp h).1
theorem zipIdx_get {α : Type} {xs : List α} {i : Nat} {p : α × Nat} (h : xs.zipIdx[i]? = some p) : p.2 = i ∧ xs[i]? = some p.1 := by
  rw [List.getElem?_zipIdx, Option.map_eq_some_iff] at h
  obtain ⟨x, h1, rfl⟩ := h
  exact ⟨by simp, h1⟩
end DL
namespace DL
open PySem L2
def elt1 (is : List Nat) (ks : D → Res (List D)) (fe : DL.Env → Res D) (ρ : DL.Env) (d : D) : Res D := (ks d).thn fun l => fe (setE ρ is l)
@[simp] theorem elt1_eq {is : List Nat} {ks : D → Res (List D)} {fe : DL.Env → Res D} {ρ : DL.Env} {d : D} : elt1 is ks fe ρ d = (ks d).thn fun l => fe (setE ρ is l) := rfl
@[simp] theorem noEx_ok' {α : Type} {a : α} : noEx (.ok a) = .ok a := rfl
@[simp high] theorem cutA_map' {α β : Type} (f : α → β) (xs : List α) (l u : Option Int) : cutA (xs.map f) l u = (cutA xs l u).map f := cutA_map f xs l u
theorem emod_rng (a : Int) {m : Int} (h : 0 < m) : 0 ≤ a % m ∧ a % m < m := ⟨Int.emod_nonneg _ (by omega), Int.emod_lt_of_pos _ h⟩
theorem compL_eq {α : Type} {is : List Nat} {ks : D → Res (List D)} {fe : DL.Env → Res D} {ρ : DL.Env} {enc : α → D} (g : α → D) {xs : List α} (h : ∀ x ∈ xs, elt1 is ks fe ρ (enc x) = .ok (g x)) : compL is ks tTrue fe ρ (xs.map enc) = .ok (xs.map g) := by
  refine compL_map enc g fun x hx => ?_
  have := h x hx
  unfold elt1 at this
  cases q : ks (enc x) with
  | ok l => rw [q, thn_ok] at this; exact ⟨l, rfl, rfl, this⟩
  | ex c => rw [q] at this; cases this
  | no => rw [q] at this; cases this
def test1 (is : List Nat) (ks : D → Res (List D)) (ft : DL.Env → Res Bool) (ρ : DL.Env) (d : D) : Res Bool := (ks d).thn fun l => ft (setE ρ is l)
@[simp] theorem test1_eq {is : List Nat} {ks : D → Res (List D)} {ft : DL.Env → Res Bool} {ρ : DL.Env} {d : D} : test1 is ks ft ρ d = (ks d).thn fun l => ft (setE ρ is l) := rfl
theorem compL_if {α : Type} {is : List Nat} {ks : D → Res (List D)} {ft : DL.Env → Res Bool} {fe : DL.Env → Res D} {ρ : DL.Env} {enc : α → D} (p : α → Bool) (g : α → D) {xs : List α} (h : ∀ x ∈ xs, test1 is ks ft ρ (enc x) = .ok (p x)) (h2 : ∀ x ∈ xs, p x = true → elt1 is ks fe ρ (enc x) = .ok (g x)) :
    compL is ks ft fe ρ (xs.map enc) = .ok ((xs.filter p).map g) := by
  refine compL_filter enc g p fun x hx => ?_
  have h1 := h x hx
  have h2 := h2 x hx
  unfold test1 at h1
  unfold elt1 at h2
  cases q : ks (enc x) with
  | ok l => rw [q, thn_ok] at h1 h2; exact ⟨l, rfl, h1, h2⟩
  | ex c => rw [q] at h1; cases h1
  | no => rw [q] at h1; cases h1
theorem boolsOf_map {α : Type} (f : α → Bool) : ∀ xs : List α, boolsOf (xs.map fun x => D.bl (f x)) = some (xs.map f)
  | [] => rfl
  | x :: r => by simp [boolsOf, boolsOf_map f r]
@[simp] theorem c_all_map {α : Type} (f : α → Bool) (xs : List α) : c_all [.lst (xs.map fun x => D.bl (f x))] = .ok (.bl ((xs.map f).all id)) := by simp [c_all, boolsOf_map]
end DL
namespace DL
open PySem L2
theorem forF_exh {α S : Type} {is fg : List Nat} {ks : D → Res (List D)} {F : DSem} {enc : α → D} {ρ : DL.Env} {o : Out} (φ : S → DL.Env) (Iv : Nat → S → Prop) : ∀ {xs : List α}, forF is ks F fg (xs.map enc) ρ = o → ∀ (s : S) (n : Nat), Iv n s → ρ = φ s →
    (∀ i s x, xs[i]? = some x → Iv (n + i) s → ∃ s2, turn is ks F fg (enc x) (φ s) = .inl (φ s2) ∧ Iv (n + i + 1) s2) → ∃ s', o = .nx (φ s') ∧ Iv (n + xs.length) s'
  | [], hF, s, n, h, e, _ => ⟨s, by rw [← hF, e]; rfl, h⟩
  | x :: r, hF, s, n, h, e, hs => by
    obtain ⟨s2, h1, h2⟩ := hs 0 s x rfl h
    rw [List.map_cons, forF_cons, e, h1] at hF
    obtain ⟨s', h3, h4⟩ := forF_exh φ Iv hF s2 (n + 1) h2 rfl (fun i s2 x2 e2 iv => by
        have := hs (i + 1) s2 x2 (by simpa using e2) (by rwa [show n + (i + 1) = n + 1 + i by omega])
        rwa [show n + (i + 1) = n + 1 + i by omega] at this)
    exact ⟨s', h3, by rw [List.length_cons, show n + (r.length + 1) = n + 1 + r.length by omega]; exact h4⟩
theorem forF_inv {α S : Type} {is fg : List Nat} {ks : D → Res (List D)} {F : DSem} {enc : α → D} {ρ : DL.Env} {o : Out} {xs : List α} (hF : forF is ks F fg (xs.map enc) ρ = o) (φ : S → DL.Env) (Iv : Nat → S → Prop) (s : S) (h : Iv 0 s) (e : ρ = φ s)
    (hs : ∀ i s x, xs[i]? = some x → Iv i s → ∃ s2, turn is ks F fg (enc x) (φ s) = .inl (φ s2) ∧ Iv (i + 1) s2) : ∃ s', o = .nx (φ s') ∧ Iv xs.length s' := by
  have := forF_exh φ Iv hF s 0 h e (fun i s x hx iv => by simpa using hs i s x hx (by simpa using iv))
  simpa using this
end DL
namespace DL
open PySem L2
@[simp] theorem g_add_lst (xs ys : List D) : g_add (.lst xs) (.lst ys) = if xs.length + ys.length ≤ sizeLine then .ok (.lst (xs ++ ys)) else .no := rfl
@[simp] theorem g_add_tup (xs ys : List D) : g_add (.tup xs) (.tup ys) = if xs.length + ys.length ≤ sizeLine then .ok (.tup (xs ++ ys)) else .no := rfl
@[simp] theorem g_add_str (xs ys : Str) : g_add (.str xs) (.str ys) = if xs.length + ys.length ≤ sizeLine then .ok (.str (xs ++ ys)) else .no := rfl
theorem range_get {n i x : Nat} (h : (List.range n)[i]? = some x) : x = i ∧ i < n := by
  have hi := idx_lt h
  simp at hi
  rw [List.getElem?_range (by simpa using hi)] at h
  exact ⟨(Option.some.inj h).symm, hi⟩
end DL
namespace DL
@[simp] theorem all_tt {α : Type} (xs : List α) : (xs.all fun _ => true) = true := by simp
end DL
namespace DL
open PySem L2
theorem ixN_ok {n : Nat} {i : Int} (h0 : 0 ≤ i) (h : i < n) : ixN n i = some i.toNat := by unfold ixN; rw [if_pos h0, if_pos h]
end DL
namespace DL
open PySem L2
theorem any_py {x : D} : ∀ {ys : List D}, nb 19 x = true → nbs 19 ys = true → ((pys ys).any fun z => PyData.eqv z (py x)) = decide (x ∈ ys)
  | [], _, _ => by simp [pys]
  | y :: r, hx, hy => by
    have h2 : nb 19 y = true ∧ nbs 19 r = true := by simpa [nbs] using hy
    have := nb_eqv y x 19 19 h2.1 hx
    rw [pys, List.any_cons, any_py hx h2.2]
    by_cases e : y = x
    · subst e; rw [this.mpr rfl]; simp
    · have e2 : PyData.eqv (py y) (py x) = false := by
        cases q : PyData.eqv (py y) (py x) with
        | true => exact absurd (this.mp q) e
        | false => rfl
      rw [e2]
      simp [Ne.symm e]
theorem shaped_of {x : D} {n : Nat} (h : nb n x = true) (hn : n ≤ 64) : SeqAt.shaped (py x) = true := by
  have q := nb_lay x n h
  unfold SeqAt.shaped; rw [q.1]; simp; omega
@[simp] theorem inD_lst {x : D} {ys : List D} (hx : nb 19 x = true) (hy : nbs 19 ys = true) : inD x (.lst ys) = .ok (decide (x ∈ ys)) := by
  show (if SeqAt.shaped (py x) = true ∧ SeqAt.shaped (py (.lst ys)) = true then Res.ok ((pys ys).any fun z => PyData.eqv z (py x)) else .no) = _
  rw [if_pos ⟨shaped_of hx (by omega), shaped_of (n := 20) (by simpa using hy) (by omega)⟩, any_py hx hy]
@[simp] theorem g_in_eq (x y : D) : g_in x y = (inD x y).thn fun b => .ok (.bl b) := rfl
@[simp] theorem g_notin_eq (x y : D) : g_notin x y = (inD x y).thn fun b => .ok (.bl (!b)) := rfl
@[simp] theorem keyD_int (i : Int) : keyD (.int i) = some (.inl i) := rfl
@[simp] theorem keyD_str (i : Str) : keyD (.str i) = some (.inr i) := rfl
@[simp] theorem keysD_nil : keysD [] = some [] := rfl
@[simp] theorem hasE_eq {ρ : DL.Env} {j : Nat} : hasE ρ j = (match ρ[j]? with | some (some _) => true | _ => false) := rfl
@[simp] theorem setO_eq {ρ : DL.Env} {j : Nat} {k d : D} : setO ρ j k d = (match ρ[j]? with | some (some c) => (match setD c k d with | .ok c' => .nx (ρ.set j (some c')) | _ => .no) | _ => .no) := rfl
end DL
namespace DL
open PySem L2
section
variable {ρ : DL.Env} {j : Nat} {F : DSem} {sel : Sel} {f g : DL.Env → Res D}
@[simp] theorem s_raise {c : Str} : sRaise c ρ = .ex c ρ := rfl
def tryK (hs : List (List (Str × Bool) × DSem)) : Out → Out
  | .ex c ρ' => hdsF c ρ' hs
  | o => o
@[simp] theorem tryK_nx {hs : List (List (Str × Bool) × DSem)} : tryK hs (.nx ρ) = .nx ρ := rfl
@[simp] theorem tryK_rt {hs : List (List (Str × Bool) × DSem)} {d : D} : tryK hs (.rt d) = .rt d := rfl
@[simp] theorem tryK_ex {hs : List (List (Str × Bool) × DSem)} {c : Str} : tryK hs (.ex c ρ) = hdsF c ρ hs := rfl
@[simp] theorem s_try {hs : List (List (Str × Bool) × DSem)} : sTry F hs ρ = tryK hs (F ρ) := by unfold sTry tryK; rfl
@[simp] theorem hdsF_nil {c : Str} : hdsF c ρ [] = .ex c ρ := rfl
def hdB (c : Str) (ρ : DL.Env) (F : DSem) (r : List (List (Str × Bool) × DSem)) : Option Bool → Out
  | some true => noExO (F ρ)
  | some false => hdsF c ρ r
  | none => .no
@[simp] theorem hdsF_cons {c : Str} {tbl : List (Str × Bool)} {r : List (List (Str × Bool) × DSem)} : hdsF c ρ ((tbl, F) :: r) = hdB c ρ F r (tbl.lookup c) := by
  show (match tbl.lookup c with | some true => noExO (F ρ) | some false => hdsF c ρ r | none => .no) = _
  unfold hdB; rfl
@[simp] theorem hdB_t {c : Str} {r : List (List (Str × Bool) × DSem)} : hdB c ρ F r (some true) = noExO (F ρ) := rfl
@[simp] theorem hdB_f {c : Str} {r : List (List (Str × Bool) × DSem)} : hdB c ρ F r (some false) = hdsF c ρ r := rfl
@[simp] theorem noExO_nx : noExO (.nx ρ) = .nx ρ := rfl
@[simp] theorem noExO_rt {d : D} : noExO (.rt d) = .rt d := rfl
@[simp] theorem pName_eq : pName j ρ = (match ρ[j]? with | some (some d) => .ok (d, []) | _ => .no) := rfl
@[simp] theorem pIx_eq : pIx j sel f ρ = (noEx (sel ρ)).thn fun x => (noEx (f (ρ.set j (some x.1)))).thn fun k => stepTo x.1 x.2 k := rfl
@[simp] theorem atSel_ok {d : D} {p : List Stp} {k : D → List Stp → Out} : atSel (.ok (d, p)) k = k d p := rfl
@[simp] theorem s_pappI : sPAppI j sel f ρ = atSel (sel ρ) fun d1 p => if isLstP d1 p = true then andThen (f (ρ.set j (some d1))) (ρ.set j (some d1)) fun d => if imm d = true then pApp j (ρ.set j (some d1)) d1 p d else .no else .no := rfl
@[simp] theorem getP_nil {d : D} : getP d [] = some d := rfl
@[simp] theorem getP_cons {d : D} {s : Stp} {p : List Stp} : getP d (s :: p) = (getS d s).bind fun e => getP e p := rfl
@[simp] theorem setP_nil {d x : D} : setP d [] x = x := rfl
@[simp] theorem setP_cons {d x : D} {s : Stp} {p : List Stp} : setP d (s :: p) x = (match getS d s with | some e => setSt d s (setP e p x) | none => d) := rfl
@[simp] theorem getS_tup {xs : List D} {n : Nat} : getS (.tup xs) (.ix n) = xs[n]? := rfl
@[simp] theorem getS_lst {xs : List D} {n : Nat} : getS (.lst xs) (.ix n) = xs[n]? := rfl
@[simp] theorem getS_dT {xs : List (List Key × D)} {k : List Key} : getS (.dT xs) (.kT k) = getA xs k := rfl
@[simp] theorem getS_dK {xs : List (Key × D)} {k : Key} : getS (.dK xs) (.kK k) = getA xs k := rfl
@[simp] theorem setSt_tup {xs : List D} {n : Nat} {x : D} : setSt (.tup xs) (.ix n) x = .tup (xs.set n x) := rfl
@[simp] theorem setSt_lst {xs : List D} {n : Nat} {x : D} : setSt (.lst xs) (.ix n) x = .lst (xs.set n x) := rfl
@[simp] theorem setSt_dT {xs : List (List Key × D)} {k : List Key} {x : D} : setSt (.dT xs) (.kT k) x = .dT (setA xs k x) := rfl
@[simp] theorem setSt_dK {xs : List (Key × D)} {k : Key} {x : D} : setSt (.dK xs) (.kK k) x = .dK (setA xs k x) := rfl
@[simp] theorem stpOf_lst {xs : List D} {i : Int} : stpOf (.lst xs) (.int i) = (ixN xs.length i).map .ix := rfl
@[simp] theorem stpOf_tup {xs : List D} {i : Int} : stpOf (.tup xs) (.int i) = (ixN xs.length i).map .ix := rfl
@[simp] theorem cutA_to2 {α : Type} (xs : List α) : cutA xs none (some 2) = xs.take 2 := cutA_to xs 2
@[simp] theorem cutA_from1 {α : Type} (xs : List α) : cutA xs (some 1) none = xs.drop 1 := cutA_from xs 1
@[simp] theorem cutA_mid2_62 {α : Type} (xs : List α) : cutA xs (some 2) (some 62) = (xs.drop 2).take 60 := cutA_mid xs 2 62
@[simp] theorem c_all_nil : c_all [.lst []] = .ok (.bl true) := rfl
def stepR (d1 : D) (p : List Stp) (c : D) : Option Stp → Res (D × List Stp)
  | some s => if (getS c s).isSome = true then .ok (d1, p ++ [s]) else .no
  | none => .no
@[simp] theorem stepR_some {d1 c : D} {p : List Stp} {s : Stp} : stepR d1 p c (some s) = if (getS c s).isSome = true then .ok (d1, p ++ [s]) else .no := rfl
def stepC (d1 : D) (p : List Stp) (k : D) : Option D → Res (D × List Stp)
  | some c => stepR d1 p c (stpOf c k)
  | none => .no
@[simp] theorem stepC_some {d1 c k : D} {p : List Stp} : stepC d1 p k (some c) = stepR d1 p c (stpOf c k) := rfl
@[simp] theorem stepTo_eq {d1 k : D} {p : List Stp} : stepTo d1 p k = stepC d1 p k (getP d1 p) := by
  unfold stepTo stepC stepR
  cases getP d1 p with
  | none => rfl
  | some c => rfl
@[simp] theorem isLstP_eq {d1 : D} {p : List Stp} : isLstP d1 p = (match getP d1 p with | some (.lst _) => true | _ => false) := rfl
@[simp] theorem pApp_eq {j : Nat} {ρ : DL.Env} {d1 d : D} {p : List Stp} : pApp j ρ d1 p d = (match getP d1 p with | some (.lst ds) => if ds.length < sizeLine then .nx (ρ.set j (some (setP d1 p (.lst (ds ++ [d]))))) else .no | _ => .no) := rfl
@[simp] theorem g_neg_int (i : Int) : g_neg (.int i) = .ok (.int (-i)) := rfl
theorem g_pow_int {i j : Int} (h : 0 ≤ j) (h2 : j ≤ 1000000) (h3 : i.natAbs < 18446744073709551616) : g_pow (.int i) (.int j) = .ok (.int (i ^ j.toNat)) := by
  have : CPow i j := ⟨h, h2, h3⟩
  simp [g_pow, this]
end
end DL
namespace DL
open PySem L2
theorem forF_find {α : Type} {is fg : List Nat} {ks : D → Res (List D)} {F : DSem} {enc : α → D} {ρ : DL.Env} (p : α → Bool) (g : α → Out) {xs : List α} (hs : ∀ x ∈ xs, turn is ks F fg (enc x) ρ = if p x then .inr (g x) else .inl ρ) :
    forF is ks F fg (xs.map enc) ρ = match xs.find? p with | some x => g x | none => .nx ρ := by
  induction xs with
  | nil => rfl
  | cons x r ih =>
    rw [List.map_cons, forF_cons, hs x List.mem_cons_self]
    cases q : p x with
    | true => simp [List.find?_cons, q]
    | false => simp [List.find?_cons, q]; exact ih fun y hy => hs y (List.mem_cons_of_mem _ hy)
@[simp] theorem gm_int {i j : Int} (h : 0 < j) : g_mod (.int i) (.int j) = .ok (.int (i % j)) := g_mod_int h
@[simp] theorem gd_int {i j : Int} (h : 0 < j) (h2 : j < 18446744073709551616) : g_fdiv (.int i) (.int j) = .ok (.int (i / j)) := g_fdiv_int h h2
@[simp] theorem g_isN_eq (x : D) : g_isN x .non = .ok (.bl (nonD x)) := by cases x <;> rfl
@[simp] theorem nonD_non : nonD .non = true := rfl
@[simp] theorem nonD_int (i : Int) : nonD (.int i) = false := rfl
@[simp] theorem nonD_tup (i : List D) : nonD (.tup i) = false := rfl
@[simp] theorem nonD_lst (i : List D) : nonD (.lst i) = false := rfl
@[simp] theorem nonD_str (i : Str) : nonD (.str i) = false := rfl
@[simp] theorem nonD_bl (i : Bool) : nonD (.bl i) = false := rfl
theorem rng2_ok {i j : Int} (h0 : -4611686018427387904 ≤ i) (h : i < 4611686018427387904) (h1 : -4611686018427387904 ≤ j) (h2 : j < 4611686018427387904) : rng2 (.int i) (.int j) = .ok (rangeD i (j - i).toNat) := by
  show (if -(2 ^ 62) ≤ i ∧ i < 2 ^ 62 ∧ -(2 ^ 62) ≤ j ∧ j < 2 ^ 62 then Res.ok (rangeD i (j - i).toNat) else Res.no) = _
  rw [if_pos ⟨by omega, by omega, by omega, by omega⟩]
theorem rng2_nat {a b : Nat} (ha : a < 1000000) (hb : b < 1000000) : rng2 (.int (a : Int)) (.int (b : Int)) = .ok ((List.range' a (b - a)).map fun (j : Nat) => D.int (j : Int)) := by
  rw [rng2_ok (by omega) (by omega) (by omega) (by omega)]
  congr 1
  unfold rangeD
  rw [show ((b : Int) - (a : Int)).toNat = b - a by omega, List.range'_eq_map_range, List.map_map]
  apply List.map_congr_left
  intro x _
  simp
end DL
namespace DL
open PySem L2
@[simp] theorem nb_str (n : Nat) (s : Str) : nb n (.str s) = PyData.strOk s := by unfold nb; rfl
@[simp] theorem c_int_int (i : Int) : c_int [.int i] = .ok (.int i) := rfl
@[simp] theorem c_int_bl (b : Bool) : c_int [.bl b] = .ok (.int (if b then 1 else 0)) := rfl
end DL
namespace DL
end DL
namespace DL
end DL
namespace DL
open PySem L2
def k2 (p : Int × Int) : List Key := [.inl p.1, .inl p.2]
def k3 (p : Int × Int × Int) : List Key := [.inl p.1, .inl p.2.1, .inl p.2.2]
end DL
namespace DL
end DL
namespace DL
open PySem L2
section
variable {ρ : DL.Env} {f g h : DL.Env → Res D} {p p' : Int → Int → Bool} {j : Nat}
def chK (p' : Int → Int → Bool) (h : DL.Env → Res D) (ρ : DL.Env) (y : D) (b : Bool) : Res D := if b = true then (h ρ).thn fun w => gI p' y w else .ok (.bl false)
@[simp] theorem chK_t {y : D} : chK p' h ρ y true = (h ρ).thn fun w => gI p' y w := rfl
@[simp] theorem chK_f {y : D} : chK p' h ρ y false = .ok (.bl false) := rfl
@[simp] theorem e_chain : vChain (gI p) (gI p') f g h ρ = (f ρ).thn fun x => (g ρ).thn fun y => (gI p x y).thn fun z => (bOf z).thn fun b => chK p' h ρ y b := rfl
end
end DL
namespace DL
@[simp] theorem e_zip2 {ρ : DL.Env} {f g : DL.Env → Res D} : iZip2 f g ρ = (f ρ).thn fun x => (g ρ).thn fun y => zipR x y := rfl
@[simp] theorem zipR_l (xs ys : List D) : zipR (.lst xs) (.lst ys) = .ok (zipD xs ys) := rfl
@[simp] theorem zipR_t (xs ys : List D) : zipR (.tup xs) (.tup ys) = .ok (zipD xs ys) := rfl
end DL
namespace DL
open PySem L2
@[simp] theorem ixl2 (x y z : D) (r : List D) : g_ix (.lst (x :: y :: z :: r)) (.int 2) = .ok z := g_ix_nat (x :: y :: z :: r) 2 (by simp)
def tx (l : List Nat) : D := .str ⟨l.toArray⟩
theorem tx_lit {s : Str} (l : List Nat) (h : s = ⟨l.toArray⟩) : D.str s = tx l := by rw [h]; rfl
theorem tx_inj {a b : List Nat} : tx a = tx b ↔ a = b := by
  unfold tx
  constructor
  · intro h
    injection h with h
    injection h with h
    simpa using h
  · intro h; rw [h]
def asc (l : List Nat) : Prop := ∀ c ∈ l, c < 128
theorem tx_nb {l : List Nat} (n : Nat) (h : asc l) : nb n (tx l) = true := by
  unfold tx
  rw [nb_str]
  unfold PyData.strOk
  rw [Array.all_eq_true']
  intro c hc
  have := h c (by simpa using hc)
  simp; omega
@[simp] theorem imm_tx (l : List Nat) : imm (tx l) = true := rfl
theorem g_add_tx {a b : List Nat} (h : a.length + b.length ≤ 16777216) : g_add (tx a) (tx b) = .ok (tx (a ++ b)) := by
  unfold tx
  rw [g_add_str, if_pos (by simpa [Str.length] using h)]
  have : (⟨a.toArray⟩ : Str) ++ ⟨b.toArray⟩ = ⟨(a ++ b).toArray⟩ := by
    show Str.append _ _ = _
    unfold Str.append
    simp
  rw [this]
theorem g_sl_tx {a : List Nat} (h : a.length ≤ 16777216) (lo hi : Option Int) : g_sl (tx a) lo hi = .ok (tx (cutA a lo hi)) := by
  unfold tx
  show (if (⟨a.toArray⟩ : Str).length ≤ sizeLine then Res.ok (D.str (cutS ⟨a.toArray⟩ lo hi)) else .no) = _
  rw [if_pos (by simpa [Str.length] using h)]
  unfold cutS cutA
  simp [Str.length]
theorem g_ix_tx {a : List Nat} (h : a.length ≤ 16777216) {i : Int} (h0 : 0 ≤ i) (h1 : i < a.length) : g_ix (tx a) (.int i) = .ok (tx [a[i.toNat]'(by omega)]) := by
  obtain ⟨k, rfl⟩ := Int.eq_ofNat_of_zero_le h0
  unfold tx
  show (if (⟨a.toArray⟩ : Str).length ≤ sizeLine then (match atI (a.toArray).toList (k : Int) with | some c => Res.ok (D.str ⟨#[c]⟩) | none => .no) else .no) = _
  rw [if_pos (by simpa [Str.length] using h)]
  have : atI (a.toArray).toList (k : Int) = some (a[k]'(by omega)) := atI_nat (by simp)
  rw [this]
  rfl
theorem g_eq_tx {a b : List Nat} (h : asc a) (h2 : asc b) : g_eq (tx a) (tx b) = .ok (.bl (decide (a = b))) := by
  rw [g_eq_S (tx_nb 20 h) (tx_nb 20 h2)]
  have : (tx a = tx b) = (a = b) := propext tx_inj
  simp only [this]
theorem nbs_tx (n : Nat) {ls : List (List Nat)} (h : ∀ l ∈ ls, asc l) : nbs n (ls.map tx) = true := nbs_map' fun l hl => tx_nb n (h l hl)
theorem mem_tx {a : List Nat} {ls : List (List Nat)} : tx a ∈ ls.map tx ↔ a ∈ ls := by
  rw [List.mem_map]
  constructor
  · rintro ⟨b, h, e⟩; rwa [← tx_inj.mp e]
  · intro h; exact ⟨a, h, rfl⟩
theorem g_in_tx {a : List Nat} {ls : List (List Nat)} (h : asc a) (h2 : ∀ l ∈ ls, asc l) : g_in (tx a) (.lst (ls.map tx)) = .ok (.bl (decide (a ∈ ls))) := by
  rw [g_in_eq, inD_lst (tx_nb 19 h) (nbs_tx 19 h2), thn_ok]
  have : (tx a ∈ ls.map tx) = (a ∈ ls) := propext mem_tx
  simp only [this]
theorem g_notin_tx {a : List Nat} {ls : List (List Nat)} (h : asc a) (h2 : ∀ l ∈ ls, asc l) : g_notin (tx a) (.lst (ls.map tx)) = .ok (.bl (!decide (a ∈ ls))) := by
  rw [g_notin_eq, inD_lst (tx_nb 19 h) (nbs_tx 19 h2), thn_ok]
  have : (tx a ∈ ls.map tx) = (a ∈ ls) := propext mem_tx
  simp only [this]
@[simp] theorem isi_str_tx (l : List Nat) : g_isi "str" (tx l) = .ok (.bl true) := isi_str_str _
end DL
namespace DL
open PySem L2
section
variable {ρ : DL.Env} {own : Owns} {f : DL.Env → Res D} {is fg : List Nat} {ks : D → Res (List D)} {F F1 F2 : DSem} {i j n r : Nat} {fa : DL.Env → Res (List D)} {d0 d1 d c : D} {p : List Stp} {A1 A2 : ASem}
def AOut.thn (o : AOut) (F : DL.Env → AOut) : AOut := match o with
  | .nx ρ => F ρ
  | o => o
@[simp] theorem athn_nx {G : DL.Env → AOut} : AOut.thn (.nx ρ) G = G ρ := rfl
@[simp] theorem athn_rt {G : DL.Env → AOut} : AOut.thn (.rt d ρ) G = .rt d ρ := rfl
end
end DL
namespace DL
open PySem L2
def ixT (g : DL.Env → Res D) (ρ : DL.Env) : D → Res D
  | .lst ds => (g ρ).thn (gIdx ds)
  | _ => .no
@[simp] theorem ixT_lst {g : DL.Env → Res D} {ρ : DL.Env} {ds : List D} : ixT g ρ (.lst ds) = (g ρ).thn (gIdx ds) := rfl
@[simp] theorem e_index {f g : DL.Env → Res D} {ρ : DL.Env} : vIndex f g ρ = (f ρ).thn (ixT g ρ) := by
  unfold vIndex Res.thn
  cases f ρ with
  | ok x => cases x <;> rfl
  | ex c => rfl
  | no => rfl
end DL
namespace DL
open PySem L2
section
variable {ρ : DL.Env} {f g : DL.Env → Res D} {own : Owns} {is fg : List Nat} {ks : D → Res (List D)} {F : DSem} {j : Nat}
@[simp] theorem e_disp1 : vDisp1 f g ρ = (noEx (f ρ)).thn fun x => (noEx (g ρ)).thn fun y => dispR x y := rfl
@[simp] theorem dispR_int {i : Int} {y : D} : dispR (.int i) y = .ok (.dK [(.inl i, y)]) := rfl
end
end DL
namespace DL
end DL
namespace DL
end DL
namespace DL
end DL
namespace DL
end DL
namespace DL
open PySem L2
@[simp] theorem e_split {f g : DL.Env → Res D} {ρ : DL.Env} : nSplit f g ρ = (f ρ).thn (splK g ρ) := rfl
@[simp] theorem e_join {f g : DL.Env → Res D} {ρ : DL.Env} : vJoin f g ρ = (f ρ).thn (joinK g ρ) := rfl
@[simp] theorem splK_tx {g : DL.Env → Res D} {ρ : DL.Env} {a : List Nat} : splK g ρ (tx a) = (g ρ).thn (splR ⟨a.toArray⟩) := rfl
@[simp] theorem joinK_tx {g : DL.Env → Res D} {ρ : DL.Env} {a : List Nat} : joinK g ρ (tx a) = (g ρ).thn (joinR ⟨a.toArray⟩) := rfl
theorem splR_tx {a b : List Nat} (hb : b ≠ []) (hk : b.all (· < 256) = true) (hl : a.length + 2 ≤ 16777216) : splR ⟨a.toArray⟩ (tx b) = .ok ((TL.spl b 0 [] a).map tx) := by
  have h0 : ((⟨b.toArray⟩ : Str).length == 0) = false := by
    cases b with
    | nil => exact absurd rfl hb
    | cons c r => simp [Str.length]
  show (if ((⟨b.toArray⟩ : Str).length == 0) = false ∧ (⟨a.toArray⟩ : Str).length + 2 ≤ sizeLine then Res.ok ((Txt.split ⟨a.toArray⟩ ⟨b.toArray⟩).map D.str) else .no) = _
  rw [if_pos ⟨h0, by simpa [Str.length, sizeLine_eq] using hl⟩]
  have := SX.split_S hb hk (a := a)
  rw [show Txt.split ⟨a.toArray⟩ ⟨b.toArray⟩ = (TL.spl b 0 [] a).map SX.S from this, List.map_map]
  rfl
theorem strsOf_tx : ∀ ys : List (List Nat), strsOf (ys.map tx) = some (ys.map SX.S)
  | [] => rfl
  | y :: r => by
    show (strsOf (r.map tx)).map _ = _
    rw [strsOf_tx r]; rfl
theorem joinR_tx {a : List Nat} {ys : List (List Nat)} (h : (ys.map (·.length)).sum + ys.length * a.length ≤ 16777216) : joinR ⟨a.toArray⟩ (.lst (ys.map tx)) = .ok (tx (TL.joinL a ys)) := by
  show (match strsOf (ys.map tx) with | some zs => if (zs.map (fun z : Str => z.length)).sum + zs.length * (⟨a.toArray⟩ : Str).length ≤ 16777216 then Res.ok (D.str (Txt.join ⟨a.toArray⟩ zs)) else .no | none => .no) = _
  rw [strsOf_tx]
  simp only
  rw [if_pos (by rw [SX.lens, List.length_map]; simpa [Str.length] using h)]
  rw [show Txt.join ⟨a.toArray⟩ (ys.map SX.S) = SX.S (TL.joinL a ys) from SX.join_S a ys]
  rfl
@[simp] theorem c_str_tx (a : List Nat) : c_str [tx a] = .ok (tx a) := rfl
theorem log2_small {n : Nat} (h : n < 10 ^ 60) : n.log2 < 1920 := by
  by_cases z : n = 0
  · subst z; decide
  · exact (Nat.log2_lt z).mpr (Nat.lt_of_lt_of_le h (by decide +kernel))
theorem c_str_num {n : Nat} (h : n < 10 ^ 60) : c_str [.int (n : Int)] = .ok (tx (TL.numL n)) := by
  show (if (n : Int).natAbs.log2 < 1920 then Res.ok (D.str (Str.ofString (toString (n : Int)))) else .no) = _
  rw [if_pos (by simpa using log2_small h), SX.num_S]
  rfl
theorem numL_all (n : Nat) : (TL.numL n).all (fun c => decide (48 ≤ c) && decide (c ≤ 57)) = true := by
  rw [List.all_eq_true]
  intro c hc
  have h1 := TL.numL_free (n := n) (s := c)
  by_cases q : c < 48 ∨ 57 < c
  · exact absurd hc (h1 q)
  · simp only [Bool.and_eq_true, decide_eq_true_eq]; omega
theorem c_intS_num {n : Nat} (h : n < 10 ^ 60) : c_intS [tx (TL.numL n)] = .ok (.int (n : Int)) := by
  have hl := TL.numL_len (k := 60) (by decide) h
  show (match PySem.intText? (SX.S (TL.numL n)) with | some m => if (SX.S (TL.numL n)).length ≤ 640 then Res.ok (D.int m) else .no | none => .no) = _
  rw [SX.int_S (numL_all n) (TL.numL_ne n) (by omega), TL.numL_val]
  simp only
  rw [if_pos (by rw [SX.S_len]; omega)]
def signsOf (d : D) : Res (List D) := (strOf d).thn fun x => .ok (x.cps.toList.map fun c => D.str ⟨#[c]⟩)
@[simp] theorem e_iStr {f : DL.Env → Res D} {ρ : DL.Env} : iStrD f ρ = (f ρ).thn signsOf := by
  unfold iStrD Res.thn signsOf; cases f ρ <;> rfl
@[simp] theorem signs_tx (a : List Nat) : signsOf (tx a) = .ok (a.map fun c => tx [c]) := rfl
theorem g_in_sign (a : List Nat) (c : Nat) : g_in (tx [c]) (tx a) = .ok (.bl (decide (c ∈ a))) := by
  show (Res.ok (!(Builtin.Str.occurrences (SX.S a) (SX.S [c]) 0 (SX.S a).length 1).isEmpty)).thn (fun b => .ok (D.bl b)) = _
  rw [thn_ok]
  exact congrArg Res.ok (congrArg D.bl (SX.in_one a c))
theorem inT_tx {a : List Nat} {ls : List (List Nat)} (h : asc a) (h2 : ∀ l ∈ ls, asc l) : SeqAt.shaped (py (tx a)) = true ∧ SeqAt.shaped (py (.tup (ls.map tx))) = true := by
  have q1 : nb 19 (tx a) = true := tx_nb 19 h
  have q2 : nb 20 (.tup (ls.map tx)) = true := by simpa using nbs_tx 19 h2
  exact ⟨shaped_of q1 (by omega), shaped_of q2 (by omega)⟩
theorem g_inT_tx {a : List Nat} {ls : List (List Nat)} (h : asc a) (h2 : ∀ l ∈ ls, asc l) : g_inT (tx a) (.tup (ls.map tx)) = .ok (.bl (decide (a ∈ ls))) := by
  show (if SeqAt.shaped (py (tx a)) = true ∧ SeqAt.shaped (py (.tup (ls.map tx))) = true then Res.ok (D.bl ((pys (ls.map tx)).any fun z => PyData.eqv z (py (tx a)))) else .no) = _
  rw [if_pos (inT_tx h h2), any_py (tx_nb 19 h) (nbs_tx 19 h2)]
  have : (tx a ∈ ls.map tx) = (a ∈ ls) := propext mem_tx
  simp only [this]
theorem g_notinT_tx {a : List Nat} {ls : List (List Nat)} (h : asc a) (h2 : ∀ l ∈ ls, asc l) : g_notinT (tx a) (.tup (ls.map tx)) = .ok (.bl (!decide (a ∈ ls))) := by
  show (if SeqAt.shaped (py (tx a)) = true ∧ SeqAt.shaped (py (.tup (ls.map tx))) = true then Res.ok (D.bl (!((pys (ls.map tx)).any fun z => PyData.eqv z (py (tx a))))) else .no) = _
  rw [if_pos (inT_tx h h2), any_py (tx_nb 19 h) (nbs_tx 19 h2)]
  have : (tx a ∈ ls.map tx) = (a ∈ ls) := propext mem_tx
  simp only [this]
theorem g_ne_tx {a b : List Nat} (h : asc a) (h2 : asc b) : g_ne (tx a) (tx b) = .ok (.bl (!decide (a = b))) := by
  rw [g_ne_S (tx_nb 20 h) (tx_nb 20 h2)]
  have : (tx a = tx b) = (a = b) := propext tx_inj
  simp only [this]
@[simp] theorem c_len_tx {a : List Nat} (h : a.length ≤ 16777216) : c_len [tx a] = .ok (.int a.length) := by
  show (if (⟨a.toArray⟩ : Str).length ≤ sizeLine then Res.ok (D.int (⟨a.toArray⟩ : Str).length) else .no) = _
  rw [if_pos (by simpa [Str.length, sizeLine_eq] using h)]
  simp [Str.length]
@[simp] theorem e_zip2M {ρ : DL.Env} {f g : DL.Env → Res D} : iZip2M f g ρ = (f ρ).thn fun x => (g ρ).thn fun y => zipMR x y := rfl
@[simp] theorem zipMR_ok (xs ys : List D) : zipMR (.tup xs) (.lst ys) = .ok (zipD xs ys) := rfl
end DL
namespace DL
end DL
namespace DL
end DL
namespace DL
end DL
namespace DL
end DL
namespace DL
open PySem PySem.Spec PyProof.Rows L2
structure MOk (P : Program) (w : World) (K : PySem.W.Frag) (mg : Str → Option Value) (base : Heap) (k : Nat) (m : Str) (C : Addr) (sp : Sp) : Prop where
  cls : L2.Cls K C
  ex : ∃ f fd ps, L2.Meth K C m f ∧ FnOk P w K mg base (L2.CX P w) k f fd ps sp ∧ Binds K fd ps []
section
variable {X : Cx} {W : WX} {e o : Expr} {es : List Expr} {f m : Str} {g fo : Env → Res D} {fa : Env → Res (List D)} {pos apos : Pos} {k n : Nat} {E : L2.St → XK} {ta : TE} {t : TA}
abbrev Ms := List (Addr × (List D → Res D))
end
end DL
namespace DL
end DL
namespace DL
open PySem PySem.Spec PyProof.Rows L2
abbrev ISem := Env → AOut
end DL
namespace DL
end DL
namespace DL
end DL
namespace DL
end DL
namespace DL
end DL
namespace DL
end DL
namespace DL
end DL
namespace DL
end DL
namespace DL
open PySem PySem.Spec PyProof.Rows L2
def Pow (m : Nat) : Prop := ∃ k, m + 1 = 2 ^ k ∧ 3 ≤ k
end DL
namespace DL
end DL
namespace DL
open PySem PySem.Spec PyProof.Rows L2
structure TabB (t : SetTable) (hs : List Int) : Prop where
  up : Ris t.place.toList
  no : t.dummies = #[]
  len : t.place.size = hs.length
  pow : Pow t.mask
  bd : ∀ x ∈ t.place.toList, x ≤ t.mask
  fd : ∀ (i : Nat) (h : Int) (j : Nat), hs[i]? = some h → t.place.toList[i]? = some j → ∃ k, way t.mask h k = j ∧ ∀ k', k' < k → way t.mask h k' ∈ t.place.toList
end DL
namespace DL
end DL
namespace DL
open PySem PySem.Spec PyProof.Rows L2
def Msk (m : Nat) : Prop := m = 7 ∨ m = 31 ∨ m = 127 ∨ m = 511 ∨ m = 2047 ∨ m = 8191
structure SetTB (P : Program) (w : World) (h : Heap) (a : Addr) (L : List (Addr × List Int)) (es : Array (Int × Value)) (ep : Nat) (t : SetTable) : Prop where
  ob : ∃ o, h.get? a = some o ∧ o.ExactSet ∧ o.data = .set es ep t
  rows : es.toList = rowsOf P w L
  tab : TabB t (L.map fun p => thash P w p.2)
  nd : (L.map (·.2)).Nodup
  tup : ∀ p ∈ L, IsT P w h p.2 p.1
  pl : t.plain = true
  ld : w.params.followText "set-order" = true ∨ t.led = true
  room : L.length * 5 < t.mask * 3
  big : Msk t.mask
end DL
namespace DL
open PySem PySem.Spec PyProof.Rows L2
abbrev look (m : Nat) (h : Int) (c : Nat) : SetTable.Probe := nth m (runAt m (SetTable.bits h % (m + 1)) (SetTable.bits h)) c
end DL
namespace DL
end DL
namespace DL
end DL
namespace DL
end DL
namespace DL
open PySem PySem.Spec PyProof.Rows L2
structure SetB0 (P : Program) (w : World) (h : Heap) (a : Addr) (L : List (Addr × List Int)) : Prop where
  ex : ∃ (es : Array (Int × Value)) (ep : Nat) (t : SetTable), (∃ o, h.get? a = some o ∧ o.ExactSet ∧ o.data = .set es ep t) ∧ es.toList = rowsOf P w L ∧ TabB t (L.map fun p => thash P w p.2) ∧ (L.map (·.2)).Nodup ∧ t.plain = true ∧
    (w.params.followText "set-order" = true ∨ t.led = true) ∧ L.length * 5 < t.mask * 3 ∧ Msk t.mask
end DL
namespace DL
end DL
namespace DL
end DL
namespace DL
end DL
namespace DL
open PySem PySem.Spec PyProof.Rows L2
mutual
def nkD : D → Option NestedKey
  | .non => some .none
  | .int i => some (.num i)
  | .str x => some (.text x)
  | .tup ds => (nksD ds).map .tup
  | _ => none
def nksD : List D → Option (List NestedKey)
  | [] => some []
  | d :: r => (nkD d).bind fun k => (nksD r).map fun ks => k :: ks
end
mutual
def dkN : NestedKey → D
  | .none => .non
  | .num i => .int i
  | .text x => .str x
  | .tup ks => .tup (dksN ks)
def dksN : List NestedKey → List D
  | [] => []
  | k :: r => dkN k :: dksN r
end
mutual
theorem dkN_of : ∀ {d : D} {k : NestedKey}, nkD d = some k → dkN k = d
  | .non, _, h => by cases h; rfl
  | .int i, _, h => by cases h; rfl
  | .str x, _, h => by cases h; rfl
  | .tup ds, k, h => by
    obtain ⟨ks, h1, h2⟩ := Option.map_eq_some_iff.mp (show (nksD ds).map NestedKey.tup = some k from h)
    subst h2
    show D.tup (dksN ks) = _
    rw [dksN_of h1]
  | .bl _, _, h => by cases h
  | .lst _, _, h => by cases h
  | .dK _, _, h => by cases h
  | .dT _, _, h => by cases h
  | .obj _ _, _, h => by cases h
  | .dN _ _, _, h => by cases h
theorem dksN_of : ∀ {ds : List D} {ks : List NestedKey}, nksD ds = some ks → dksN ks = ds
  | [], _, h => by cases h; rfl
  | d :: r, ks, h => by
    obtain ⟨k, h1, h2⟩ := Option.bind_eq_some_iff.mp (show (nkD d).bind (fun k => (nksD r).map fun ks => k :: ks) = some ks from h)
    obtain ⟨ks2, h3, h4⟩ := Option.map_eq_some_iff.mp h2
    subst h4
    show dkN k :: dksN ks2 = _
    rw [dkN_of h1, dksN_of h3]
end
mutual
theorem nk_dkN : ∀ k : NestedKey, nkD (dkN k) = some k
  | .none => rfl
  | .num _ => rfl
  | .text _ => rfl
  | .tup ks => by show (nksD (dksN ks)).map NestedKey.tup = _; rw [nks_dksN ks]; rfl
theorem nks_dksN : ∀ ks : List NestedKey, nksD (dksN ks) = some ks
  | [] => rfl
  | k :: r => by
    show (nkD (dkN k)).bind (fun k => (nksD (dksN r)).map fun ks => k :: ks) = _
    rw [nk_dkN k, nks_dksN r]; rfl
end
mutual
theorem rep_dkN {G : Hp} : ∀ {k : NestedKey} {v : V}, KeyR G k v ↔ Rep G (dkN k) v
  | .none, _ => Iff.rfl
  | .num _, _ => Iff.rfl
  | .text _, _ => Iff.rfl
  | .tup ks, v => by
    show (∃ a vs, v = .ref a ∧ G a = some (.tup vs) ∧ KeysR G ks vs) ↔ (∃ a vs, v = .ref a ∧ G a = some (.tup vs) ∧ Reps G (dksN ks) vs)
    constructor
    · rintro ⟨a, vs, e, h, r⟩; exact ⟨a, vs, e, h, reps_dksN.mp r⟩
    · rintro ⟨a, vs, e, h, r⟩; exact ⟨a, vs, e, h, reps_dksN.mpr r⟩
theorem reps_dksN {G : Hp} : ∀ {ks : List NestedKey} {vs : List V}, KeysR G ks vs ↔ Reps G (dksN ks) vs
  | [], _ => Iff.rfl
  | k :: r, vs => by
    show (∃ v s, vs = v :: s ∧ KeyR G k v ∧ KeysR G r s) ↔ (∃ v s, vs = v :: s ∧ Rep G (dkN k) v ∧ Reps G (dksN r) s)
    constructor
    · rintro ⟨v, s, e, h, q⟩; exact ⟨v, s, e, rep_dkN.mp h, reps_dksN.mp q⟩
    · rintro ⟨v, s, e, h, q⟩; exact ⟨v, s, e, rep_dkN.mpr h, reps_dksN.mpr q⟩
end
mutual
theorem nestedIs_of {P : Program} {w : World} {H : Hp} {h : Heap} (ok : HOk P w H h) : ∀ {k : NestedKey} {v : V} {u : Value}, KeyR H k v → RelV v u → NestedIs h k u
  | .none, _, u, r, q => by
    rw [show _ = _ from r] at q
    cases (show u = Value.none from q); exact .none
  | .num i, _, u, r, q => by
    rw [show _ = _ from r] at q
    obtain ⟨t, e⟩ := (show ∃ t, u = Value.int i t from q)
    rw [e]; exact .int i t
  | .text x, _, u, r, q => by
    rw [show _ = _ from r] at q
    obtain ⟨t, e⟩ := (show ∃ t, u = Value.str x t from q)
    rw [e]; exact .text x t
  | .tup ks, _, u, ⟨a, vs, e, ha, rs⟩, q => by
    rw [e] at q
    cases (show u = Value.ref a from q)
    obtain ⟨_, its, r, o, h1, h2, n, h3⟩ := (show ObjOk P w H h a (.tup vs) from ok a _ ha)
    exact .tup h1 h2 h3 (by simpa using nestedAll_of ok rs r)
theorem nestedAll_of {P : Program} {w : World} {H : Hp} {h : Heap} (ok : HOk P w H h) : ∀ {ks : List NestedKey} {vs : List V} {us : List Value}, KeysR H ks vs → Vals vs us → NestedAll h ks us
  | [], _, us, r, q => by
    rw [show _ = [] from r] at q
    cases q; exact .nil
  | k :: r, _, us, ⟨v, s, e, h1, h2⟩, q => by
    rw [e] at q
    cases q with
    | cons a b => exact .cons (nestedIs_of ok h1 a) (nestedAll_of ok h2 b)
end
end DL
namespace DL
end DL
namespace DL
end DL
namespace DL
end DL
namespace DL
end DL
namespace DL
end DL
namespace DL
end DL
namespace DL
end DL
namespace DL
end DL
namespace DL
end DL
namespace DL
open PySem PySem.Spec PyProof.Rows L2
structure KExt (a : Addr) (G H G' H' : Hp) : Prop where
  h : ∀ b o, b ≠ a → H b = some o → H' b = some o
  g : ∀ b o, G b = some o → G' b = some o
  s : Sub G' H'
  f : G' a = none
  n : ∀ b o, G' b = some o → G b = some o ∨ H b = none ∨ ∃ vs, o = .tup vs
structure KI (a C dx : Addr) (G H : Hp) (σ : L2.St) (ρ : Env) (fs : List (Str × D)) (ws : List (Str × V)) : Prop where
  m : ρ[0]? = some (some (.obj C fs))
  v : σ[0]? = some (some (.ref a))
  i : H a = some (.ins C dx ws)
  r : RepF G fs ws
  s : Sub G H
  f : G a = none
  e : EnvR G σ (ρ.set 0 none)
structure ClsInit (K : PySem.W.Frag) (C f : Addr) : Prop where
  rd : PySem.W.readsIn K C (.type "type") = true
  ga : PySem.W.specialIn K (.ref C) "__getattribute__" = some (some (.builtin "type.__getattribute__"))
  at_ : PySem.W.findCls K (.ref C) (.type "type") "__init__" = some (.val (.ref f))
  kp : PySem.W.keepIn K (.ref f) = true
end DL
namespace DL
open PySem PySem.Spec PyProof.Rows L2
structure Mk0 (K : PySem.W.Frag) (C : Addr) : Prop where
  makes : PySem.W.makesIn K C = true
  init : PySem.W.findIn K (.ref C) "__init__" = some (some (.builtin "object.__init__"))
  top : PySem.W.mroIn K C (.type "object") = some true
  kp : PySem.W.keepIn K (.ref C) = true
end DL
namespace DL
open PySem PySem.Spec PyProof.Rows L2
theorem Reps.rep {G : Hp} {ds : List D} {vs : List V} (h : Reps G ds vs) : ∀ k : Nat, Reps G (List.replicate k ds).flatten (List.replicate k vs).flatten
  | 0 => rfl
  | k + 1 => by
    rw [List.replicate_succ, List.replicate_succ, List.flatten_cons, List.flatten_cons]
    exact h.append (Reps.rep h k)
def nRep (f : Env → Res (List D)) (g : Env → Res D) : Env → Res (List D) := fun ρ => f ρ >>= fun xs => g ρ >>= fun y => match y with
  | .int k => if -(2 ^ 63) ≤ k ∧ k < 2 ^ 63 ∧ xs.length * k.toNat ≤ sizeLine then .ok (List.replicate k.toNat xs).flatten else .no
  | _ => .no
theorem dn_rep {X : Cx} {W : WX} {e1 e2 : Expr} {pos : Pos} {f : Env → Res (List D)} {g : Env → Res D} (d1 : DN X W e1 f) (d2 : DE X W e2 g) : DN X W (.BinOp e1 .Mult e2 pos) (nRep f g) := by
  obtain ⟨t1, p1, h1⟩ := d1
  obtain ⟨t2, p2, h2⟩ := d2
  refine ⟨_, pe_op op_rep p1 p2, fun G H σ ρ Q s e h => ?_⟩
  refine h1 G H σ ρ _ s e ?_
  unfold nRep at h
  cases q : f ρ with
  | ok xs =>
    rw [q, Res.bind_ok] at h
    intro G1 H1 e1 p vs gp hp hn ra
    refine h2 G1 H1 σ ρ _ e1.s (e.le e1.le) ?_
    cases q2 : g ρ with
    | ok y =>
      rw [q2, Res.bind_ok] at h
      intro G2 H2 e2 w rw'
      cases y with
      | int k =>
        simp only at h
        split at h
        · rename_i z
          obtain ⟨z1, z2, z3⟩ := z
          have ew : w = .int k := rw'
          subst ew
          exact ⟨p, k, vs, rfl, rfl, e2.h _ _ hp, z1, z2, by rw [ra.length]; exact z3, fun b np => GlN.end (e1.trans e2) np ((ra.le e2.le).rep k.toNat) h⟩
        · exact h.elim
      | _ => exact h.elim
    | ex c => rw [q2] at h; exact fun C G' H' m x => h C G' H' m (e1.trans x)
    | no => rw [q2] at h; exact h
  | ex c => rw [q] at h; exact h
  | no => rw [q] at h; exact h
theorem rep_one {α : Type} (d : α) : ∀ k : Nat, (List.replicate k [d]).flatten = List.replicate k d
  | 0 => rfl
  | k + 1 => by rw [List.replicate_succ, List.flatten_cons, rep_one d k, List.replicate_succ]; rfl
theorem nRep_one {f : Env → Res (List D)} {g : Env → Res D} {ρ : Env} {d : D} {k : Nat} (h1 : f ρ = .ok [d]) (h2 : g ρ = .ok (.int (k : Int))) (hk : k ≤ 1000) : nRep f g ρ = .ok (List.replicate k d) := by
  have hz : (1000 : Nat) ≤ sizeLine := by decide +kernel
  have c1 : -(2 ^ 63) ≤ (k : Int) := Int.le_trans (by decide : -(2 ^ 63 : Int) ≤ 0) (Int.natCast_nonneg k)
  have c2 : (k : Int) < 2 ^ 63 := Int.lt_of_le_of_lt (Int.ofNat_le.mpr hk) (by decide : ((1000 : Nat) : Int) < 2 ^ 63)
  have c3 : [d].length * (k : Int).toNat ≤ sizeLine := by
    have e1 : [d].length * (k : Int).toNat = k := by simp
    rw [e1]
    exact Nat.le_trans hk hz
  unfold nRep
  rw [h1, h2]
  rw [Res.bind_ok, Res.bind_ok]
  show (if -(2 ^ 63) ≤ (k : Int) ∧ (k : Int) < 2 ^ 63 ∧ [d].length * (k : Int).toNat ≤ sizeLine then _ else _) = _
  rw [if_pos ⟨c1, c2, c3⟩, Int.toNat_natCast, rep_one]
end DL
namespace DL
open PySem PySem.Spec PyProof.Rows L2
section
variable {M : Model} {A : Around} {E : Value → Shared → Prop} {s : Shared} {B : Heap} {env : PySem.Env} {outer : List PySem.Env} {L L2 a : Addr} {Z : Obj → Prop}
theorem note_comp {scope : Scope} {cl : List (Str × Addr)} {C : Addr} {e : Value} : noteFrame e (compEnvC scope cl C env) = noteFrame e env := rfl
theorem look_other {fl : Value} {Q : Unit → Shared → Prop} (hZ : HandSPX.Steady Z) (hfr : A.frames = some (env :: outer)) (hf : env.frame = some L) (hne : (fl == rawInt L) = false) (kb : B.StaysIn s.heap) (nb : B.get? a = none) (ff : s.heap.FunFrames B (env :: outer)) (tr : HandSPX.TracedZ s.heap B a Z fl)
    (hQ : ∀ h', HandSPX.HeldZ B (env :: outer) a Z L h' → s.heap.UpToSlots h' → Q () { s with heap := h' }) : wpAny M A (noteFrame (.ref a) env) Q E s := by
  obtain ⟨oe, vs, T, oT, ts, ge, gz, gd, g1, nnT, nTe, gT, gdT, g3⟩ := tr
  unfold noteFrame
  simp only [hf]
  refine wpAny_bind (wpAny_field ge gd g1 ?_)
  rw [if_pos (by simp)]
  refine wpAny_bind (wpAny_field gT gdT g3 ?_)
  rw [if_neg (by rw [hne]; exact Bool.false_ne_true)]
  refine wpAny_bind (wpAny_setField gT gdT (Array.getElem?_eq_some_iff.mp g3).1 ?_)
  have ot : ∀ b, b ≠ T → (s.heap.update T (Obj.mapFields (·.setIfInBounds 3 Value.none))).get? b = s.heap.get? b := fun b hb => Heap.get?_update_other _ _ (Ne.symm hb)
  have nr : ∀ b o, s.heap.get? b = some o → (∀ vs, o.data ≠ .fields vs) → b ≠ T := fun b o hb hnf q => by
    subst q
    rw [gT] at hb
    cases hb
    exact hnf ts gdT
  have kb2 : B.StaysIn (s.heap.update T (Obj.mapFields (·.setIfInBounds 3 Value.none))) := fun b o hb => by
    rw [ot b fun q => by rw [q, nnT] at hb; cases hb]
    exact kb b o hb
  refine HandSPX.wpAny_entryZ hZ hfr (ff.of_keeps fun b o hb hnf => ⟨o, by rw [ot b (nr b o hb hnf)]; exact hb, rfl⟩) hf (by rw [ot a (Ne.symm nTe)]; exact ge) kb2 nb gd (Array.getElem?_eq_some_iff.mp g1).1 gz fun h' hN => ?_
  obtain ⟨x1, x2, x3, x4⟩ := hN
  exact hQ h' ⟨x1, nb, x2, x3⟩ fun b o hb hnf => x4 b o (by rw [ot b (nr b o hb hnf)]; exact hb) hnf
theorem sky_note {Q : Unit → Shared → Prop} (hZ : HandSPX.Steady Z) (hfr : A.frames = some (env :: outer)) (hf : env.frame = some L) (ne : L2 ≠ L) (sky : Sky B (env :: outer) a Z L2 s.heap)
    (hQ : ∀ h', HandSPX.HeldZ B (env :: outer) a Z L h' → s.heap.UpToSlots h' → Q () { s with heap := h' }) : wpAny M A (noteFrame (.ref a) env) Q E s := by
  rcases sky with ⟨kb, nb, ff, oe, vs, he, hz, hd, h1⟩ | fl | hd
  · exact HandSPX.look_newZ hZ hfr ff hf he kb nb hd h1 hz hQ
  · exact HandSPX.looks_onZ hZ hfr hf fl hQ
  · obtain ⟨k1, k2, k3, k4⟩ := hd
    refine look_other hZ hfr hf ?_ k1 k2 k3 k4 hQ
    have : (L2 : Int) ≠ (L : Int) := fun e => ne (by exact_mod_cast e)
    simp [rawInt, this]
end
theorem ff_move {B B2 h h2 : Heap} : ∀ {l : List PySem.Env}, h.FunFrames B l → (∀ b ∈ frs l, ∀ o, h.get? b = some o → h2.get? b = some o) → (∀ b ∈ frs l, B2.get? b = none) → h2.FunFrames B2 l
  | [], _, _, _ => trivial
  | env :: l, h, k, n => by
    obtain ⟨kd, ⟨L, o, fr, _, go, dt⟩, rest⟩ := h
    have hL : L ∈ frs (env :: l) := List.mem_filterMap.mpr ⟨env, List.mem_cons_self, fr⟩
    have tl : ∀ b ∈ frs l, b ∈ frs (env :: l) := fun b hb => by
      obtain ⟨v, hv, q⟩ := List.mem_filterMap.mp hb
      exact List.mem_filterMap.mpr ⟨v, List.mem_cons_of_mem _ hv, q⟩
    exact ⟨kd, ⟨L, o, fr, n L hL, k L hL o go, dt⟩, ff_move rest (fun b hb => k b (tl b hb)) fun b hb => n b (tl b hb)⟩
section
variable {X : Cx} {W : WX} {pins : List (Addr × Obj)} {σ : L2.St} {H3 : Hp} {s3 : Shared} {scope : Scope} {cl : List (Str × Addr)} {fp : List Addr}
theorem comp_takes (hs : X.stack = X.env :: X.outer) (hf : X.env.frame = some X.env.locals) (tk : Takes X W) (I3 : L2.Inv X pins σ H3 s3) (f3 : ∀ b ∈ fp, FpOk X pins H3 b ∧ b < s3.heap.objs.size) {ce : PySem.Env} (hce : ce = compEnvC scope cl s3.heap.objs.size X.env) :
    Takes ((X.blk s3 H3 scope ce fp).tr [] (notedBy (model X.prog X.w) X.A ce (CompFails (model X.prog X.w) X.A X.xe ce))) (fun cls d _ H => W cls d σ H) := by
  rintro u s' ⟨a, B, sI, pins', σ', H', cls, d, rfl, J, nb, up, sky, na, os, ag, w⟩
  have hfr : X.A.frames = some (X.env :: X.outer) := by rw [I3.ok.frames, hs]
  obtain ⟨C, hC⟩ : ∃ C, s3.heap.objs.size = C := ⟨_, rfl⟩
  have cL : ce.locals = C := by rw [hce, ← hC]; rfl
  have cF : ce.frame = some X.env.locals := by rw [hce, ← hf]; rfl
  have neL : C ≠ X.env.locals := by rw [← hC]; exact Nat.ne_of_gt I3.lt
  have skyX : Sky B (X.env :: X.outer) a (Zc cls d) C s'.heap := by rw [← hs, ← cL]; exact sky
  show wpAny (model X.prog X.w) X.A (noteFrame (.ref a) ce) _ _ s'
  rw [show noteFrame (.ref a) ce = noteFrame (.ref a) X.env by rw [hce]; exact note_comp]
  refine sky_note Zc.steady hfr hf neL skyX fun h1 held up1 => ?_
  obtain ⟨m, nsI, _⟩ := J.loc
  have nsI : sI.heap.Ns C m := by rw [← cL]; exact nsI
  obtain ⟨oC, es, ep, gC, rC⟩ := nsI
  have nfC : ∀ vs, oC.data ≠ .fields vs := fun vs z => by rw [rC.1] at z; cases z
  have frC : C ∉ frs X.stack := fun hm => by
    have ltC : C < s3.heap.objs.size := by
      obtain ⟨_, o, e, _⟩ := I3.stack.mem hm
      exact Heap.lt_size e
    rw [hC] at ltC
    exact absurd ltC (Nat.lt_irrefl _)
  have bC : B.get? C = some oC := nb C oC gC frC
  have aC : a ≠ C := fun z => by
    have := held.2.1
    rw [z, bC] at this
    cases this
  refine ⟨m, ?_, fun h2 m2 ns2 sb => ?_⟩
  · rw [cL]
    exact ⟨oC, es, ep, held.1 C oC bC, rC⟩
  rw [cL] at ns2 sb
  have I5 : L2.Inv X pins σ H' sI := I3.call' (ch := fp) J.os J.base J.hok J.bare fun b hb => ⟨(f3 b hb).1.2.2.2.1, (f3 b hb).1.2.1, (f3 b hb).1.2.2.2.2.1, (f3 b hb).1.2.2.2.2.2⟩
  have nC : H' C = none := by
    have z : H' ce.locals = none := J.free
    rw [cL] at z
    exact z
  obtain ⟨f0, f1, f2, f4, f5, f6⟩ := I3.fpOk (H' := H') (Nat.le_of_eq hC) nC
  have I6 : L2.Inv X pins σ H' { sI with heap := PySem.W.hideAll sI.heap [C] } := I5.turned (t' := sI.toks) (fun b o hb e => PySem.W.hideAll_get _ e (by simpa using hb)) f0 f1 f4 f5 f6
  have sb2 : ∀ b o, b ≠ C → h1.get? b = some o → h2.get? b = some o := fun b o hb e => by rw [sb.2 b hb]; exact e
  have bh : ∀ b o, (PySem.W.hideAll B [C]).get? b = some o → b ≠ C ∧ B.get? b = some o := fun b o e => by
    refine ⟨fun z => ?_, PySem.W.of_hideAll _ e⟩
    rw [z, PySem.W.hideAll_none [C] (by simp)] at e
    cases e
  have bn : ∀ b, B.get? b = none → (PySem.W.hideAll B [C]).get? b = none := fun b e => by
    cases q : (PySem.W.hideAll B [C]).get? b with
    | none => rfl
    | some o => rw [(bh b o q).2] at e; cases e
  obtain ⟨k1, k2, k3, oe, vs, T, oT, ts, he, hz, hd, hv, hnT, hTe, hT, hdT, h3⟩ := held
  have TC : T ≠ C := fun z => by rw [z, bC] at hnT; cases hnT
  have held2 : HandSPX.HeldZ (PySem.W.hideAll B [C]) (X.env :: X.outer) a (Zc cls d) X.env.locals h2 := by
    refine ⟨fun b o e => sb2 b o (bh b o e).1 (k1 b o (bh b o e).2), bn a k2, ff_move k3 (fun b hb o e => sb2 b o (fun z => ?_) e) (fun b hb => bn b (k3.mem hb).1), oe, vs, T, oT, ts, sb2 a oe aC he, hz, hd, hv, bn T hnT, hTe, sb2 T oT TC hT, hdT, h3⟩
    rw [z] at hb
    exact frC (by rw [hs]; exact hb)
  unfold PySem.passOn
  refine wpAny_bind (wpAny_field (sb2 a oe aC he) hd hv ?_)
  rw [if_neg (by simp : ¬ ((Value.ref T == .none) = true))]
  have fin : wpAny (model X.prog X.w) X.A (setFlight (.ref a) ce.frame) (fun _ s4 => wpAny (model X.prog X.w) X.A (throw (.ref a) : Sem Value) (fun _ _ => False) X.xe s4) X.xe { s' with heap := h2 } := by
    rw [cF]
    refine HandSPX.setFlight_onZ held2 fun h4 hh4 up4 => wpAny_throw (tk _ _ ?_)
    refine ⟨a, PySem.W.hideAll B [C], { sI with heap := PySem.W.hideAll sI.heap [C] }, pins, σ, H', cls, d, rfl, I6, fun b o e hb => ?_, fun b o e hnf => ?_, .inr (.inr (by rw [hs]; exact hh4)), na, os, ag, w⟩
    · have e2 := PySem.W.of_hideAll _ e
      have bc : b ≠ C := fun z => by
        rw [z, PySem.W.hideAll_none [C] (by simp)] at e
        cases e
      exact PySem.W.hideAll_get _ (nb b o e2 hb) (by simpa using bc)
    · have e2 := PySem.W.of_hideAll _ e
      have bc : b ≠ C := fun z => by
        rw [z, PySem.W.hideAll_none [C] (by simp)] at e
        cases e
      obtain ⟨sl1, g1⟩ := up b o e2 hnf
      obtain ⟨sl2, g2⟩ := up1 b _ g1 hnf
      have g3 : h2.get? b = some { o with slots := sl2 } := sb2 b _ bc g2
      exact up4 b { o with slots := sl2 } g3 hnf
  first | exact wpAny_bind (wpAny_pure (wpAny_bind fin)) | exact wpAny_bind fin
end
end DL
namespace DL
open PySem PySem.Spec PyProof.Rows L2
abbrev blkX (X : Cx) (s : Shared) (H : Hp) (scope : Scope) (ce : PySem.Env) (fp : List Addr) : Cx := (X.blk s H scope ce fp).tr [] (notedBy (model X.prog X.w) X.A ce (CompFails (model X.prog X.w) X.A X.xe ce))
section
variable {X : Cx} {W : WX}
theorem inv_in {s0 : Shared} {H0 : Hp} {scope : Scope} {ce : PySem.Env} {fp : List Addr} {pins : List (Addr × Obj)} {σ : L2.St} {H : Hp} {s : Shared} (I : L2.Inv (X.blk s0 H0 scope ce fp) pins σ H s) : L2.Inv (blkX X s0 H0 scope ce fp) pins σ H s :=
  ⟨I.ok.toTry _ _, I.os, I.bare, I.base, I.loc, I.cell, I.free, I.freeC, fun p hp => I.pin p hp, I.hok, I.len⟩
theorem pe_lcX {elt tg iter : Expr} {ifs : List Expr} {scope : Scope} {own : List (Str × Nat)} {pos : Pos} {wi : TI} {g : TG} {tt : WX → TT} {te : WX → TE} (hs : X.stack = X.env :: X.outer) (hf : X.env.frame = some X.env.locals) (tk : Takes X W) (hc : X.calm = true) (hN : X.N.Nodup) (hi : PI X tg iter wi) (ok : BlkOk X.N X.env.scope scope own)
    (hg : ∀ (s : Shared) (H : Hp) (C : Addr) (cl : List (Str × Addr)) (fp : List Addr), PG (blkX X s H scope (compEnvC scope cl C X.env) fp) tg g)
    (ht : ∀ (s : Shared) (H : Hp) (C : Addr) (cl : List (Str × Addr)) (fp : List Addr) (W' : WX), Takes (blkX X s H scope (compEnvC scope cl C X.env) fp) W' → PTs (blkX X s H scope (compEnvC scope cl C X.env) fp) ifs (tt W'))
    (he : ∀ (s : Shared) (H : Hp) (C : Addr) (cl : List (Str × Addr)) (fp : List Addr) (W' : WX), Takes (blkX X s H scope (compEnvC scope cl C X.env) fp) W' → PE (blkX X s H scope (compEnvC scope cl C X.env) fp) elt (te W'))
    (hfs : ∀ x, foldedSetIterable iter X.env x = pure x := by intro _; rfl) :
    PE X (.ListComp elt [⟨tg, iter, ifs, 0⟩] scope pos) (fun σ H Q => tLc wi g (tt fun cls d _ H' => W cls d σ H') (te fun cls d _ H' => W cls d σ H') (own.map (·.2)) σ H Q) := by
  refine ⟨fun pn s σ H Qv I h => ?_⟩
  rw [eval_ListComp]
  obtain ⟨Wσ, hWσ⟩ : ∃ Wσ : WX, (fun cls d _ H' => W cls d σ H') = Wσ := ⟨_, rfl⟩
  rw [hWσ] at h
  have free : ∀ y ∈ scope.names, y.2 = .free → ∃ c, X.env.cells.lookup y.1 = some c := fun y hy e => by
    rcases ok.free y hy e with kc | kf
    · exact I.ok.has _ (.inl kc)
    · exact I.ok.has _ (.inr kf)
  refine comprehension_at (use := none) rfl hfs (closure_ok free) ok.kind (fun y hy e => by rw [ok.uniq y hy, e]) (thn (hi.run pn s σ H _ I h) fun xv u1 hx => thn hx fun itv u2 h2 => ?_)
  obtain ⟨it, fp, tn, J, K2, rfl, J2, T, go2, fok2, q⟩ := h2
  have small : 0 ≤ sizeLine := by decide
  refine wpAny_newObj_type (newEnv_comp ?_) small
  obtain ⟨D, hD⟩ : ∃ D, u2.heap.objs.size = D := ⟨_, rfl⟩
  rw [hD]
  have Dn : K2 D = none := J2.hok.fresh (Nat.le_of_eq hD)
  obtain ⟨Wn, ⟨m00, wn0⟩, turn⟩ := q D Dn
  generalize eu3 : ({ u2 with heap := u2.heap.push { cls := .type "list", data := .seq ([] : List Value).toArray } } : Shared) = u3
  have hp3 : u3.heap = u2.heap.push { cls := .type "list", data := .seq ([] : List Value).toArray } := by rw [← eu3]
  have kept3 : ∀ b o, u2.heap.get? b = some o → u3.heap.get? b = some o := fun b o e => by rw [hp3]; exact Heap.get?_push_of_some _ e
  have J3 : L2.Inv X pn σ (upd K2 D (.lst [])) u3 := by
    rw [← eu3]
    refine J2.laid (t' := u2.toks) (fun b o e => Heap.get?_push_of_some _ e) (Nat.le_of_eq hD) ⟨Nat.zero_le _, [], 0, .nil, ?_⟩
    rw [← hD]
    exact Heap.get?_push_size
      _ rfl
  have fok3 : ∀ b ∈ fp, FpOk X pn (upd K2 D (.lst [])) b ∧ b < u3.heap.objs.size := fun b hb => by
    obtain ⟨o, e, _⟩ := T.obj _ _ go2 b hb
    have lt := Heap.lt_size e
    refine ⟨⟨?_, (fok2 b hb).2⟩, by rw [hp3, Heap.size_push]; exact Nat.lt_succ_of_lt lt⟩
    rw [upd_ne (by rw [← hD]; exact Nat.ne_of_lt lt)]
    exact (fok2 b hb).1
  generalize eK3 : upd K2 D (.lst []) = K3 at J3 fok3 wn0
  have J4 := inv_in (block_start J3 ok hN fok3)
  show codeAny _ _ (.compStart (.ListComp elt [⟨tg, iter, ifs, 0⟩] scope pos) 0 (.ref it) (.ref D) (compEnvC scope (cellsFrom (u3.heap.objs.size + 1) scope.names (cloFrom X.env.cells scope.names [])) u3.heap.objs.size X.env)) (compEnds (model X.prog X.w) X.A X.xe none (EP X pn σ Qv) (.ref D) (compEnvC scope (cellsFrom (u3.heap.objs.size + 1) scope.names (cloFrom X.env.cells scope.names [])) u3.heap.objs.size X.env)) { u3 with heap := pushCells (u3.heap.push { cls := .type "dict", data := .dict #[] }) scope.names }
  generalize cellsFrom (u3.heap.objs.size + 1) scope.names (cloFrom X.env.cells scope.names []) = cl at J4 ⊢
  have tkB := fun ce (hce : ce = compEnvC scope cl u3.heap.objs.size X.env) => comp_takes (scope := scope) (cl := cl) hs hf tk J3 fok3 hce
  have pg := hg u3 K3 u3.heap.objs.size cl fp
  have pt := ht u3 K3 u3.heap.objs.size cl fp Wσ (by rw [← hWσ]; exact tkB _ rfl)
  have pe := he u3 K3 u3.heap.objs.size cl fp Wσ (by rw [← hWσ]; exact tkB _ rfl)
  clear tkB
  have locC : (compEnvC scope cl u3.heap.objs.size X.env).locals = u3.heap.objs.size := rfl
  generalize compEnvC scope cl u3.heap.objs.size X.env = ce at J4 pg pt pe locC ⊢
  generalize eu4 : ({ u3 with heap := pushCells (u3.heap.push { cls := .type "dict", data := .dict #[] }) scope.names } : Shared) = u4 at J4 ⊢
  have go4 : tn 0 u4.heap := T.keep _ _ _ go2 fun b _ o e => by
    rw [← eu4]
    exact pushCells_keeps _ _ _ _ (Heap.get?_push_of_some _ (kept3 b o e))
  have fr3 : ∀ b ∈ fp, K3 b = none := fun b hb => (fok3 b hb).1.1
  have stays : ∀ {σ' : L2.St} {H' : Hp} {s' : Shared}, L2.Inv (blkX X u3 K3 scope ce fp) [] σ' H' s' → (∀ b ∈ fp, H' b = none) → ∀ b ∈ fp, FpOk (blkX X u3 K3 scope ce fp) [] H' b := fun {σ' H' s'} I' hn b hb =>
    ⟨hn b hb, (I'.ok.exf b hb).1,
     I'.ok.exfs b hb, .inl hb,
     fun x c e => (I'.ok.exf b hb).2 x c e,
     fun p hp => absurd (show p ∈ ([] : List (Addr × Obj)) ++ [] from hp) (by simp)⟩
  have loop : codeAny (model X.prog X.w) X.A (.compLoop (.ListComp elt [⟨tg, iter, ifs, 0⟩] scope pos) 0 (.ref it) (.ref D) ce) (compEnds (model X.prog X.w) X.A X.xe none (EP X pn σ Qv) (.ref D) ce) u4 := by
    refine compLoop_any (fun n s' => ∃ i H', L2.Inv (blkX X u3 K3 scope ce fp) [] (L2.wipe σ (own.map (·.2))) H' s' ∧ tn i s'.heap ∧ (∀ b ∈ fp, H' b = none) ∧ Wn i n H') ?_ m00 ⟨0, K3, J4, go4, fr3, wn0⟩
    rintro n u5 ⟨i, K5, J5, go5, fr5, wn5⟩
    rcases turn i n K5 wn5 with ⟨stop, done⟩ | ⟨go, Nx, goesOn, onward⟩
    · have td := T.done (blkX X u3 K3 scope ce fp) rfl rfl rfl hc i [] u5 _ K5 (fun _ _ => False) J5 (stays J5 fr5) go5 stop
      refine thnF td fun r u6 ⟨hr, J6⟩ => ?_
      subst hr
      have J7 : L2.Inv X pn σ K5 u6 := J3.call' (ch := fp) J6.os J6.base J6.hok J6.bare fun b hb => ⟨(fok3 b hb).1.2.2.2.1, (fok3 b hb).1.2.1, (fok3 b hb).1.2.2.2.2.1, (fok3 b hb).1.2.2.2.2.2⟩
      have nC : K5 u3.heap.objs.size = none := by
        have z : K5 ce.locals = none := J6.free
        rw [locC] at z
        exact z
      obtain ⟨mm, hn, _⟩ := J6.loc
      have hn : u6.heap.Ns ce.locals mm := hn
      obtain ⟨f0, f1, f4, f5, f6, f7⟩ := J3.fpOk (H' := K5) (Nat.le_refl _) nC
      refine ⟨mm, hn, fun h'' sb => ?_⟩
      rw [locC] at sb
      exact ⟨.ref D, K5, J7.turned (t' := u6.toks) (fun b o hb e => (sb.2 b hb).trans e) f0 f1 f5 f6 f7, rfl, done⟩
    · have ti := T.item (blkX X u3 K3 scope ce fp) rfl rfl rfl hc i [] u5 _ K5 (fun _ _ => False) J5 (stays J5 fr5) go5 go
      refine thnF ti fun r u6 ⟨u, hr, h6⟩ => ?_
      subst hr
      refine thnF h6 fun _ u7 ⟨x, K7, J7, rel7, yl7, go7, fr7⟩ => ?_
      have J7p := J7.pinned (stays J7 fr7) (T.obj _ _ go7)
      refine thn (pg.run _ u7 _ K7 x u _ J7p rel7 (onward x K7 yl7)) fun _ u8 ⟨τ8, K8, J8, wp8, nx8⟩ => ?_
      refine thn (pt.run _ u8 τ8 K8 _ J8 nx8) fun b u9 ⟨K9, J9, nx9⟩ => ?_
      have again : ∀ {s' : Shared} {H' : Hp}, L2.Inv (blkX X u3 K3 scope ce fp) ([] ++ pinsAt fp u7.heap) τ8 H' s' → Nx H' → ∃ m, m < n ∧ ∃ i H', L2.Inv (blkX X u3 K3 scope ce fp) [] (L2.wipe σ (own.map (·.2))) H' s' ∧ tn i s'.heap ∧ (∀ b ∈ fp, H' b = none) ∧ Wn i m H' := fun {s' H'} I' nx => by
        obtain ⟨m', hm, w'⟩ := goesOn H' nx
        have pinned7 : ∀ b ∈ fp, ∀ o, u7.heap.get? b = some o → s'.heap.get? b = some o ∧ H' b = none := fun b hb o e =>
          let z := I'.pin (b, o)
            (List.mem_append_right _ (List.mem_append_right
              _ (mem_pinsAt hb e)))
          ⟨z.1, z.2.1⟩
        have hl : (L2.wipe σ (own.map (·.2))).length = τ8.length := by rw [← wp8, L2.wipe_length]
        refine ⟨m', hm, i + 1, H', (I'.unpinned (pins := [])).weak hl (fun j v e => ?_), T.keep _ _ _ go7 fun b hb o e => (pinned7 b hb o e).1, fun b hb => ?_, w'⟩
        · rw [← wp8] at e
          exact (L2.wipe_some e).1
        · obtain ⟨o, e, _⟩ := T.obj _ _ go7 b hb
          exact (pinned7 b hb o e).2
      cases b with
      | false =>
        simp only [Bool.false_eq_true, if_false] at nx9 ⊢
        exact again J9 nx9
      | true =>
        simp only [if_true] at nx9 ⊢
        refine thn (pe.run _ u9 τ8 K9 _ J9 nx9) fun z u10 ⟨yv, K10, J10, rel10, acc, at10, few10, nx⟩ => ?_
        exact app_ok (X := blkX X u3 K3 scope ce fp) J10 at10 few10 rel10 fun u11 J11 => again J11 nx
  exact codeAny_compStart_list loop (T.self X.A 0 _ _ _ go4 loop)
end
end DL
namespace DL
open PySem PySem.Spec PyProof.Rows L2
def compLX (is : List Nat) (ks : D → Res (List D)) (ft : Env → Res Bool) (fe : Env → Res D) (ρ : Env) : List D → Res (List D)
  | [] => .ok []
  | d :: r => noEx (ks d) >>= fun l => ft (setE ρ is l) >>= fun b => if b = true then fe (setE ρ is l) >>= fun y => compLX is ks ft fe ρ r >>= fun ys => .ok (y :: ys) else compLX is ks ft fe ρ r
def nCompX (fi : Env → Res (List D)) (is : List Nat) (ks : D → Res (List D)) (ft : Env → Res Bool) (fe : Env → Res D) (vs : List Nat) : Env → Res (List D) := fun ρ =>
  fi ρ >>= fun ds => if ds.length ≤ sizeLine then compLX is ks ft fe (wipeE ρ vs) ds else .no
def GdX (ok : List D → Prop) (ex : Str → Prop) (accD : List D) : Res (List D) → Prop
  | .ok rest => ok (accD ++ rest)
  | .ex c => ex c
  | .no => False
theorem lc_runX {X : Cx} {Wq : WX} {is vs : List Nat} {ks : D → Res (List D)} {ft : Env → Res Bool} {fe : Env → Res D} {G1 H1 : Hp} {σ : L2.St} {ρ : Env} {Q : VK} {J : It} {ds : List D} {Da : Addr}
    (hv : ∀ i ∈ is, i ∈ vs) (er : EnvR G1 σ ρ) (sb : Sub G1 H1) (hJ : ItD J G1 ds) (nDa : H1 Da = none) (hz : ds.length ≤ sizeLine)
    (hr : GdX (fun ys => ∀ G' H' acc, Ext G1 H1 G' H' → G' Da = none → H' Da = some (.lst acc) → Reps G' ys acc → Q (.ref Da) H') (fun c => ∀ C G' H' τ, X.mg c = some (.ref C) → Ext G1 H1 G' H' → Wq (.ref C) none τ H') [] (compLX is ks ft fe (wipeE ρ vs) ds)) :
    ∃ Wn : Nat → Nat → Hp → Prop, (∃ m, Wn 0 m (upd H1 Da (.lst []))) ∧ ∀ i m H, Wn i m H →
      (J.stop i H ∧ Q (.ref Da) H) ∨ (J.go i H ∧ ∃ Nx : Hp → Prop, (∀ H', Nx H' → ∃ m', m' < m ∧ Wn (i + 1) m' H') ∧ ∀ x H', J.yld i H x H' → rdG is ks x (L2.wipe σ vs) H' fun σ2 H2 => L2.wipe σ2 vs = L2.wipe σ vs ∧ rdT X.mg Wq ft σ2 H2 fun b H3 =>
        if b = true then rdE X.mg Wq fe σ2 H3 fun y H4 => ∃ acc, H4 Da = some (.lst acc) ∧ acc.length < sizeLine ∧ Nx (upd H4 Da (.lst (acc ++ [y]))) else Nx H3) := by
  generalize hok : (fun ys : List D => ∀ G' H' acc, Ext G1 H1 G' H' → G' Da = none → H' Da = some (.lst acc) → Reps G' ys acc → Q (.ref Da) H') = okP at hr
  generalize hex : (fun c : Str => ∀ C G' H' τ, X.mg c = some (.ref C) → Ext G1 H1 G' H' → Wq (.ref C) none τ H') = exP at hr
  let Iv : Nat → Hp → Prop := fun i H => ∃ G acc accD, Ext G1 H1 G H ∧ G Da = none ∧ H Da = some (.lst acc) ∧ Reps G accD acc ∧ GdX okP exP accD (compLX is ks ft fe (wipeE ρ vs) (ds.drop i)) ∧ i ≤ ds.length ∧ accD.length ≤ i
  refine ⟨fun i m H => m = ds.length - i ∧ Iv i H, ⟨ds.length, by simp, G1, [], [], Ext.hid sb nDa, ?_, upd_same, rfl, hr, Nat.zero_le _, Nat.le_refl _⟩, ?_⟩
  · cases q : G1 Da with
    | none => rfl
    | some o => rw [sb _ _ q] at nDa; cases nDa
  rintro i m H ⟨rfl, G, acc, accD, ex, gD, hD, ra, hc, hi, al⟩
  by_cases hlt : i < ds.length
  · refine .inr ?_
    have hd : ds.drop i = ds[i] :: ds.drop (i + 1) := List.drop_eq_getElem_cons hlt
    rw [hd] at hc
    unfold compLX at hc
    cases e1 : ks ds[i] with
    | ex c => rw [e1] at hc; exact hc.elim
    | no => rw [e1] at hc; exact hc.elim
    | ok l =>
      rw [e1] at hc
      have hc : GdX okP exP accD (ft (setE (wipeE ρ vs) is l) >>= fun b => if b = true then fe (setE (wipeE ρ vs) is l) >>= fun y => compLX is ks ft fe (wipeE ρ vs) (ds.drop (i + 1)) >>= fun ys => .ok (y :: ys) else compLX is ks ft fe (wipeE ρ vs) (ds.drop (i + 1))) := hc
      obtain ⟨go, yl⟩ := (hJ G H i ex.g ex.s).1 ds[i] (by simp [hlt])
      refine ⟨go, Iv (i + 1), fun H' iv => ⟨ds.length - (i + 1), by omega, rfl, iv⟩, fun x H2 y => ?_⟩
      obtain ⟨G2, ex2, rx⟩ := yl x H2 y
      have hD2 : H2 Da = some (.lst acc) := ex2.h _ _ hD
      refine ⟨G2, ds[i], l, ex2.s, rx, e1, fun ws rws nws => ⟨by rw [wipe_sets hv, wipe_wipe], ?_⟩⟩
      have er2 : EnvR G2 (setS (L2.wipe σ vs) is ws) (setE (wipeE ρ vs) is l) := (((er.le ex.le).le ex2.le).wipe vs).sets rws
      refine ⟨G2, _, ex2.s, er2, ?_⟩
      cases e2 : ft (setE (wipeE ρ vs) is l) with
      | no => rw [e2] at hc; exact hc.elim
      | ex c =>
        rw [e2] at hc
        have hc : exP c := hc
        rw [← hex] at hc
        exact fun C G' H' mg x => hc C G' H' _ mg (ex.trans (ex2.trans x))
      | ok b =>
        rw [e2] at hc
        intro G3 H3 ex3
        have hD3 : H3 Da = some (.lst acc) := ex3.h _ _ hD2
        have exA : Ext G H G3 H3 := ex2.trans ex3
        have nD : ∀ {G4 H4 : Hp}, Ext G H G4 H4 → G4 Da = none := fun {G4 H4} e4 => by
          cases q : G4 Da with
          | none => rfl
          | some o =>
            rcases e4.n _ _ q with z | z | ⟨_, z⟩
            · rw [gD] at z; cases z
            · rw [hD] at z; cases z
            · have z2 := e4.s _ _ q
              rw [e4.h _ _ hD] at z2; cases z2; cases z
        cases b with
        | false =>
          show ite _ _ _
          rw [if_neg Bool.false_ne_true]
          exact ⟨G3, acc, accD, ex.trans exA, nD exA, hD3, ra.le exA.le, hc, hlt, by omega⟩
        | true =>
          show ite _ _ _
          rw [if_pos rfl]
          have hc : GdX okP exP accD (fe (setE (wipeE ρ vs) is l) >>= fun y => compLX is ks ft fe (wipeE ρ vs) (ds.drop (i + 1)) >>= fun ys => .ok (y :: ys)) := hc
          refine ⟨G3, _, ex3.s, er2.le ex3.le, ?_⟩
          cases e3 : fe (setE (wipeE ρ vs) is l) with
          | no => rw [e3] at hc; exact hc.elim
          | ex c =>
            rw [e3] at hc
            have hc : exP c := hc
            rw [← hex] at hc
            exact fun C G' H' mg x => hc C G' H' _ mg (ex.trans (exA.trans x))
          | ok yv =>
            rw [e3] at hc
            intro G4 H4 ex4 v rv
            have exB : Ext G H G4 H4 := exA.trans ex4
            have hD4 : H4 Da = some (.lst acc) := ex4.h _ _ hD3
            have hc : GdX okP exP accD (compLX is ks ft fe (wipeE ρ vs) (ds.drop (i + 1)) >>= fun ys => .ok (yv :: ys)) := hc
            have ll := ra.length
            refine ⟨acc, hD4, by omega, G4, acc ++ [v], accD ++ [yv], ?_, nD exB, upd_same, (ra.le exB.le).append (.one rv), ?_, hlt, by simp; omega⟩
            · have exC := ex.trans exB
              refine ⟨fun a o q => ?_, exC.g, fun a o q => ?_, exC.n⟩
              · rw [upd_ne (ne_of_none q nDa)]; exact exC.h a o q
              · have : a ≠ Da := fun z => by subst z; rw [nD exB] at q; cases q
                rw [upd_ne this]; exact exC.s a o q
            · generalize compLX is ks ft fe (wipeE ρ vs) (ds.drop (i + 1)) = rr at hc ⊢
              cases rr with
              | no => exact hc.elim
              | ex c => exact hc
              | ok ys =>
                have hc : okP (accD ++ yv :: ys) := hc
                show okP (accD ++ [yv] ++ ys)
                rw [List.append_assoc]
                exact hc
  · refine .inl ⟨(hJ G H i ex.g ex.s).2 (by omega), ?_⟩
    have e : i = ds.length := by omega
    subst e
    rw [List.drop_length] at hc
    have hc : okP (accD ++ []) := hc
    rw [List.append_nil, ← hok] at hc
    exact hc G H acc ex gD hD ra
section
variable {X : Cx} {W : WX} {elt tg iter : Expr} {ifs : List Expr} {scope : Scope} {own : List (Str × Nat)} {is : List Nat} {ks : D → Res (List D)} {fi : Env → Res (List D)} {ft : Env → Res Bool} {fe : Env → Res D} {pos : Pos}
theorem dn_compX (hs : X.stack = X.env :: X.outer) (hf : X.env.frame = some X.env.locals) (tk : Takes X W) (hc : X.calm = true) (hN : X.N.Nodup) (di : DI X W tg iter fi) (ok : BlkOk X.N X.env.scope scope own)
    (dg : ∀ (s : Shared) (H : Hp) (C : Addr) (cl : List (Str × Addr)) (fp : List Addr), DG (blkX X s H scope (compEnvC scope cl C X.env) fp) tg is ks)
    (dt : ∀ (s : Shared) (H : Hp) (C : Addr) (cl : List (Str × Addr)) (fp : List Addr) (W' : WX), Takes (blkX X s H scope (compEnvC scope cl C X.env) fp) W' → DTs (blkX X s H scope (compEnvC scope cl C X.env) fp) W' ifs ft)
    (de : ∀ (s : Shared) (H : Hp) (C : Addr) (cl : List (Str × Addr)) (fp : List Addr) (W' : WX), Takes (blkX X s H scope (compEnvC scope cl C X.env) fp) W' → DE (blkX X s H scope (compEnvC scope cl C X.env) fp) W' elt fe)
    (hv : ∀ i ∈ is, i ∈ own.map (·.2)) (hfs : ∀ x, foldedSetIterable iter X.env x = pure x := by intro _; rfl) : DN X W (.ListComp elt [⟨tg, iter, ifs, 0⟩] scope pos) (nCompX fi is ks ft fe (own.map (·.2))) := by
  obtain ⟨wi, pi, h1⟩ := di
  refine ⟨_, pe_lcX (te := fun W' => rdE X.mg W' fe) (tt := fun W' => rdT X.mg W' ft) (g := rdG is ks) hs hf tk hc hN pi ok (fun s H C cl fp => (dg s H C cl fp).pg) (fun s H C cl fp W' t => (dt s H C cl fp W' t).pts) (fun s H C cl fp W' t => (de s H C cl fp W' t).pe) hfs, fun G H σ ρ Q s e h => ?_⟩
  refine h1 G H σ ρ _ s e ?_
  unfold nCompX at h
  cases q : fi ρ with
  | ok ds =>
    rw [q, Res.bind_ok] at h
    intro G1 H1 e1 J hJ Da nDa
    split at h
    · rename_i hz
      refine lc_runX (X := X) hv (e.le e1.le) e1.s hJ nDa hz ?_
      generalize compLX is ks ft fe (wipeE ρ (own.map (·.2))) ds = rr at h ⊢
      cases rr with
      | no => exact h.elim
      | ex c => exact fun C G' H' τ mg x => h C G' H' mg (e1.trans x)
      | ok ys => exact fun G2 H2 acc e2 gD hD r => h G2 H2 (e1.trans e2) Da acc gD hD (fun a o q z => by subst z; rw [e1.h _ _ q] at nDa; cases nDa) r
    · exact h.elim
  | ex c => rw [q] at h; exact h
  | no => rw [q] at h; exact h
end
end DL
namespace G1
open PySem L2 DL
def b_cell_at : DSem :=
  (sSeq (sIf (vB (v2 (gI (fun i j => decide (i < j))) (vVar 1) (vCall c_len (aCons (vVar 0) aNil))))
  (sRet (v2 g_mod (v2 g_mul (v2 g_add (v2 g_add (v2 g_mod (v2 g_ix (vVar 0) (vVar 1)) (vC (.int 2147483647))) (vC (.int 11))) (v2 g_mul (vVar 1) (vVar 1))) (vC (.int 48271))) (vC (.int 2147483647))))
  sNext)
  (sRet (vC (.int 0))))
def m_cell_at : List D → Res D := runF 2 (b_cell_at)
def b_whole : DSem :=
  (sRet (vAnd (v1 (g_isi "int") (vVar 0)) (vNot (v1 (g_isi "bool") (vVar 0)))))
def m_whole : List D → Res D := runF 1 (b_whole)
structure Rule where
  r : Int
  s : Int
  t : Int
  p : List Int
theorem whole_ok (i : Int) : m_whole [.int i] = .ok (.bl true) := by simp -implicitDefEqProofs [m_whole, b_whole]
end G1
namespace G3
open PySem L2 DL
structure Ar where
  s : Int
  g : Int
  f : Int
deriving DecidableEq
def Ar.l (a : Ar) : List Int := [a.s, a.g, a.f]
def eA (a : Ar) : D := .tup [.int a.s, .int a.g, .int a.f]
def TK (as : List Ar) (es : List Int) : Int → List Int → Prop
  | x, [] => x ∈ es
  | x, g :: r => ∃ a ∈ as, a.s = x ∧ a.g = g ∧ TK as es a.f r
noncomputable instance instDecTK (as : List Ar) (es : List Int) (x : Int) (st : List Int) : Decidable (TK as es x st) := Classical.propDecidable _
end G3
namespace G4
open PySem L2 DL G1
def b_cell_at : DSem :=
  (sSeq (sIf (vB (v2 (gI (fun i j => decide (i < j))) (vVar 1) (vCall c_len (aCons (vVar 0) aNil))))
  (sRet (v2 g_mod (v2 g_ix (vVar 0) (vVar 1)) (v2 g_pow (vC (.int 10)) (vC (.int 60)))))
  sNext)
  (sRet (vC (.int 0))))
def m_cell_at : List D → Res D := runF 2 (b_cell_at)
def b_digit : DSem :=
  (sRet (v2 g_mod (v2 g_mod (v2 g_add (v2 g_mul (v2 g_mod (vVar 0) (v2 g_pow (vC (.int 10)) (vC (.int 60)))) (vC (.int 48271))) (vC (.int 11))) (vVar 1)) (vVar 2)))
def m_digit : List D → Res D := runF 3 (b_digit)
def w_names_0 : DSem :=
  (sAsg [(1, .dp)] 3 (v2 g_add (vVar 3) (v2 g_ix (vC (.str "abcdefghijklmnopqrstuvwxyz")) (vCallN 3 G4.m_digit (aCons (v2 g_add (vVar 0) (v2 g_mul (v2 g_mul (vC (.int 5)) (vVar 4)) (vVar 4))) (aCons (vC (.int 1093)) (aCons (vC (.int 26)) aNil)))))))
def w_names_1 : DSem :=
  (sSeq (sAsg [(1, .dp)] 7 (v2 g_ix (vC (.str "bcdefghjklopqrstuvwxyz")) (v2 g_mod (v2 g_add (vVar 0) (v2 g_mul (vVar 4) (v2 g_add (vC (.int 1)) (v2 g_mod (v2 g_fdiv (vVar 0) (vC (.int 22))) (vC (.int 7)))))) (vC (.int 22)))))
  (sSeq (sAsg [(1, .dp)] 8 (v2 g_add (v2 g_add (vSl (vVar 3) oNone (oSome (vVar 5))) (vVar 7)) (vSl (vVar 3) (oSome (v2 g_add (vVar 5) (vC (.int 1)))) oNone)))
  (sSeq (sIf (vB (v2 g_eq (vVar 6) (vC (.int 2))))
  (sAsg [(1, .dp)] 8 (v2 g_add (vC (.str "main")) (vVar 7)))
  sNext)
  (sSeq (sIf (vB (v2 g_eq (vVar 6) (vC (.int 3))))
  (sAsg [(1, .dp)] 8 (vSl (vC (.str "main")) oNone (oSome (v2 g_add (vC (.int 1)) (vVar 4)))))
  sNext)
  (sAppI 1 (vVar 8))))))
def r_names_8 : DSem :=
  (sRet (vLstI (nCat (v2 g_add (vSl (vVar 1) oNone (oSome (vVar 9))) (vLstOf (nLst (aCons (vC (.str "main")) aNil)))) (vSl (vVar 1) (oSome (vVar 9)) oNone))))
def r_names_7 : DSem :=
  (sSeq (sAsgI 9 (vCallN 3 G4.m_digit (aCons (vVar 0) (aCons (vC (.int 1091)) (aCons (v2 g_add (vCall c_len (aCons (vVar 1) aNil)) (vC (.int 1))) aNil)))))
  r_names_8)
def r_names_6 : DSem :=
  (sSeq (sFor [(1, .dp)] (iRange1 (vCallN 3 G4.m_digit (aCons (vVar 0) (aCons (vC (.int 1061)) (aCons (vC (.int 4)) aNil))))) [4] kName
  w_names_1
  [4, 7, 8])
  r_names_7)
def r_names_5 : DSem :=
  (sSeq (sAsg [(1, .dp)] 6 (vCallN 3 G4.m_digit (aCons (vVar 0) (aCons (vC (.int 1087)) (aCons (vC (.int 4)) aNil)))))
  r_names_6)
def r_names_4 : DSem :=
  (sSeq (sAsg [(1, .dp)] 5 (vCallN 3 G4.m_digit (aCons (vVar 0) (aCons (vC (.int 1069)) (aCons (vVar 2) aNil)))))
  r_names_5)
def r_names_3 : DSem :=
  (sSeq (sFor [(1, .dp)] (iRange1 (vVar 2)) [4] kName
  w_names_0
  [4])
  r_names_4)
def r_names_2 : DSem :=
  (sSeq (sAsg [(1, .dp)] 3 (vC (.str "")))
  r_names_3)
def r_names_1 : DSem :=
  (sSeq (sAsg [(1, .dp)] 2 (v2 g_add (vC (.int 1)) (vCallN 3 G4.m_digit (aCons (vVar 0) (aCons (vC (.int 1063)) (aCons (vC (.int 8)) aNil))))))
  r_names_2)
def r_names_0 : DSem :=
  (sSeq (sAsgV 1 (vLstI (nLst aNil)))
  r_names_1)
def b_names : DSem :=
  r_names_0
def m_names : List D → Res D := runF 10 (b_names)
def r_row_12 : DSem :=
  (sRet (vTup (aCons (vC (.str "skip")) aNil)))
def r_row_11 : DSem :=
  (sSeq (sIf (vB (v2 (gI (fun i j => decide (j ≤ i))) (vVar 5) (vC (.int 10))))
  (sRet (vTup (aCons (v2 g_ix (vLstOf (nLst (aCons (vC (.str "back")) (aCons (vC (.str "stop")) aNil)))) (v2 g_sub (vVar 5) (vC (.int 10)))) aNil)))
  sNext)
  r_row_12)
def r_row_10 : DSem :=
  (sSeq (sIf (tAndD (vB (v2 (gI (fun i j => decide (j ≤ i))) (vVar 5) (vC (.int 7)))) (vB (v2 (gI (fun i j => decide (i ≤ j))) (vVar 5) (vC (.int 9)))))
  (sRet (vTup (aCons (v2 g_ix (vLstOf (nLst (aCons (vC (.str "go")) (aCons (vC (.str "fork")) (aCons (vC (.str "fork")) aNil))))) (v2 g_sub (vVar 5) (vC (.int 7)))) (aCons (vVar 9) aNil))))
  sNext)
  r_row_11)
def r_row_9 : DSem :=
  (sSeq (sIf (tOrD (vB (v2 g_eq (vVar 5) (vC (.int 5)))) (vB (v2 g_eq (vVar 5) (vC (.int 6)))))
  (sRet (vTup (aCons (vC (.str "if")) (aCons (vVar 7) (aCons (vVar 8) (aCons (vVar 9) aNil))))))
  sNext)
  r_row_10)
def r_row_8 : DSem :=
  (sSeq (sIf (tOrD (vB (v2 g_eq (vVar 5) (vC (.int 3)))) (vB (v2 g_eq (vVar 5) (vC (.int 4)))))
  (sRet (vTup (aCons (v2 g_ix (vLstOf (nLst (aCons (vC (.str "any")) (aCons (vC (.str "turn")) aNil)))) (v2 g_sub (vVar 5) (vC (.int 3)))) (aCons (vVar 7) aNil))))
  sNext)
  r_row_9)
def r_row_7 : DSem :=
  (sSeq (sIf (tOrD (vB (v2 g_eq (vVar 5) (vC (.int 1)))) (vB (v2 g_eq (vVar 5) (vC (.int 2)))))
  (sRet (vTup (aCons (vC (.str "set")) (aCons (vVar 7) (aCons (vVar 8) aNil)))))
  sNext)
  r_row_8)
def r_row_6 : DSem :=
  (sSeq (sIf (vB (v2 (gI (fun i j => decide (j ≤ i))) (vVar 5) (vC (.int 12))))
  (sRet (vTup (aCons (vC (.str "call")) (aCons (v2 g_ix (vVar 3) (vCallN 3 G4.m_digit (aCons (vVar 0) (aCons (vC (.int 1031)) (aCons (vCall c_len (aCons (vVar 3) aNil)) aNil))))) aNil))))
  sNext)
  r_row_7)
def r_row_5 : DSem :=
  (sSeq (sAsg [] 9 (vCallN 3 G4.m_digit (aCons (vVar 0) (aCons (vC (.int 1021)) (aCons (vVar 2) aNil)))))
  r_row_6)
def r_row_4 : DSem :=
  (sSeq (sAsg [] 8 (vCallN 3 G4.m_digit (aCons (vVar 0) (aCons (vC (.int 1019)) (aCons (v2 g_ix (vVar 1) (vVar 6)) aNil)))))
  r_row_5)
def r_row_3 : DSem :=
  (sSeq (sAsg [] 7 (v2 g_ix (vLstOf (nLst (aCons (vC (.str "shared")) (aCons (vC (.str "own")) aNil)))) (vVar 6)))
  r_row_4)
def r_row_2 : DSem :=
  (sSeq (sAsg [] 6 (vCallN 3 G4.m_digit (aCons (vVar 0) (aCons (vC (.int 1013)) (aCons (vC (.int 2)) aNil)))))
  r_row_3)
def r_row_1 : DSem :=
  (sSeq (sIf (vB (vVar 4))
  (sAsg [] 5 (v2 g_ix (vLstOf (nLst (aCons (vC (.int 7)) (aCons (vC (.int 10)) (aCons (vC (.int 11)) aNil))))) (vCallN 3 G4.m_digit (aCons (vVar 0) (aCons (vC (.int 1009)) (aCons (vC (.int 3)) aNil))))))
  sNext)
  r_row_2)
def r_row_0 : DSem :=
  (sSeq (sAsg [] 5 (vCallN 3 G4.m_digit (aCons (vVar 0) (aCons (vC (.int 1009)) (aCons (vC (.int 14)) aNil)))))
  r_row_1)
def b_row : DSem :=
  r_row_0
def m_row : List D → Res D := runF 10 (b_row)
def w_row_same_0 : DSem :=
  (sSeq (sIf (tAndD (vB (v1 (g_isi "str") (vVar 3))) (tNotD (vB (v1 (g_isi "str") (vVar 2)))))
  (sRet (vC (.bl false)))
  sNext)
  (sIf (tAndD (vB (v1 (g_isi "int") (vVar 3))) (tNotD (vB (vCallN 1 G1.m_whole (aCons (vVar 2) aNil)))))
  (sRet (vC (.bl false)))
  sNext))
def b_row_same : DSem :=
  (sSeq (sIf (tOrD (tNotD (vB (v1 (g_isi "tuple") (vVar 0)))) (vB (v2 g_ne (vCall c_len (aCons (vVar 0) aNil)) (vCall c_len (aCons (vVar 1) aNil)))))
  (sRet (vC (.bl false)))
  sNext)
  (sSeq (sFor [] (iZip2 (vVar 0) (vVar 1)) [2, 3] (kTup 2 (ksCons kName (ksCons kName ksNil)))
  w_row_same_0
  [2, 3])
  (sRet (v2 g_eq (vVar 0) (vVar 1)))))
def m_row_same : List D → Res D := runF 4 (b_row_same)
def b_rows_same : DSem :=
  (sSeq (sIf (tOrD (tNotD (vB (v1 (g_isi "tuple") (vVar 0)))) (tOrD (vB (v2 g_ne (vCall c_len (aCons (vVar 0) aNil)) (vC (.int 2)))) (tNotD (vB (v1 (g_isi "str") (v2 g_ix (vVar 0) (vC (.int 0))))))))
  (sRet (vC (.bl false)))
  sNext)
  (sSeq (sIf (tOrD (vB (v2 g_ne (v2 g_ix (vVar 0) (vC (.int 0))) (v2 g_ix (vVar 1) (vC (.int 0))))) (tOrD (tNotD (vB (v1 (g_isi "list") (v2 g_ix (vVar 0) (vC (.int 1)))))) (vB (v2 g_ne (vCall c_len (aCons (v2 g_ix (vVar 0) (vC (.int 1))) aNil)) (vCall c_len (aCons (v2 g_ix (vVar 1) (vC (.int 1))) aNil))))))
  (sRet (vC (.bl false)))
  sNext)
  (sRet (vCall c_all (aCons (vLstOf (nComp (iZip2 (v2 g_ix (vVar 0) (vC (.int 1))) (v2 g_ix (vVar 1) (vC (.int 1)))) [2, 3] (kTup 2 (ksCons kName (ksCons kName ksNil))) tTrue (vCallN 2 G4.m_row_same (aCons (vVar 2) (aCons (vVar 3) aNil))) [2, 3])) aNil)))))
def m_rows_same : List D → Res D := runF 4 (b_rows_same)
def b_same : DSem :=
  (sSeq (sIf (tOrD (tNotD (vB (v1 (g_isi "tuple") (vVar 0)))) (vB (v2 g_ne (vCall c_len (aCons (vVar 0) aNil)) (vC (.int 3)))))
  (sRet (vC (.bl false)))
  sNext)
  (sSeq (sIf (tOrD (tNotD (vB (vCallN 1 G1.m_whole (aCons (v2 g_ix (vVar 0) (vC (.int 0))) aNil)))) (tOrD (tNotD (vB (vCallN 1 G1.m_whole (aCons (v2 g_ix (vVar 0) (vC (.int 1))) aNil)))) (vB (v2 g_ne (vSl (vVar 0) oNone (oSome (vC (.int 2)))) (vSl (vVar 1) oNone (oSome (vC (.int 2))))))))
  (sRet (vC (.bl false)))
  sNext)
  (sSeq (sIf (tOrD (tNotD (vB (v1 (g_isi "list") (v2 g_ix (vVar 0) (vC (.int 2)))))) (vB (v2 g_ne (vCall c_len (aCons (v2 g_ix (vVar 0) (vC (.int 2))) aNil)) (vCall c_len (aCons (v2 g_ix (vVar 1) (vC (.int 2))) aNil)))))
  (sRet (vC (.bl false)))
  sNext)
  (sRet (vCall c_all (aCons (vLstOf (nComp (iZip2 (v2 g_ix (vVar 0) (vC (.int 2))) (v2 g_ix (vVar 1) (vC (.int 2)))) [2, 3] (kTup 2 (ksCons kName (ksCons kName ksNil))) tTrue (vCallN 2 G4.m_rows_same (aCons (vVar 2) (aCons (vVar 3) aNil))) [2, 3])) aNil))))))
def m_same : List D → Res D := runF 4 (b_same)
def T60 : Int := 1000000000000000000000000000000000000000000000000000000000000
def dg (c p m : Int) : Int := (c % T60 * 48271 + 11) % p % m
theorem pow60 : g_pow (.int 10) (.int 60) = .ok (.int T60) := by
  rw [g_pow_int (by decide) (by decide) (by decide)]
  rfl
theorem digit_ok {c p m : Int} (hp : 0 < p) (hm : 0 < m) : m_digit [.int c, .int p, .int m] = .ok (.int (dg c p m)) := by
  have h1 : g_mul (.int (c % T60)) (.int 48271) = .ok (.int (c % T60 * 48271)) := g_mul_int (.inr ⟨by omega, by omega⟩)
  simp -implicitDefEqProofs [m_digit, b_digit, pow60, show (0 : Int) < T60 by decide, h1, hp, hm, dg]
theorem dg_rng (c p : Int) {m : Int} (h : 0 < m) : 0 ≤ dg c p m ∧ dg c p m < m := emod_rng _ h
theorem cell_ok (ns : List Int) (k : Int) (h0 : 0 ≤ k) : ∃ c, m_cell_at [.lst (ns.map D.int), .int k] = .ok (.int c) ∧ 0 ≤ c ∧ c < T60 := by
  by_cases h : k < ns.length
  · exact ⟨ns[k.toNat]'(by omega) % T60, by simp -implicitDefEqProofs [m_cell_at, b_cell_at, h, g_ix_lst' D.int ns k h0 h, pow60, show (0 : Int) < T60 by decide], emod_rng _ (by decide)⟩
  · exact ⟨0, by simp -implicitDefEqProofs [m_cell_at, b_cell_at, h], by decide, by decide⟩
def abc : List Nat := [97, 98, 99, 100, 101, 102, 103, 104, 105, 106, 107, 108, 109, 110, 111, 112, 113, 114, 115, 116, 117, 118, 119, 120, 121, 122]
def odd22 : List Nat := [98, 99, 100, 101, 102, 103, 104, 106, 107, 108, 111, 112, 113, 114, 115, 116, 117, 118, 119, 120, 121, 122]
def mainL : List Nat := [109, 97, 105, 110]
theorem lit_abc : D.str (Str.ofString "abcdefghijklmnopqrstuvwxyz") = tx abc := tx_lit abc (by decide +kernel)
theorem lit_odd : D.str (Str.ofString "bcdefghjklopqrstuvwxyz") = tx odd22 := tx_lit odd22 (by decide +kernel)
theorem lit_main : D.str (Str.ofString "main") = tx mainL := tx_lit mainL (by decide +kernel)
theorem lit_nil : D.str (Str.ofString "") = tx [] := tx_lit [] (by decide +kernel)
def low (l : List Nat) : Prop := ∀ c ∈ l, 97 ≤ c ∧ c ≤ 122
theorem low.asc {l : List Nat} (h : low l) : asc l := fun c hc => by have := h c hc; omega
theorem low_abc : low abc := by unfold low abc; decide
theorem low_odd : low odd22 := by unfold low odd22; decide
theorem low_main : low mainL := by unfold low mainL; decide
theorem low.app {a b : List Nat} (h : low a) (h2 : low b) : low (a ++ b) := fun c hc => by
  rcases List.mem_append.mp hc with q | q
  · exact h c q
  · exact h2 c q
theorem low.one {a : List Nat} (h : low a) {i : Nat} (hi : i < a.length) : low [a[i]] := fun c hc => by
  have : c = a[i] := by simpa using hc
  rw [this]; exact h _ (List.getElem_mem hi)
def isName (l : List Nat) : Prop := low l ∧ 1 ≤ l.length ∧ l.length ≤ 8
def oddI (c : Int) (k : Nat) : Int := (c + (k : Int) * (1 + c / 22 % 7)) % 22
theorem oddI_rng (c : Int) (k : Nat) : 0 ≤ oddI c k ∧ oddI c k < 22 := emod_rng _ (by decide)
theorem oddI_inj (c : Int) {k j : Nat} (hk : k < 3) (hj : j < 3) (h : oddI c k = oddI c j) : k = j := by
  unfold oddI at h
  have := emod_rng (c / 22) (m := 7) (by decide)
  generalize c / 22 % 7 = s at *
  obtain rfl | rfl | rfl : k = 0 ∨ k = 1 ∨ k = 2 := by omega
  all_goals obtain rfl | rfl | rfl : j = 0 ∨ j = 1 ∨ j = 2 := by omega
  all_goals first | rfl | (exfalso; simp at h; omega)
def oddS (c : Int) (k : Nat) : Nat := odd22[(oddI c k).toNat]'(by have := oddI_rng c k; simp [odd22]; omega)
theorem odd_inj : ∀ i j : Fin 22, odd22[i.1]'(by simp [odd22]) = odd22[j.1]'(by simp [odd22]) → i = j := by decide
theorem oddS_inj (c : Int) {k j : Nat} (hk : k < 3) (hj : j < 3) (h : oddS c k = oddS c j) : k = j := by
  unfold oddS at h
  have a := oddI_rng c k
  have b := oddI_rng c j
  have := odd_inj ⟨(oddI c k).toNat, by omega⟩ ⟨(oddI c j).toNat, by omega⟩ h
  injection this with this
  exact oddI_inj c hk hj (by omega)
theorem oddS_mem (c : Int) (k : Nat) : oddS c k ∈ odd22 := List.getElem_mem _
def nameK (c lot : Int) (base : List Nat) (sp : Nat) (k : Nat) : List Nat :=
  if lot = 3 then mainL.take (1 + k) else if lot = 2 then mainL ++ [oddS c k] else base.take sp ++ [oddS c k] ++ base.drop (sp + 1)
theorem nameK_ok {c lot : Int} {base : List Nat} {sp k : Nat} (hb : isName base) (hs : sp < base.length) (hk : k < 3) : isName (nameK c lot base sp k) := by
  have lo : low [oddS c k] := fun x hx => by
    have : x = oddS c k := by simpa using hx
    rw [this]; exact low_odd _ (oddS_mem c k)
  unfold nameK
  split
  · exact ⟨fun x hx => low_main x (List.mem_of_mem_take hx), by simp [mainL]; omega, by simp [mainL]; omega⟩
  · split
    · exact ⟨low_main.app lo, by simp [mainL], by simp [mainL]⟩
    · have := hb.2
      exact ⟨low.app (low.app (a := base.take sp) (fun x hx => hb.1 x (List.mem_of_mem_take hx)) lo) (fun x hx => hb.1 x (List.mem_of_mem_drop hx)), by simp; omega, by simp; omega⟩
theorem nameK_inj {c lot : Int} {base : List Nat} {sp k j : Nat} (hs : sp < base.length) (hk : k < 3) (hj : j < 3) (h : nameK c lot base sp k = nameK c lot base sp j) : k = j := by
  unfold nameK at h
  split at h
  · have := congrArg List.length h
    simp [mainL] at this
    omega
  · split at h
    · simp at h; exact oddS_inj c hk hj h
    · simp at h; exact oddS_inj c hk hj h
theorem nameK_main {c lot : Int} {base : List Nat} {sp k : Nat} (hs : sp < base.length) (hk : k < 3) : nameK c lot base sp k ≠ mainL := by
  intro h
  unfold nameK at h
  split at h
  · have := congrArg List.length h
    simp [mainL] at this
    omega
  · split at h
    · have := congrArg List.length h
      simp [mainL] at this
    · have l := congrArg List.length h
      have e : (base.take sp ++ [oddS c k] ++ base.drop (sp + 1))[sp]? = some (oddS c k) := by
        rw [List.append_assoc, List.getElem?_append_right (by simp; omega)]
        simp [show min sp base.length = sp by omega]
      rw [h] at e
      have m := List.mem_of_getElem? e
      have o := oddS_mem c k
      have : ∀ x ∈ mainL, x ∉ odd22 := by decide
      exact this _ m o
theorem names_ok {c : Int} (c0 : 0 ≤ c) : ∃ nl : List (List Nat), m_names [.int c] = .ok (.lst (nl.map tx)) ∧ nl.Nodup ∧ mainL ∈ nl ∧ nl.length ≤ 4 ∧ ∀ l ∈ nl, isName l := by
  have hsz := dg_rng c 1063 (m := 8) (by decide)
  have hot := dg_rng c 1061 (m := 4) (by decide)
  generalize hS : 1 + dg c 1063 8 = sz at *
  obtain ⟨szn, rfl⟩ := Int.eq_ofNat_of_zero_le (show 0 ≤ sz by omega)
  have hsp := dg_rng c 1069 (m := (szn : Int)) (by omega)
  generalize hLt : dg c 1087 4 = lot at *
  generalize hSp : dg c 1069 (szn : Int) = spi at *
  obtain ⟨sp, rfl⟩ := Int.eq_ofNat_of_zero_le hsp.1
  generalize hO : dg c 1061 4 = ot at *
  obtain ⟨n, rfl⟩ := Int.eq_ofNat_of_zero_le hot.1
  have loop0 : ∀ (e1 e2 e5 e6 e7 e8 e9 : Option D) o, forF [4] kName w_names_0 [4] ((List.range szn).map fun (k : Nat) => D.int (k : Int)) [some (.int c), some (.lst []), e2, some (tx []), none, e5, e6, e7, e8, e9] = o →
      ∃ base : List Nat, o = .nx [some (.int c), some (.lst []), e2, some (tx base), none, e5, e6, e7, e8, e9] ∧ low base ∧ base.length = szn := fun e1 e2 e5 e6 e7 e8 e9 o hF => by
    obtain ⟨base, rfl, iv⟩ := forF_inv (S := List Nat) hF (fun b => [some (.int c), some (.lst []), e2, some (tx b), none, e5, e6, e7, e8, e9]) (fun i b => low b ∧ b.length = i) [] ⟨(by intro x hx; cases hx), rfl⟩ rfl (fun i b x hx iv => by
      obtain ⟨rfl, hi⟩ := range_get hx
      have d1 := dg_rng (c + 5 * (x : Int) * x) 1093 (m := 26) (by decide)
      have g0 : g_mul (D.int 5) (D.int x) = .ok (D.int (5 * (x : Int))) := g_mul_int (.inr ⟨by omega, by omega⟩)
      have g1 : g_mul (D.int (5 * (x : Int))) (D.int x) = .ok (D.int (5 * (x : Int) * x)) := g_mul_int (.inr ⟨by omega, by omega⟩)
      have la : abc.length = 26 := rfl
      have gi := g_ix_tx (a := abc) (i := dg (c + 5 * (x : Int) * x) 1093 26) (by decide) d1.1 (by rw [la]; exact d1.2)
      refine ⟨b ++ [abc[(dg (c + 5 * (x : Int) * x) 1093 26).toNat]'(by rw [la]; omega)], ?_, iv.1.app (low_abc.one _), by simp [iv.2]⟩
      simp -implicitDefEqProofs [w_names_0, g0, g1, digit_ok, lit_abc, gi]
      rw [g_add_tx (by simp; omega)]
      simp -implicitDefEqProofs)
    exact ⟨base, rfl, iv.1, by simpa using iv.2⟩
  have loop1 : ∀ (base : List Nat) (e2 e9 : Option D), isName base → sp < base.length → forF [4] kName w_names_1 [4, 7, 8] ((List.range n).map fun (k : Nat) => D.int (k : Int)) [some (.int c), some (.lst []), e2, some (tx base), none, some (.int (sp : Int)), some (.int lot), none, none, e9] =
      .nx [some (.int c), some (.lst (((List.range n).map (nameK c lot base sp)).map tx)), e2, some (tx base), none, some (.int (sp : Int)), some (.int lot), none, none, e9] := fun base e2 e9 hb hspb => by
    refine Eq.trans (forF_eq (fun (q : List (List Nat)) => [some (.int c), some (.lst (q.map tx)), e2, some (tx base), none, some (.int (sp : Int)), some (.int lot), none, none, e9]) (fun q (k : Nat) => q ++ [nameK c lot base sp k]) (fun i q => q.length = i) (s := []) (fun i q x hx iv => ?_) rfl rfl) ?_
    · obtain ⟨rfl, hi⟩ := range_get hx
      refine ⟨?_, by simp [iv]⟩
      have q7 := emod_rng (c / 22) (m := 7) (by decide)
      have g0 : g_mul (D.int x) (D.int (1 + c / 22 % 7)) = .ok (D.int ((x : Int) * (1 + c / 22 % 7))) := g_mul_int (.inr ⟨by omega, by omega⟩)
      have lo : odd22.length = 22 := rfl
      have oi := oddI_rng c x
      have gi := g_ix_tx (a := odd22) (i := oddI c x) (by decide) oi.1 (by rw [lo]; exact oi.2)
      have ge : ∀ d : D, (.ok (tx [odd22[(oddI c x).toNat]'(by rw [lo]; omega)]) : Res D) = .ok (tx [oddS c x]) := fun _ => rfl
      have hl := hb.2
      have c1 : cutA base none (some (sp : Int)) = base.take sp := cutA_to base sp
      have c2 : cutA base (some ((sp : Int) + 1)) none = base.drop (sp + 1) := cutA_from base (sp + 1)
      have c3 : cutA mainL none (some (1 + (x : Int))) = mainL.take (1 + x) := by
        have := cutA_to mainL (1 + x)
        rw [← this]; congr 2
      have ql : q.length < 16777216 := by rw [iv]; omega
      rw [ge (.non)] at gi
      unfold oddI at gi
      simp -implicitDefEqProofs [w_names_1, g0, lit_odd, gi]
      rw [g_sl_tx (by omega), g_sl_tx (by omega)]
      simp -implicitDefEqProofs [c1, c2]
      rw [g_add_tx (by simp; omega)]
      simp -implicitDefEqProofs
      rw [g_add_tx (by simp; omega)]
      by_cases l2 : lot = 2
      · have l3 : ¬ lot = 3 := by omega
        simp -implicitDefEqProofs [l2, l3, lit_main]
        rw [g_add_tx (by simp [mainL])]
        simp -implicitDefEqProofs [ql, nameK, l2]
      · by_cases l3 : lot = 3
        · simp -implicitDefEqProofs [l3, lit_main]
          rw [g_sl_tx (by simp [mainL])]
          simp -implicitDefEqProofs [ql, nameK, l3, c3]
        · simp -implicitDefEqProofs [l2, l3, ql, nameK]
    · congr 1
      have : ∀ (xs : List Nat) (s : List (List Nat)), xs.foldl (fun q k => q ++ [nameK c lot base sp k]) s = s ++ xs.map (nameK c lot base sp) := fun xs => by
        induction xs with
        | nil => intro s; simp
        | cons y r ih => intro s; rw [List.foldl_cons, ih]; simp
      rw [this]; rfl
  simp -implicitDefEqProofs [m_names, b_names, r_names_0, r_names_1, r_names_2, digit_ok, hS, lit_nil]
  rw [show r_names_3 = (sSeq (sFor [(1, .dp)] (iRange1 (vVar 2)) [4] kName w_names_0 [4]) r_names_4) from rfl]
  simp -implicitDefEqProofs
  rw [rng1_ok (by omega) (by omega)]
  simp -implicitDefEqProofs
  generalize hF : forF _ _ _ _ _ _ = o
  obtain ⟨base, rfl, lb, bl⟩ := loop0 none _ _ _ _ _ _ o hF
  have hb : isName base := ⟨lb, by omega, by omega⟩
  simp -implicitDefEqProofs [r_names_4, r_names_5, digit_ok, hSp, hLt, r_names_6, hO, show 0 < (szn : Int) by omega, show 0 < szn by omega]
  rw [rng1_ok (by omega) (by omega)]
  simp -implicitDefEqProofs [loop1 base _ _ hb (by omega), -List.map_map]
  generalize hon : (List.range n).map (nameK c lot base sp) = others
  have ol : others.length = n := by rw [← hon]; simp
  have hat := dg_rng c 1091 (m := (n : Int) + 1) (by omega)
  obtain ⟨at', hat'⟩ := Int.eq_ofNat_of_zero_le hat.1
  rw [hat'] at hat
  have cA : cutA (others.map tx) none (some (at' : Int)) = (others.take at').map tx := by rw [cutA_map, cutA_to]
  have cB : cutA (others.map tx) (some (at' : Int)) none = (others.drop at').map tx := by rw [cutA_map, cutA_from]
  have im : ∀ ls : List (List Nat), imms (ls.map tx) = true := fun ls => imms_map (fun l => imm_tx l) ls
  simp -implicitDefEqProofs [r_names_7, digit_ok, ol, show 0 < (n : Int) + 1 by omega, hat', r_names_8, cutA_to, cutA_from, lit_main, -List.map_map, ← List.map_take, ← List.map_drop, -List.map_take, -List.map_drop, show min at' n + 1 ≤ 16777216 by omega, show min at' n ≤ 16777215 by omega, show min at' n + 1 + (n - at') ≤ 16777216 by omega, im]
  refine ⟨others.take at' ++ mainL :: others.drop at', by simp, ?_, by simp, by simp; omega, ?_⟩
  · have nd : (mainL :: others).Nodup := by
      refine List.nodup_cons.mpr ⟨fun h => ?_, ?_⟩
      · rw [← hon] at h
        obtain ⟨k, hk, e⟩ := List.mem_map.mp h
        exact nameK_main (by omega) (by simp at hk; omega) e
      · rw [← hon]
        refine List.pairwise_map.mpr (List.Pairwise.imp_of_mem ?_ List.nodup_range)
        intro a b ha hb' hne e
        simp at ha hb'
        exact hne (nameK_inj (by omega) (by omega) (by omega) e)
    have pm : (others.take at' ++ mainL :: others.drop at').Perm (mainL :: others) := by
      refine List.perm_middle.trans ?_
      rw [List.take_append_drop]
    exact pm.nodup_iff.mpr nd
  · intro l hl
    have : l = mainL ∨ l ∈ others := by
      rcases List.mem_append.mp hl with q | q
      · exact .inr (List.mem_of_mem_take q)
      · rcases List.mem_cons.mp q with q | q
        · exact .inl q
        · exact .inr (List.mem_of_mem_drop q)
    rcases this with rfl | h
    · exact ⟨low_main, by decide, by decide⟩
    · rw [← hon] at h
      obtain ⟨k, hk, rfl⟩ := List.mem_map.mp h
      exact nameK_ok hb (by omega) (by simp at hk; omega)
inductive Rw where
  | skip | set (sh : Bool) (v : Int) | any (sh : Bool) | turn (sh : Bool) | iff (sh : Bool) (v k : Int) | go (k : Int) | fork (k : Int) | call (f : List Nat) | back | stop
def eSide : Bool → D
  | true => .str "shared"
  | false => .str "own"
def wordsOf : Rw → List D
  | .skip => [.str "skip"]
  | .set sh v => [.str "set", eSide sh, .int v]
  | .any sh => [.str "any", eSide sh]
  | .turn sh => [.str "turn", eSide sh]
  | .iff sh v k => [.str "if", eSide sh, .int v, .int k]
  | .go k => [.str "go", .int k]
  | .fork k => [.str "fork", .int k]
  | .call f => [.str "call", tx f]
  | .back => [.str "back"]
  | .stop => [.str "stop"]
def eRw (r : Rw) : D := .tup (wordsOf r)
def Rw.ends : Rw → Prop
  | .go _ => True
  | .back => True
  | .stop => True
  | _ => False
def vOf (v0 v1 : Int) : Bool → Int
  | true => v0
  | false => v1
def RwOk (v0 v1 many : Int) (nl : List (List Nat)) : Rw → Prop
  | .set sh v => 0 ≤ v ∧ v < vOf v0 v1 sh
  | .iff sh v k => (0 ≤ v ∧ v < vOf v0 v1 sh) ∧ 0 ≤ k ∧ k < many
  | .go k => 0 ≤ k ∧ k < many
  | .fork k => 0 ≤ k ∧ k < many
  | .call f => f ∈ nl
  | _ => True
theorem row_tail {c v0 v1 many lot : Int} {nl : List (List Nat)} {e4 : Option D} (h0 : 0 < v0) (h1 : 0 < v1) (hm : 0 < many) (hn : 0 < nl.length) (hn2 : nl.length ≤ 1000) (l0 : 0 ≤ lot) (l1 : lot < 14) :
    ∃ r, r_row_2 [some (.int c), some (.lst [.int v0, .int v1]), some (.int many), some (.lst (nl.map tx)), e4, some (.int lot), none, none, none, none] = .rt (eRw r) ∧ RwOk v0 v1 many nl r ∧ (lot = 7 ∨ lot = 10 ∨ lot = 11 → r.ends) := by
  have s := dg_rng c 1013 (m := 2) (by decide)
  have g := dg_rng c 1021 (m := many) hm
  have n0 := dg_rng c 1019 (m := v0) h0
  have n1 := dg_rng c 1019 (m := v1) h1
  have q := dg_rng c 1031 (m := (nl.length : Int)) (by omega)
  have gx := g_ix_lst' tx nl (dg c 1031 nl.length) q.1 q.2
  have hmem : nl[(dg c 1031 nl.length).toNat]'(by omega) ∈ nl := List.getElem_mem _
  generalize hS : dg c 1013 2 = sd at *
  obtain rfl | rfl : sd = 0 ∨ sd = 1 := by omega
  · have pre : ∀ e6 e7 e8 e9, r_row_2 [some (.int c), some (.lst [.int v0, .int v1]), some (.int many), some (.lst (nl.map tx)), e4, some (.int lot), e6, e7, e8, e9] = r_row_6 [some (.int c), some (.lst [.int v0, .int v1]), some (.int many), some (.lst (nl.map tx)), e4, some (.int lot), some (.int 0), some (eSide true), some (.int (dg c 1019 v0)), some (.int (dg c 1021 many))] := fun e6 e7 e8 e9 => by
      simp -implicitDefEqProofs [r_row_2, r_row_3, r_row_4, r_row_5, digit_ok, hS, h0, hm, eSide]
    rw [pre]
    obtain rfl | rfl | rfl | rfl | rfl | rfl | rfl | rfl | rfl | rfl | rfl | rfl | rfl | rfl : lot = 0 ∨ lot = 1 ∨ lot = 2 ∨ lot = 3 ∨ lot = 4 ∨ lot = 5 ∨ lot = 6 ∨ lot = 7 ∨ lot = 8 ∨ lot = 9 ∨ lot = 10 ∨ lot = 11 ∨ lot = 12 ∨ lot = 13 := by omega
    · exact ⟨.skip, by simp -implicitDefEqProofs [r_row_6, r_row_7, r_row_8, r_row_9, r_row_10, r_row_11, r_row_12, eRw, wordsOf], trivial, by simp⟩
    · exact ⟨.set true (dg c 1019 v0), by simp -implicitDefEqProofs [r_row_6, r_row_7, eRw, wordsOf], n0, by simp⟩
    · exact ⟨.set true (dg c 1019 v0), by simp -implicitDefEqProofs [r_row_6, r_row_7, eRw, wordsOf], n0, by simp⟩
    · exact ⟨.any true, by simp -implicitDefEqProofs [r_row_6, r_row_7, r_row_8, eRw, wordsOf], trivial, by simp⟩
    · exact ⟨.turn true, by simp -implicitDefEqProofs [r_row_6, r_row_7, r_row_8, eRw, wordsOf], trivial, by simp⟩
    · exact ⟨.iff true (dg c 1019 v0) (dg c 1021 many), by simp -implicitDefEqProofs [r_row_6, r_row_7, r_row_8, r_row_9, eRw, wordsOf], ⟨n0, g⟩, by simp⟩
    · exact ⟨.iff true (dg c 1019 v0) (dg c 1021 many), by simp -implicitDefEqProofs [r_row_6, r_row_7, r_row_8, r_row_9, eRw, wordsOf], ⟨n0, g⟩, by simp⟩
    · exact ⟨.go (dg c 1021 many), by simp -implicitDefEqProofs [r_row_6, r_row_7, r_row_8, r_row_9, r_row_10, eRw, wordsOf], g, by simp [Rw.ends]⟩
    · exact ⟨.fork (dg c 1021 many), by simp -implicitDefEqProofs [r_row_6, r_row_7, r_row_8, r_row_9, r_row_10, eRw, wordsOf], g, by simp⟩
    · exact ⟨.fork (dg c 1021 many), by simp -implicitDefEqProofs [r_row_6, r_row_7, r_row_8, r_row_9, r_row_10, ixl2, eRw, wordsOf], g, by simp⟩
    · exact ⟨.back, by simp -implicitDefEqProofs [r_row_6, r_row_7, r_row_8, r_row_9, r_row_10, r_row_11, eRw, wordsOf], trivial, by simp [Rw.ends]⟩
    · exact ⟨.stop, by simp -implicitDefEqProofs [r_row_6, r_row_7, r_row_8, r_row_9, r_row_10, r_row_11, eRw, wordsOf], trivial, by simp [Rw.ends]⟩
    · exact ⟨.call _, by simp -implicitDefEqProofs [r_row_6, digit_ok, hn, gx, eRw, wordsOf], hmem, by simp⟩
    · exact ⟨.call _, by simp -implicitDefEqProofs [r_row_6, digit_ok, hn, gx, eRw, wordsOf], hmem, by simp⟩
  · have pre : ∀ e6 e7 e8 e9, r_row_2 [some (.int c), some (.lst [.int v0, .int v1]), some (.int many), some (.lst (nl.map tx)), e4, some (.int lot), e6, e7, e8, e9] = r_row_6 [some (.int c), some (.lst [.int v0, .int v1]), some (.int many), some (.lst (nl.map tx)), e4, some (.int lot), some (.int 1), some (eSide false), some (.int (dg c 1019 v1)), some (.int (dg c 1021 many))] := fun e6 e7 e8 e9 => by
      simp -implicitDefEqProofs [r_row_2, r_row_3, r_row_4, r_row_5, digit_ok, hS, h1, hm, eSide]
    rw [pre]
    obtain rfl | rfl | rfl | rfl | rfl | rfl | rfl | rfl | rfl | rfl | rfl | rfl | rfl | rfl : lot = 0 ∨ lot = 1 ∨ lot = 2 ∨ lot = 3 ∨ lot = 4 ∨ lot = 5 ∨ lot = 6 ∨ lot = 7 ∨ lot = 8 ∨ lot = 9 ∨ lot = 10 ∨ lot = 11 ∨ lot = 12 ∨ lot = 13 := by omega
    · exact ⟨.skip, by simp -implicitDefEqProofs [r_row_6, r_row_7, r_row_8, r_row_9, r_row_10, r_row_11, r_row_12, eRw, wordsOf], trivial, by simp⟩
    · exact ⟨.set false (dg c 1019 v1), by simp -implicitDefEqProofs [r_row_6, r_row_7, eRw, wordsOf], n1, by simp⟩
    · exact ⟨.set false (dg c 1019 v1), by simp -implicitDefEqProofs [r_row_6, r_row_7, eRw, wordsOf], n1, by simp⟩
    · exact ⟨.any false, by simp -implicitDefEqProofs [r_row_6, r_row_7, r_row_8, eRw, wordsOf], trivial, by simp⟩
    · exact ⟨.turn false, by simp -implicitDefEqProofs [r_row_6, r_row_7, r_row_8, eRw, wordsOf], trivial, by simp⟩
    · exact ⟨.iff false (dg c 1019 v1) (dg c 1021 many), by simp -implicitDefEqProofs [r_row_6, r_row_7, r_row_8, r_row_9, eRw, wordsOf], ⟨n1, g⟩, by simp⟩
    · exact ⟨.iff false (dg c 1019 v1) (dg c 1021 many), by simp -implicitDefEqProofs [r_row_6, r_row_7, r_row_8, r_row_9, eRw, wordsOf], ⟨n1, g⟩, by simp⟩
    · exact ⟨.go (dg c 1021 many), by simp -implicitDefEqProofs [r_row_6, r_row_7, r_row_8, r_row_9, r_row_10, eRw, wordsOf], g, by simp [Rw.ends]⟩
    · exact ⟨.fork (dg c 1021 many), by simp -implicitDefEqProofs [r_row_6, r_row_7, r_row_8, r_row_9, r_row_10, eRw, wordsOf], g, by simp⟩
    · exact ⟨.fork (dg c 1021 many), by simp -implicitDefEqProofs [r_row_6, r_row_7, r_row_8, r_row_9, r_row_10, ixl2, eRw, wordsOf], g, by simp⟩
    · exact ⟨.back, by simp -implicitDefEqProofs [r_row_6, r_row_7, r_row_8, r_row_9, r_row_10, r_row_11, eRw, wordsOf], trivial, by simp [Rw.ends]⟩
    · exact ⟨.stop, by simp -implicitDefEqProofs [r_row_6, r_row_7, r_row_8, r_row_9, r_row_10, r_row_11, eRw, wordsOf], trivial, by simp [Rw.ends]⟩
    · exact ⟨.call _, by simp -implicitDefEqProofs [r_row_6, digit_ok, hn, gx, eRw, wordsOf], hmem, by simp⟩
    · exact ⟨.call _, by simp -implicitDefEqProofs [r_row_6, digit_ok, hn, gx, eRw, wordsOf], hmem, by simp⟩
theorem row_ok {c v0 v1 many : Int} {nl : List (List Nat)} {last : Bool} (h0 : 0 < v0) (h1 : 0 < v1) (hm : 0 < many) (hn : 0 < nl.length) (hn2 : nl.length ≤ 1000) :
    ∃ r, m_row [.int c, .lst [.int v0, .int v1], .int many, .lst (nl.map tx), .bl last] = .ok (eRw r) ∧ RwOk v0 v1 many nl r ∧ (last = true → r.ends) := by
  have a := dg_rng c 1009 (m := 14) (by decide)
  have b := dg_rng c 1009 (m := 3) (by decide)
  cases last with
  | false =>
    obtain ⟨r, h, ok, _⟩ := row_tail (c := c) (e4 := some (.bl false)) h0 h1 hm hn hn2 a.1 a.2
    exact ⟨r, by simp -implicitDefEqProofs [m_row, b_row, r_row_0, r_row_1, digit_ok, h], ok, by simp⟩
  | true =>
    generalize hl : dg c 1009 3 = l at *
    obtain rfl | rfl | rfl : l = 0 ∨ l = 1 ∨ l = 2 := by omega
    · obtain ⟨r, h, ok, e⟩ := row_tail (c := c) (lot := 7) (e4 := some (.bl true)) h0 h1 hm hn hn2 (by decide) (by decide)
      exact ⟨r, by simp -implicitDefEqProofs [m_row, b_row, r_row_0, r_row_1, digit_ok, hl, h], ok, fun _ => e (by simp)⟩
    · obtain ⟨r, h, ok, e⟩ := row_tail (c := c) (lot := 10) (e4 := some (.bl true)) h0 h1 hm hn hn2 (by decide) (by decide)
      exact ⟨r, by simp -implicitDefEqProofs [m_row, b_row, r_row_0, r_row_1, digit_ok, hl, h], ok, fun _ => e (by simp)⟩
    · obtain ⟨r, h, ok, e⟩ := row_tail (c := c) (lot := 11) (e4 := some (.bl true)) h0 h1 hm hn hn2 (by decide) (by decide)
      exact ⟨r, by simp -implicitDefEqProofs [m_row, b_row, r_row_0, r_row_1, digit_ok, hl, ixl2, h], ok, fun _ => e (by simp)⟩
def wOk : D → Prop
  | .str s => PyData.strOk s = true
  | .int _ => True
  | _ => False
theorem wOk_nb {d : D} (n : Nat) (h : wOk d) : nb n d = true := by
  cases d with
  | str s => rw [nb_str]; exact h
  | int i => exact nb_int n i
  | _ => exact h.elim
theorem zip_self : ∀ ws : List D, zipD ws ws = ws.map fun w => D.tup [w, w]
  | [] => rfl
  | w :: r => by show D.tup [w, w] :: zipD r r = _; rw [zip_self r]; rfl
theorem row_same_ok {ws : List D} (h : ∀ w ∈ ws, wOk w) : m_row_same [.tup ws, .tup ws] = .ok (.bl true) := by
  have lp : forF [2, 3] (kTup 2 (ksCons kName (ksCons kName ksNil))) w_row_same_0 [2, 3] (ws.map fun w => D.tup [w, w]) [some (.tup ws), some (.tup ws), none, none] = .nx [some (.tup ws), some (.tup ws), none, none] := forF_skip fun w hw => by
    have := h w hw
    cases w with
    | str s => simp -implicitDefEqProofs [w_row_same_0]
    | int i => simp -implicitDefEqProofs [w_row_same_0, whole_ok]
    | _ => exact this.elim
  have nbw : nb 20 (.tup ws) = true := by
    rw [nb_tup]
    have := nbs_map' (n := 19) (f := fun d : D => d) (xs := ws) (fun w hw => wOk_nb 19 (h w hw))
    simpa using this
  have zz : forF [2, 3] (kTup 2 (ksCons kName (ksCons kName ksNil))) w_row_same_0 [2, 3] (zipD ws ws) [some (.tup ws), some (.tup ws), none, none] = .nx [some (.tup ws), some (.tup ws), none, none] := by rw [zip_self, lp]
  simp -implicitDefEqProofs [m_row_same, b_row_same, zz, g_eq_S nbw nbw]
def wds_ok (r : Rw) (h : ∀ f, r = .call f → isName f) : ∀ w ∈ wordsOf r, wOk w := by
  have sd : ∀ sh, wOk (eSide sh) := fun sh => by cases sh <;> (show PyData.strOk _ = true; decide +kernel)
  have lt : ∀ s : Str, PyData.strOk s = true → wOk (.str s) := fun s h => h
  intro w hw
  cases r <;> simp only [wordsOf, List.mem_cons, List.not_mem_nil, or_false] at hw
  case skip => subst hw; exact lt _ (by decide +kernel)
  case set => rcases hw with rfl | rfl | rfl; exact lt _ (by decide +kernel); exact sd _; trivial
  case any => rcases hw with rfl | rfl; exact lt _ (by decide +kernel); exact sd _
  case turn => rcases hw with rfl | rfl; exact lt _ (by decide +kernel); exact sd _
  case iff => rcases hw with rfl | rfl | rfl | rfl; exact lt _ (by decide +kernel); exact sd _; trivial; trivial
  case go => rcases hw with rfl | rfl; exact lt _ (by decide +kernel); trivial
  case fork => rcases hw with rfl | rfl; exact lt _ (by decide +kernel); trivial
  case call f => rcases hw with rfl | rfl; exact lt _ (by decide +kernel); (have := tx_nb 0 (h f rfl).1.asc; unfold tx at *; rw [nb_str] at this; exact this)
  case back => subst hw; exact lt _ (by decide +kernel)
  case stop => subst hw; exact lt _ (by decide +kernel)
abbrev Proc := List Nat × List Rw
def eProc (p : Proc) : D := .tup [tx p.1, .lst (p.2.map eRw)]
def eP (a b : Int) (ps : List Proc) : D := .tup [.int a, .int b, .lst (ps.map eProc)]
def ProcOk (v0 v1 : Int) (nl : List (List Nat)) (p : Proc) : Prop := isName p.1 ∧ (∀ r ∈ p.2, RwOk v0 v1 p.2.length nl r) ∧ 0 < p.2.length ∧ p.2.length ≤ 1000 ∧ ∀ r, p.2[p.2.length - 1]? = some r → r.ends
theorem imm_side (sh : Bool) : imm (eSide sh) = true := by cases sh <;> rfl
theorem imm_eRw (r : Rw) : imm (eRw r) = true := by
  cases r <;> simp [eRw, wordsOf, imm_side]
theorem call_name {v0 v1 many : Int} {nl : List (List Nat)} {r : Rw} (hn : ∀ l ∈ nl, isName l) (h : RwOk v0 v1 many nl r) : ∀ f, r = .call f → isName f := fun f e => by subst e; exact hn f h
theorem rows_same_ok {v0 v1 : Int} {nl : List (List Nat)} {p : Proc} (hn : ∀ l ∈ nl, isName l) (h : ProcOk v0 v1 nl p) : m_rows_same [eProc p, eProc p] = .ok (.bl true) := by
  have hl := h.2.2.2.1
  have hc : ∀ e0 e1 : Option D, compL [2, 3] (kTup 2 (ksCons kName (ksCons kName ksNil))) tTrue (vCallN 2 m_row_same (aCons (vVar 2) (aCons (vVar 3) aNil))) [e0, e1, none, none] (zipD (p.2.map eRw) (p.2.map eRw)) = .ok (p.2.map fun _ => D.bl true) := fun e0 e1 => by
    rw [zip_self, List.map_map]
    exact compL_eq (enc := (fun w => D.tup [w, w]) ∘ eRw) (fun _ => D.bl true) fun r hr => by
      have := row_same_ok (wds_ok r (call_name hn (h.2.1 r hr)))
      simp -implicitDefEqProofs [eRw, this]
  have e := g_eq_tx h.1.1.asc h.1.1.asc
  have ne : g_ne (tx p.1) (tx p.1) = .ok (.bl false) := by rw [g_ne_S (tx_nb 20 h.1.1.asc) (tx_nb 20 h.1.1.asc)]; simp
  simp -implicitDefEqProofs [m_rows_same, b_rows_same, eProc, ne, hc, show p.2.length ≤ 16777216 by omega]
theorem same_ok {a b v0 v1 : Int} {nl : List (List Nat)} {ps : List Proc} (hn : ∀ l ∈ nl, isName l) (h : ∀ p ∈ ps, ProcOk v0 v1 nl p) (hl : ps.length ≤ 1000) : m_same [eP a b ps, eP a b ps] = .ok (.bl true) := by
  have hc : ∀ e0 e1 : Option D, compL [2, 3] (kTup 2 (ksCons kName (ksCons kName ksNil))) tTrue (vCallN 2 m_rows_same (aCons (vVar 2) (aCons (vVar 3) aNil))) [e0, e1, none, none] (zipD (ps.map eProc) (ps.map eProc)) = .ok (ps.map fun _ => D.bl true) := fun e0 e1 => by
    rw [zip_self, List.map_map]
    exact compL_eq (enc := (fun w => D.tup [w, w]) ∘ eProc) (fun _ => D.bl true) fun r hr => by
      have := rows_same_ok hn (h r hr)
      simp -implicitDefEqProofs [this]
  simp -implicitDefEqProofs [m_same, b_same, eP, whole_ok, hc, show ps.length ≤ 16777216 by omega]
def firstOf : List Proc → List Nat → Option (Nat × Nat)
  | [], _ => none
  | p :: r, t => if p.1 = t then some (0, p.2.length) else (firstOf r t).map fun x => (x.1 + p.2.length, x.2)
end G4
namespace G5
open PySem L2 DL G1 G3
section
variable {κ : Type} [DecidableEq κ] {α : Type}
def lk (l : List (κ × α)) (k : κ) : Option α := (l.find? fun x => decide (x.1 = k)).map (·.2)
def st (l : List (κ × α)) (k : κ) (v : α) : List (κ × α) := match l with
  | [] => []
  | (k', x) :: r => if k' = k then (k', v) :: r else (k', x) :: st r k v
def pt (l : List (κ × α)) (k : κ) (v : α) : List (κ × α) := match lk l k with
  | some _ => st l k v
  | none => l ++ [(k, v)]
theorem lk_cons (k' : κ) (x : α) (r : List (κ × α)) (k : κ) : lk ((k', x) :: r) k = if k' = k then some x else lk r k := by
  unfold lk
  by_cases h : k' = k
  · simp [h]
  · simp [h]
theorem lk_of_mem {l : List (κ × α)} {k : κ} {v : α} (n : (l.map (·.1)).Nodup) (h : (k, v) ∈ l) : lk l k = some v := by
  induction l with
  | nil => cases h
  | cons a r ih =>
    obtain ⟨a, x⟩ := a
    rw [List.map_cons, List.nodup_cons] at n
    rw [lk_cons]
    rcases List.mem_cons.mp h with e | m
    · cases e; simp
    · rw [if_neg fun q => n.1 (by rw [q]; exact List.mem_map.mpr ⟨_, m, rfl⟩)]
      exact ih n.2 m
variable {κ' : Type} [DecidableEq κ'] {f : κ → κ'} {e : α → D}
def im (f : κ → κ') (e : α → D) (l : List (κ × α)) : List (κ' × D) := l.map fun x => (f x.1, e x.2)
end
def oi : Option Int → D
  | some i => .int i
  | none => .non
structure Td where
  p : Int
  n : Option Int
  m : Option Int
abbrev Row := List (Int × Td)
abbrev Ou := List ((Int × Int) × Row)
def rw (O : Ou) (k : Int × Int) : Row := (lk O k).getD []
def look (O : Ou) (k : Int × Int) (f : Int) : Option Td := lk (rw O k) f
structure Wf (n S : Int) (O : Ou) : Prop where
  kn : (O.map (·.1)).Nodup
  rok : ∀ k row, lk O k = some row → (row.map (·.1)).Nodup ∧ row ≠ [] ∧ (0 ≤ k.1 ∧ k.1 < n) ∧ (0 ≤ k.2 ∧ k.2 < S) ∧ ∀ x ∈ row, (0 ≤ x.1 ∧ x.1 < n) ∧ 0 ≤ x.2.p
theorem rw_some {O : Ou} {k : Int × Int} {row : Row} (h : lk O k = some row) : rw O k = row := by unfold rw; rw [h]; rfl
theorem rw_none {O : Ou} {k : Int × Int} (h : lk O k = none) : rw O k = [] := by unfold rw; rw [h]; rfl
theorem Wf.row {n S : Int} {O : Ou} (w : Wf n S O) (k : Int × Int) : ((rw O k).map (·.1)).Nodup ∧ ∀ x ∈ rw O k, (0 ≤ x.1 ∧ x.1 < n) ∧ 0 ≤ x.2.p := by
  cases h : lk O k with
  | none => rw [rw_none h]; exact ⟨List.nodup_nil, fun x hx => by cases hx⟩
  | some row =>
    rw [rw_some h]
    obtain ⟨a, _, _, _, b⟩ := w.rok k row h
    exact ⟨a, b⟩
def tr (r : Row) : Nat := (r.map fun x => x.2.p.toNat).sum
def Le (O O' : Ou) : Prop := ∀ k f t, look O k f = some t → ∃ t', look O' k f = some t' ∧ t'.p ≤ t.p
def AIn (n S : Int) (a : Ar) : Prop := (0 ≤ a.s ∧ a.s < n) ∧ (0 ≤ a.g ∧ a.g < S) ∧ 0 ≤ a.f ∧ a.f < n
theorem mem_look {n S : Int} {O : Ou} (w : Wf n S O) {k : Int × Int} {f : Int} {t : Td} (h : (f, t) ∈ rw O k) : look O k f = some t := lk_of_mem (w.row k).1 h
def MOk (R S n : Int) (as : List Ar) (es : List Int) : Prop := R ≤ n ∧ as.length ≤ 24 ∧ es.length ≤ 200 ∧ ∀ a ∈ as, AIn n S a ∧ R ≤ a.f
end G5
namespace G8
open PySem L2 DL G1 G4
def dD (L : List (List Int)) : List D := L.map fun l => .lst (l.map D.int)
end G8
namespace G16
open PySem L2 DL
def b_is_name : DSem :=
  (sRet (vAnd (vChain (gI (fun i j => decide (i ≤ j))) (gI (fun i j => decide (i ≤ j))) (vC (.int 1)) (vCall c_len (aCons (vVar 0) aNil)) (vC (.int 8))) (vCall c_all (aCons (vLstOf (nComp (iStrD (vVar 0)) [1] kName tTrue (v2 g_in (vVar 1) (vC (.str "abcdefghijklmnopqrstuvwxyz"))) [1])) aNil))))
def m_is_name : List D → Res D := runF 2 (b_is_name)
def b_is_count : DSem :=
  (sSeq (sIf (tOrD (tNotD (vB (vChain (gI (fun i j => decide (i ≤ j))) (gI (fun i j => decide (i ≤ j))) (vC (.int 1)) (vCall c_len (aCons (vVar 0) aNil)) (vC (.int 3))))) (tNotD (vB (vCall c_all (aCons (vLstOf (nComp (iStrD (vVar 0)) [1] kName tTrue (v2 g_in (vVar 1) (vC (.str "0123456789"))) [1])) aNil)))))
  (sRet (vC (.bl false)))
  sNext)
  (sRet (vOr (v2 g_eq (vVar 0) (vC (.str "0"))) (v2 g_ne (v2 g_ix (vVar 0) (vC (.int 0))) (vC (.str "0"))))))
def m_is_count : List D → Res D := runF 2 (b_is_count)
def b_read_word : DSem :=
  (sSeq (sIf (tAndD (vB (v2 g_eq (vVar 0) (vC (.str "name")))) (vB (vCallN 1 G16.m_is_name (aCons (vVar 1) aNil))))
  (sRet (vVar 1))
  sNext)
  (sSeq (sIf (tAndD (vB (v2 g_eq (vVar 0) (vC (.str "which")))) (vB (v2 g_inT (vVar 1) (vTup (aCons (vC (.str "shared")) (aCons (vC (.str "own")) aNil))))))
  (sRet (vVar 1))
  sNext)
  (sSeq (sIf (tAndD (vB (v2 g_eq (vVar 0) (vC (.str "count")))) (vB (vCallN 1 G16.m_is_count (aCons (vVar 1) aNil))))
  (sRet (vCall c_intS (aCons (vVar 1) aNil)))
  sNext)
  (sRaise "NoText"))))
def m_read_word : List D → Res D := runF 2 (b_read_word)
def r_shape_of_6 : DSem :=
  (sRet (vC .non))
def r_shape_of_5 : DSem :=
  (sSeq (sIf (vB (v2 g_eq (vVar 0) (vC (.str "call"))))
  (sRet (vTup (aCons (vC (.str "name")) aNil)))
  sNext)
  r_shape_of_6)
def r_shape_of_4 : DSem :=
  (sSeq (sIf (vB (v2 g_eq (vVar 0) (vC (.str "if"))))
  (sRet (vTup (aCons (vC (.str "which")) (aCons (vC (.str "count")) (aCons (vC (.str "count")) aNil)))))
  sNext)
  r_shape_of_5)
def r_shape_of_3 : DSem :=
  (sSeq (sIf (vB (v2 g_eq (vVar 0) (vC (.str "set"))))
  (sRet (vTup (aCons (vC (.str "which")) (aCons (vC (.str "count")) aNil))))
  sNext)
  r_shape_of_4)
def r_shape_of_2 : DSem :=
  (sSeq (sIf (vB (v2 g_inT (vVar 0) (vTup (aCons (vC (.str "go")) (aCons (vC (.str "fork")) aNil)))))
  (sRet (vTup (aCons (vC (.str "count")) aNil)))
  sNext)
  r_shape_of_3)
def r_shape_of_1 : DSem :=
  (sSeq (sIf (vB (v2 g_inT (vVar 0) (vTup (aCons (vC (.str "any")) (aCons (vC (.str "turn")) aNil)))))
  (sRet (vTup (aCons (vC (.str "which")) aNil)))
  sNext)
  r_shape_of_2)
def r_shape_of_0 : DSem :=
  (sSeq (sIf (vB (v2 g_inT (vVar 0) (vTup (aCons (vC (.str "skip")) (aCons (vC (.str "back")) (aCons (vC (.str "stop")) aNil))))))
  (sRet (vTup aNil))
  sNext)
  r_shape_of_1)
def b_shape_of : DSem :=
  r_shape_of_0
def m_shape_of : List D → Res D := runF 1 (b_shape_of)
def w_read_row_0 : DSem :=
  (sApp [(3, .sh)] 3 (vCallN 2 G16.m_read_word (aCons (vVar 4) (aCons (vVar 5) aNil))))
def b_read_row : DSem :=
  (sSeq (sAsg [] 1 (vLstOf (nSplit (vVar 0) (vC (.str " ")))))
  (sSeq (sAsg [] 2 (vCallN 1 G16.m_shape_of (aCons (v2 g_ix (vVar 1) (vC (.int 0))) aNil)))
  (sSeq (sIf (tOrD (vB (v2 g_isN (vVar 2) (vC .non))) (vB (v2 g_ne (vCall c_len (aCons (vVar 1) aNil)) (v2 g_add (vCall c_len (aCons (vVar 2) aNil)) (vC (.int 1))))))
  (sRaise "NoText")
  sNext)
  (sSeq (sAsg [] 3 (vLstOf (nLst (aCons (v2 g_ix (vVar 1) (vC (.int 0))) aNil))))
  (sSeq (sFor [(3, .sh)] (iZip2M (vVar 2) (vSl (vVar 1) (oSome (vC (.int 1))) oNone)) [4, 5] (kTup 2 (ksCons kName (ksCons kName ksNil)))
  w_read_row_0
  [4, 5])
  (sRet (vCall c_tuple (aCons (vVar 3) aNil))))))))
def m_read_row : List D → Res D := runF 6 (b_read_row)
def b_read_procedure : DSem :=
  (sSeq (sAsg [] 1 (vLstOf (nSplit (vVar 0) (vC (.str ": ")))))
  (sSeq (sIf (tOrD (vB (v2 g_ne (vCall c_len (aCons (vVar 1) aNil)) (vC (.int 2)))) (tNotD (vB (vCallN 1 G16.m_is_name (aCons (v2 g_ix (vVar 1) (vC (.int 0))) aNil)))))
  (sRaise "NoText")
  sNext)
  (sRet (vTup (aCons (v2 g_ix (vVar 1) (vC (.int 0))) (aCons (vLstOf (nComp (iSeq (vLstOf (nSplit (v2 g_ix (vVar 1) (vC (.int 1))) (vC (.str ", "))))) [2] kName tTrue (vCallN 1 G16.m_read_row (aCons (vVar 2) aNil)) [2])) aNil))))))
def m_read_procedure : List D → Res D := runF 3 (b_read_procedure)
def w_read_values_0 : DSem :=
  (sIf (vB (v2 g_notinT (vVar 2) (vTup (aCons (vC (.str "1")) (aCons (vC (.str "2")) (aCons (vC (.str "3")) (aCons (vC (.str "4")) aNil)))))))
  (sRaise "NoText")
  sNext)
def b_read_values : DSem :=
  (sSeq (sAsg [] 1 (vLstOf (nSplit (vVar 0) (vC (.str " ")))))
  (sSeq (sIf (tOrD (vB (v2 g_ne (vCall c_len (aCons (vVar 1) aNil)) (vC (.int 3)))) (vB (v2 g_ne (v2 g_ix (vVar 1) (vC (.int 0))) (vC (.str "values")))))
  (sRaise "NoText")
  sNext)
  (sSeq (sFor [] (iSeq (vSl (vVar 1) (oSome (vC (.int 1))) oNone)) [2] kName
  w_read_values_0
  [2])
  (sRet (vTup (aCons (vCall c_intS (aCons (v2 g_ix (vVar 1) (vC (.int 1))) aNil)) (aCons (vCall c_intS (aCons (v2 g_ix (vVar 1) (vC (.int 2))) aNil)) aNil)))))))
def m_read_values : List D → Res D := runF 3 (b_read_values)
def b_values_of : DSem :=
  (sSeq (sIf (vB (v2 g_eq (vVar 1) (vC (.str "shared"))))
  (sRet (v2 g_ix (vVar 0) (vC (.int 0))))
  sNext)
  (sRet (v2 g_ix (vVar 0) (vC (.int 1)))))
def m_values_of : List D → Res D := runF 2 (b_values_of)
def b_look_at : DSem :=
  (sSeq (sAsg [] 4 (v2 g_ix (vVar 2) (vVar 3)))
  (sSeq (sIf (tAndD (vB (v2 g_eq (v2 g_ix (vVar 4) (vC (.int 0))) (vC (.str "call")))) (vB (v2 g_notin (v2 g_ix (vVar 4) (vC (.int 1))) (vVar 1))))
  (sRaise "NoName")
  sNext)
  (sSeq (sIf (tAndD (vB (v2 g_inT (v2 g_ix (vVar 4) (vC (.int 0))) (vTup (aCons (vC (.str "set")) (aCons (vC (.str "if")) aNil))))) (vB (v2 (gI (fun i j => decide (j ≤ i))) (v2 g_ix (vVar 4) (vC (.int 2))) (vCallN 2 G16.m_values_of (aCons (vVar 0) (aCons (v2 g_ix (vVar 4) (vC (.int 1))) aNil))))))
  (sRaise "NoValue")
  sNext)
  (sSeq (sIf (tAndD (vB (v2 g_inT (v2 g_ix (vVar 4) (vC (.int 0))) (vTup (aCons (vC (.str "go")) (aCons (vC (.str "fork")) (aCons (vC (.str "if")) aNil)))))) (vB (v2 (gI (fun i j => decide (j ≤ i))) (v2 g_ix (vVar 4) (v1 g_neg (vC (.int 1)))) (vCall c_len (aCons (vVar 2) aNil)))))
  (sRaise "NoRow")
  sNext)
  (sIf (tAndD (vB (v2 g_eq (vVar 3) (v2 g_sub (vCall c_len (aCons (vVar 2) aNil)) (vC (.int 1))))) (vB (v2 g_notinT (v2 g_ix (vVar 4) (vC (.int 0))) (vTup (aCons (vC (.str "go")) (aCons (vC (.str "back")) (aCons (vC (.str "stop")) aNil)))))))
  (sRaise "NoRow")
  sNext)))))
def m_look_at : List D → Res D := runF 5 (b_look_at)
def w_look_over_0 : DSem :=
  (sDrop (vCallN 4 G16.m_look_at (aCons (vVar 0) (aCons (vVar 1) (aCons (vVar 3) (aCons (vVar 4) aNil))))))
def w_look_over_1 : DSem :=
  (sFor [] (iRange1 (vCall c_len (aCons (vVar 3) aNil))) [4] kName
  w_look_over_0
  [4])
def b_look_over : DSem :=
  (sSeq (sAsg [] 1 (vLstOf (nComp (iSeq (v2 g_ix (vVar 0) (vC (.int 2)))) [5] kName tTrue (v2 g_ix (vVar 5) (vC (.int 0))) [5])))
  (sSeq (sIf (vB (v2 g_ne (v1 g_lenT (vVar 1)) (vCall c_len (aCons (vVar 1) aNil))))
  (sRaise "Twice")
  sNext)
  (sSeq (sIf (vB (v2 g_notin (vC (.str "main")) (vVar 1)))
  (sRaise "NoName")
  sNext)
  (sFor [] (iSeq (v2 g_ix (vVar 0) (vC (.int 2)))) [2, 3] (kTup 2 (ksCons kName (ksCons kName ksNil)))
  w_look_over_1
  [2, 3, 4]))))
def m_look_over : List D → Res D := runF 6 (b_look_over)
def r_read_6 : DSem :=
  (sRet (vVar 3))
def r_read_5 : DSem :=
  (sSeq (sDrop (vCallN 1 G16.m_look_over (aCons (vVar 3) aNil)))
  r_read_6)
def r_read_4 : DSem :=
  (sSeq (sAsg [] 3 (vTup (aCons (v2 g_ix (vVar 2) (vC (.int 0))) (aCons (v2 g_ix (vVar 2) (vC (.int 1))) (aCons (vLstOf (nComp (iSeq (vSl (vVar 1) (oSome (vC (.int 1))) oNone)) [4] kName tTrue (vCallN 1 G16.m_read_procedure (aCons (vVar 4) aNil)) [4])) aNil)))))
  r_read_5)
def r_read_3 : DSem :=
  (sSeq (sIf (vB (v2 (gI (fun i j => decide (i < j))) (vCall c_len (aCons (vVar 1) aNil)) (vC (.int 2))))
  (sRaise "NoText")
  sNext)
  r_read_4)
def r_read_2 : DSem :=
  (sSeq (sAsg [] 2 (vCallN 1 G16.m_read_values (aCons (v2 g_ix (vVar 1) (vC (.int 0))) aNil)))
  r_read_3)
def r_read_1 : DSem :=
  (sSeq (sAsg [] 1 (vLstOf (nSplit (vVar 0) (vC (.str "; ")))))
  r_read_2)
def r_read_0 : DSem :=
  (sSeq (sIf (tNotD (vB (v1 (g_isi "str") (vVar 0))))
  (sRaise "NoText")
  sNext)
  r_read_1)
def b_read : DSem :=
  r_read_0
def m_read : List D → Res D := runF 5 (b_read)
open G4
def w_skip : List Nat := [115, 107, 105, 112]
theorem lit_skip : D.str (Str.ofString "skip") = tx w_skip := tx_lit w_skip (by decide +kernel)
theorem as_skip : asc w_skip := by unfold asc w_skip; decide
def w_back : List Nat := [98, 97, 99, 107]
theorem lit_back : D.str (Str.ofString "back") = tx w_back := tx_lit w_back (by decide +kernel)
theorem as_back : asc w_back := by unfold asc w_back; decide
def w_stop : List Nat := [115, 116, 111, 112]
theorem lit_stop : D.str (Str.ofString "stop") = tx w_stop := tx_lit w_stop (by decide +kernel)
theorem as_stop : asc w_stop := by unfold asc w_stop; decide
def w_any : List Nat := [97, 110, 121]
theorem lit_any : D.str (Str.ofString "any") = tx w_any := tx_lit w_any (by decide +kernel)
theorem as_any : asc w_any := by unfold asc w_any; decide
def w_turn : List Nat := [116, 117, 114, 110]
theorem lit_turn : D.str (Str.ofString "turn") = tx w_turn := tx_lit w_turn (by decide +kernel)
theorem as_turn : asc w_turn := by unfold asc w_turn; decide
def w_go : List Nat := [103, 111]
theorem lit_go : D.str (Str.ofString "go") = tx w_go := tx_lit w_go (by decide +kernel)
theorem as_go : asc w_go := by unfold asc w_go; decide
def w_fork : List Nat := [102, 111, 114, 107]
theorem lit_fork : D.str (Str.ofString "fork") = tx w_fork := tx_lit w_fork (by decide +kernel)
theorem as_fork : asc w_fork := by unfold asc w_fork; decide
def w_set : List Nat := [115, 101, 116]
theorem lit_set : D.str (Str.ofString "set") = tx w_set := tx_lit w_set (by decide +kernel)
theorem as_set : asc w_set := by unfold asc w_set; decide
def w_if : List Nat := [105, 102]
theorem lit_if : D.str (Str.ofString "if") = tx w_if := tx_lit w_if (by decide +kernel)
theorem as_if : asc w_if := by unfold asc w_if; decide
def w_call : List Nat := [99, 97, 108, 108]
theorem lit_call : D.str (Str.ofString "call") = tx w_call := tx_lit w_call (by decide +kernel)
theorem as_call : asc w_call := by unfold asc w_call; decide
def w_shared : List Nat := [115, 104, 97, 114, 101, 100]
theorem lit_shared : D.str (Str.ofString "shared") = tx w_shared := tx_lit w_shared (by decide +kernel)
theorem as_shared : asc w_shared := by unfold asc w_shared; decide
def w_own : List Nat := [111, 119, 110]
theorem lit_own : D.str (Str.ofString "own") = tx w_own := tx_lit w_own (by decide +kernel)
theorem as_own : asc w_own := by unfold asc w_own; decide
def w_name : List Nat := [110, 97, 109, 101]
theorem lit_name : D.str (Str.ofString "name") = tx w_name := tx_lit w_name (by decide +kernel)
theorem as_name : asc w_name := by unfold asc w_name; decide
def w_which : List Nat := [119, 104, 105, 99, 104]
theorem lit_which : D.str (Str.ofString "which") = tx w_which := tx_lit w_which (by decide +kernel)
theorem as_which : asc w_which := by unfold asc w_which; decide
def w_count : List Nat := [99, 111, 117, 110, 116]
theorem lit_count : D.str (Str.ofString "count") = tx w_count := tx_lit w_count (by decide +kernel)
theorem as_count : asc w_count := by unfold asc w_count; decide
def w_values : List Nat := [118, 97, 108, 117, 101, 115]
theorem lit_values : D.str (Str.ofString "values") = tx w_values := tx_lit w_values (by decide +kernel)
theorem as_values : asc w_values := by unfold asc w_values; decide
theorem lit_sp : D.str (Str.ofString " ") = tx [32] := tx_lit [32] (by decide +kernel)
theorem lit_cs : D.str (Str.ofString ", ") = tx [44, 32] := tx_lit [44, 32] (by decide +kernel)
theorem lit_ds : D.str (Str.ofString ": ") = tx [58, 32] := tx_lit [58, 32] (by decide +kernel)
theorem lit_ss : D.str (Str.ofString "; ") = tx [59, 32] := tx_lit [59, 32] (by decide +kernel)
theorem lit_n0 : D.str (Str.ofString "0") = tx [48] := tx_lit [48] (by decide +kernel)
theorem lit_n1 : D.str (Str.ofString "1") = tx [49] := tx_lit [49] (by decide +kernel)
theorem lit_n2 : D.str (Str.ofString "2") = tx [50] := tx_lit [50] (by decide +kernel)
theorem lit_n3 : D.str (Str.ofString "3") = tx [51] := tx_lit [51] (by decide +kernel)
theorem lit_n4 : D.str (Str.ofString "4") = tx [52] := tx_lit [52] (by decide +kernel)
def figs : List Nat := [48, 49, 50, 51, 52, 53, 54, 55, 56, 57]
theorem lit_figs : D.str (Str.ofString "0123456789") = tx figs := tx_lit figs (by decide +kernel)
theorem numL_head : ∀ (k n : Nat), n < k → 0 < n → ∃ c r, TL.numL n = c :: r ∧ c ≠ 48
  | 0, n, h, _ => by omega
  | k + 1, n, h, h0 => by
    by_cases q : n < 10
    · exact ⟨48 + n, [], TL.numL_lt q, by omega⟩
    · obtain ⟨c, r, e, ne⟩ := numL_head k (n / 10) (by omega) (by omega)
      exact ⟨c, r ++ [48 + n % 10], by rw [TL.numL_step (by omega), e]; rfl, ne⟩
theorem numL_mem {n c : Nat} (h : c ∈ TL.numL n) : 48 ≤ c ∧ c ≤ 57 := by
  by_cases q : c < 48 ∨ 57 < c
  · exact absurd h (TL.numL_free q)
  · omega
theorem numL_asc (n : Nat) : asc (TL.numL n) := fun c h => by have := numL_mem h; omega
theorem mem_figs {c : Nat} (h : 48 ≤ c ∧ c ≤ 57) : c ∈ figs := by
  have : ∀ d : Fin 10, (48 + d.1) ∈ figs := by decide
  have q := this ⟨c - 48, by omega⟩
  simpa [show 48 + (c - 48) = c by omega] using q
theorem mem_abc {c : Nat} (h : 97 ≤ c ∧ c ≤ 122) : c ∈ abc := by
  have : ∀ d : Fin 26, (97 + d.1) ∈ abc := by decide
  have q := this ⟨c - 97, by omega⟩
  simpa [show 97 + (c - 97) = c by omega] using q
theorem all_signs {t : Str} {ls : List Nat} (ht : D.str t = tx ls) {a : List Nat} (h : ∀ c ∈ a, c ∈ ls) (x : Option D) : compL [1] kName tTrue (v2 g_in (vVar 1) (vC (.str t))) [x, none] (a.map fun c => tx [c]) = .ok (a.map fun _ => D.bl true) :=
  compL_eq (fun _ => D.bl true) fun c hc => by
    simp -implicitDefEqProofs [ht, g_in_sign, -g_in_eq, h c hc]
theorem is_name_ok {l : List Nat} (h : isName l) : m_is_name [tx l] = .ok (.bl true) := by
  have hc := all_signs lit_abc (a := l) (fun c hc => mem_abc (h.1 c hc)) (some (tx l))
  have h1 := h.2.1
  have h2 := h.2.2
  have e1 : ((1 : Int) ≤ l.length) := by omega
  have e2 : ((l.length : Int) ≤ 8) := by omega
  simp -implicitDefEqProofs [m_is_name, b_is_name, show l.length ≤ 16777216 by omega, signs_tx, hc, e1, e2]
theorem is_count_ok {n : Nat} (h : n < 1000) : m_is_count [tx (TL.numL n)] = .ok (.bl true) := by
  have hc := all_signs lit_figs (a := TL.numL n) (fun c hc => mem_figs (numL_mem hc)) (some (tx (TL.numL n)))
  have h1 := TL.numL_len (k := 3) (by decide) h
  have h2 : 0 < (TL.numL n).length := Nat.pos_of_ne_zero fun z => TL.numL_ne n (List.length_eq_zero_iff.mp z)
  have e1 : ((1 : Int) ≤ (TL.numL n).length) := by omega
  have e2 : ((TL.numL n).length : Int) ≤ 3 := by omega
  have a0 : asc [48] := by unfold asc; decide
  have fin : ∀ a : List Nat, TL.numL n = a → (g_eq (tx a) (tx [48]) = .ok (.bl true) ∨ (g_eq (tx a) (tx [48]) = .ok (.bl false) ∧ ∃ c, g_ix (tx a) (.int 0) = .ok (tx [c]) ∧ g_ne (tx [c]) (tx [48]) = .ok (.bl true))) → m_is_count [tx a] = .ok (.bl true) := fun a ea q => by
    rw [ea] at hc h1 h2 e1 e2
    rcases q with q | ⟨q, c, q1, q2⟩
    · simp -implicitDefEqProofs [m_is_count, b_is_count, show a.length ≤ 16777216 by omega, hc, lit_n0, -g_eq_S, -g_ne_S, q, e1, e2]
    · simp -implicitDefEqProofs [m_is_count, b_is_count, show a.length ≤ 16777216 by omega, hc, lit_n0, -g_eq_S, -g_ne_S, q, q1, q2, e1, e2]
  refine fin _ rfl ?_
  by_cases z : n = 0
  · subst z
    rw [TL.numL_lt (n := 0) (by decide), g_eq_tx a0 a0]
    exact .inl (by simp)
  · obtain ⟨c, r, e, ne⟩ := numL_head (n + 1) n (by omega) (by omega)
    have ar := numL_asc n
    rw [e] at ar h1 ⊢
    have ac : asc [c] := fun d hd => ar d (by simp at hd; subst hd; simp)
    refine .inr ⟨by rw [g_eq_tx ar a0]; simp [ne], c, g_ix_tx (by omega) (by omega) (by simp), by rw [g_ne_tx ac a0]; simp [ne]⟩
def wside : Bool → List Nat
  | true => w_shared
  | false => w_own
theorem eSide_tx (sh : Bool) : eSide sh = tx (wside sh) := by cases sh; exact lit_own; exact lit_shared
theorem as_side (sh : Bool) : asc (wside sh) := by cases sh; exact as_own; exact as_shared
theorem read_name {l : List Nat} (h : isName l) : m_read_word [tx w_name, tx l] = .ok (tx l) := by
  have hn := is_name_ok h
  have q : g_eq (tx w_name) (tx w_name) = .ok (.bl true) := by rw [g_eq_tx as_name as_name]; simp
  simp -implicitDefEqProofs [m_read_word, b_read_word, lit_name, -g_eq_S, q, hn]
theorem read_which (sh : Bool) : m_read_word [tx w_which, tx (wside sh)] = .ok (tx (wside sh)) := by
  have q1 : g_eq (tx w_which) (tx w_name) = .ok (.bl false) := by rw [g_eq_tx as_which as_name]; simp [w_which, w_name]
  have q2 : g_eq (tx w_which) (tx w_which) = .ok (.bl true) := by rw [g_eq_tx as_which as_which]; simp
  have q3 : g_inT (tx (wside sh)) (.tup [tx w_shared, tx w_own]) = .ok (.bl true) := by
    have := g_inT_tx (a := wside sh) (ls := [w_shared, w_own]) (as_side sh) (by simp [as_shared, as_own])
    simp only [List.map_cons, List.map_nil] at this
    rw [this]
    cases sh <;> simp [wside]
  simp -implicitDefEqProofs [m_read_word, b_read_word, lit_name, lit_which, lit_shared, lit_own, -g_eq_S, q1, q2, q3]
theorem read_count {n : Nat} (h : n < 1000) : m_read_word [tx w_count, tx (TL.numL n)] = .ok (.int (n : Int)) := by
  have q1 : g_eq (tx w_count) (tx w_name) = .ok (.bl false) := by rw [g_eq_tx as_count as_name]; simp [w_count, w_name]
  have q2 : g_eq (tx w_count) (tx w_which) = .ok (.bl false) := by rw [g_eq_tx as_count as_which]; simp [w_count, w_which]
  have q3 : g_eq (tx w_count) (tx w_count) = .ok (.bl true) := by rw [g_eq_tx as_count as_count]; simp
  have hc := is_count_ok h
  have hi : c_intS [tx (TL.numL n)] = .ok (.int (n : Int)) := c_intS_num (Nat.lt_of_lt_of_le h (by decide))
  simp -implicitDefEqProofs [m_read_word, b_read_word, lit_name, lit_which, lit_count, -g_eq_S, q1, q2, q3, hc, hi]
def shapeOf (l : List Nat) : Option (List (List Nat)) :=
  if l ∈ [w_skip, w_back, w_stop] then some [] else if l ∈ [w_any, w_turn] then some [w_which] else if l ∈ [w_go, w_fork] then some [w_count]
  else if l = w_set then some [w_which, w_count] else if l = w_if then some [w_which, w_count, w_count] else if l = w_call then some [w_name] else none
theorem shape_ok {l : List Nat} (h : asc l) : m_shape_of [tx l] = .ok (match shapeOf l with | some s => .tup (s.map tx) | none => .non) := by
  have i3 : ∀ a b c : List Nat, asc a → asc b → asc c → g_inT (tx l) (.tup [tx a, tx b, tx c]) = .ok (.bl (decide (l ∈ [a, b, c]))) := fun a b c ha hb hc => g_inT_tx (ls := [a, b, c]) h (by simp [ha, hb, hc])
  have i2 : ∀ a b : List Nat, asc a → asc b → g_inT (tx l) (.tup [tx a, tx b]) = .ok (.bl (decide (l ∈ [a, b]))) := fun a b ha hb => g_inT_tx (ls := [a, b]) h (by simp [ha, hb])
  have e1 := i3 _ _ _ as_skip as_back as_stop
  have e2 := i2 _ _ as_any as_turn
  have e3 := i2 _ _ as_go as_fork
  have e4 := g_eq_tx h as_set
  have e5 := g_eq_tx h as_if
  have e6 := g_eq_tx h as_call
  unfold shapeOf
  by_cases c1 : l ∈ [w_skip, w_back, w_stop]
  · rw [if_pos c1]; simp only [c1, decide_true] at e1
    simp -implicitDefEqProofs [m_shape_of, b_shape_of, r_shape_of_0, lit_skip, lit_back, lit_stop, e1]
  · rw [if_neg c1]; simp only [c1, decide_false] at e1
    by_cases c2 : l ∈ [w_any, w_turn]
    · rw [if_pos c2]; simp only [c2, decide_true] at e2
      simp -implicitDefEqProofs [m_shape_of, b_shape_of, r_shape_of_0, r_shape_of_1, lit_skip, lit_back, lit_stop, lit_any, lit_turn, lit_which, e1, e2]
    · rw [if_neg c2]; simp only [c2, decide_false] at e2
      by_cases c3 : l ∈ [w_go, w_fork]
      · rw [if_pos c3]; simp only [c3, decide_true] at e3
        simp -implicitDefEqProofs [m_shape_of, b_shape_of, r_shape_of_0, r_shape_of_1, r_shape_of_2, lit_skip, lit_back, lit_stop, lit_any, lit_turn, lit_go, lit_fork, lit_count, e1, e2, e3]
      · rw [if_neg c3]; simp only [c3, decide_false] at e3
        by_cases c4 : l = w_set
        · rw [if_pos c4]; simp only [c4, decide_true] at e1 e2 e3 e4
          subst c4
          simp -implicitDefEqProofs [m_shape_of, b_shape_of, r_shape_of_0, r_shape_of_1, r_shape_of_2, r_shape_of_3, lit_skip, lit_back, lit_stop, lit_any, lit_turn, lit_go, lit_fork, lit_set, lit_which, lit_count, e1, e2, e3, e4, -g_eq_S]
        · rw [if_neg c4]; simp only [c4, decide_false] at e4
          by_cases c5 : l = w_if
          · rw [if_pos c5]; simp only [c5, decide_true] at e1 e2 e3 e4 e5
            subst c5
            simp -implicitDefEqProofs [m_shape_of, b_shape_of, r_shape_of_0, r_shape_of_1, r_shape_of_2, r_shape_of_3, r_shape_of_4, lit_skip, lit_back, lit_stop, lit_any, lit_turn, lit_go, lit_fork, lit_set, lit_if, lit_which, lit_count, e1, e2, e3, e4, e5, -g_eq_S]
          · rw [if_neg c5]; simp only [c5, decide_false] at e5
            by_cases c6 : l = w_call
            · rw [if_pos c6]; simp only [c6, decide_true] at e1 e2 e3 e4 e5 e6
              subst c6
              simp -implicitDefEqProofs [m_shape_of, b_shape_of, r_shape_of_0, r_shape_of_1, r_shape_of_2, r_shape_of_3, r_shape_of_4, r_shape_of_5, lit_skip, lit_back, lit_stop, lit_any, lit_turn, lit_go, lit_fork, lit_set, lit_if, lit_call, lit_name, e1, e2, e3, e4, e5, e6, -g_eq_S]
            · rw [if_neg c6]; simp only [c6, decide_false] at e6
              simp -implicitDefEqProofs [m_shape_of, b_shape_of, r_shape_of_0, r_shape_of_1, r_shape_of_2, r_shape_of_3, r_shape_of_4, r_shape_of_5, r_shape_of_6, lit_skip, lit_back, lit_stop, lit_any, lit_turn, lit_go, lit_fork, lit_set, lit_if, lit_call, e1, e2, e3, e4, e5, e6, -g_eq_S]
def hd : Rw → List Nat
  | .skip => w_skip
  | .set _ _ => w_set
  | .any _ => w_any
  | .turn _ => w_turn
  | .iff _ _ _ => w_if
  | .go _ => w_go
  | .fork _ => w_fork
  | .call _ => w_call
  | .back => w_back
  | .stop => w_stop
def tW (sh : Bool) : List Nat × List Nat × D := (w_which, wside sh, tx (wside sh))
def tN (v : Int) : List Nat × List Nat × D := (w_count, TL.numL v.toNat, .int v)
def ts : Rw → List (List Nat × List Nat × D)
  | .set sh v => [tW sh, tN v]
  | .any sh => [tW sh]
  | .turn sh => [tW sh]
  | .iff sh v k => [tW sh, tN v, tN k]
  | .go k => [tN k]
  | .fork k => [tN k]
  | .call f => [(w_name, f, tx f)]
  | _ => []
def sw (r : Rw) : List (List Nat) := hd r :: (ts r).map (·.2.1)
theorem words_eq (r : Rw) : G4.wordsOf r = tx (hd r) :: (ts r).map (·.2.2) := by
  cases r <;> simp only [G4.wordsOf, hd, ts, tW, tN, List.map_cons, List.map_nil, eSide_tx, lit_skip, lit_set, lit_any, lit_turn, lit_if, lit_go, lit_fork, lit_call, lit_back, lit_stop]
theorem shape_eq (r : Rw) : shapeOf (hd r) = some ((ts r).map (·.1)) := by
  cases r <;> simp only [hd, ts, tW, tN, List.map_cons, List.map_nil] <;> decide
theorem as_hd (r : Rw) : asc (hd r) := by
  cases r <;> simp only [hd]
  · exact as_skip
  · exact as_set
  · exact as_any
  · exact as_turn
  · exact as_if
  · exact as_go
  · exact as_fork
  · exact as_call
  · exact as_back
  · exact as_stop
def NumOk (v : Int) : Prop := 0 ≤ v ∧ v < 1000
def RwSm : Rw → Prop
  | .set _ v => NumOk v
  | .iff _ v k => NumOk v ∧ NumOk k
  | .go k => NumOk k
  | .fork k => NumOk k
  | .call f => isName f
  | _ => True
theorem rwSm {v0 v1 many : Int} {nl : List (List Nat)} {r : Rw} (h : RwOk v0 v1 many nl r) (h0 : v0 ≤ 4) (h1 : v1 ≤ 4) (hm : many ≤ 1000) (hn : ∀ l ∈ nl, isName l) : RwSm r := by
  have hv : ∀ sh, vOf v0 v1 sh ≤ 4 := fun sh => by cases sh <;> simp [vOf, h0, h1]
  cases r <;> simp only [RwOk, RwSm, NumOk] at * <;> try trivial
  · rename_i sh v; have := hv sh; omega
  · rename_i sh v k; have := hv sh; omega
  · omega
  · omega
  · exact hn _ h
theorem tN_ok {v : Int} (h : NumOk v) : m_read_word [tx (tN v).1, tx (tN v).2.1] = .ok (tN v).2.2 := by
  obtain ⟨n, rfl⟩ := Int.eq_ofNat_of_zero_le h.1
  exact read_count (n := n) (by have := h.2; omega)
theorem ts_ok {r : Rw} (h : RwSm r) : ∀ t ∈ ts r, m_read_word [tx t.1, tx t.2.1] = .ok t.2.2 := by
  intro t ht
  cases r <;> simp only [ts, List.mem_cons, List.not_mem_nil, or_false] at ht
  · rcases ht with rfl | rfl
    · exact read_which _
    · exact tN_ok h
  · subst ht; exact read_which _
  · subst ht; exact read_which _
  · rcases ht with rfl | rfl | rfl
    · exact read_which _
    · exact tN_ok h.1
    · exact tN_ok h.2
  · subst ht; exact tN_ok h
  · subst ht; exact tN_ok h
  · subst ht; exact read_name h
theorem zipD_three : ∀ l : List (List Nat × List Nat × D), zipD (l.map fun t => tx t.1) (l.map fun t => tx t.2.1) = l.map fun t => D.tup [tx t.1, tx t.2.1]
  | [] => rfl
  | t :: r => by rw [List.map_cons, List.map_cons, List.map_cons, ← zipD_three r]; rfl
def pl (l : List Nat) : Prop := ∀ c ∈ l, (48 ≤ c ∧ c ≤ 57) ∨ (97 ≤ c ∧ c ≤ 122)
theorem pl_hd (r : Rw) : pl (hd r) := by unfold pl; cases r <;> simp only [hd] <;> decide
theorem pl_num (n : Nat) : pl (TL.numL n) := fun c h => .inl (numL_mem h)
theorem pl_side (sh : Bool) : pl (wside sh) := by unfold pl; cases sh <;> decide
theorem pl_name {l : List Nat} (h : isName l) : pl l := fun c hc => .inr (h.1 c hc)
theorem pl_sw {r : Rw} (h : RwSm r) : ∀ p ∈ sw r, pl p := by
  intro p hp
  unfold sw at hp
  rcases List.mem_cons.mp hp with rfl | hp
  · exact pl_hd r
  · cases r <;> simp only [ts, tW, tN, List.map_cons, List.map_nil, List.mem_cons, List.not_mem_nil, or_false] at hp
    · rcases hp with rfl | rfl
      · exact pl_side _
      · exact pl_num _
    · subst hp; exact pl_side _
    · subst hp; exact pl_side _
    · rcases hp with rfl | rfl | rfl
      · exact pl_side _
      · exact pl_num _
      · exact pl_num _
    · subst hp; exact pl_num _
    · subst hp; exact pl_num _
    · subst hp; exact pl_name h
theorem pl.no {l : List Nat} (h : pl l) {c : Nat} (hc : c < 48 ∨ (57 < c ∧ c < 97)) : c ∉ l := fun m => by have := h c m; omega
theorem joinL_mem {s : List Nat} {c : Nat} : ∀ {ps : List (List Nat)}, c ∈ TL.joinL s ps → c ∈ s ∨ ∃ p ∈ ps, c ∈ p
  | [], h => by cases h
  | [p], h => .inr ⟨p, by simp, h⟩
  | p :: q :: r, h => by
    have h : c ∈ p ++ (s ++ TL.joinL s (q :: r)) := h
    rcases List.mem_append.mp h with h | h
    · exact .inr ⟨p, by simp, h⟩
    · rcases List.mem_append.mp h with h | h
      · exact .inl h
      · rcases joinL_mem h with h | ⟨x, hx, h⟩
        · exact .inl h
        · exact .inr ⟨x, List.mem_cons_of_mem _ hx, h⟩
theorem joinL_len {s : List Nat} {k : Nat} : ∀ {ps : List (List Nat)}, (∀ p ∈ ps, p.length ≤ k) → (TL.joinL s ps).length ≤ ps.length * (k + s.length)
  | [], _ => by simp [TL.joinL]
  | [p], h => by
    have := h p (by simp)
    show p.length ≤ 1 * _
    omega
  | p :: q :: r, h => by
    have h1 := h p (by simp)
    have h2 := joinL_len (s := s) (k := k) (ps := q :: r) fun x hx => h x (List.mem_cons_of_mem _ hx)
    show (p ++ (s ++ TL.joinL s (q :: r))).length ≤ _
    rw [List.length_append, List.length_append, List.length_cons (as := q :: r), Nat.succ_mul]
    omega
def rowT (r : Rw) : List Nat := TL.joinL [32] (sw r)
theorem len_num {v : Int} (h : NumOk v) : (TL.numL v.toNat).length ≤ 8 := by
  have := TL.numL_len (k := 3) (by decide) (n := v.toNat) (by have := h.1; have := h.2; omega)
  omega
theorem sw_len {r : Rw} (h : RwSm r) : (∀ p ∈ sw r, p.length ≤ 8) ∧ (sw r).length ≤ 4 := by
  refine ⟨fun p hp => ?_, by cases r <;> simp [sw, ts]⟩
  unfold sw at hp
  rcases List.mem_cons.mp hp with rfl | hp
  · cases r <;> simp only [hd] <;> decide
  · have hs : ∀ sh, (wside sh).length ≤ 8 := fun sh => by cases sh <;> decide
    cases r <;> simp only [ts, tW, tN, List.map_cons, List.map_nil, List.mem_cons, List.not_mem_nil, or_false] at hp
    · rcases hp with rfl | rfl
      · exact hs _
      · exact len_num h
    · subst hp; exact hs _
    · subst hp; exact hs _
    · rcases hp with rfl | rfl | rfl
      · exact hs _
      · exact len_num h.1
      · exact len_num h.2
    · subst hp; exact len_num h
    · subst hp; exact len_num h
    · subst hp; exact h.2.2
theorem rowT_len {r : Rw} (h : RwSm r) : (rowT r).length ≤ 36 := by
  have h1 := joinL_len (s := [32]) (k := 8) (sw_len h).1
  have h2 := (sw_len h).2
  have : (sw r).length * (8 + 1) ≤ 4 * 9 := Nat.mul_le_mul_right 9 h2
  unfold rowT
  simp only [List.length_cons, List.length_nil] at h1
  omega
theorem rowT_no {r : Rw} (h : RwSm r) {c : Nat} (hc : c < 48 ∨ (57 < c ∧ c < 97)) (h32 : c ≠ 32) : c ∉ rowT r := fun m => by
  rcases joinL_mem m with m | ⟨p, hp, m⟩
  · simp at m; exact h32 m
  · exact (pl_sw h p hp).no hc m
theorem read_row_ok {r : Rw} (h : RwSm r) : m_read_row [tx (rowT r)] = .ok (eRw r) := by
  have hl := rowT_len h
  have e1 : TL.spl [32] 0 [] (rowT r) = sw r := SX.spl_join (c := 32) (sep := []) (by simp [sw]) fun p hp => (pl_sw h p hp).no (by omega)
  have e2 := splR_tx (a := rowT r) (b := [32]) (by simp) (by decide) (by omega)
  rw [e1] at e2
  have e3 := shape_ok (as_hd r)
  rw [shape_eq] at e3
  have hts := ts_ok h
  have hn : (ts r).length ≤ 3 := by cases r <;> simp [ts]
  unfold sw at e2
  unfold eRw
  rw [words_eq]
  generalize rowT r = T at *
  generalize hd r = H at *
  generalize ts r = L at *
  simp only [List.map_map, List.map_cons] at e2 e3
  have lp : ∀ o, forF [4, 5] (kTup 2 (ksCons kName (ksCons kName ksNil))) w_read_row_0 [4, 5] (L.map fun t => D.tup [tx t.1, tx t.2.1]) [some (tx T), some (.lst (tx H :: L.map fun t => tx t.2.1)), some (.tup (L.map fun t => tx t.1)), some (.lst [tx H]), none, none] = o →
      o = .nx [some (tx T), some (.lst (tx H :: L.map fun t => tx t.2.1)), some (.tup (L.map fun t => tx t.1)), some (.lst (tx H :: L.map (·.2.2))), none, none] := fun o hF => by
    obtain ⟨ds, rfl, iv⟩ := forF_inv (S := List D) hF (fun ds => [some (tx T), some (.lst (tx H :: L.map fun t => tx t.2.1)), some (.tup (L.map fun t => tx t.1)), some (.lst ds), none, none]) (fun i ds => ds = tx H :: (L.take i).map (·.2.2)) [tx H] (by simp) rfl (fun i ds t hx iv => by
      have hm := hts t (mem_getElem? hx)
      have hi := idx_lt hx
      refine ⟨ds ++ [t.2.2], ?_, ?_⟩
      · have : ds.length < 16777216 := by rw [iv]; simp; omega
        simp -implicitDefEqProofs [w_read_row_0, hm, this]
      · rw [iv, List.take_add_one, hx]; simp)
    rw [iv]; simp
  have z := zipD_three L
  have e3' : m_shape_of [tx H] = .ok (.tup (L.map fun t => tx t.1)) := e3
  have e2' : splR ⟨T.toArray⟩ (tx [32]) = .ok (tx H :: L.map fun t => tx t.2.1) := e2
  have sl : g_sl (.lst (tx H :: L.map fun t => tx t.2.1)) (some 1) none = .ok (.lst (L.map fun t => tx t.2.1)) := by
    simp
  simp -implicitDefEqProofs [m_read_row, b_read_row, lit_sp, e2', e3', z, sl]
  generalize hF : forF _ _ _ _ _ _ = o
  rw [lp o hF]
  simp -implicitDefEqProofs [c_tuple]
theorem forF_nil0 {is fg : List Nat} {ks : D → Res (List D)} {F : DSem} {ρ : DL.Env} : forF is ks F fg [] ρ = .nx ρ := rfl
theorem sum_le {α : Type} (f : α → Nat) (k : Nat) : ∀ {l : List α}, (∀ x ∈ l, f x ≤ k) → (l.map f).sum ≤ l.length * k
  | [], _ => by simp
  | x :: r, h => by
    have h1 := h x (by simp)
    have h2 := sum_le f k (l := r) fun y hy => h y (List.mem_cons_of_mem _ hy)
    rw [List.map_cons, List.sum_cons, List.length_cons, Nat.succ_mul]
    omega
def rowsT (rs : List Rw) : List Nat := TL.joinL [44, 32] (rs.map rowT)
theorem rowsT_len {rs : List Rw} (h : ∀ r ∈ rs, RwSm r) : (rowsT rs).length ≤ rs.length * 38 := by
  have := joinL_len (s := [44, 32]) (k := 36) (ps := rs.map rowT) fun p hp => by
    obtain ⟨r, hr, rfl⟩ := List.mem_map.mp hp
    exact rowT_len (h r hr)
  simpa [rowsT] using this
theorem rowsT_no {rs : List Rw} (h : ∀ r ∈ rs, RwSm r) {c : Nat} (hc : 57 < c ∧ c < 97) : c ∉ rowsT rs := fun m => by
  rcases joinL_mem m with m | ⟨p, hp, m⟩
  · simp at m; omega
  · obtain ⟨r, hr, rfl⟩ := List.mem_map.mp hp
    exact rowT_no (h r hr) (.inr hc) (by omega) m
theorem rowsT_spl {rs : List Rw} (h : ∀ r ∈ rs, RwSm r) (hne : rs ≠ []) : TL.spl [44, 32] 0 [] (rowsT rs) = rs.map rowT :=
  SX.spl_join (c := 44) (sep := [32]) (by simpa using hne) fun p hp => by
    obtain ⟨r, hr, rfl⟩ := List.mem_map.mp hp
    exact rowT_no (h r hr) (.inl (by omega)) (by omega)
def procT (p : Proc) : List Nat := p.1 ++ ([58, 32] ++ rowsT p.2)
structure PSm (p : Proc) : Prop where
  nm : isName p.1
  rw : ∀ r ∈ p.2, RwSm r
  ne : p.2 ≠ []
  few : p.2.length ≤ 1000
theorem procT_len {p : Proc} (h : PSm p) : (procT p).length ≤ 40000 := by
  have h1 := rowsT_len h.rw
  have h2 := h.few
  have h3 := h.nm.2.2
  unfold procT
  simp only [List.length_append, List.length_cons, List.length_nil]
  omega
theorem procT_spl {p : Proc} (h : PSm p) : TL.spl [58, 32] 0 [] (procT p) = [p.1, rowsT p.2] := by
  have := SX.spl_join (c := 58) (sep := [32]) (parts := [p.1, rowsT p.2]) (by simp) fun q hq => by
    simp only [List.mem_cons, List.not_mem_nil, or_false] at hq
    rcases hq with rfl | rfl
    · exact (pl_name h.nm).no (by omega)
    · exact rowsT_no h.rw (by omega)
  exact this
def valT (a b : Int) : List Nat := TL.joinL [32] [w_values, TL.numL a.toNat, TL.numL b.toNat]
def V4 (a : Int) : Prop := 1 ≤ a ∧ a ≤ 4
theorem v4_num {a : Int} (h : V4 a) : TL.numL a.toNat ∈ [[49], [50], [51], [52]] := by
  obtain ⟨n, rfl⟩ := Int.eq_ofNat_of_zero_le (show 0 ≤ a by have := h.1; omega)
  have h1 := h.1
  have h2 := h.2
  rw [Int.toNat_natCast, TL.numL_lt (by omega)]
  have : n = 1 ∨ n = 2 ∨ n = 3 ∨ n = 4 := by omega
  rcases this with rfl | rfl | rfl | rfl <;> simp
theorem v4_len {a : Int} (h : V4 a) : (TL.numL a.toNat).length = 1 := by
  have := v4_num h
  simp only [List.mem_cons, List.not_mem_nil, or_false] at this
  rcases this with e | e | e | e <;> rw [e] <;> rfl
theorem valT_len {a b : Int} (ha : V4 a) (hb : V4 b) : (valT a b).length = 10 := by
  have h1 := v4_len ha
  have h2 := v4_len hb
  show (w_values ++ ([32] ++ (TL.numL a.toNat ++ ([32] ++ TL.numL b.toNat)))).length = 10
  simp only [List.length_append, h1, h2, List.length_cons, List.length_nil]
  rfl
theorem valT_no {a b : Int} : 59 ∉ valT a b := fun m => by
  rcases joinL_mem m with m | ⟨p, hp, m⟩
  · simp at m
  · simp only [List.mem_cons, List.not_mem_nil, or_false] at hp
    rcases hp with rfl | rfl | rfl
    · revert m; decide
    · exact TL.numL_free (by omega) m
    · exact TL.numL_free (by omega) m
theorem read_values_ok {a b : Int} (ha : V4 a) (hb : V4 b) : m_read_values [tx (valT a b)] = .ok (.tup [.int a, .int b]) := by
  have e1 := splR_tx (a := valT a b) (b := [32]) (by simp) (by decide) (by have := valT_len ha hb; omega)
  rw [show TL.spl [32] 0 [] (valT a b) = _ from SX.spl_join (c := 32) (sep := []) (by simp) fun p hp => by
    simp only [List.mem_cons, List.not_mem_nil, or_false] at hp
    rcases hp with rfl | rfl | rfl
    · decide
    · exact TL.numL_free (by omega)
    · exact TL.numL_free (by omega)] at e1
  simp only [List.map_cons, List.map_nil] at e1
  have q0 : g_ne (tx w_values) (tx w_values) = .ok (.bl false) := by rw [g_ne_tx as_values as_values]; simp
  have qn : ∀ {a : Int}, V4 a → g_notinT (tx (TL.numL a.toNat)) (.tup [tx [49], tx [50], tx [51], tx [52]]) = .ok (.bl false) := fun {a} h => by
    have := g_notinT_tx (a := TL.numL a.toNat) (ls := [[49], [50], [51], [52]]) (numL_asc _) (by unfold asc; decide)
    simp only [List.map_cons, List.map_nil] at this
    rw [this]
    simp [v4_num h]
  have qa := qn ha
  have qb := qn hb
  have ia : ∀ {a : Int}, V4 a → c_intS [tx (TL.numL a.toNat)] = .ok (.int a) := fun {a} h => by
    obtain ⟨n, rfl⟩ := Int.eq_ofNat_of_zero_le (show 0 ≤ a by have := h.1; omega)
    exact c_intS_num (Nat.lt_of_le_of_lt (show n ≤ 4 by have := h.2; omega) (by decide))
  have i1 := ia ha
  have i2 := ia hb
  generalize valT a b = T at *
  generalize TL.numL a.toNat = A at *
  generalize TL.numL b.toNat = B at *
  simp -implicitDefEqProofs [m_read_values, b_read_values, w_read_values_0, lit_sp, lit_values, lit_n1, lit_n2, lit_n3, lit_n4, e1, q0, -g_ne_S, g_ne_int, qa, qb, i1, i2, forF_cons, forF_nil0]
theorem values_of_ok {v0 v1 : Int} {ps : List Proc} (sh : Bool) : m_values_of [eP v0 v1 ps, tx (wside sh)] = .ok (.int (vOf v0 v1 sh)) := by
  have q := g_eq_tx (as_side sh) as_shared
  cases sh
  · have q : g_eq (tx (wside false)) (tx w_shared) = .ok (.bl false) := by rw [q]; rfl
    simp -implicitDefEqProofs [m_values_of, b_values_of, lit_shared, -g_eq_S, q, vOf, eP]
  · have q : g_eq (tx (wside true)) (tx w_shared) = .ok (.bl true) := by rw [q]; rfl
    simp -implicitDefEqProofs [m_values_of, b_values_of, lit_shared, -g_eq_S, q, vOf, eP]
def k1 : Rw → Bool
  | .call _ => true
  | _ => false
def k2 : Rw → Bool
  | .set _ _ => true
  | .iff _ _ _ => true
  | _ => false
def k3 : Rw → Bool
  | .go _ => true
  | .fork _ => true
  | .iff _ _ _ => true
  | _ => false
def k4 : Rw → Bool
  | .go _ => true
  | .back => true
  | .stop => true
  | _ => false
theorem kk1 (r : Rw) : decide (hd r = w_call) = k1 r := by cases r <;> rfl
theorem kk2 (r : Rw) : decide (hd r ∈ [w_set, w_if]) = k2 r := by cases r <;> rfl
theorem kk3 (r : Rw) : decide (hd r ∈ [w_go, w_fork, w_if]) = k3 r := by cases r <;> rfl
theorem kk4 (r : Rw) : decide (hd r ∈ [w_go, w_back, w_stop]) = k4 r := by cases r <;> rfl
theorem ix0_row (r : Rw) : g_ix (eRw r) (.int 0) = .ok (tx (hd r)) := by
  unfold eRw
  rw [words_eq]
  simp
def progT (a b : Int) (ps : List Proc) : List Nat := TL.joinL [59, 32] (valT a b :: ps.map procT)
theorem progT_len {a b : Int} {ps : List Proc} (ha : V4 a) (hb : V4 b) (h : ∀ p ∈ ps, PSm p) (hl : ps.length ≤ 60) : (progT a b ps).length ≤ 3000000 := by
  have := joinL_len (s := [59, 32]) (k := 40000) (ps := valT a b :: ps.map procT) fun p hp => by
    rcases List.mem_cons.mp hp with rfl | hp
    · have := valT_len ha hb; omega
    · obtain ⟨q, hq, rfl⟩ := List.mem_map.mp hp
      exact procT_len (h q hq)
  have h2 : (valT a b :: ps.map procT).length * (40000 + 2) ≤ 61 * 40002 := Nat.mul_le_mul_right _ (by simp; omega)
  unfold progT
  simp only [List.length_cons, List.length_nil, List.length_map] at this h2
  omega
def dD (L : List (List Int)) : List D := L.map fun l => .lst (l.map D.int)
theorem dD_set (L : List (List Int)) (k : Nat) (l : List Int) : (dD L).set k (.lst (l.map D.int)) = dD (L.set k l) := by unfold dD; rw [List.map_set]
theorem dD_len (L : List (List Int)) : (dD L).length = L.length := by simp [dD]
theorem dD_get {L : List (List Int)} {k : Nat} {l : List Int} (h : L[k]? = some l) : (dD L)[k]? = some (.lst (l.map D.int)) := by unfold dD; rw [List.getElem?_map, h]; rfl
def ts1 (r : Rw) : List (List Nat × List Nat × D) := ([], hd r, tx (hd r)) :: ts r
theorem words_ts1 (r : Rw) : G4.wordsOf r = (ts1 r).map (·.2.2) := words_eq r
theorem sw_ts1 (r : Rw) : sw r = (ts1 r).map (·.2.1) := rfl
theorem str_num {v : Int} (h : NumOk v) : c_str [.int v] = .ok (tx (TL.numL v.toNat)) := by
  obtain ⟨n, rfl⟩ := Int.eq_ofNat_of_zero_le h.1
  exact c_str_num (Nat.lt_of_lt_of_le (show n < 1000 by have := h.2; omega) (by decide))
theorem ts1_str {r : Rw} (h : RwSm r) : ∀ t ∈ ts1 r, c_str [t.2.2] = .ok (tx t.2.1) := by
  intro t ht
  unfold ts1 at ht
  rcases List.mem_cons.mp ht with rfl | ht
  · rfl
  · cases r <;> simp only [ts, tW, tN, List.mem_cons, List.not_mem_nil, or_false] at ht
    · rcases ht with rfl | rfl
      · rfl
      · exact str_num h
    · subst ht; rfl
    · subst ht; rfl
    · rcases ht with rfl | rfl | rfl
      · rfl
      · exact str_num h.1
      · exact str_num h.2
    · subst ht; exact str_num h
    · subst ht; exact str_num h
    · subst ht; rfl
theorem str_v4 {a : Int} (h : V4 a) : c_str [.int a] = .ok (tx (TL.numL a.toNat)) := str_num ⟨by have := h.1; omega, by have := h.2; omega⟩
theorem lit_vals : D.str (Str.ofString "values ") = tx (w_values ++ [32]) := tx_lit _ (by decide +kernel)
theorem row_join {r : Rw} (h : RwSm r) : joinR ⟨[32].toArray⟩ (.lst ((sw r).map tx)) = .ok (tx (rowT r)) := by
  refine joinR_tx ?_
  have h1 := sum_le (fun l : List Nat => l.length) 8 (sw_len h).1
  have h2 := (sw_len h).2
  simp only [List.length_cons, List.length_nil]
  omega
end G16
namespace G17
open PySem L2 DL
def b_word : DSem :=
  (sSeq (sAsg [] 1 (vLstOf (nLst (aCons (vC (.str "call")) (aCons (vC (.str "back")) (aCons (vC (.str "values")) (aCons (vC (.str "own")) (aCons (vC (.str "shared")) (aCons (vC (.str "end")) (aCons (vC (.str "come")) (aCons (vC (.str "skip")) (aCons (vC (.str "stop")) (aCons (vC (.str "surely")) (aCons (vC (.str "longest")) (aCons (vC (.str "any")) aNil)))))))))))))))
  (sRet (v2 g_ix (vVar 1) (v2 g_mod (vVar 0) (vC (.int 12))))))
def m_word : List D → Res D := runF 2 (b_word)
def w_names_0 : DSem :=
  (sAsg [(1, .dp)] 3 (v2 g_add (vVar 3) (v2 g_ix (vC (.str "abcdefghijklmnopqrstuvwxyz")) (vCallN 3 G4.m_digit (aCons (v2 g_add (vVar 0) (v2 g_mul (v2 g_mul (vC (.int 5)) (vVar 4)) (vVar 4))) (aCons (vC (.int 1093)) (aCons (vC (.int 26)) aNil)))))))
def w_names_1 : DSem :=
  (sSeq (sAsg [(1, .dp)] 7 (v2 g_ix (vC (.str "bcdefghjklopqrstuvwxyz")) (v2 g_mod (v2 g_add (vVar 0) (v2 g_mul (vVar 4) (v2 g_add (vC (.int 1)) (v2 g_mod (v2 g_fdiv (vVar 0) (vC (.int 22))) (vC (.int 7)))))) (vC (.int 22)))))
  (sSeq (sAsg [(1, .dp)] 8 (v2 g_add (v2 g_add (vSl (vVar 3) oNone (oSome (vVar 5))) (vVar 7)) (vSl (vVar 3) (oSome (v2 g_add (vVar 5) (vC (.int 1)))) oNone)))
  (sSeq (sIf (vB (v2 g_eq (vVar 6) (vC (.int 2))))
  (sAsg [(1, .dp)] 8 (v2 g_add (vC (.str "main")) (vVar 7)))
  sNext)
  (sSeq (sIf (vB (v2 g_eq (vVar 6) (vC (.int 3))))
  (sAsg [(1, .dp)] 8 (vSl (vC (.str "main")) oNone (oSome (v2 g_add (vC (.int 1)) (vVar 4)))))
  sNext)
  (sSeq (sIf (vB (v2 g_eq (vVar 6) (vC (.int 4))))
  (sAsg [(1, .dp)] 8 (vCallN 1 G17.m_word (aCons (v2 g_add (v2 g_fdiv (vVar 0) (vC (.int 7))) (v2 g_mul (vVar 4) (v2 g_add (vC (.int 1)) (v2 g_mod (v2 g_fdiv (vVar 0) (vC (.int 12))) (vC (.int 5)))))) aNil)))
  sNext)
  (sAppI 1 (vVar 8)))))))
def r_names_8 : DSem :=
  (sRet (vLstI (nCat (v2 g_add (vSl (vVar 1) oNone (oSome (vVar 9))) (vLstOf (nLst (aCons (vC (.str "main")) aNil)))) (vSl (vVar 1) (oSome (vVar 9)) oNone))))
def r_names_7 : DSem :=
  (sSeq (sAsgI 9 (vCallN 3 G4.m_digit (aCons (vVar 0) (aCons (vC (.int 1091)) (aCons (v2 g_add (vCall c_len (aCons (vVar 1) aNil)) (vC (.int 1))) aNil)))))
  r_names_8)
def r_names_6 : DSem :=
  (sSeq (sFor [(1, .dp)] (iRange1 (vCallN 3 G4.m_digit (aCons (vVar 0) (aCons (vC (.int 1061)) (aCons (vC (.int 4)) aNil))))) [4] kName
  w_names_1
  [4, 7, 8])
  r_names_7)
def r_names_5 : DSem :=
  (sSeq (sAsg [(1, .dp)] 6 (vCallN 3 G4.m_digit (aCons (vVar 0) (aCons (vC (.int 1087)) (aCons (vC (.int 5)) aNil)))))
  r_names_6)
def r_names_4 : DSem :=
  (sSeq (sAsg [(1, .dp)] 5 (vCallN 3 G4.m_digit (aCons (vVar 0) (aCons (vC (.int 1069)) (aCons (vVar 2) aNil)))))
  r_names_5)
def r_names_3 : DSem :=
  (sSeq (sFor [(1, .dp)] (iRange1 (vVar 2)) [4] kName
  w_names_0
  [4])
  r_names_4)
def r_names_2 : DSem :=
  (sSeq (sAsg [(1, .dp)] 3 (vC (.str "")))
  r_names_3)
def r_names_1 : DSem :=
  (sSeq (sAsg [(1, .dp)] 2 (v2 g_add (vC (.int 1)) (vCallN 3 G4.m_digit (aCons (vVar 0) (aCons (vC (.int 1063)) (aCons (vC (.int 8)) aNil))))))
  r_names_2)
def r_names_0 : DSem :=
  (sSeq (sAsgV 1 (vLstI (nLst aNil)))
  r_names_1)
def b_names : DSem :=
  r_names_0
def m_names : List D → Res D := runF 10 (b_names)
open G4 G16
end G17
namespace G18
open PySem L2 DL
open G1 G4 G5 G8
@[simp] theorem neg2 (x y : D) : g_ix (.tup [x, y]) (.int (-1)) = .ok y := rfl
@[simp] theorem neg4 (x y z w : D) : g_ix (.tup [x, y, z, w]) (.int (-1)) = .ok w := rfl
theorem idx_side (sh : Bool) : gIdx [.str "shared", .str "own"] (eSide sh) = .ok (.int (if sh then 0 else 1)) := by
  unfold gIdx
  cases sh
  · rw [if_pos (by decide +kernel), show (pys [.str "shared", .str "own"]).findIdx? (fun z => PyData.eqv z (py (eSide false))) = some 1 by decide +kernel]
    rfl
  · rw [if_pos (by decide +kernel), show (pys [.str "shared", .str "own"]).findIdx? (fun z => PyData.eqv z (py (eSide true))) = some 0 by decide +kernel]
    rfl
def fst (ps : List Proc) (f : List Nat) : Nat := ((firstOf ps f).map (·.1)).getD 0
structure Small (v0 v1 : Int) : Prop where
  a0 : 0 < v0
  a1 : v0 ≤ 10
  b0 : 0 < v1
  b1 : v1 ≤ 10
def kT (l : List Nat) : Key := .inr ⟨l.toArray⟩
structure Env55 (v0 v1 : Int) (ps : List Proc) (nl : List (List Nat)) (L : List (List Nat × Nat)) : Prop where
  sm : Small v0 v1
  hL : ∀ f ∈ nl, lk L f = some (fst ps f)
  ha : ∀ p ∈ ps, asc p.1
  has : ∀ f ∈ nl, asc f ∧ ∃ x l, firstOf ps f = some (x, l)
end G18
namespace K53
open PySem L2 DL
def b_read_procedure : DSem :=
  (sSeq (sAsg [] 1 (vLstOf (nSplit (vVar 0) (vC (.str ": ")))))
  (sSeq (sIf (tOrD (vB (v2 g_ne (vCall c_len (aCons (vVar 1) aNil)) (vC (.int 2)))) (tNotD (vB (vCallN 1 G16.m_is_name (aCons (v2 g_ix (vVar 1) (vC (.int 0))) aNil)))))
  (sRaise "NoText")
  sNext)
  (sRet (vTup (aCons (v2 g_ix (vVar 1) (vC (.int 0))) (aCons (vLstOf (nCompX (iSeq (vLstOf (nSplit (v2 g_ix (vVar 1) (vC (.int 1))) (vC (.str ", "))))) [2] kName tTrue (vCallN 1 G16.m_read_row (aCons (vVar 2) aNil)) [2])) aNil))))))
def m_read_procedure : List D → Res D := runF 3 (b_read_procedure)
def r_read_6 : DSem :=
  (sRet (vVar 3))
def r_read_5 : DSem :=
  (sSeq (sDrop (vCallN 1 G16.m_look_over (aCons (vVar 3) aNil)))
  r_read_6)
def r_read_4 : DSem :=
  (sSeq (sAsg [] 3 (vTup (aCons (v2 g_ix (vVar 2) (vC (.int 0))) (aCons (v2 g_ix (vVar 2) (vC (.int 1))) (aCons (vLstOf (nCompX (iSeq (vSl (vVar 1) (oSome (vC (.int 1))) oNone)) [4] kName tTrue (vCallN 1 m_read_procedure (aCons (vVar 4) aNil)) [4])) aNil)))))
  r_read_5)
def r_read_3 : DSem :=
  (sSeq (sIf (vB (v2 (gI (fun i j => decide (i < j))) (vCall c_len (aCons (vVar 1) aNil)) (vC (.int 2))))
  (sRaise "NoText")
  sNext)
  r_read_4)
def r_read_2 : DSem :=
  (sSeq (sAsg [] 2 (vCallN 1 G16.m_read_values (aCons (v2 g_ix (vVar 1) (vC (.int 0))) aNil)))
  r_read_3)
def r_read_1 : DSem :=
  (sSeq (sAsg [] 1 (vLstOf (nSplit (vVar 0) (vC (.str "; ")))))
  r_read_2)
def r_read_0 : DSem :=
  (sSeq (sIf (tNotD (vB (v1 (g_isi "str") (vVar 0))))
  (sRaise "NoText")
  sNext)
  r_read_1)
def b_read : DSem :=
  r_read_0
def m_read : List D → Res D := runF 5 (b_read)
def w_stranger_0 : DSem :=
  (sIf (vB (v2 g_notin (vVar 1) (vVar 0)))
  (sRet (vVar 1))
  sNext)
def b_stranger : DSem :=
  (sSeq (sFor [] (iSeq (vLstOf (nLst (aCons (vC (.str "mains")) (aCons (vC (.str "mai")) (aCons (vC (.str "o")) (aCons (vC (.str "other")) (aCons (vC (.str "zzzzzzzz")) (aCons (vC (.str "maim")) aNil))))))))) [1] kName
  w_stranger_0
  [1])
  (sRet (vC (.str "nobody"))))
def m_stranger : List D → Res D := runF 2 (b_stranger)
def r_wrong_row_9 : DSem :=
  (sRet (vTup (aCons (vC (.str "skip")) aNil)))
def r_wrong_row_8 : DSem :=
  (sSeq (sIf (vB (v2 g_eq (vVar 7) (vC (.int 4))))
  (sRet (vTup (aCons (vC (.str "if")) (aCons (vVar 5) (aCons (vC (.int 0)) (aCons (v2 g_add (vVar 2) (vVar 6)) aNil))))))
  sNext)
  r_wrong_row_9)
def r_wrong_row_7 : DSem :=
  (sSeq (sIf (vB (v2 g_eq (vVar 7) (vC (.int 3))))
  (sRet (vTup (aCons (vC (.str "if")) (aCons (vVar 5) (aCons (v2 g_add (v2 g_ix (vVar 1) (vVar 4)) (vVar 6)) (aCons (v2 g_add (vVar 2) (vVar 6)) aNil))))))
  sNext)
  r_wrong_row_8)
def r_wrong_row_6 : DSem :=
  (sSeq (sIf (vB (v2 g_eq (vVar 7) (vC (.int 2))))
  (sRet (vTup (aCons (v2 g_ix (vLstOf (nLst (aCons (vC (.str "go")) (aCons (vC (.str "fork")) aNil)))) (vVar 4)) (aCons (v2 g_add (vVar 2) (vVar 6)) aNil))))
  sNext)
  r_wrong_row_7)
def r_wrong_row_5 : DSem :=
  (sSeq (sIf (vB (v2 g_eq (vVar 7) (vC (.int 1))))
  (sRet (vTup (aCons (vC (.str "set")) (aCons (vVar 5) (aCons (v2 g_add (v2 g_ix (vVar 1) (vVar 4)) (vVar 6)) aNil)))))
  sNext)
  r_wrong_row_6)
def r_wrong_row_4 : DSem :=
  (sSeq (sIf (vB (v2 g_eq (vVar 7) (vC (.int 0))))
  (sRet (vTup (aCons (vC (.str "call")) (aCons (vCallN 1 m_stranger (aCons (vVar 3) aNil)) aNil))))
  sNext)
  r_wrong_row_5)
def r_wrong_row_3 : DSem :=
  (sSeq (sAsg [] 7 (vCallN 3 G4.m_digit (aCons (vVar 0) (aCons (vC (.int 1109)) (aCons (vC (.int 6)) aNil)))))
  r_wrong_row_4)
def r_wrong_row_2 : DSem :=
  (sSeq (sAsg [] 6 (v2 g_ix (vLstOf (nLst (aCons (vC (.int 0)) (aCons (vC (.int 1)) (aCons (vC (.int 900)) aNil))))) (vCallN 3 G4.m_digit (aCons (vVar 0) (aCons (vC (.int 1019)) (aCons (vC (.int 3)) aNil))))))
  r_wrong_row_3)
def r_wrong_row_1 : DSem :=
  (sSeq (sAsg [] 5 (v2 g_ix (vLstOf (nLst (aCons (vC (.str "shared")) (aCons (vC (.str "own")) aNil)))) (vVar 4)))
  r_wrong_row_2)
def r_wrong_row_0 : DSem :=
  (sSeq (sAsg [] 4 (vCallN 3 G4.m_digit (aCons (vVar 0) (aCons (vC (.int 1013)) (aCons (vC (.int 2)) aNil)))))
  r_wrong_row_1)
def b_wrong_row : DSem :=
  r_wrong_row_0
def m_wrong_row : List D → Res D := runF 8 (b_wrong_row)
def w_loose_0 : DSem :=
  (sPAppI 5 (pIx 5 (pName 5) (vCallN 3 G4.m_digit (aCons (vVar 6) (aCons (vC (.int 1051)) (aCons (vCall c_len (aCons (vVar 2) aNil)) aNil))))) (vVar 6))
def w_loose_2 : DSem :=
  (sSeq (sAsg [(11, .dp), (7, .sh), (5, .dp)] 13 (vCallN 5 G4.m_row (aCons (vVar 6) (aCons (vVar 1) (aCons (vCall c_len (aCons (vVar 10) aNil)) (aCons (vVar 2) (aCons (v2 g_eq (vVar 12) (v2 g_sub (vCall c_len (aCons (vVar 10) aNil)) (vC (.int 1)))) aNil)))))))
  (sSeq (sIf (vB (v2 g_eq (vCallN 3 G4.m_digit (aCons (vVar 6) (aCons (vC (.int 1117)) (aCons (vVar 4) aNil)))) (vC (.int 4))))
  (sAsg [(11, .dp), (7, .sh), (5, .dp)] 13 (vCallN 4 m_wrong_row (aCons (vVar 6) (aCons (vVar 1) (aCons (vCall c_len (aCons (vVar 10) aNil)) (aCons (vVar 2) aNil))))))
  sNext)
  (sAppI 11 (vVar 13))))
def w_loose_3 : DSem :=
  (sSeq (sAsgV 10 (vLstI (nCat (v2 g_ix (vVar 5) (vVar 8)) (vLstOf (nLst (aCons (v2 g_add (vVar 3) (v2 g_mul (v2 g_mul (vC (.int 7)) (vVar 8)) (vVar 8))) aNil))))))
  (sSeq (sAsgV 11 (vLstI (nLst aNil)))
  (sSeq (sFor [(11, .dp), (7, .sh), (5, .dp)] (iEnumD (vVar 10)) [12, 6] (kTup 2 (ksCons kName (ksCons kName ksNil)))
  w_loose_2
  [6, 12, 13])
  (sApp [(7, .sh), (5, .dp)] 7 (vTup (aCons (vVar 9) (aCons (vVar 11) aNil)))))))
def b_loose : DSem :=
  (sSeq (sAsg [] 4 (v2 g_ix (vLstOf (nLst (aCons (vC (.int 9)) (aCons (vC (.int 61)) aNil)))) (vCallN 3 G4.m_digit (aCons (vVar 3) (aCons (vC (.int 1163)) (aCons (vC (.int 2)) aNil))))))
  (sSeq (sAsgV 5 (vLstOf (nComp (iSeq (vVar 2)) [9] kName tTrue (vLstI (nLst aNil)) [9])))
  (sSeq (sFor [(5, .dp)] (iSeq (vVar 0)) [6] kName
  w_loose_0
  [6])
  (sSeq (sAsg [(5, .dp)] 7 (vLstOf (nLst aNil)))
  (sSeq (sFor [(7, .sh), (5, .dp)] (iEnumD (vVar 2)) [8, 9] (kTup 2 (ksCons kName (ksCons kName ksNil)))
  w_loose_3
  [6, 8, 9, 10, 11, 12, 13])
  (sRet (vTup (aCons (v2 g_ix (vVar 1) (vC (.int 0))) (aCons (v2 g_ix (vVar 1) (vC (.int 1))) (aCons (vVar 7) aNil))))))))))
def m_loose : List D → Res D := runF 14 (b_loose)
def b_row_word : DSem :=
  (sSeq (sAsg [] 4 (v2 g_ix (vVar 2) (vVar 3)))
  (sSeq (sIf (tAndD (vB (v2 g_eq (v2 g_ix (vVar 4) (vC (.int 0))) (vC (.str "call")))) (vB (v2 g_notin (v2 g_ix (vVar 4) (vC (.int 1))) (vVar 1))))
  (sRet (vC (.str "name")))
  sNext)
  (sSeq (sIf (tOrD (vB (v2 g_eq (v2 g_ix (vVar 4) (vC (.int 0))) (vC (.str "set")))) (vB (v2 g_eq (v2 g_ix (vVar 4) (vC (.int 0))) (vC (.str "if")))))
  (sIf (vB (v2 (gI (fun i j => decide (j ≤ i))) (v2 g_ix (vVar 4) (vC (.int 2))) (v2 g_ix (vLstOf (nLst (aCons (v2 g_ix (vVar 0) (vC (.int 0))) (aCons (v2 g_ix (vVar 0) (vC (.int 1))) aNil)))) (vIndex (vLstOf (nLst (aCons (vC (.str "shared")) (aCons (vC (.str "own")) aNil)))) (v2 g_ix (vVar 4) (vC (.int 1)))))))
  (sRet (vC (.str "value")))
  sNext)
  sNext)
  (sSeq (sIf (tOrD (vB (v2 g_eq (v2 g_ix (vVar 4) (vC (.int 0))) (vC (.str "go")))) (tOrD (vB (v2 g_eq (v2 g_ix (vVar 4) (vC (.int 0))) (vC (.str "fork")))) (vB (v2 g_eq (v2 g_ix (vVar 4) (vC (.int 0))) (vC (.str "if"))))))
  (sIf (vB (v2 (gI (fun i j => decide (j ≤ i))) (v2 g_ix (vVar 4) (v1 g_neg (vC (.int 1)))) (vCall c_len (aCons (vVar 2) aNil))))
  (sRet (vC (.str "row")))
  sNext)
  sNext)
  (sSeq (sIf (tAndD (vB (v2 g_eq (vVar 3) (v2 g_sub (vCall c_len (aCons (vVar 2) aNil)) (vC (.int 1))))) (tAndD (vB (v2 g_ne (v2 g_ix (vVar 4) (vC (.int 0))) (vC (.str "go")))) (tAndD (vB (v2 g_ne (v2 g_ix (vVar 4) (vC (.int 0))) (vC (.str "back")))) (vB (v2 g_ne (v2 g_ix (vVar 4) (vC (.int 0))) (vC (.str "stop")))))))
  (sRet (vC (.str "row")))
  sNext)
  (sRet (vC (.str "none"))))))))
def m_row_word : List D → Res D := runF 5 (b_row_word)
def w_word_0 : DSem :=
  (sIf (vB (v2 g_in (vVar 3) (vSl (vVar 1) oNone (oSome (vVar 2)))))
  (sRet (vC (.str "twice")))
  sNext)
def w_word_1 : DSem :=
  (sSeq (sAsg [] 6 (vCallN 4 m_row_word (aCons (vVar 0) (aCons (vVar 1) (aCons (vVar 4) (aCons (vVar 5) aNil))))))
  (sIf (vB (v2 g_ne (vVar 6) (vC (.str "none"))))
  (sRet (vVar 6))
  sNext))
def w_word_2 : DSem :=
  (sFor [] (iRange1 (vCall c_len (aCons (vVar 4) aNil))) [5] kName
  w_word_1
  [5, 6])
def b_word : DSem :=
  (sSeq (sAsg [] 1 (vLstOf (nComp (iSeq (v2 g_ix (vVar 0) (vC (.int 2)))) [3, 4] (kTup 2 (ksCons kName (ksCons kName ksNil))) tTrue (vVar 3) [3, 4])))
  (sSeq (sFor [] (iEnumD (vVar 1)) [2, 3] (kTup 2 (ksCons kName (ksCons kName ksNil)))
  w_word_0
  [2, 3])
  (sSeq (sIf (vB (v2 g_notin (vC (.str "main")) (vVar 1)))
  (sRet (vC (.str "name")))
  sNext)
  (sSeq (sFor [] (iSeq (v2 g_ix (vVar 0) (vC (.int 2)))) [3, 4] (kTup 2 (ksCons kName (ksCons kName ksNil)))
  w_word_2
  [3, 4, 5, 6])
  (sRet (vC (.str "none")))))))
def m_word : List D → Res D := runF 7 (b_word)
def b_odd_row : DSem :=
  (sSeq (sAsg [] 1 (vLstOf (nLst (aCons (vC (.str "")) (aCons (vC (.str "skip 1")) (aCons (vC (.str "skip ")) (aCons (vC (.str "set own")) (aCons (vC (.str "set 1")) (aCons (vC (.str "set both 1")) (aCons (vC (.str "set own 01")) (aCons (vC (.str "set own 1000")) (aCons (vC (.str "set shared -1")) aNil))))))))))))
  (sSeq (sAsg [] 1 (v2 g_add (vVar 1) (vLstOf (nLst (aCons (vC (.str "set shared x")) (aCons (vC (.str "any")) (aCons (vC (.str "any mine")) (aCons (vC (.str "any own 1")) (aCons (vC (.str "turn")) (aCons (vC (.str "if own 1")) (aCons (vC (.str "if own 1 2 3")) (aCons (vC (.str "if own 01 2")) aNil))))))))))))
  (sSeq (sAsg [] 1 (v2 g_add (vVar 1) (vLstOf (nLst (aCons (vC (.str "if own 1 02")) (aCons (vC (.str "if 1 2")) (aCons (vC (.str "go")) (aCons (vC (.str "go f")) (aCons (vC (.str "go 00")) (aCons (vC (.str "go 1 2")) (aCons (vC (.str "fork")) (aCons (vC (.str "fork 0001")) (aCons (vC (.str "call")) (aCons (vC (.str "call F")) aNil))))))))))))))
  (sSeq (sAsg [] 1 (v2 g_add (vVar 1) (vLstOf (nLst (aCons (vC (.str "call f1")) (aCons (vC (.str "call abcdefghi")) (aCons (vC (.str "call f f")) (aCons (vC (.str "back 0")) (aCons (vC (.str "stop 0")) (aCons (vC (.str "Stop")) (aCons (vC (.str "jump 1")) (aCons (vC (.str "values 1 1")) (aCons (vC (.str "go +1")) aNil)))))))))))))
  (sSeq (sAsg [] 1 (v2 g_add (vVar 1) (vLstOf (nLst (aCons (vC (.str "1")) aNil)))))
  (sRet (v2 g_ix (vVar 1) (vCallN 3 G4.m_digit (aCons (vVar 0) (aCons (vC (.int 1123)) (aCons (vC (.int 37)) aNil)))))))))))
def m_odd_row : List D → Res D := runF 2 (b_odd_row)
def b_odd_first : DSem :=
  (sSeq (sAsg [] 1 (vLstOf (nLst (aCons (vC (.str "values 0 1")) (aCons (vC (.str "values 1 5")) (aCons (vC (.str "values 2")) (aCons (vC (.str "values")) (aCons (vC (.str "values 1 1 1")) (aCons (vC (.str "value 1 1")) (aCons (vC (.str "values 01 1")) (aCons (vC (.str "values 1 -1")) aNil)))))))))))
  (sSeq (sAsg [] 1 (v2 g_add (vVar 1) (vLstOf (nLst (aCons (vC (.str "values 10 1")) (aCons (vC (.str "Values 1 1")) (aCons (vC (.str "")) (aCons (vC (.str "values x 1")) (aCons (vC (.str "1 1")) (aCons (vC (.str "values 1 1 ")) aNil))))))))))
  (sRet (v2 g_ix (vVar 1) (vCallN 3 G4.m_digit (aCons (vVar 0) (aCons (vC (.int 1123)) (aCons (vC (.int 14)) aNil))))))))
def m_odd_first : List D → Res D := runF 2 (b_odd_first)
def b_odd_text : DSem :=
  (sSeq (sAsg [] 1 (vLstOf (nLst (aCons (vC (.str "")) (aCons (vC (.str "values 2 1")) (aCons (vC (.str "values 2 1; ")) (aCons (vC (.str "values 2 1;")) (aCons (vC (.str "main: stop")) (aCons (vC (.str "values 1 1; main")) (aCons (vC (.str "values 1 1; main:")) aNil))))))))))
  (sSeq (sAsg [] 1 (v2 g_add (vVar 1) (vLstOf (nLst (aCons (vC (.str "values 1 1; main: ")) (aCons (vC (.str "values 1 1; main: stop, ")) (aCons (vC (.str "values 1 1; main: stop;")) aNil)))))))
  (sSeq (sAsg [] 1 (v2 g_add (vVar 1) (vLstOf (nLst (aCons (vC (.str "values 1 1; main: stop; ")) (aCons (vC (.str "values 1 1, main: stop")) (aCons (vC (.str "values 1 1; main: stop, f: stop")) aNil)))))))
  (sSeq (sAsg [] 1 (v2 g_add (vVar 1) (vLstOf (nLst (aCons (vC (.str "values 1 1; main: f: stop")) (aCons (vC (.str "; values 1 1; main: stop")) (aCons (vC (.str "values 1 1; values 1 1; main: stop")) aNil)))))))
  (sRet (v2 g_ix (vVar 1) (vCallN 3 G4.m_digit (aCons (vVar 0) (aCons (vC (.int 1123)) (aCons (vC (.int 16)) aNil))))))))))
def m_odd_text : List D → Res D := runF 2 (b_odd_text)
def w_pieces_0 : DSem :=
  (sThen (sSeq (sAsg [(3, .sh)] 6 (vLstOf (nComp (iSeq (v2 g_ix (v2 g_ix (v2 g_ix (vVar 0) (vC (.int 2))) (vVar 5)) (vC (.int 1)))) [8] kName tTrue (vJoin (vC (.str " ")) (vLstOf (nComp (iSeq (vVar 8)) [9] kName tTrue (vCall c_str (aCons (vVar 9) aNil)) [9]))) [8])))
  (sSeq (sIf (tAndD (vB (v2 g_eq (vVar 1) (vC (.int 3)))) (vB (v2 g_eq (vVar 5) (vVar 4))))
  (sSetL [(6, .sh), (3, .sh)] 6 (vCallN 3 G4.m_digit (aCons (vVar 2) (aCons (vC (.int 1151)) (aCons (vCall c_len (aCons (vVar 6) aNil)) aNil)))) (vCallN 1 m_odd_row (aCons (vVar 2) aNil)))
  sNext)
  (sSeq (sAsg [(6, .sh), (3, .sh)] 7 (v2 g_ix (v2 g_ix (v2 g_ix (vVar 0) (vC (.int 2))) (vVar 5)) (vC (.int 0))))
  (sSeq (sIf (tAndD (vB (v2 g_eq (vVar 1) (vC (.int 5)))) (vB (v2 g_eq (vVar 5) (vVar 4))))
  (sAsg [(6, .sh), (3, .sh)] 7 (v2 g_ix (vLstOf (nLst (aCons (vC (.str "")) (aCons (vC (.str "F")) (aCons (vC (.str "f1")) (aCons (vC (.str "abcdefghi")) (aCons (vC (.str "f f")) (aCons (vC (.str "main ")) (aCons (vC (.str "1")) aNil))))))))) (vCallN 3 G4.m_digit (aCons (vVar 2) (aCons (vC (.int 1123)) (aCons (vC (.int 7)) aNil))))))
  sNext)
  (sAppI 3 (v2 g_add (v2 g_add (vVar 7) (vC (.str ": "))) (vJoin (vC (.str ", ")) (vVar 6)))))))) fun ρ => ρ.set 6 none)
def b_pieces : DSem :=
  (sSeq (sAsg [] 3 (vLstOf (nLst (aCons (v2 g_add (v2 g_add (v2 g_add (vC (.str "values ")) (vCall c_str (aCons (v2 g_ix (vVar 0) (vC (.int 0))) aNil))) (vC (.str " "))) (vCall c_str (aCons (v2 g_ix (vVar 0) (vC (.int 1))) aNil))) aNil))))
  (sSeq (sIf (vB (v2 g_eq (vVar 1) (vC (.int 4))))
  (sAsg [(3, .sh)] 3 (vLstOf (nLst (aCons (vCallN 1 m_odd_first (aCons (vVar 2) aNil)) aNil))))
  sNext)
  (sSeq (sAsg [(3, .sh)] 4 (vCallN 3 G4.m_digit (aCons (vVar 2) (aCons (vC (.int 1129)) (aCons (vCall c_len (aCons (v2 g_ix (vVar 0) (vC (.int 2))) aNil)) aNil)))))
  (sSeq (sFor [(3, .sh)] (iRange1 (vCall c_len (aCons (v2 g_ix (vVar 0) (vC (.int 2))) aNil))) [5] kName
  w_pieces_0
  [5, 6, 7])
  (sRet (vJoin (vC (.str "; ")) (vVar 3)))))))
def m_pieces : List D → Res D := runF 10 (b_pieces)
def b_spoilt : DSem :=
  (sSeq (sIf (vB (v2 g_eq (vVar 1) (vC (.int 0))))
  (sSeq (sAsg [] 3 (vC (.str "!\"#$&'()*+-./<=>?@ABCDEFGHIJKLMNOPQRSTUVWXYZ[\\]^_`{|}~\n\t")))
  (sSeq (sAsg [] 4 (vCallN 3 G4.m_digit (aCons (vVar 2) (aCons (vC (.int 9973)) (aCons (v2 g_add (vCall c_len (aCons (vVar 0) aNil)) (vC (.int 1))) aNil)))))
  (sRet (v2 g_add (v2 g_add (vSl (vVar 0) oNone (oSome (vVar 4))) (v2 g_ix (vVar 3) (vCallN 3 G4.m_digit (aCons (vVar 2) (aCons (vC (.int 1123)) (aCons (vCall c_len (aCons (vVar 3) aNil)) aNil)))))) (vSl (vVar 0) (oSome (vVar 4)) oNone)))))
  sNext)
  (sSeq (sIf (vB (v2 g_eq (vVar 1) (vC (.int 8))))
  (sSeq (sAsg [] 5 (vLstOf (nComp (iRange2 (vC (.int 1)) (vCall c_len (aCons (vVar 0) aNil))) [4] kName (tAndD (vB (v2 g_eq (v2 g_ix (vVar 0) (v2 g_sub (vVar 4) (vC (.int 1)))) (vC (.str " ")))) (vB (v2 g_in (v2 g_ix (vVar 0) (vVar 4)) (vC (.str "0123456789"))))) (vVar 4) [4])))
  (sSeq (sAsg [] 4 (v2 g_ix (vVar 5) (vCallN 3 G4.m_digit (aCons (vVar 2) (aCons (vC (.int 9973)) (aCons (vCall c_len (aCons (vVar 5) aNil)) aNil))))))
  (sRet (v2 g_add (v2 g_add (vSl (vVar 0) oNone (oSome (vVar 4))) (vC (.str "0"))) (vSl (vVar 0) (oSome (vVar 4)) oNone)))))
  sNext)
  (sSeq (sAsg [] 6 (vLstOf (nComp (iRange1 (vCall c_len (aCons (vVar 0) aNil))) [4] kName (vB (v2 g_eq (v2 g_ix (vVar 0) (vVar 4)) (vC (.str " ")))) (vVar 4) [4])))
  (sSeq (sAsg [] 4 (v2 g_ix (vVar 6) (vCallN 3 G4.m_digit (aCons (vVar 2) (aCons (vC (.int 9973)) (aCons (vCall c_len (aCons (vVar 6) aNil)) aNil))))))
  (sSeq (sIf (vB (v2 g_eq (vVar 1) (vC (.int 1))))
  (sRet (v2 g_add (v2 g_add (vSl (vVar 0) oNone (oSome (vVar 4))) (vC (.str " "))) (vSl (vVar 0) (oSome (vVar 4)) oNone)))
  sNext)
  (sRet (v2 g_add (vSl (vVar 0) oNone (oSome (vVar 4))) (vSl (vVar 0) (oSome (v2 g_add (vVar 4) (vC (.int 1)))) oNone))))))))
def m_spoilt : List D → Res D := runF 7 (b_spoilt)
def b_law_read : DSem :=
  (sSeq (sAsg [] 1 (vC (.str "none")))
  (sSeq (sAsg [] 2 (vC .non))
  (sSeq (sTry (sAsg [] 2 (vCallN 1 m_read (aCons (vVar 0) aNil)))
  [([("NoName", false), ("NoRow", false), ("NoText", true), ("NoValue", false), ("Twice", false)], (sAsg [] 1 (vC (.str "text")))),
  ([("NoName", false), ("NoRow", false), ("NoText", false), ("NoValue", false), ("Twice", true)], (sAsg [] 1 (vC (.str "twice")))),
  ([("NoName", true), ("NoRow", false), ("NoText", false), ("NoValue", false), ("Twice", false)], (sAsg [] 1 (vC (.str "name")))),
  ([("NoName", false), ("NoRow", false), ("NoText", false), ("NoValue", true), ("Twice", false)], (sAsg [] 1 (vC (.str "value")))),
  ([("NoName", false), ("NoRow", true), ("NoText", false), ("NoValue", false), ("Twice", false)], (sAsg [] 1 (vC (.str "row"))))])
  (sRet (vTup (aCons (vVar 1) (aCons (vVar 2) aNil)))))))
def m_law_read : List D → Res D := runF 3 (b_law_read)
def b_named : DSem :=
  (sSeq (sAsg [] 2 (vCallN 3 G4.m_digit (aCons (vVar 0) (aCons (vC (.int 1097)) (aCons (vC (.int 9)) aNil)))))
  (sSeq (sIf (vB (v2 g_eq (vVar 2) (vC (.int 3))))
  (sRet (v2 g_add (vSl (vVar 1) oNone (oSome (v1 g_neg (vC (.int 1))))) (vLstOf (nRep (nLst (aCons (v2 g_ix (vVar 1) (vC (.int 0))) aNil)) (v2 g_add (vC (.int 1)) (vCall c_int (aCons (v2 g_eq (vCall c_len (aCons (vVar 1) aNil)) (vC (.int 1))) aNil)))))))
  sNext)
  (sSeq (sIf (vB (v2 g_eq (vVar 2) (vC (.int 5))))
  (sRet (vLstOf (nComp (iSeq (vVar 1)) [3] kName tTrue (v2 g_ix (vLstOf (nLst (aCons (vC (.str "q")) (aCons (vVar 3) aNil)))) (vCall c_int (aCons (v2 g_ne (vVar 3) (vC (.str "main"))) aNil))) [3])))
  sNext)
  (sRet (vVar 1)))))
def m_named : List D → Res D := runF 4 (b_named)
def r_law_13 : DSem :=
  (sRet (vAnd (v2 g_eq (v2 g_ix (vVar 8) (vC (.int 0))) (vC (.str "none"))) (vCallN 2 G4.m_same (aCons (v2 g_ix (vVar 8) (vC (.int 1))) (aCons (vVar 4) aNil)))))
def r_law_12 : DSem :=
  (sSeq (sIf (vB (v2 g_ne (vVar 7) (vC (.str "none"))))
  (sRet (v2 g_eq (v2 g_ix (vVar 8) (vC (.int 0))) (vVar 7)))
  sNext)
  r_law_13)
def r_law_11 : DSem :=
  (sSeq (sAsg [] 8 (vCallN 1 m_law_read (aCons (vVar 6) aNil)))
  r_law_12)
def r_law_10 : DSem :=
  (sSeq (sIf (vB (v2 (gI (fun i j => decide (i ≤ j))) (vVar 5) (vC (.int 8))))
  (sAsg [] 7 (vC (.str "text")))
  sNext)
  r_law_11)
def r_law_9 : DSem :=
  (sSeq (sIf (vB (v2 g_eq (vVar 5) (vC (.int 7))))
  (sAsg [] 6 (v2 g_ix (vLstOf (nLst (aCons (vC .non) (aCons (vC (.int 7)) (aCons (vC (.bl true)) (aCons (vLstOf (nLst (aCons (vVar 6) aNil))) (aCons (vTup (aCons (vVar 6) aNil)) (aCons (vDisp1 (vVar 6) (vVar 6)) aNil)))))))) (vCallN 3 G4.m_digit (aCons (vVar 1) (aCons (vC (.int 1123)) (aCons (vC (.int 6)) aNil))))))
  sNext)
  r_law_10)
def r_law_8 : DSem :=
  (sSeq (sIf (vB (v2 g_eq (vVar 5) (vC (.int 6))))
  (sAsg [] 6 (vCallN 1 m_odd_text (aCons (vVar 1) aNil)))
  sNext)
  r_law_9)
def r_law_7 : DSem :=
  (sSeq (sIf (tOrD (vB (v2 (gI (fun i j => decide (i ≤ j))) (vVar 5) (vC (.int 2)))) (vB (v2 g_eq (vVar 5) (vC (.int 8)))))
  (sAsg [] 6 (vCallN 3 m_spoilt (aCons (vVar 6) (aCons (vVar 5) (aCons (vVar 1) aNil)))))
  sNext)
  r_law_8)
def r_law_6 : DSem :=
  (sSeq (sAsg [] 7 (vCallN 1 m_word (aCons (vVar 4) aNil)))
  r_law_7)
def r_law_5 : DSem :=
  (sSeq (sAsg [] 6 (vCallN 3 m_pieces (aCons (vVar 4) (aCons (vVar 5) (aCons (vVar 1) aNil)))))
  r_law_6)
def r_law_4 : DSem :=
  (sSeq (sAsg [] 5 (v2 g_ix (vLstOf (nLst (aCons (vC (.int 0)) (aCons (vC (.int 1)) (aCons (vC (.int 2)) (aCons (vC (.int 3)) (aCons (vC (.int 3)) (aCons (vC (.int 3)) (aCons (vC (.int 4)) (aCons (vC (.int 5)) (aCons (vC (.int 6)) (aCons (vC (.int 7)) (aCons (vC (.int 8)) (aCons (vC (.int 8)) (aCons (vC (.int 9)) aNil))))))))))))))) (vCall c_min2 (aCons (vC (.int 12)) (aCons (vCallN 3 G4.m_digit (aCons (vVar 1) (aCons (vC (.int 1117)) (aCons (vC (.int 24)) aNil)))) aNil)))))
  r_law_5)
def r_law_3 : DSem :=
  (sSeq (sAsg [] 4 (vCallN 4 m_loose (aCons (vSl (vVar 0) (oSome (vC (.int 2))) (oSome (vC (.int 62)))) (aCons (vVar 2) (aCons (vVar 3) (aCons (vVar 1) aNil))))))
  r_law_4)
def r_law_2 : DSem :=
  (sSeq (sAsg [] 3 (vCallN 2 m_named (aCons (vVar 1) (aCons (vCallN 1 G4.m_names (aCons (vCallN 2 G4.m_cell_at (aCons (vVar 0) (aCons (vC (.int 1)) aNil))) aNil)) aNil))))
  r_law_3)
def r_law_1 : DSem :=
  (sSeq (sAsg [] 2 (vLstOf (nLst (aCons (v2 g_add (vC (.int 1)) (vCallN 3 G4.m_digit (aCons (vVar 1) (aCons (vC (.int 1033)) (aCons (vC (.int 4)) aNil))))) (aCons (v2 g_add (vC (.int 1)) (vCallN 3 G4.m_digit (aCons (vVar 1) (aCons (vC (.int 1039)) (aCons (vC (.int 4)) aNil))))) aNil)))))
  r_law_2)
def r_law_0 : DSem :=
  (sSeq (sAsg [] 1 (vCallN 2 G4.m_cell_at (aCons (vVar 0) (aCons (vC (.int 0)) aNil))))
  r_law_1)
def b_law : DSem :=
  r_law_0
def m_law : List D → Res D := runF 9 (b_law)
end K53
namespace DL
open PySem L2
theorem e_compX {fi : DL.Env → Res (List D)} {is vs : List Nat} {ks : D → Res (List D)} {ft : DL.Env → Res Bool} {f : DL.Env → Res D} {ρ : DL.Env} : nCompX fi is ks ft f vs ρ = (fi ρ).thn fun ds => if ds.length ≤ sizeLine then compLX is ks ft f (wipeE ρ vs) ds else .no := by
  unfold nCompX; cases fi ρ <;> rfl
theorem compLX_ok {β : Type} {is : List Nat} {ks : D → Res (List D)} {fe : DL.Env → Res D} {ρ : DL.Env} (enc : β → D) (g : β → D) : ∀ {ys : List β}, (∀ y ∈ ys, elt1 is ks fe ρ (enc y) = .ok (g y)) → compLX is ks tTrue fe ρ (ys.map enc) = .ok (ys.map g)
  | [], _ => rfl
  | y :: r, h => by
    have h1 := h y (by simp)
    unfold elt1 at h1
    have ih := compLX_ok (is := is) (ks := ks) (fe := fe) (ρ := ρ) enc g (ys := r) fun z hz => h z (List.mem_cons_of_mem _ hz)
    cases q : ks (enc y) with
    | ok l =>
      rw [q, thn_ok] at h1
      simp only [List.map_cons, compLX, q, noEx, Res.bind_ok, tTrue, if_pos, h1, ih]
    | ex c => rw [q] at h1; cases h1
    | no => rw [q] at h1; cases h1
theorem compLX_two {α β : Type} {is : List Nat} {ks : D → Res (List D)} {fe : DL.Env → Res D} {ρ : DL.Env} (enc : α → D) (t : β → α) (g : β → D) (P : β → Prop) (c : Str) (hk : ∀ d, ks d = .ok [d]) (hg : ∀ y, P y → elt1 is ks fe ρ (enc (t y)) = .ok (g y)) :
    ∀ {xs : List α}, (∀ x ∈ xs, (∃ y, P y ∧ x = t y) ∨ elt1 is ks fe ρ (enc x) = .ex c) → (∃ ys, xs = List.map t ys ∧ (∀ y ∈ ys, P y)) ∨ compLX is ks tTrue fe ρ (xs.map enc) = .ex c
  | [], _ => .inl ⟨[], rfl, by simp⟩
  | x :: r, h => by
    have h1 := h x (by simp)
    have ih := compLX_two (is := is) (ks := ks) (fe := fe) (ρ := ρ) enc t g P c hk hg (xs := r) fun z hz => h z (List.mem_cons_of_mem _ hz)
    rcases h1 with ⟨y, py, rfl⟩ | h1
    · rcases ih with ⟨ys, rfl, h2⟩ | ih
      · exact .inl ⟨y :: ys, rfl, fun z hz => by rcases List.mem_cons.mp hz with rfl | hz; exact py; exact h2 z hz⟩
      · have := hg y py
        unfold elt1 at this
        rw [hk, thn_ok] at this
        exact .inr (by simp only [List.map_cons, compLX, hk, noEx, Res.bind_ok, tTrue, if_pos, this, ih]; rfl)
    · unfold elt1 at h1
      rw [hk, thn_ok] at h1
      exact .inr (by simp only [List.map_cons, compLX, hk, noEx, Res.bind_ok, tTrue, if_pos, h1]; rfl)
end DL
namespace K53
open PySem L2 DL G4 G16
theorem joinL_cons {s p : List Nat} {q : List (List Nat)} (h : q ≠ []) : TL.joinL s (p :: q) = p ++ (s ++ TL.joinL s q) := by
  cases q with
  | nil => exact absurd rfl h
  | cons a r => rfl
theorem spl_ne (s : List Nat) : ∀ (l : List Nat) (k : Nat) (acc : List Nat), TL.spl s k acc l ≠ []
  | [], k, acc => by cases k <;> simp [TL.spl]
  | c :: r, 0, acc => by
    unfold TL.spl
    split
    · simp
    · exact spl_ne s r _ _
  | c :: r, k + 1, acc => by unfold TL.spl; exact spl_ne s r _ _
theorem join_spl {s : List Nat} (hs : s ≠ []) : ∀ (l : List Nat) (k : Nat) (acc : List Nat), TL.joinL s (TL.spl s k acc l) = acc ++ l.drop k
  | [], k, acc => by cases k <;> simp [TL.spl, TL.joinL]
  | c :: r, 0, acc => by
    unfold TL.spl
    split
    · rename_i h
      rw [joinL_cons (spl_ne _ _ _ _), join_spl hs r]
      have h : (c :: r).take s.length = s := by simpa [TL.pre] using h
      have e : s ++ (c :: r).drop s.length = c :: r := by
        conv => lhs; rw [← h]
        rw [List.length_take]
        have hl := congrArg List.length h
        rw [List.length_take] at hl
        rw [hl]; exact List.take_append_drop _ _
      have p : 0 < s.length := List.length_pos_iff.mpr hs
      rw [show (c :: r).drop s.length = r.drop (s.length - 1) by conv => lhs; rw [show s.length = (s.length - 1) + 1 by omega, List.drop_succ_cons]] at e
      simp [e]
    · rw [join_spl hs r]; simp
  | c :: r, k + 1, acc => by unfold TL.spl; rw [join_spl hs r]; rfl
theorem join_spl0 {s : List Nat} (hs : s ≠ []) (l : List Nat) : TL.joinL s (TL.spl s 0 [] l) = l := by rw [join_spl hs]; simp
theorem mem_join {s : List Nat} {p : List Nat} {c : Nat} : ∀ {ps : List (List Nat)}, p ∈ ps → c ∈ p → c ∈ TL.joinL s ps
  | [q], h, hc => by simp at h; subst h; exact hc
  | q :: q2 :: r, h, hc => by
    rw [joinL_cons (by simp)]
    rcases List.mem_cons.mp h with rfl | h
    · exact List.mem_append_left _ hc
    · exact List.mem_append_right _ (List.mem_append_right _ (mem_join h hc))
theorem spl_mem {s l p : List Nat} (hs : s ≠ []) (h : p ∈ TL.spl s 0 [] l) {c : Nat} (hc : c ∈ p) : c ∈ l := by
  have := mem_join (s := s) h hc
  rwa [join_spl0 hs] at this
theorem len_join {s : List Nat} {p : List Nat} : ∀ {ps : List (List Nat)}, p ∈ ps → p.length ≤ (TL.joinL s ps).length
  | [q], h => by simp at h; subst h; exact Nat.le_refl _
  | q :: q2 :: r, h => by
    rw [joinL_cons (by simp)]
    simp only [List.length_append]
    rcases List.mem_cons.mp h with rfl | h
    · omega
    · have := len_join (s := s) h; omega
theorem spl_len {s l p : List Nat} (hs : s ≠ []) (h : p ∈ TL.spl s 0 [] l) : p.length ≤ l.length := by
  have := len_join (s := s) h
  rwa [join_spl0 hs] at this
theorem num_join {s : List Nat} (hs : s ≠ []) : ∀ {ps : List (List Nat)}, ps.length ≤ (TL.joinL s ps).length + 1
  | [] => by simp
  | [q] => by simp
  | q :: q2 :: r => by
    rw [joinL_cons (by simp)]
    have := num_join hs (ps := q2 :: r)
    have p : 0 < s.length := List.length_pos_iff.mpr hs
    simp only [List.length_append, List.length_cons] at *
    omega
theorem spl_num {s l : List Nat} (hs : s ≠ []) : (TL.spl s 0 [] l).length ≤ l.length + 1 := by
  have := num_join hs (ps := TL.spl s 0 [] l)
  rwa [join_spl0 hs] at this
theorem figs_iff {c : Nat} : c ∈ figs ↔ 48 ≤ c ∧ c ≤ 57 := ⟨fun h => by revert c; unfold figs; decide, mem_figs⟩
theorem signs_in {t : Str} {ls : List Nat} (ht : D.str t = tx ls) (a : List Nat) (x : Option D) : compL [1] kName tTrue (v2 g_in (vVar 1) (vC (.str t))) [x, none] (a.map fun c => tx [c]) = .ok (a.map fun c => D.bl (decide (c ∈ ls))) :=
  compL_eq (fun c => D.bl (decide (c ∈ ls))) fun c hc => by
    simp -implicitDefEqProofs [ht, g_in_sign, -g_in_eq]
theorem all_dec (p : Nat → Prop) [DecidablePred p] (l : List Nat) : (l.map fun c => decide (p c)).all id = decide (∀ c ∈ l, p c) := by
  induction l with
  | nil => rfl
  | cons a r ih => rw [List.map_cons, List.all_cons, ih]; simp
instance (l : List Nat) : Decidable (isName l) := inferInstanceAs (Decidable ((∀ c ∈ l, 97 ≤ c ∧ c ≤ 122) ∧ 1 ≤ l.length ∧ l.length ≤ 8))
theorem is_name_any {l : List Nat} (hl : l.length ≤ 16777216) : m_is_name [tx l] = .ok (.bl (decide (isName l))) := by
  have hc := signs_in lit_abc l (some (tx l))
  have ha := all_dec (fun c => c ∈ abc) l
  by_cases q1 : 1 ≤ l.length
  · by_cases q2 : l.length ≤ 8
    · have e1 : ((1 : Int) ≤ l.length) := by omega
      have e2 : ((l.length : Int) ≤ 8) := by omega
      have : decide (isName l) = decide (∀ c ∈ l, c ∈ abc) := by
        apply decide_eq_decide.mpr
        unfold isName low
        constructor
        · intro h c hc; exact mem_abc (h.1 c hc)
        · intro h; exact ⟨fun c hc => low_abc c (h c hc), q1, q2⟩
      rw [this]
      simp -implicitDefEqProofs [m_is_name, b_is_name, hl, signs_tx, hc, e1, e2, -List.all_map]
      simpa using ha
    · have e1 : ((1 : Int) ≤ l.length) := by omega
      have e2 : ¬ ((l.length : Int) ≤ 8) := by omega
      have : decide (isName l) = false := decide_eq_false fun h => q2 h.2.2
      rw [this]
      simp -implicitDefEqProofs [m_is_name, b_is_name, hl, signs_tx, hc, e1, e2]
  · have e1 : ¬ ((1 : Int) ≤ l.length) := by omega
    have : decide (isName l) = false := decide_eq_false fun h => q1 h.2.1
    rw [this]
    simp -implicitDefEqProofs [m_is_name, b_is_name, hl, signs_tx, hc, e1]
def isCnt (l : List Nat) : Prop := (1 ≤ l.length ∧ l.length ≤ 3) ∧ (∀ c ∈ l, c ∈ figs) ∧ (l = [48] ∨ l.headD 0 ≠ 48)
instance (l : List Nat) : Decidable (isCnt l) := by unfold isCnt; infer_instance
theorem cnt_num {l : List Nat} (h : isCnt l) : ∃ n, n < 1000 ∧ l = TL.numL n := by
  obtain ⟨⟨h1, h2⟩, hf, hz⟩ := h
  have f := fun c hc => figs_iff.mp (hf c hc)
  match l, h1, h2 with
  | [a], _, _ =>
    have fa := f a (by simp)
    exact ⟨a - 48, by omega, by rw [TL.numL_lt (by omega)]; congr 1; omega⟩
  | [a, b], _, _ =>
    have fa := f a (by simp)
    have fb := f b (by simp)
    have z : a ≠ 48 := by rcases hz with e | e; cases e; exact e
    refine ⟨(a - 48) * 10 + (b - 48), by omega, ?_⟩
    rw [TL.numL_step (by omega), TL.numL_lt (n := ((a - 48) * 10 + (b - 48)) / 10) (by omega)]
    simp only [List.cons_append, List.nil_append]
    congr 1
    · omega
    · congr 1; omega
  | [a, b, c], _, _ =>
    have fa := f a (by simp)
    have fb := f b (by simp)
    have fc := f c (by simp)
    have z : a ≠ 48 := by rcases hz with e | e; cases e; exact e
    refine ⟨(a - 48) * 100 + (b - 48) * 10 + (c - 48), by omega, ?_⟩
    rw [TL.numL_step (by omega), TL.numL_step (n := ((a - 48) * 100 + (b - 48) * 10 + (c - 48)) / 10) (by omega), TL.numL_lt (n := ((a - 48) * 100 + (b - 48) * 10 + (c - 48)) / 10 / 10) (by omega)]
    simp only [List.cons_append, List.nil_append]
    congr 1
    · omega
    · congr 1
      · omega
      · congr 1; omega
theorem is_count_any {l : List Nat} (hl : l.length ≤ 16777216) (as : asc l) : m_is_count [tx l] = .ok (.bl (decide (isCnt l))) := by
  have hc := signs_in lit_figs l (some (tx l))
  have ha := all_dec (fun c => c ∈ figs) l
  have a0 : asc [48] := by unfold asc; decide
  by_cases q1 : 1 ≤ l.length ∧ l.length ≤ 3
  · have e1 : ((1 : Int) ≤ l.length) := by omega
    have e2 : ((l.length : Int) ≤ 3) := by omega
    by_cases q2 : ∀ c ∈ l, c ∈ figs
    · obtain ⟨c, r, rfl⟩ : ∃ c r, l = c :: r := by cases l with | nil => simp at q1 | cons c r => exact ⟨c, r, rfl⟩
      have g0 := g_eq_tx as a0
      have gx : g_ix (tx (c :: r)) (.int 0) = .ok (tx [c]) := g_ix_tx (by omega) (by omega) (by simp)
      have gn : g_ne (tx [c]) (tx [48]) = .ok (.bl (!decide (c = 48))) := by rw [g_ne_tx (fun d hd => as d (by simp at hd; subst hd; simp)) a0]; simp
      have ha2 : ((c :: r).map fun c => decide (c ∈ figs)).all id = true := by rw [ha]; exact decide_eq_true q2
      have d : decide (isCnt (c :: r)) = (decide (c :: r = [48]) || !decide (c = 48)) := by
        have : isCnt (c :: r) ↔ (c :: r = [48] ∨ ¬ c = 48) := ⟨fun h => h.2.2, fun h => ⟨q1, q2, h⟩⟩
        rw [decide_eq_decide.mpr this, Bool.decide_or, decide_not]
      rw [d]
      generalize c :: r = l at *
      by_cases z : l = [48]
      · have g0 : g_eq (tx l) (tx [48]) = .ok (.bl true) := by rw [g0, decide_eq_true z]
        rw [decide_eq_true z]
        simp -implicitDefEqProofs [m_is_count, b_is_count, hl, hc, e1, e2, -List.all_map, ha2, lit_n0, -g_eq_S, -g_ne_S, g0]
      · rw [decide_eq_false z] at g0 ⊢
        simp -implicitDefEqProofs [m_is_count, b_is_count, hl, hc, e1, e2, -List.all_map, ha2, lit_n0, -g_eq_S, -g_ne_S, g0, gx, gn]
    · have d : decide (isCnt l) = false := decide_eq_false fun h => q2 h.2.1
      have ha2 : (l.map fun c => decide (c ∈ figs)).all id = false := by rw [ha]; exact decide_eq_false q2
      rw [d]
      simp -implicitDefEqProofs [m_is_count, b_is_count, hl, hc, e1, e2, -List.all_map, ha2]
  · have d : decide (isCnt l) = false := decide_eq_false fun h => q1 h.1
    rw [d]
    by_cases e1 : ((1 : Int) ≤ l.length)
    · have e2 : ¬ ((l.length : Int) ≤ 3) := by omega
      simp -implicitDefEqProofs [m_is_count, b_is_count, hl, e1, e2]
    · simp -implicitDefEqProofs [m_is_count, b_is_count, hl, e1]
end K53
namespace K53
open PySem L2 DL G4 G16
def fits (k l : List Nat) : Prop := (k = w_name ∧ isName l) ∨ (k = w_which ∧ l ∈ [w_shared, w_own]) ∨ (k = w_count ∧ isCnt l)
def fitA : List (List Nat) → List (List Nat) → Prop
  | [], [] => True
  | k :: ks, l :: ls => fits k l ∧ fitA ks ls
  | _, _ => False
def kind3 (k : List Nat) : Prop := k = w_name ∨ k = w_which ∨ k = w_count
theorem read_word_any {k l : List Nat} (hk : kind3 k) (as : asc l) (hl : l.length ≤ 100000) : (fits k l ∧ ∃ d, m_read_word [tx k, tx l] = .ok d) ∨ m_read_word [tx k, tx l] = .ex "NoText" := by
  have hn := is_name_any (l := l) (by omega)
  have hc := is_count_any (l := l) (by omega) as
  have hw : g_inT (tx l) (.tup [tx w_shared, tx w_own]) = .ok (.bl (decide (l ∈ [w_shared, w_own]))) := g_inT_tx (ls := [w_shared, w_own]) as (by simp [as_shared, as_own])
  rcases hk with rfl | rfl | rfl
  · by_cases q : isName l
    · exact .inl ⟨.inl ⟨rfl, q⟩, _, read_name q⟩
    · have q1 : g_eq (tx w_name) (tx w_name) = .ok (.bl true) := by rw [g_eq_tx as_name as_name]; simp
      have q2 : g_eq (tx w_name) (tx w_which) = .ok (.bl false) := by rw [g_eq_tx as_name as_which]; simp [w_which, w_name]
      have q3 : g_eq (tx w_name) (tx w_count) = .ok (.bl false) := by rw [g_eq_tx as_name as_count]; simp [w_count, w_name]
      rw [decide_eq_false q] at hn
      exact .inr (by simp -implicitDefEqProofs [m_read_word, b_read_word, lit_name, lit_which, lit_count, -g_eq_S, q1, q2, q3, hn])
  · have q1 : g_eq (tx w_which) (tx w_name) = .ok (.bl false) := by rw [g_eq_tx as_which as_name]; simp [w_which, w_name]
    have q2 : g_eq (tx w_which) (tx w_which) = .ok (.bl true) := by rw [g_eq_tx as_which as_which]; simp
    have q3 : g_eq (tx w_which) (tx w_count) = .ok (.bl false) := by rw [g_eq_tx as_which as_count]; simp [w_count, w_which]
    by_cases q : l ∈ [w_shared, w_own]
    · rw [decide_eq_true q] at hw
      exact .inl ⟨.inr (.inl ⟨rfl, q⟩), _, by simp -implicitDefEqProofs [m_read_word, b_read_word, lit_name, lit_which, lit_shared, lit_own, -g_eq_S, q1, q2, q3, hw]; rfl⟩
    · rw [decide_eq_false q] at hw
      exact .inr (by simp -implicitDefEqProofs [m_read_word, b_read_word, lit_name, lit_which, lit_count, lit_shared, lit_own, -g_eq_S, q1, q2, q3, hw])
  · by_cases q : isCnt l
    · obtain ⟨n, h, rfl⟩ := cnt_num q
      exact .inl ⟨.inr (.inr ⟨rfl, q⟩), _, read_count h⟩
    · have q1 : g_eq (tx w_count) (tx w_name) = .ok (.bl false) := by rw [g_eq_tx as_count as_name]; simp [w_count, w_name]
      have q2 : g_eq (tx w_count) (tx w_which) = .ok (.bl false) := by rw [g_eq_tx as_count as_which]; simp [w_count, w_which]
      have q3 : g_eq (tx w_count) (tx w_count) = .ok (.bl true) := by rw [g_eq_tx as_count as_count]; simp
      rw [decide_eq_false q] at hc
      exact .inr (by simp -implicitDefEqProofs [m_read_word, b_read_word, lit_name, lit_which, lit_count, -g_eq_S, q1, q2, q3, hc])
theorem shape_kinds {w : List Nat} {s : List (List Nat)} (h : shapeOf w = some s) : (∀ k ∈ s, kind3 k) ∧ s.length ≤ 3 := by
  unfold shapeOf at h
  repeat' split at h
  all_goals first
    | (injection h with h; subst h; simp [kind3])
    | cases h
theorem fit0 {ws : List (List Nat)} (h : fitA [] ws) : ws = [] := by cases ws with | nil => rfl | cons a r => exact h.elim
theorem fitS {k : List Nat} {ks ws : List (List Nat)} (h : fitA (k :: ks) ws) : ∃ w r, ws = w :: r ∧ fits k w ∧ fitA ks r := by
  cases ws with
  | nil => exact h.elim
  | cons w r => exact ⟨w, r, rfl, h.1, h.2⟩
theorem fitW {w : List Nat} (h : fits w_which w) : ∃ sh, w = wside sh := by
  rcases h with ⟨h, _⟩ | ⟨_, h⟩ | ⟨h, _⟩
  · exact absurd h (by decide)
  · simp only [List.mem_cons, List.not_mem_nil, or_false] at h
    rcases h with rfl | rfl
    · exact ⟨true, rfl⟩
    · exact ⟨false, rfl⟩
  · exact absurd h (by decide)
theorem fitN {w : List Nat} (h : fits w_count w) : ∃ v, NumOk v ∧ w = TL.numL v.toNat := by
  rcases h with ⟨h, _⟩ | ⟨h, _⟩ | ⟨_, h⟩
  · exact absurd h (by decide)
  · exact absurd h (by decide)
  · obtain ⟨n, hn, rfl⟩ := cnt_num h
    exact ⟨(n : Int), ⟨by omega, by omega⟩, rfl⟩
theorem fitF {w : List Nat} (h : fits w_name w) : isName w := by
  rcases h with ⟨_, h⟩ | ⟨h, _⟩ | ⟨h, _⟩
  · exact h
  · exact absurd h (by decide)
  · exact absurd h (by decide)
theorem shape_row {w : List Nat} {s ws : List (List Nat)} (h : shapeOf w = some s) (hf : fitA s ws) : ∃ r, RwSm r ∧ sw r = w :: ws := by
  unfold shapeOf at h
  split at h
  · rename_i hw
    injection h with h; subst h
    rw [fit0 hf]
    simp only [List.mem_cons, List.not_mem_nil, or_false] at hw
    rcases hw with rfl | rfl | rfl
    · exact ⟨.skip, trivial, rfl⟩
    · exact ⟨.back, trivial, rfl⟩
    · exact ⟨.stop, trivial, rfl⟩
  split at h
  · rename_i hw
    injection h with h; subst h
    obtain ⟨a, r, rfl, f1, hf1⟩ := fitS hf
    obtain ⟨sh, rfl⟩ := fitW f1
    rw [fit0 hf1]
    simp only [List.mem_cons, List.not_mem_nil, or_false] at hw
    rcases hw with rfl | rfl
    · exact ⟨.any sh, trivial, rfl⟩
    · exact ⟨.turn sh, trivial, rfl⟩
  split at h
  · rename_i hw
    injection h with h; subst h
    obtain ⟨a, r, rfl, f1, hf1⟩ := fitS hf
    obtain ⟨v, hv, rfl⟩ := fitN f1
    rw [fit0 hf1]
    simp only [List.mem_cons, List.not_mem_nil, or_false] at hw
    rcases hw with rfl | rfl
    · exact ⟨.go v, hv, rfl⟩
    · exact ⟨.fork v, hv, rfl⟩
  split at h
  · rename_i hw
    subst hw
    injection h with h; subst h
    obtain ⟨a, r, rfl, f1, hf1⟩ := fitS hf
    obtain ⟨b, r, rfl, f2, hf2⟩ := fitS hf1
    obtain ⟨sh, rfl⟩ := fitW f1
    obtain ⟨v, hv, rfl⟩ := fitN f2
    rw [fit0 hf2]
    exact ⟨.set sh v, hv, rfl⟩
  split at h
  · rename_i hw
    subst hw
    injection h with h; subst h
    obtain ⟨a, r, rfl, f1, hf1⟩ := fitS hf
    obtain ⟨b, r, rfl, f2, hf2⟩ := fitS hf1
    obtain ⟨c, r, rfl, f3, hf3⟩ := fitS hf2
    obtain ⟨sh, rfl⟩ := fitW f1
    obtain ⟨v, hv, rfl⟩ := fitN f2
    obtain ⟨k, hk, rfl⟩ := fitN f3
    rw [fit0 hf3]
    exact ⟨.iff sh v k, ⟨hv, hk⟩, rfl⟩
  split at h
  · rename_i hw
    subst hw
    injection h with h; subst h
    obtain ⟨a, r, rfl, f1, hf1⟩ := fitS hf
    rw [fit0 hf1]
    exact ⟨.call a, fitF f1, rfl⟩
  · cases h
theorem row_loop {x0 x1 x2 : Option D} : ∀ (s ws : List (List Nat)) (acc : List D), s.length = ws.length → acc.length + s.length ≤ 1000 → (∀ k ∈ s, kind3 k) → (∀ w ∈ ws, asc w ∧ w.length ≤ 100000) →
    fitA s ws ∨ ∃ ρ', forF [4, 5] (kTup 2 (ksCons kName (ksCons kName ksNil))) w_read_row_0 [4, 5] (zipD (s.map tx) (ws.map tx)) [x0, x1, x2, some (.lst acc), none, none] = .ex "NoText" ρ'
  | [], [], _, _, _, _, _ => .inl trivial
  | k :: s, w :: ws, acc, hl, ha, hk, hw => by
    have h1 := read_word_any (hk k (by simp)) (hw w (by simp)).1 (hw w (by simp)).2
    rw [List.map_cons, List.map_cons, show zipD (tx k :: s.map tx) (tx w :: ws.map tx) = D.tup [tx k, tx w] :: zipD (s.map tx) (ws.map tx) from rfl, forF_cons]
    rcases h1 with ⟨f, d, h1⟩ | h1
    · rcases row_loop (x0 := x0) (x1 := x1) (x2 := x2) s ws (acc ++ [d]) (by simpa using hl) (by simp at *; omega) (fun k h => hk k (List.mem_cons_of_mem _ h)) (fun k h => hw k (List.mem_cons_of_mem _ h)) with h2 | ⟨ρ', h2⟩
      · exact .inl ⟨f, h2⟩
      · refine .inr ⟨ρ', ?_⟩
        have : acc.length < 16777216 := by omega
        have ht : turn [4, 5] (DL.kTup 2 (ksCons kName (ksCons kName ksNil))) w_read_row_0 [4, 5] (D.tup [tx k, tx w]) [x0, x1, x2, some (.lst acc), none, none] = .inl [x0, x1, x2, some (.lst (acc ++ [d])), none, none] := by
          simp -implicitDefEqProofs [w_read_row_0, h1, this]
        rw [ht]; exact h2
    · refine .inr ?_
      have ht : ∃ ρ', turn [4, 5] (DL.kTup 2 (ksCons kName (ksCons kName ksNil))) w_read_row_0 [4, 5] (D.tup [tx k, tx w]) [x0, x1, x2, some (.lst acc), none, none] = .inr (.ex "NoText" ρ') := by
        simp -implicitDefEqProofs [w_read_row_0, h1]
      obtain ⟨ρ', ht⟩ := ht
      exact ⟨ρ', by rw [ht]⟩
theorem read_row_any {ls : List Nat} (as : asc ls) (hl : ls.length ≤ 100000) : (∃ r, RwSm r ∧ ls = rowT r) ∨ m_read_row [tx ls] = .ex "NoText" := by
  have ej := join_spl0 (s := [32]) (by simp) ls
  have e1 := splR_tx (a := ls) (b := [32]) (by simp) (by decide) (by omega)
  have hm : ∀ p ∈ TL.spl [32] 0 [] ls, asc p ∧ p.length ≤ 100000 := fun p hp => ⟨fun c hc => as c (spl_mem (by simp) hp hc), Nat.le_trans (spl_len (by simp) hp) hl⟩
  have hnum := spl_num (s := [32]) (l := ls) (by simp)
  generalize hS : TL.spl [32] 0 [] ls = S at *
  obtain ⟨w, ws, rfl⟩ : ∃ w ws, S = w :: ws := by
    cases S with
    | nil => exact absurd hS (spl_ne _ _ _ _)
    | cons w ws => exact ⟨w, ws, rfl⟩
  have e2 := shape_ok (hm w (by simp)).1
  have e1' : splR ⟨ls.toArray⟩ (tx [32]) = .ok (tx w :: ws.map tx) := e1
  cases hs : shapeOf w with
  | none =>
    rw [hs] at e2
    have e2' : m_shape_of [tx w] = .ok .non := e2
    exact .inr (by simp -implicitDefEqProofs [m_read_row, b_read_row, lit_sp, e1', e2'])
  | some s =>
    rw [hs] at e2
    have e2' : m_shape_of [tx w] = .ok (.tup (s.map tx)) := e2
    obtain ⟨k3, l3⟩ := shape_kinds hs
    have l2 : ws.length ≤ 16777210 := by simp at hnum; omega
    by_cases q : ws.length = s.length
    · have lp := row_loop (x0 := some (tx ls)) (x1 := some (.lst (tx w :: ws.map tx))) (x2 := some (.tup (s.map tx))) s ws [tx w] q.symm (by simp; omega) k3 fun p hp => hm p (List.mem_cons_of_mem _ hp)
      rcases lp with lp | ⟨ρ', lp⟩
      · obtain ⟨r, hr, er⟩ := shape_row hs lp
        refine .inl ⟨r, hr, ?_⟩
        unfold rowT
        rw [er, ej]
      · have sl : g_sl (.lst (tx w :: ws.map tx)) (some 1) none = .ok (.lst (ws.map tx)) := by simp
        exact .inr (by simp -implicitDefEqProofs [m_read_row, b_read_row, lit_sp, e1', e2', q, sl, lp, show s.length + 1 ≤ 16777216 by omega])
    · have q2 : ¬ ((ws.length : Int) = (s.length : Int)) := by omega
      have q3 : ¬ ((ws.length : Int) + 1 = (s.length : Int) + 1) := by omega
      exact .inr (by simp -implicitDefEqProofs [m_read_row, b_read_row, lit_sp, e1', e2', q, q2, q3, show ws.length + 1 ≤ 16777216 by omega])
end K53
namespace K53
open PySem L2 DL G4 G16
structure PS (p : Proc) : Prop where
  nm : isName p.1
  rw : ∀ r ∈ p.2, RwSm r
  ne : p.2 ≠ []
theorem PS.no {p : Proc} (h : PS p) : 59 ∉ procT p := fun m => by
  unfold procT at m
  rcases List.mem_append.mp m with m | m
  · exact (pl_name h.nm).no (by omega) m
  · rcases List.mem_append.mp m with m | m
    · simp at m
    · exact rowsT_no h.rw (by omega) m
theorem read_procedure_any {ls : List Nat} (as : asc ls) (hl : ls.length ≤ 100000) : (∃ p, PS p ∧ ls = procT p ∧ m_read_procedure [tx ls] = .ok (eProc p)) ∨ m_read_procedure [tx ls] = .ex "NoText" := by
  have ej := join_spl0 (s := [58, 32]) (by simp) ls
  have e1 := splR_tx (a := ls) (b := [58, 32]) (by simp) (by decide) (by omega)
  have hm : ∀ p ∈ TL.spl [58, 32] 0 [] ls, asc p ∧ p.length ≤ 100000 := fun p hp => ⟨fun c hc => as c (spl_mem (by simp) hp hc), Nat.le_trans (spl_len (by simp) hp) hl⟩
  have hnum := spl_num (s := [58, 32]) (l := ls) (by simp)
  generalize hS : TL.spl [58, 32] 0 [] ls = S at *
  by_cases q : S.length = 2
  · obtain ⟨a, b, rfl⟩ : ∃ a b, S = [a, b] := by
      match S, q with
      | [a, b], _ => exact ⟨a, b, rfl⟩
    have e1' : splR ⟨ls.toArray⟩ (tx [58, 32]) = .ok [tx a, tx b] := e1
    have hn := is_name_any (l := a) (by have := (hm a (by simp)).2; omega)
    by_cases q2 : isName a
    · rw [decide_eq_true q2] at hn
      have hb := hm b (by simp)
      have e2 := splR_tx (a := b) (b := [44, 32]) (by simp) (by decide) (by omega)
      have ej2 := join_spl0 (s := [44, 32]) (by simp) b
      have hm2 : ∀ p ∈ TL.spl [44, 32] 0 [] b, asc p ∧ p.length ≤ 100000 := fun p hp => ⟨fun c hc => hb.1 c (spl_mem (by simp) hp hc), Nat.le_trans (spl_len (by simp) hp) hb.2⟩
      have hnum2 := spl_num (s := [44, 32]) (l := b) (by simp)
      have hne := spl_ne [44, 32] b 0 []
      generalize TL.spl [44, 32] 0 [] b = T at *
      have hz : T.length ≤ 16777216 := by omega
      have tw := compLX_two (is := [2]) (ks := kName) (fe := vCallN 1 m_read_row (aCons (vVar 2) aNil)) (ρ := [some (tx ls), some (.lst [tx a, tx b]), none]) tx rowT eRw RwSm "NoText" (fun d => rfl) (fun r hr => by
        simp -implicitDefEqProofs [read_row_ok hr]) (xs := T) fun x hx => by
          rcases read_row_any (hm2 x hx).1 (hm2 x hx).2 with h | h
          · exact .inl h
          · exact .inr (by simp -implicitDefEqProofs [h])
      rcases tw with ⟨rs, rfl, hr⟩ | tw
      · refine .inl ⟨(a, rs), ⟨q2, hr, fun e => hne (by simp [show rs = [] from e])⟩, ?_, ?_⟩
        · rw [← ej, ← ej2]; rfl
        · have hc := compLX_ok (is := [2]) (ks := kName) (fe := vCallN 1 m_read_row (aCons (vVar 2) aNil)) (ρ := [some (tx ls), some (.lst [tx a, tx b]), none]) (fun r => tx (rowT r)) eRw (ys := rs) fun r h => by
            simp -implicitDefEqProofs [read_row_ok (hr r h)]
          simp only [List.map_map] at e2
          simp only [List.length_map] at hz
          have e2' : splR ⟨b.toArray⟩ (tx [44, 32]) = .ok (rs.map fun r => tx (rowT r)) := e2
          simp -implicitDefEqProofs [m_read_procedure, b_read_procedure, lit_ds, lit_cs, e1', e2', hn, hc, e_compX, hz, eProc]
      · refine .inr ?_
        simp -implicitDefEqProofs [m_read_procedure, b_read_procedure, lit_ds, lit_cs, e1', e2, hn, tw, e_compX, hz]
    · rw [decide_eq_false q2] at hn
      refine .inr ?_
      simp -implicitDefEqProofs [m_read_procedure, b_read_procedure, lit_ds, lit_cs, e1', hn]
  · have q3 : ¬ ((S.length : Int) = 2) := by omega
    refine .inr ?_
    simp -implicitDefEqProofs [m_read_procedure, b_read_procedure, lit_ds, lit_cs, e1, q, q3, show S.length ≤ 16777216 by omega]
theorem read_values_any {ls : List Nat} (as : asc ls) (hl : ls.length ≤ 100000) : (∃ a b, V4 a ∧ V4 b ∧ ls = valT a b) ∨ m_read_values [tx ls] = .ex "NoText" := by
  have ej := join_spl0 (s := [32]) (by simp) ls
  have e1 := splR_tx (a := ls) (b := [32]) (by simp) (by decide) (by omega)
  have hm : ∀ p ∈ TL.spl [32] 0 [] ls, asc p := fun p hp => fun c hc => as c (spl_mem (by simp) hp hc)
  have hnum := spl_num (s := [32]) (l := ls) (by simp)
  generalize hS : TL.spl [32] 0 [] ls = S at *
  by_cases q : S.length = 3
  · obtain ⟨w, x, y, rfl⟩ : ∃ w x y, S = [w, x, y] := by
      match S, q with
      | [a, b, c], _ => exact ⟨a, b, c, rfl⟩
    have e1' : splR ⟨ls.toArray⟩ (tx [32]) = .ok [tx w, tx x, tx y] := e1
    have q0 := g_ne_tx (hm w (by simp)) as_values
    have nx : ∀ z, asc z → g_notinT (tx z) (.tup [tx [49], tx [50], tx [51], tx [52]]) = .ok (.bl (!decide (z ∈ [[49], [50], [51], [52]]))) := fun z hz => by
      have := g_notinT_tx (a := z) (ls := [[49], [50], [51], [52]]) hz (by unfold asc; decide)
      simpa only [List.map_cons, List.map_nil] using this
    have qx := nx x (hm x (by simp))
    have qy := nx y (hm y (by simp))
    by_cases q1 : w = w_values
    · rw [decide_eq_true q1] at q0
      have v4 : ∀ z, z ∈ [[49], [50], [51], [52]] → ∃ a : Int, V4 a ∧ z = TL.numL a.toNat := fun z hz => by
        simp only [List.mem_cons, List.not_mem_nil, or_false] at hz
        rcases hz with rfl | rfl | rfl | rfl
        · exact ⟨1, ⟨by omega, by omega⟩, by rw [show (1 : Int).toNat = 1 from rfl, TL.numL_lt (by omega)]⟩
        · exact ⟨2, ⟨by omega, by omega⟩, by rw [show (2 : Int).toNat = 2 from rfl, TL.numL_lt (by omega)]⟩
        · exact ⟨3, ⟨by omega, by omega⟩, by rw [show (3 : Int).toNat = 3 from rfl, TL.numL_lt (by omega)]⟩
        · exact ⟨4, ⟨by omega, by omega⟩, by rw [show (4 : Int).toNat = 4 from rfl, TL.numL_lt (by omega)]⟩
      by_cases q2 : x ∈ [[49], [50], [51], [52]]
      · rw [decide_eq_true q2] at qx
        by_cases q3 : y ∈ [[49], [50], [51], [52]]
        · obtain ⟨a, ha, rfl⟩ := v4 x q2
          obtain ⟨b, hb, rfl⟩ := v4 y q3
          exact .inl ⟨a, b, ha, hb, by rw [← ej, q1]; rfl⟩
        · rw [decide_eq_false q3] at qy
          refine .inr ?_
          simp -implicitDefEqProofs [m_read_values, b_read_values, w_read_values_0, lit_sp, lit_values, lit_n1, lit_n2, lit_n3, lit_n4, e1', q0, -g_ne_S, g_ne_int, qx, qy, forF_cons, forF_nil0]
      · rw [decide_eq_false q2] at qx
        refine .inr ?_
        simp -implicitDefEqProofs [m_read_values, b_read_values, w_read_values_0, lit_sp, lit_values, lit_n1, lit_n2, lit_n3, lit_n4, e1', q0, -g_ne_S, g_ne_int, qx, forF_cons, forF_nil0]
    · rw [decide_eq_false q1] at q0
      refine .inr ?_
      simp -implicitDefEqProofs [m_read_values, b_read_values, lit_sp, lit_values, e1', q0, -g_ne_S, g_ne_int]
  · have q3 : ¬ ((S.length : Int) = 3) := by omega
    refine .inr ?_
    simp -implicitDefEqProofs [m_read_values, b_read_values, lit_sp, e1, q, q3, show S.length ≤ 16777216 by omega]
def Can (ls : List Nat) : Prop := ∃ a b ps, V4 a ∧ V4 b ∧ ps ≠ [] ∧ (∀ p ∈ ps, PS p) ∧ ls = progT a b ps
theorem read_any {ls : List Nat} (as : asc ls) (hl : ls.length ≤ 100000) : Can ls ∨ m_read [tx ls] = .ex "NoText" := by
  have ej := join_spl0 (s := [59, 32]) (by simp) ls
  have e1 := splR_tx (a := ls) (b := [59, 32]) (by simp) (by decide) (by omega)
  have hm : ∀ p ∈ TL.spl [59, 32] 0 [] ls, asc p ∧ p.length ≤ 100000 := fun p hp => ⟨fun c hc => as c (spl_mem (by simp) hp hc), Nat.le_trans (spl_len (by simp) hp) hl⟩
  have hnum := spl_num (s := [59, 32]) (l := ls) (by simp)
  generalize hS : TL.spl [59, 32] 0 [] ls = S at *
  obtain ⟨w, ws, rfl⟩ : ∃ w ws, S = w :: ws := by
    cases S with
    | nil => exact absurd hS (spl_ne _ _ _ _)
    | cons w ws => exact ⟨w, ws, rfl⟩
  have e1' : splR ⟨ls.toArray⟩ (tx [59, 32]) = .ok (tx w :: ws.map tx) := e1
  rcases read_values_any (hm w (by simp)).1 (hm w (by simp)).2 with ⟨a, b, ha, hb, rfl⟩ | hv
  · have hv := read_values_ok ha hb
    by_cases q : ws = []
    · subst q
      have e1'' : splR ⟨ls.toArray⟩ (tx [59, 32]) = .ok [tx (valT a b)] := e1
      generalize valT a b = V at *
      refine .inr ?_
      simp -implicitDefEqProofs [m_read, b_read, r_read_0, r_read_1, r_read_2, r_read_3, lit_ss, e1'', hv]
    · have lw : 0 < ws.length := List.length_pos_iff.mpr q
      have n2 : ¬ ((ws.length : Int) + 1 < 2) := by omega
      have hz : ws.length ≤ 16777216 := by simp at hnum; omega
      have hz1 : ws.length + 1 ≤ 16777216 := by simp at hnum; omega
      have tw : ∀ e0 e1 e2 e3 : Option D, (∃ ys : List Proc, ws = ys.map procT ∧ ∀ p ∈ ys, PS p) ∨ compLX [4] kName tTrue (vCallN 1 m_read_procedure (aCons (vVar 4) aNil)) [e0, e1, e2, e3, none] (ws.map tx) = .ex "NoText" := fun e0 e1 e2 e3 =>
        compLX_two (is := [4]) (ks := kName) (fe := vCallN 1 m_read_procedure (aCons (vVar 4) aNil)) (ρ := [e0, e1, e2, e3, none]) tx procT eProc (fun p => PS p ∧ m_read_procedure [tx (procT p)] = .ok (eProc p)) "NoText" (fun d => rfl) (fun p hp => by
          simp -implicitDefEqProofs [hp.2]) (xs := ws) (fun x hx => by
            have hx := hm x (List.mem_cons_of_mem _ hx)
            rcases read_procedure_any hx.1 hx.2 with ⟨p, hp, e, r⟩ | h
            · exact .inl ⟨p, ⟨hp, by rw [← e]; exact r⟩, e⟩
            · exact .inr (by simp -implicitDefEqProofs [h])) |>.imp (fun h => by obtain ⟨ys, e, h⟩ := h; exact ⟨ys, e, fun p hp => (h p hp).1⟩) id
      by_cases t : ∃ ys : List Proc, ws = ys.map procT ∧ ∀ p ∈ ys, PS p
      · obtain ⟨ys, rfl, hy⟩ := t
        refine .inl ⟨a, b, ys, ha, hb, fun e => q (by simp [e]), hy, ?_⟩
        rw [← ej]; rfl
      · have tw := fun e0 e1 e2 e3 => (tw e0 e1 e2 e3).resolve_left t
        generalize valT a b = V at *
        refine .inr ?_
        simp -implicitDefEqProofs [m_read, b_read, r_read_0, r_read_1, r_read_2, r_read_3, r_read_4, r_read_5, lit_ss, e1', hv, n2, tw, e_compX, hz, hz1]
  · refine .inr ?_
    simp -implicitDefEqProofs [m_read, b_read, r_read_0, r_read_1, r_read_2, lit_ss, e1', hv]
end K53
namespace K53
open PySem L2 DL G4 G16
def callBad (nl : List (List Nat)) : Rw → Bool
  | .call f => !decide (f ∈ nl)
  | _ => false
def valBad (v0 v1 : Int) : Rw → Bool
  | .set sh v => decide (vOf v0 v1 sh ≤ v)
  | .iff sh v _ => decide (vOf v0 v1 sh ≤ v)
  | _ => false
def goalBad (n : Nat) : Rw → Bool
  | .go k => decide ((n : Int) ≤ k)
  | .fork k => decide ((n : Int) ≤ k)
  | .iff _ _ k => decide ((n : Int) ≤ k)
  | _ => false
def endBad (n i : Nat) (r : Rw) : Bool := decide ((i : Int) = (n : Int) - 1) && !G16.k4 r
def bad (v0 v1 : Int) (nl : List (List Nat)) (n i : Nat) (r : Rw) : Nat :=
  if callBad nl r then 1 else if valBad v0 v1 r then 2 else if goalBad n r then 3 else if endBad n i r then 3 else 0
def errOf : Nat → Str
  | 1 => "NoName"
  | 2 => "NoValue"
  | 3 => "NoRow"
  | _ => "Twice"
def lookR : Nat → Res D
  | 0 => .ok .non
  | n + 1 => .ex (errOf (n + 1))
def wordL : Nat → List Nat
  | 0 => [110, 111, 110, 101]
  | 1 => [110, 97, 109, 101]
  | 2 => [118, 97, 108, 117, 101]
  | 3 => [114, 111, 119]
  | _ => [116, 119, 105, 99, 101]
theorem lw0 : D.str (Str.ofString "none") = tx (wordL 0) := tx_lit _ (by decide +kernel)
theorem lw1 : D.str (Str.ofString "name") = tx (wordL 1) := tx_lit _ (by decide +kernel)
theorem lw2 : D.str (Str.ofString "value") = tx (wordL 2) := tx_lit _ (by decide +kernel)
theorem lw3 : D.str (Str.ofString "row") = tx (wordL 3) := tx_lit _ (by decide +kernel)
theorem lw4 : D.str (Str.ofString "twice") = tx (wordL 4) := tx_lit _ (by decide +kernel)
theorem as_word (n : Nat) : asc (wordL n) := by
  unfold asc
  match n with
  | 0 => decide
  | 1 => decide
  | 2 => decide
  | 3 => decide
  | n + 4 => intro c hc; simp only [wordL] at hc; revert c; decide
def rowTests (P : D) (v0 v1 : Int) (nl : List (List Nat)) (rows : List Rw) (i : Nat) (r : Rw) : DL.Env := [some P, some (.lst (nl.map tx)), some (.lst (rows.map eRw)), some (.int (i : Int)), some (eRw r)]
section
variable {v0 v1 : Int} {ps : List Proc} {nl : List (List Nat)} {rows : List Rw} {i : Nat} {r : Rw}
theorem t_call (hn : ∀ l ∈ nl, isName l) (sm : RwSm r) : (tAndD (vB (v2 g_eq (v2 g_ix (vVar 4) (vC (.int 0))) (vC (.str "call")))) (vB (v2 g_notin (v2 g_ix (vVar 4) (vC (.int 1))) (vVar 1)))) (rowTests (eP v0 v1 ps) v0 v1 nl rows i r) = .ok (callBad nl r) := by
  have q1 : g_eq (tx (hd r)) (tx w_call) = .ok (.bl (G16.k1 r)) := by rw [g_eq_tx (as_hd r) as_call, kk1]
  have w0 := ix0_row r
  generalize eP v0 v1 ps = P at *
  unfold rowTests
  by_cases z : G16.k1 r = true
  · cases r <;> simp only [G16.k1, Bool.false_eq_true] at z
    rename_i f
    have g1 : g_ix (eRw (.call f)) (.int 1) = .ok (tx f) := rfl
    have g2 : g_notin (tx f) (.lst (nl.map tx)) = .ok (.bl (!decide (f ∈ nl))) := g_notin_tx sm.1.asc (fun l hl => (hn l hl).1.asc)
    simp -implicitDefEqProofs [w0, lit_call, -g_eq_S, -g_notin_eq, q1, G16.k1, g1, g2, callBad]
  · have z2 : callBad nl r = false := by cases r <;> first | rfl | simp [G16.k1] at z
    simp -implicitDefEqProofs [w0, lit_call, -g_eq_S, q1, z, z2]
theorem t_val : (tAndD (vB (v2 g_inT (v2 g_ix (vVar 4) (vC (.int 0))) (vTup (aCons (vC (.str "set")) (aCons (vC (.str "if")) aNil))))) (vB (v2 (gI (fun i j => decide (j ≤ i))) (v2 g_ix (vVar 4) (vC (.int 2))) (vCallN 2 m_values_of (aCons (vVar 0) (aCons (v2 g_ix (vVar 4) (vC (.int 1))) aNil)))))) (rowTests (eP v0 v1 ps) v0 v1 nl rows i r) = .ok (valBad v0 v1 r) := by
  have q2 : g_inT (tx (hd r)) (.tup [tx w_set, tx w_if]) = .ok (.bl (G16.k2 r)) := by
    rw [← kk2]; exact g_inT_tx (ls := [w_set, w_if]) (as_hd r) (by simp [as_set, as_if])
  have w0 := ix0_row r
  have vo := fun sh => values_of_ok (v0 := v0) (v1 := v1) (ps := ps) sh
  generalize eP v0 v1 ps = P at *
  unfold rowTests
  by_cases z : G16.k2 r = true
  · cases r <;> simp only [G16.k2, Bool.false_eq_true] at z
    · rename_i sh v
      have g1 : g_ix (eRw (.set sh v)) (.int 1) = .ok (tx (wside sh)) := by rw [← eSide_tx]; rfl
      have g2 : g_ix (eRw (.set sh v)) (.int 2) = .ok (.int v) := rfl
      simp -implicitDefEqProofs [w0, lit_set, lit_if, q2, G16.k2, g1, g2, vo, valBad]
    · rename_i sh v k
      have g1 : g_ix (eRw (.iff sh v k)) (.int 1) = .ok (tx (wside sh)) := by rw [← eSide_tx]; rfl
      have g2 : g_ix (eRw (.iff sh v k)) (.int 2) = .ok (.int v) := rfl
      simp -implicitDefEqProofs [w0, lit_set, lit_if, q2, G16.k2, g1, g2, vo, valBad]
  · have z2 : valBad v0 v1 r = false := by cases r <;> first | rfl | simp [G16.k2] at z
    simp -implicitDefEqProofs [w0, lit_set, lit_if, q2, z, z2]
theorem t_goal : (tAndD (vB (v2 g_inT (v2 g_ix (vVar 4) (vC (.int 0))) (vTup (aCons (vC (.str "go")) (aCons (vC (.str "fork")) (aCons (vC (.str "if")) aNil)))))) (vB (v2 (gI (fun i j => decide (j ≤ i))) (v2 g_ix (vVar 4) (DL.v1 g_neg (vC (.int 1)))) (vCall c_len (aCons (vVar 2) aNil))))) (rowTests (eP v0 v1 ps) v0 v1 nl rows i r) = .ok (goalBad rows.length r) := by
  have q3 : g_inT (tx (hd r)) (.tup [tx w_go, tx w_fork, tx w_if]) = .ok (.bl (G16.k3 r)) := by
    rw [← kk3]; exact g_inT_tx (ls := [w_go, w_fork, w_if]) (as_hd r) (by simp [as_go, as_fork, as_if])
  have w0 := ix0_row r
  generalize eP v0 v1 ps = P at *
  unfold rowTests
  by_cases z : G16.k3 r = true
  · cases r <;> simp only [G16.k3, Bool.false_eq_true] at z
    · rename_i sh v k
      have g1 : g_ix (eRw (.iff sh v k)) (.int (-1)) = .ok (.int k) := rfl
      simp -implicitDefEqProofs [w0, lit_go, lit_fork, lit_if, q3, G16.k3, g1, goalBad]
    · rename_i k
      have g1 : g_ix (eRw (.go k)) (.int (-1)) = .ok (.int k) := rfl
      simp -implicitDefEqProofs [w0, lit_go, lit_fork, lit_if, q3, G16.k3, g1, goalBad]
    · rename_i k
      have g1 : g_ix (eRw (.fork k)) (.int (-1)) = .ok (.int k) := rfl
      simp -implicitDefEqProofs [w0, lit_go, lit_fork, lit_if, q3, G16.k3, g1, goalBad]
  · have z2 : goalBad rows.length r = false := by cases r <;> first | rfl | simp [G16.k3] at z
    simp -implicitDefEqProofs [w0, lit_go, lit_fork, lit_if, q3, z, z2]
theorem t_end : (tAndD (vB (v2 g_eq (vVar 3) (v2 g_sub (vCall c_len (aCons (vVar 2) aNil)) (vC (.int 1))))) (vB (v2 g_notinT (v2 g_ix (vVar 4) (vC (.int 0))) (vTup (aCons (vC (.str "go")) (aCons (vC (.str "back")) (aCons (vC (.str "stop")) aNil))))))) (rowTests (eP v0 v1 ps) v0 v1 nl rows i r) = .ok (endBad rows.length i r) := by
  have q4 : g_notinT (tx (hd r)) (.tup [tx w_go, tx w_back, tx w_stop]) = .ok (.bl (!G16.k4 r)) := by
    rw [← kk4]; exact g_notinT_tx (ls := [w_go, w_back, w_stop]) (as_hd r) (by simp [as_go, as_back, as_stop])
  have w0 := ix0_row r
  generalize eP v0 v1 ps = P at *
  unfold rowTests endBad
  by_cases z : (i : Int) = (rows.length : Int) - 1
  · simp -implicitDefEqProofs [w0, lit_go, lit_back, lit_stop, q4, z]
  · simp -implicitDefEqProofs [z]
theorem look_at_any (hn : ∀ l ∈ nl, isName l) (sm : RwSm r) (hi : rows[i]? = some r) :
    m_look_at [eP v0 v1 ps, .lst (nl.map tx), .lst (rows.map eRw), .int (i : Int)] = lookR (bad v0 v1 nl rows.length i r) := by
  have lt : i < rows.length := idx_lt hi
  have ei : rows[i] = r := by rw [List.getElem?_eq_getElem lt] at hi; exact Option.some.inj hi
  have gx : g_ix (.lst (rows.map eRw)) (.int (i : Int)) = .ok (eRw r) := by rw [g_ix_lst eRw rows i lt, ei]
  have t1 := t_call (v0 := v0) (v1 := v1) (ps := ps) (rows := rows) (i := i) hn sm
  have t2 := t_val (v0 := v0) (v1 := v1) (ps := ps) (nl := nl) (rows := rows) (i := i) (r := r)
  have t3 := t_goal (v0 := v0) (v1 := v1) (ps := ps) (nl := nl) (rows := rows) (i := i) (r := r)
  have t4 := t_end (v0 := v0) (v1 := v1) (ps := ps) (nl := nl) (rows := rows) (i := i) (r := r)
  have e0 : startE 5 [eP v0 v1 ps, .lst (nl.map tx), .lst (rows.map eRw), .int (i : Int)] = [some (eP v0 v1 ps), some (.lst (nl.map tx)), some (.lst (rows.map eRw)), some (.int (i : Int)), none] := rfl
  have a0 : (sAsg [] 4 (v2 g_ix (vVar 2) (vVar 3))) [some (eP v0 v1 ps), some (.lst (nl.map tx)), some (.lst (rows.map eRw)), some (.int (i : Int)), none] = .nx (rowTests (eP v0 v1 ps) v0 v1 nl rows i r) := by
    generalize eP v0 v1 ps = P
    unfold rowTests
    simp -implicitDefEqProofs [gx]
  unfold m_look_at
  rw [runF_eq, e0]
  unfold b_look_at
  rw [s_seq, a0, othn_nx, s_seq, s_if, t1, andThen_ok]
  unfold bad
  cases callBad nl r
  · rw [ifK_false, s_next, othn_nx, s_seq, s_if, t2, andThen_ok]
    cases valBad v0 v1 r
    · rw [ifK_false, s_next, othn_nx, s_seq, s_if, t3, andThen_ok]
      cases goalBad rows.length r
      · rw [ifK_false, s_next, othn_nx, s_if, t4, andThen_ok]
        cases endBad rows.length i r
        · rfl
        · rfl
      · rfl
    · rfl
  · rfl
end
end K53
namespace K53
open PySem L2 DL G4 G16
def kSI (r : Rw) : Bool := decide (hd r = w_set) || decide (hd r = w_if)
def kGo (r : Rw) : Bool := decide (hd r = w_go) || (decide (hd r = w_fork) || decide (hd r = w_if))
def kNo (r : Rw) : Bool := !decide (hd r = w_go) && (!decide (hd r = w_back) && !decide (hd r = w_stop))
theorem kSI_eq (r : Rw) : kSI r = G16.k2 r := by cases r <;> rfl
theorem kGo_eq (r : Rw) : kGo r = G16.k3 r := by cases r <;> rfl
theorem kNo_eq (r : Rw) : kNo r = !G16.k4 r := by cases r <;> rfl
theorem idx_side (sh : Bool) : gIdx [.str "shared", .str "own"] (tx (wside sh)) = .ok (.int (if sh then 0 else 1)) := by
  rw [← eSide_tx]; exact G18.idx_side sh
section
variable {v0 v1 : Int} {ps : List Proc} {nl : List (List Nat)} {rows : List Rw} {i : Nat} {r : Rw}
theorem ix_P0 : g_ix (eP v0 v1 ps) (.int 0) = .ok (.int v0) := rfl
theorem ix_P1 : g_ix (eP v0 v1 ps) (.int 1) = .ok (.int v1) := rfl
theorem u_si : (tOrD (vB (v2 g_eq (v2 g_ix (vVar 4) (vC (.int 0))) (vC (.str "set")))) (vB (v2 g_eq (v2 g_ix (vVar 4) (vC (.int 0))) (vC (.str "if"))))) (rowTests (eP v0 v1 ps) v0 v1 nl rows i r) = .ok (G16.k2 r) := by
  have q1 := g_eq_tx (as_hd r) as_set
  have q2 := g_eq_tx (as_hd r) as_if
  have w0 := ix0_row r
  rw [← kSI_eq]
  generalize eP v0 v1 ps = P at *
  unfold rowTests kSI
  generalize decide (hd r = w_set) = b1 at *
  generalize decide (hd r = w_if) = b2 at *
  cases b1 <;> simp -implicitDefEqProofs [w0, lit_set, lit_if, -g_eq_S, q1, q2]
theorem u_val (z : G16.k2 r = true) : (vB (v2 (gI (fun i j => decide (j ≤ i))) (v2 g_ix (vVar 4) (vC (.int 2))) (v2 g_ix (vLstOf (nLst (aCons (v2 g_ix (vVar 0) (vC (.int 0))) (aCons (v2 g_ix (vVar 0) (vC (.int 1))) aNil)))) (vIndex (vLstOf (nLst (aCons (vC (.str "shared")) (aCons (vC (.str "own")) aNil)))) (v2 g_ix (vVar 4) (vC (.int 1))))))) (rowTests (eP v0 v1 ps) v0 v1 nl rows i r) = .ok (valBad v0 v1 r) := by
  have i0 := ix_P0 (v0 := v0) (v1 := v1) (ps := ps)
  have i1 := ix_P1 (v0 := v0) (v1 := v1) (ps := ps)
  generalize eP v0 v1 ps = P at *
  unfold rowTests
  cases r <;> simp only [G16.k2, Bool.false_eq_true] at z
  · rename_i sh v
    have g1 : g_ix (eRw (.set sh v)) (.int 1) = .ok (tx (wside sh)) := by rw [← eSide_tx]; rfl
    have g2 : g_ix (eRw (.set sh v)) (.int 2) = .ok (.int v) := rfl
    have id := idx_side sh
    have g3 : g_ix (.lst [.int v0, .int v1]) (.int (if sh then 0 else 1)) = .ok (.int (vOf v0 v1 sh)) := by cases sh <;> rfl
    simp -implicitDefEqProofs [g1, g2, i0, i1, id, g3, valBad]
  · rename_i sh v k
    have g1 : g_ix (eRw (.iff sh v k)) (.int 1) = .ok (tx (wside sh)) := by rw [← eSide_tx]; rfl
    have g2 : g_ix (eRw (.iff sh v k)) (.int 2) = .ok (.int v) := rfl
    have id := idx_side sh
    have g3 : g_ix (.lst [.int v0, .int v1]) (.int (if sh then 0 else 1)) = .ok (.int (vOf v0 v1 sh)) := by cases sh <;> rfl
    simp -implicitDefEqProofs [g1, g2, i0, i1, id, g3, valBad]
theorem u_go : (tOrD (vB (v2 g_eq (v2 g_ix (vVar 4) (vC (.int 0))) (vC (.str "go")))) (tOrD (vB (v2 g_eq (v2 g_ix (vVar 4) (vC (.int 0))) (vC (.str "fork")))) (vB (v2 g_eq (v2 g_ix (vVar 4) (vC (.int 0))) (vC (.str "if")))))) (rowTests (eP v0 v1 ps) v0 v1 nl rows i r) = .ok (G16.k3 r) := by
  have q1 := g_eq_tx (as_hd r) as_go
  have q2 := g_eq_tx (as_hd r) as_fork
  have q3 := g_eq_tx (as_hd r) as_if
  have w0 := ix0_row r
  rw [← kGo_eq]
  generalize eP v0 v1 ps = P at *
  unfold rowTests kGo
  generalize decide (hd r = w_go) = b1 at *
  generalize decide (hd r = w_fork) = b2 at *
  generalize decide (hd r = w_if) = b3 at *
  cases b1 <;> cases b2 <;> simp -implicitDefEqProofs [w0, lit_go, lit_fork, lit_if, -g_eq_S, q1, q2, q3]
theorem u_goal (z : G16.k3 r = true) : (vB (v2 (gI (fun i j => decide (j ≤ i))) (v2 g_ix (vVar 4) (DL.v1 g_neg (vC (.int 1)))) (vCall c_len (aCons (vVar 2) aNil)))) (rowTests (eP v0 v1 ps) v0 v1 nl rows i r) = .ok (goalBad rows.length r) := by
  generalize eP v0 v1 ps = P at *
  unfold rowTests
  cases r <;> simp only [G16.k3, Bool.false_eq_true] at z
  · rename_i sh v k
    have g1 : g_ix (eRw (.iff sh v k)) (.int (-1)) = .ok (.int k) := rfl
    simp -implicitDefEqProofs [g1, goalBad]
  · rename_i k
    have g1 : g_ix (eRw (.go k)) (.int (-1)) = .ok (.int k) := rfl
    simp -implicitDefEqProofs [g1, goalBad]
  · rename_i k
    have g1 : g_ix (eRw (.fork k)) (.int (-1)) = .ok (.int k) := rfl
    simp -implicitDefEqProofs [g1, goalBad]
theorem u_end : (tAndD (vB (v2 g_eq (vVar 3) (v2 g_sub (vCall c_len (aCons (vVar 2) aNil)) (vC (.int 1))))) (tAndD (vB (v2 g_ne (v2 g_ix (vVar 4) (vC (.int 0))) (vC (.str "go")))) (tAndD (vB (v2 g_ne (v2 g_ix (vVar 4) (vC (.int 0))) (vC (.str "back")))) (vB (v2 g_ne (v2 g_ix (vVar 4) (vC (.int 0))) (vC (.str "stop"))))))) (rowTests (eP v0 v1 ps) v0 v1 nl rows i r) = .ok (endBad rows.length i r) := by
  have q1 := g_ne_tx (as_hd r) as_go
  have q2 := g_ne_tx (as_hd r) as_back
  have q3 := g_ne_tx (as_hd r) as_stop
  have w0 := ix0_row r
  unfold endBad
  rw [← kNo_eq]
  generalize eP v0 v1 ps = P at *
  unfold rowTests kNo
  generalize decide (hd r = w_go) = b1 at *
  generalize decide (hd r = w_back) = b2 at *
  generalize decide (hd r = w_stop) = b3 at *
  by_cases z : (i : Int) = (rows.length : Int) - 1
  · cases b1 <;> cases b2 <;> simp -implicitDefEqProofs [w0, lit_go, lit_back, lit_stop, -g_ne_S, q1, q2, q3, z]
  · simp -implicitDefEqProofs [z]
theorem k2_val (z : G16.k2 r = false) : valBad v0 v1 r = false := by cases r <;> first | rfl | (simp [G16.k2] at z)
theorem k3_goal {n : Nat} (z : G16.k3 r = false) : goalBad n r = false := by cases r <;> first | rfl | (simp [G16.k3] at z)
theorem row_word_any (hn : ∀ l ∈ nl, isName l) (sm : RwSm r) (hi : rows[i]? = some r) :
    m_row_word [eP v0 v1 ps, .lst (nl.map tx), .lst (rows.map eRw), .int (i : Int)] = .ok (tx (wordL (bad v0 v1 nl rows.length i r))) := by
  have lt : i < rows.length := idx_lt hi
  have ei : rows[i] = r := by rw [List.getElem?_eq_getElem lt] at hi; exact Option.some.inj hi
  have gx : g_ix (.lst (rows.map eRw)) (.int (i : Int)) = .ok (eRw r) := by rw [g_ix_lst eRw rows i lt, ei]
  have t1 := t_call (v0 := v0) (v1 := v1) (ps := ps) (rows := rows) (i := i) hn sm
  have t2 := u_si (v0 := v0) (v1 := v1) (ps := ps) (nl := nl) (rows := rows) (i := i) (r := r)
  have t3 := u_val (v0 := v0) (v1 := v1) (ps := ps) (nl := nl) (rows := rows) (i := i) (r := r)
  have t4 := u_go (v0 := v0) (v1 := v1) (ps := ps) (nl := nl) (rows := rows) (i := i) (r := r)
  have t5 := u_goal (v0 := v0) (v1 := v1) (ps := ps) (nl := nl) (rows := rows) (i := i) (r := r)
  have t6 := u_end (v0 := v0) (v1 := v1) (ps := ps) (nl := nl) (rows := rows) (i := i) (r := r)
  have e0 : startE 5 [eP v0 v1 ps, .lst (nl.map tx), .lst (rows.map eRw), .int (i : Int)] = [some (eP v0 v1 ps), some (.lst (nl.map tx)), some (.lst (rows.map eRw)), some (.int (i : Int)), none] := rfl
  have a0 : (sAsg [] 4 (v2 g_ix (vVar 2) (vVar 3))) [some (eP v0 v1 ps), some (.lst (nl.map tx)), some (.lst (rows.map eRw)), some (.int (i : Int)), none] = .nx (rowTests (eP v0 v1 ps) v0 v1 nl rows i r) := by
    generalize eP v0 v1 ps = P
    unfold rowTests
    simp -implicitDefEqProofs [gx]
  have k2v := k2_val (v0 := v0) (v1 := v1) (r := r)
  have k3g := k3_goal (r := r) (n := rows.length)
  unfold m_row_word
  rw [runF_eq, e0]
  unfold b_row_word
  rw [s_seq, a0, othn_nx, s_seq, s_if, t1, andThen_ok]
  unfold bad
  cases callBad nl r
  · rw [ifK_false, s_next, othn_nx, s_seq, s_if, t2, andThen_ok]
    have e2 : (ifK (sIf (vB (v2 (gI (fun i j => decide (j ≤ i))) (v2 g_ix (vVar 4) (vC (.int 2))) (v2 g_ix (vLstOf (nLst (aCons (v2 g_ix (vVar 0) (vC (.int 0))) (aCons (v2 g_ix (vVar 0) (vC (.int 1))) aNil)))) (vIndex (vLstOf (nLst (aCons (vC (.str "shared")) (aCons (vC (.str "own")) aNil)))) (v2 g_ix (vVar 4) (vC (.int 1))))))) (sRet (vC (.str "value"))) sNext) sNext (rowTests (eP v0 v1 ps) v0 v1 nl rows i r) (G16.k2 r)) = if valBad v0 v1 r then .rt (.str "value") else .nx (rowTests (eP v0 v1 ps) v0 v1 nl rows i r) := by
      cases z : G16.k2 r
      · rw [k2v z, ifK_false]; rfl
      · rw [ifK_true, s_if, t3 z, andThen_ok]
        cases valBad v0 v1 r <;> rfl
    rw [e2]
    cases valBad v0 v1 r
    · rw [if_neg (by simp), othn_nx, s_seq, s_if, t4, andThen_ok]
      have e3 : (ifK (sIf (vB (v2 (gI (fun i j => decide (j ≤ i))) (v2 g_ix (vVar 4) (DL.v1 g_neg (vC (.int 1)))) (vCall c_len (aCons (vVar 2) aNil)))) (sRet (vC (.str "row"))) sNext) sNext (rowTests (eP v0 v1 ps) v0 v1 nl rows i r) (G16.k3 r)) = if goalBad rows.length r then .rt (.str "row") else .nx (rowTests (eP v0 v1 ps) v0 v1 nl rows i r) := by
        cases z : G16.k3 r
        · rw [k3g z, ifK_false]; rfl
        · rw [ifK_true, s_if, t5 z, andThen_ok]
          cases goalBad rows.length r <;> rfl
      rw [e3]
      cases goalBad rows.length r
      · rw [if_neg (by simp), othn_nx, s_seq, s_if, t6, andThen_ok]
        cases endBad rows.length i r
        · exact congrArg Res.ok lw0
        · exact congrArg Res.ok lw3
      · exact congrArg Res.ok lw3
    · exact congrArg Res.ok lw2
  · exact congrArg Res.ok lw1
end
end K53
namespace K53
open PySem L2 DL G4 G16
theorem forF_findE {α : Type} {is fg : List Nat} {ks : D → Res (List D)} {F : DSem} {enc : α → D} {ρ : DL.Env} (p : α → Bool) (g : α → Out) {xs : List α} (hs : ∀ x ∈ xs, turn is ks F fg (enc x) ρ = if p x then .inr (g x) else .inl ρ) :
    forF is ks F fg (xs.map enc) ρ = (xs.find? p).elim (.nx ρ) g := by
  rw [forF_find p g hs]
  cases xs.find? p <;> rfl
theorem nodup_take {α : Type} {l : List α} : l.Nodup ↔ ∀ i x, l[i]? = some x → x ∉ l.take i := by
  constructor
  · intro h i x hx hm
    have hi := idx_lt hx
    rw [List.mem_take_iff_getElem] at hm
    obtain ⟨j, hj, e⟩ := hm
    rw [List.getElem?_eq_getElem hi] at hx
    injection hx with hx
    have := List.pairwise_iff_getElem.mp h j i (by omega) hi (by omega)
    exact this (by rw [e, hx])
  · intro h
    refine List.pairwise_iff_getElem.mpr fun i j hi hj lt e => ?_
    exact h j _ (List.getElem?_eq_getElem hj) (List.mem_take_iff_getElem.mpr ⟨i, by omega, e⟩)
theorem onceT_iff : ∀ (n : Nat) (xs : List Str), xs.length = n → ((onceT xs).length = n ↔ xs.Nodup)
  | 0, xs, h => by rw [List.length_eq_zero_iff.mp h]; simp [onceT]
  | n + 1, xs, h => by
    have hne : xs ≠ [] := fun e => by subst e; simp at h
    obtain ⟨ys, x, rfl⟩ : ∃ ys x, xs = ys ++ [x] := ⟨xs.dropLast, xs.getLast hne, (List.dropLast_concat_getLast hne).symm⟩
    have hl : ys.length = n := by simpa using h
    have ih := onceT_iff n ys hl
    have le := onceT_le n ys hl
    rw [onceT_snoc]
    by_cases hx : x ∈ onceT ys
    · rw [if_pos hx]
      have hm := (mem_onceT x n ys hl).mp hx
      constructor
      · intro e; omega
      · intro nd; exact absurd rfl ((List.nodup_append.mp nd).2.2 x hm x (by simp))
    · rw [if_neg hx]
      have hm : x ∉ ys := fun q => hx ((mem_onceT x n ys hl).mpr q)
      rw [List.length_append, List.length_cons, List.length_nil, List.nodup_append]
      constructor
      · intro e; exact ⟨ih.mp (by omega), by simp, fun a ha b hb e => by simp at hb; subst hb; subst e; exact hm ha⟩
      · intro nd; have := ih.mpr nd.1; omega
theorem lenT_any {ls : List (List Nat)} (hl : ls.length ≤ 60) : ∃ n : Nat, g_lenT (.lst (ls.map tx)) = .ok (.int n) ∧ (n = ls.length ↔ ls.Nodup) := by
  refine ⟨(onceT (ls.map SX.S)).length, ?_, ?_⟩
  · show (match strsOf (ls.map tx) with | some ys => if ys.length ≤ 60 then Res.ok (D.int (onceT ys).length) else .no | none => .no) = _
    rw [strsOf_tx]
    simp only
    rw [if_pos (by simpa using hl)]
  · rw [onceT_iff ls.length _ (by simp)]
    constructor
    · intro h
      exact List.Pairwise.of_map SX.S (fun a b ne e => ne (by rw [e])) h
    · intro h
      exact List.Pairwise.map _ (fun a b ne e => ne (SX.S_inj e)) h
def badAt (v0 v1 : Int) (nl : List (List Nat)) (rows : List Rw) (k : Nat) : Nat := match rows[k]? with
  | some r => bad v0 v1 nl rows.length k r
  | none => 0
def firstK (v0 v1 : Int) (nl : List (List Nat)) (rows : List Rw) : Option Nat := (List.range rows.length).find? fun k => badAt v0 v1 nl rows k != 0
def codeRows (v0 v1 : Int) (nl : List (List Nat)) (rows : List Rw) : Nat := match firstK v0 v1 nl rows with
  | some k => badAt v0 v1 nl rows k
  | none => 0
def codeAll (v0 v1 : Int) (nl : List (List Nat)) (ps : List Proc) : Nat := match ps.find? fun p => codeRows v0 v1 nl p.2 != 0 with
  | some p => codeRows v0 v1 nl p.2
  | none => 0
def dueOf (v0 v1 : Int) (ps : List Proc) : Nat := if (ps.map (·.1)).Nodup then (if mainL ∈ ps.map (·.1) then codeAll v0 v1 (ps.map (·.1)) ps else 1) else 4
theorem bad_le {v0 v1 : Int} {nl : List (List Nat)} {n i : Nat} {r : Rw} : bad v0 v1 nl n i r ≤ 3 := by
  unfold bad
  repeat' split
  all_goals omega
theorem badAt_le {v0 v1 : Int} {nl : List (List Nat)} {rows : List Rw} {k : Nat} : badAt v0 v1 nl rows k ≤ 3 := by
  unfold badAt
  split
  · exact bad_le
  · omega
theorem firstK_ne {v0 v1 : Int} {nl : List (List Nat)} {rows : List Rw} {k : Nat} (h : firstK v0 v1 nl rows = some k) : badAt v0 v1 nl rows k ≠ 0 := by
  have := List.find?_some h
  simpa using this
theorem wl_ne {b : Nat} (h : b ≤ 3) : g_ne (tx (wordL b)) (tx (wordL 0)) = .ok (.bl (b != 0)) := by
  rw [g_ne_tx (as_word _) (as_word _)]
  obtain rfl | rfl | rfl | rfl : b = 0 ∨ b = 1 ∨ b = 2 ∨ b = 3 := by omega
  all_goals rfl
theorem lookR_ne {b : Nat} (h : b ≠ 0) : lookR b = .ex (errOf b) := by
  cases b with
  | zero => exact absurd rfl h
  | succ n => rfl
section
variable {v0 v1 : Int} {ps : List Proc} {nl : List (List Nat)}
theorem look_inner {P0 : List Proc} {rows : List Rw} {nm : List Nat} (hn : ∀ l ∈ nl, isName l) (sm : ∀ r ∈ rows, RwSm r) :
    forF [4] kName w_look_over_0 [4] ((List.range rows.length).map fun (k : Nat) => D.int (k : Int)) [some (eP v0 v1 P0), some (.lst (nl.map tx)), some (tx nm), some (.lst (rows.map eRw)), none, none] =
      (firstK v0 v1 nl rows).elim (.nx [some (eP v0 v1 P0), some (.lst (nl.map tx)), some (tx nm), some (.lst (rows.map eRw)), none, none])
        fun k => .ex (errOf (badAt v0 v1 nl rows k)) [some (eP v0 v1 P0), some (.lst (nl.map tx)), some (tx nm), some (.lst (rows.map eRw)), some (.int (k : Int)), none] := by
  have la : ∀ k, k < rows.length → m_look_at [eP v0 v1 P0, .lst (nl.map tx), .lst (rows.map eRw), .int (k : Int)] = lookR (badAt v0 v1 nl rows k) := fun k hk => by
    have e : rows[k]? = some rows[k] := List.getElem?_eq_getElem hk
    rw [look_at_any hn (sm _ (List.getElem_mem hk)) e]
    unfold badAt; rw [e]
  generalize eP v0 v1 P0 = P at *
  refine forF_findE (fun k => badAt v0 v1 nl rows k != 0) (fun k => .ex (errOf (badAt v0 v1 nl rows k)) [some P, some (.lst (nl.map tx)), some (tx nm), some (.lst (rows.map eRw)), some (.int (k : Int)), none]) fun k hk => ?_
  have hk : k < rows.length := List.mem_range.mp hk
  have l := la k hk
  by_cases z : badAt v0 v1 nl rows k = 0
  · rw [z] at l
    have l : m_look_at [P, .lst (nl.map tx), .lst (rows.map eRw), .int (k : Int)] = .ok .non := l
    simp -implicitDefEqProofs [w_look_over_0, l, z]
  · rw [lookR_ne z] at l
    simp -implicitDefEqProofs [w_look_over_0, l, z]
def kf (v0 v1 : Int) (nl : List (List Nat)) (rows : List Rw) : Nat := (firstK v0 v1 nl rows).getD 0
theorem code_some {rows : List Rw} {k : Nat} (h : firstK v0 v1 nl rows = some k) : codeRows v0 v1 nl rows = badAt v0 v1 nl rows k := by unfold codeRows; rw [h]
theorem code_none {rows : List Rw} (h : firstK v0 v1 nl rows = none) : codeRows v0 v1 nl rows = 0 := by unfold codeRows; rw [h]
theorem look_outer {P0 : List Proc} (hn : ∀ l ∈ nl, isName l) (sm : ∀ p ∈ ps, PSm p) :
    forF [2, 3] (kTup 2 (ksCons kName (ksCons kName ksNil))) w_look_over_1 [2, 3, 4] (ps.map eProc) [some (eP v0 v1 P0), some (.lst (nl.map tx)), none, none, none, none] =
      (ps.find? fun p => codeRows v0 v1 nl p.2 != 0).elim (.nx [some (eP v0 v1 P0), some (.lst (nl.map tx)), none, none, none, none])
        fun p => .ex (errOf (codeRows v0 v1 nl p.2)) [some (eP v0 v1 P0), some (.lst (nl.map tx)), some (tx p.1), some (.lst (p.2.map eRw)), some (.int (kf v0 v1 nl p.2 : Int)), none] := by
  refine forF_findE (fun p : Proc => codeRows v0 v1 nl p.2 != 0) (fun p => .ex (errOf (codeRows v0 v1 nl p.2)) [some (eP v0 v1 P0), some (.lst (nl.map tx)), some (tx p.1), some (.lst (p.2.map eRw)), some (.int (kf v0 v1 nl p.2 : Int)), none]) fun p hp => ?_
  have few := (sm p hp).few
  have li := look_inner (v0 := v0) (v1 := v1) (P0 := P0) (nm := p.1) hn (sm p hp).rw
  generalize eP v0 v1 P0 = P at *
  cases q : firstK v0 v1 nl p.2 with
  | none =>
    rw [q] at li
    simp only [Option.elim] at li
    rw [code_none q]
    simp -implicitDefEqProofs [w_look_over_1, eProc]
    rw [rng1_ok (by omega) (by omega)]
    simp -implicitDefEqProofs [li]
  | some k =>
    have ne := firstK_ne q
    rw [q] at li
    simp only [Option.elim] at li
    rw [code_some q]
    have ekf : kf v0 v1 nl p.2 = k := by unfold kf; rw [q]; rfl
    rw [ekf]
    simp -implicitDefEqProofs [w_look_over_1, eProc]
    rw [rng1_ok (by omega) (by omega)]
    simp -implicitDefEqProofs [li, ne]
theorem look_over_any (hn : ∀ p ∈ ps, isName p.1) (sm : ∀ p ∈ ps, PSm p) (hl : ps.length ≤ 60) : m_look_over [eP v0 v1 ps] = lookR (dueOf v0 v1 ps) := by
  have hn2 : ∀ l ∈ ps.map (·.1), isName l := fun l hl => by obtain ⟨p, hp, rfl⟩ := List.mem_map.mp hl; exact hn p hp
  have lo := look_outer (v0 := v0) (v1 := v1) (P0 := ps) hn2 sm
  unfold dueOf codeAll
  have enl : (ps.map (·.1)).length = ps.length := by simp
  obtain ⟨n, e1, e2⟩ := lenT_any (ls := ps.map (·.1)) (by omega)
  have hc : ∀ e0 e1 e2 e3 e4 : Option D, compL [5] kName tTrue (v2 g_ix (vVar 5) (vC (.int 0))) [e0, e1, e2, e3, e4, none] (ps.map eProc) = .ok ((ps.map (·.1)).map tx) := fun e0 e1 e2 e3 e4 => by
    rw [compL_eq (fun p => tx p.1) (fun p hp => by simp -implicitDefEqProofs [eProc]), List.map_map]; rfl
  have gm := g_notin_tx low_main.asc (fun l hl => (hn2 l hl).1.asc)
  have gp : g_ix (eP v0 v1 ps) (.int 2) = .ok (.lst (ps.map eProc)) := rfl
  generalize hN : ps.map (·.1) = nl at *
  generalize eP v0 v1 ps = P at *
  by_cases nd : nl.Nodup
  · rw [if_pos nd]
    have en := e2.mpr nd
    have en : n = ps.length := by omega
    by_cases nm : mainL ∈ nl
    · rw [if_pos nm]
      rw [decide_eq_true nm] at gm
      cases q : ps.find? fun p => codeRows v0 v1 nl p.2 != 0 with
      | none =>
        rw [q] at lo
        simp only [Option.elim] at lo
        simp -implicitDefEqProofs [m_look_over, b_look_over, gp, hc, enl, show ps.length ≤ 16777216 by omega, e1, en, gm, lit_main, -g_notin_eq, lo, lookR, g_ne_int, -g_ne_S]
      | some p =>
        rw [q] at lo
        simp only [Option.elim] at lo
        have ne : codeRows v0 v1 nl p.2 ≠ 0 := by simpa using List.find?_some q
        simp only
        rw [lookR_ne ne]
        simp -implicitDefEqProofs [m_look_over, b_look_over, gp, hc, enl, show ps.length ≤ 16777216 by omega, e1, en, gm, lit_main, -g_notin_eq, lo, g_ne_int, -g_ne_S]
    · rw [if_neg nm]
      rw [decide_eq_false nm] at gm
      simp -implicitDefEqProofs [m_look_over, b_look_over, gp, hc, enl, show ps.length ≤ 16777216 by omega, e1, en, gm, lit_main, -g_notin_eq, lookR, errOf, g_ne_int, -g_ne_S]
  · rw [if_neg nd]
    have en : ¬ ((n : Int) = (ps.length : Int)) := fun e => nd (e2.mp (by omega))
    simp -implicitDefEqProofs [m_look_over, b_look_over, gp, hc, enl, show ps.length ≤ 16777216 by omega, e1, en, lookR, errOf, g_ne_int, -g_ne_S]
end
end K53
namespace K53
open PySem L2 DL G4 G16
section
variable {v0 v1 : Int} {ps : List Proc} {nl : List (List Nat)}
theorem word_inner {P0 : List Proc} {rows : List Rw} {nm : List Nat} {x2 : Option D} (hn : ∀ l ∈ nl, isName l) (sm : ∀ r ∈ rows, RwSm r) :
    forF [5] kName w_word_1 [5, 6] ((List.range rows.length).map fun (k : Nat) => D.int (k : Int)) [some (eP v0 v1 P0), some (.lst (nl.map tx)), x2, some (tx nm), some (.lst (rows.map eRw)), none, none] =
      (firstK v0 v1 nl rows).elim (.nx [some (eP v0 v1 P0), some (.lst (nl.map tx)), x2, some (tx nm), some (.lst (rows.map eRw)), none, none])
        fun k => .rt (tx (wordL (badAt v0 v1 nl rows k))) := by
  have la : ∀ k, k < rows.length → m_row_word [eP v0 v1 P0, .lst (nl.map tx), .lst (rows.map eRw), .int (k : Int)] = .ok (tx (wordL (badAt v0 v1 nl rows k))) := fun k hk => by
    have e : rows[k]? = some rows[k] := List.getElem?_eq_getElem hk
    rw [row_word_any hn (sm _ (List.getElem_mem hk)) e]
    unfold badAt; rw [e]
  generalize eP v0 v1 P0 = P at *
  refine forF_findE (fun k => badAt v0 v1 nl rows k != 0) (fun k => .rt (tx (wordL (badAt v0 v1 nl rows k)))) fun k hk => ?_
  have hk : k < rows.length := List.mem_range.mp hk
  have l := la k hk
  have w := wl_ne (badAt_le (v0 := v0) (v1 := v1) (nl := nl) (rows := rows) (k := k))
  generalize badAt v0 v1 nl rows k = b at *
  cases z : (b != 0)
  · rw [z] at w
    simp -implicitDefEqProofs [w_word_1, l, lw0, -g_ne_S, w]
  · rw [z] at w
    simp -implicitDefEqProofs [w_word_1, l, lw0, -g_ne_S, w]
theorem word_outer {P0 : List Proc} {x2 : Option D} (hn : ∀ l ∈ nl, isName l) (sm : ∀ p ∈ ps, PSm p) :
    forF [3, 4] (kTup 2 (ksCons kName (ksCons kName ksNil))) w_word_2 [3, 4, 5, 6] (ps.map eProc) [some (eP v0 v1 P0), some (.lst (nl.map tx)), x2, none, none, none, none] =
      (ps.find? fun p => codeRows v0 v1 nl p.2 != 0).elim (.nx [some (eP v0 v1 P0), some (.lst (nl.map tx)), x2, none, none, none, none])
        fun p => .rt (tx (wordL (codeRows v0 v1 nl p.2))) := by
  refine forF_findE (fun p : Proc => codeRows v0 v1 nl p.2 != 0) (fun p => .rt (tx (wordL (codeRows v0 v1 nl p.2)))) fun p hp => ?_
  have few := (sm p hp).few
  have li := word_inner (v0 := v0) (v1 := v1) (P0 := P0) (nm := p.1) (x2 := x2) hn (sm p hp).rw
  generalize eP v0 v1 P0 = P at *
  cases q : firstK v0 v1 nl p.2 with
  | none =>
    rw [q] at li
    simp only [Option.elim] at li
    rw [code_none q]
    simp -implicitDefEqProofs [w_word_2, eProc]
    rw [rng1_ok (by omega) (by omega)]
    simp -implicitDefEqProofs [li]
  | some k =>
    have ne := firstK_ne q
    rw [q] at li
    simp only [Option.elim] at li
    rw [code_some q]
    simp -implicitDefEqProofs [w_word_2, eProc]
    rw [rng1_ok (by omega) (by omega)]
    simp -implicitDefEqProofs [li, ne]
theorem twice_loop {P : D} {x4 x5 x6 : Option D} (hn : ∀ l ∈ nl, isName l) :
    forF [2, 3] (kTup 2 (ksCons kName (ksCons kName ksNil))) w_word_0 [2, 3] (enumD (nl.map tx)) [some P, some (.lst (nl.map tx)), none, none, x4, x5, x6] =
      if nl.Nodup then .nx [some P, some (.lst (nl.map tx)), none, none, x4, x5, x6] else .rt (tx (wordL 4)) := by
  rw [enumD_map]
  rw [forF_findE (fun q : List Nat × Nat => decide (q.1 ∈ nl.take q.2)) (fun _ => .rt (tx (wordL 4))) fun q hq => ?_]
  · have key : (nl.zipIdx.find? fun q : List Nat × Nat => decide (q.1 ∈ nl.take q.2)) = none ↔ nl.Nodup := by
      rw [List.find?_eq_none, nodup_take]
      constructor
      · intro h i x hx hm
        have : (x, i) ∈ nl.zipIdx := by rw [List.mk_mem_zipIdx_iff_getElem?]; exact hx
        exact h _ this (by simpa using hm)
      · intro h q hq
        have : nl[q.2]? = some q.1 := by rw [← List.mk_mem_zipIdx_iff_getElem?]; exact hq
        have := h _ _ this
        simpa using this
    cases z : nl.zipIdx.find? fun q : List Nat × Nat => decide (q.1 ∈ nl.take q.2) with
    | none => rw [if_pos (key.mp z)]; rfl
    | some x => rw [if_neg fun h => by rw [key.mpr h] at z; cases z]; rfl
  · have hq' : nl[q.2]? = some q.1 := by rw [← List.mk_mem_zipIdx_iff_getElem?]; exact hq
    have c1 : cutA nl none (some (q.2 : Int)) = nl.take q.2 := cutA_to nl q.2
    have g := g_in_tx (a := q.1) (ls := nl.take q.2) (hn _ (mem_getElem? hq')).1.asc (fun l hl => (hn l (List.mem_of_mem_take hl)).1.asc)
    have g : g_in (tx q.1) (.lst ((cutA nl none (some (q.2 : Int))).map tx)) = .ok (.bl (decide (q.1 ∈ nl.take q.2))) := by rw [c1]; exact g
    cases z : decide (q.1 ∈ nl.take q.2)
    · rw [z] at g
      simp -implicitDefEqProofs [w_word_0, g, -g_in_eq, -List.map_take, lw4]
    · rw [z] at g
      simp -implicitDefEqProofs [w_word_0, g, -g_in_eq, -List.map_take, lw4]
theorem word_any (hn : ∀ p ∈ ps, isName p.1) (sm : ∀ p ∈ ps, PSm p) (hl : ps.length ≤ 60) : m_word [eP v0 v1 ps] = .ok (tx (wordL (dueOf v0 v1 ps))) := by
  have hn2 : ∀ l ∈ ps.map (·.1), isName l := fun l hl => by obtain ⟨p, hp, rfl⟩ := List.mem_map.mp hl; exact hn p hp
  have lo := word_outer (v0 := v0) (v1 := v1) (P0 := ps) (x2 := none) hn2 sm
  have tl := twice_loop (P := eP v0 v1 ps) (x4 := none) (x5 := none) (x6 := none) hn2
  unfold dueOf codeAll
  have enl : (ps.map (·.1)).length = ps.length := by simp
  have hc : ∀ e0 e1 e2 e5 e6 : Option D, compL [3, 4] (kTup 2 (ksCons kName (ksCons kName ksNil))) tTrue (vVar 3) [e0, e1, e2, none, none, e5, e6] (ps.map eProc) = .ok ((ps.map (·.1)).map tx) := fun e0 e1 e2 e5 e6 => by
    rw [compL_eq (fun p => tx p.1) (fun p hp => by simp -implicitDefEqProofs [eProc]), List.map_map]; rfl
  have gm := g_notin_tx low_main.asc (fun l hl => (hn2 l hl).1.asc)
  have gp : g_ix (eP v0 v1 ps) (.int 2) = .ok (.lst (ps.map eProc)) := rfl
  generalize hN : ps.map (·.1) = nl at *
  generalize eP v0 v1 ps = P at *
  by_cases nd : nl.Nodup
  · rw [if_pos nd] at tl ⊢
    by_cases nm : mainL ∈ nl
    · rw [if_pos nm]
      rw [decide_eq_true nm] at gm
      cases q : ps.find? fun p => codeRows v0 v1 nl p.2 != 0 with
      | none =>
        rw [q] at lo
        simp only [Option.elim] at lo
        simp -implicitDefEqProofs [m_word, b_word, gp, hc, enl, show ps.length ≤ 16777216 by omega, tl, gm, lit_main, -g_notin_eq, lo, lw0]
      | some p =>
        rw [q] at lo
        simp only [Option.elim] at lo
        simp -implicitDefEqProofs [m_word, b_word, gp, hc, enl, show ps.length ≤ 16777216 by omega, tl, gm, lit_main, -g_notin_eq, lo]
    · rw [if_neg nm]
      rw [decide_eq_false nm] at gm
      simp -implicitDefEqProofs [m_word, b_word, gp, hc, enl, show ps.length ≤ 16777216 by omega, tl, gm, lit_main, -g_notin_eq, lw1]
  · rw [if_neg nd] at tl ⊢
    simp -implicitDefEqProofs [m_word, b_word, gp, hc, enl, show ps.length ≤ 16777216 by omega, tl]
end
end K53
namespace K53
open PySem L2 DL G4 G16
theorem PSm.ps {p : Proc} (h : PSm p) : PS p := ⟨h.nm, h.rw, h.ne⟩
theorem dueOf_le {v0 v1 : Int} {ps : List Proc} : dueOf v0 v1 ps ≤ 4 := by
  unfold dueOf
  split
  · split
    · unfold codeAll
      split
      · unfold codeRows
        split
        · exact Nat.le_trans badAt_le (by omega)
        · omega
      · omega
    · omega
  · omega
theorem read_procedure_can {p : Proc} (h : PSm p) : m_read_procedure [tx (procT p)] = .ok (eProc p) := by
  have e1 := splR_tx (a := procT p) (b := [58, 32]) (by simp) (by decide) (by have := procT_len h; omega)
  rw [procT_spl h] at e1
  have e2 := splR_tx (a := rowsT p.2) (b := [44, 32]) (by simp) (by decide) (by have := rowsT_len h.rw; have := h.few; omega)
  rw [rowsT_spl h.rw h.ne, List.map_map] at e2
  have hn := is_name_ok h.nm
  have hc : ∀ x y, compLX [2] kName tTrue (vCallN 1 m_read_row (aCons (vVar 2) aNil)) [x, y, none] (p.2.map (tx ∘ rowT)) = .ok (p.2.map eRw) := fun x y =>
    compLX_ok (tx ∘ rowT) eRw fun r hr => by
      simp -implicitDefEqProofs [read_row_ok (h.rw r hr)]
  have hf := h.few
  generalize procT p = T at e1
  generalize rowsT p.2 = R at e1 e2
  simp only [List.map_cons, List.map_nil] at e1
  simp -implicitDefEqProofs [m_read_procedure, b_read_procedure, lit_ds, lit_cs, e1, e2, hn, hc, show p.2.length ≤ 16777216 by omega, eProc, -List.map_map, e_compX]
theorem read_prog {a b : Int} {ps : List Proc} (ha : V4 a) (hb : V4 b) (sm : ∀ p ∈ ps, PSm p) (hl : ps.length ≤ 60) (h0 : ps ≠ []) :
    m_read [tx (progT a b ps)] = if dueOf a b ps = 0 then .ok (eP a b ps) else .ex (errOf (dueOf a b ps)) := by
  have p0 : 0 < ps.length := List.length_pos_iff.mpr h0
  have e1 := splR_tx (a := progT a b ps) (b := [59, 32]) (by simp) (by decide) (by have := progT_len ha hb sm (by omega); omega)
  rw [show TL.spl [59, 32] 0 [] (progT a b ps) = _ from SX.spl_join (c := 59) (sep := [32]) (by simp) fun p hp => by
    rcases List.mem_cons.mp hp with rfl | hp
    · exact valT_no
    · obtain ⟨q, hq, rfl⟩ := List.mem_map.mp hp
      exact (PSm.ps (sm q hq)).no] at e1
  have hv := read_values_ok ha hb
  have lo := look_over_any (v0 := a) (v1 := b) (fun p hp => (sm p hp).nm) sm hl
  have hc : ∀ e0 e1 e2 e3 : Option D, compLX [4] kName tTrue (vCallN 1 m_read_procedure (aCons (vVar 4) aNil)) [e0, e1, e2, e3, none] (ps.map fun p => tx (procT p)) = .ok (ps.map eProc) := fun e0 e1 e2 e3 =>
    compLX_ok (fun p => tx (procT p)) eProc fun p hp => by
      simp -implicitDefEqProofs [read_procedure_can (sm p hp)]
  generalize progT a b ps = T at *
  generalize valT a b = V at *
  rw [List.map_cons, List.map_map] at e1
  have e1 : splR ⟨T.toArray⟩ (tx [59, 32]) = .ok (tx V :: ps.map fun p => tx (procT p)) := e1
  have n2 : ¬ ((ps.length : Int) + 1 < 2) := by omega
  by_cases z : dueOf a b ps = 0
  · rw [if_pos z]
    rw [z] at lo
    have lo : m_look_over [eP a b ps] = .ok .non := lo
    unfold eP at lo ⊢
    simp -implicitDefEqProofs [m_read, b_read, r_read_0, r_read_1, r_read_2, r_read_3, r_read_4, r_read_5, r_read_6, lit_ss, e1, hv, hc, n2, lo, e_compX, show ps.length ≤ 16777216 by omega]
  · rw [if_neg z]
    rw [lookR_ne z] at lo
    unfold eP at lo
    simp -implicitDefEqProofs [m_read, b_read, r_read_0, r_read_1, r_read_2, r_read_3, r_read_4, r_read_5, r_read_6, lit_ss, e1, hv, hc, n2, lo, e_compX, show ps.length ≤ 16777216 by omega]
def textL : List Nat := [116, 101, 120, 116]
theorem lit_text : D.str (Str.ofString "text") = tx textL := tx_lit _ (by decide +kernel)
theorem as_text : asc textL := by unfold asc textL; decide
theorem lk_1 (a b c d e : Bool) : List.lookup (Str.ofString "NoRow") [(Str.ofString "NoName", a), (Str.ofString "NoRow", b), (Str.ofString "NoText", c), (Str.ofString "NoValue", d), (Str.ofString "Twice", e)] = some b := by
  revert a b c d e; decide +kernel
theorem lk_2 (a b c d e : Bool) : List.lookup (Str.ofString "NoText") [(Str.ofString "NoName", a), (Str.ofString "NoRow", b), (Str.ofString "NoText", c), (Str.ofString "NoValue", d), (Str.ofString "Twice", e)] = some c := by
  revert a b c d e; decide +kernel
theorem lk_3 (a b c d e : Bool) : List.lookup (Str.ofString "NoValue") [(Str.ofString "NoName", a), (Str.ofString "NoRow", b), (Str.ofString "NoText", c), (Str.ofString "NoValue", d), (Str.ofString "Twice", e)] = some d := by
  revert a b c d e; decide +kernel
theorem lk_4 (a b c d e : Bool) : List.lookup (Str.ofString "Twice") [(Str.ofString "NoName", a), (Str.ofString "NoRow", b), (Str.ofString "NoText", c), (Str.ofString "NoValue", d), (Str.ofString "Twice", e)] = some e := by
  revert a b c d e; decide +kernel
theorem lr_text {d : D} (h : m_read [d] = .ex "NoText") : m_law_read [d] = .ok (.tup [tx textL, .non]) := by
  simp -implicitDefEqProofs [m_law_read, b_law_read, h, lit_text, lk_1, lk_2, lk_3, lk_4]
theorem lr_ok {d P : D} (h : m_read [d] = .ok P) : m_law_read [d] = .ok (.tup [tx (wordL 0), P]) := by
  simp -implicitDefEqProofs [m_law_read, b_law_read, h, lw0]
theorem lr_err {d : D} {n : Nat} (h1 : 1 ≤ n) (h2 : n ≤ 4) (h : m_read [d] = .ex (errOf n)) : m_law_read [d] = .ok (.tup [tx (wordL n), .non]) := by
  obtain rfl | rfl | rfl | rfl : n = 1 ∨ n = 2 ∨ n = 3 ∨ n = 4 := by omega
  all_goals simp only [errOf] at h
  · simp -implicitDefEqProofs [m_law_read, b_law_read, h, lw1, lk_1, lk_2, lk_3, lk_4]
  · simp -implicitDefEqProofs [m_law_read, b_law_read, h, lw2, lk_1, lk_2, lk_3, lk_4]
  · simp -implicitDefEqProofs [m_law_read, b_law_read, h, lw3, lk_1, lk_2, lk_3, lk_4]
  · simp -implicitDefEqProofs [m_law_read, b_law_read, h, lw4, lk_1, lk_2, lk_3, lk_4]
end K53
namespace K53
open PySem L2 DL G4 G16
theorem name_lit {l : List Nat} (h : decide (isName l) = true) : isName l := of_decide_eq_true h
theorem stranger_ok {nl : List (List Nat)} (hn : ∀ l ∈ nl, isName l) : ∃ l, m_stranger [.lst (nl.map tx)] = .ok (tx l) ∧ isName l := by
  let L : List (List Nat) := [[109, 97, 105, 110, 115], [109, 97, 105], [111], [111, 116, 104, 101, 114], [122, 122, 122, 122, 122, 122, 122, 122], [109, 97, 105, 109]]
  have hL : ∀ l ∈ L, isName l := by
    intro l hl
    have : ∀ l ∈ L, decide (isName l) = true := by decide
    exact name_lit (this l hl)
  have e0 : D.str (Str.ofString "mains") = tx [109, 97, 105, 110, 115] := tx_lit _ (by decide +kernel)
  have e1 : D.str (Str.ofString "mai") = tx [109, 97, 105] := tx_lit _ (by decide +kernel)
  have e2 : D.str (Str.ofString "o") = tx [111] := tx_lit _ (by decide +kernel)
  have e3 : D.str (Str.ofString "other") = tx [111, 116, 104, 101, 114] := tx_lit _ (by decide +kernel)
  have e4 : D.str (Str.ofString "zzzzzzzz") = tx [122, 122, 122, 122, 122, 122, 122, 122] := tx_lit _ (by decide +kernel)
  have e5 : D.str (Str.ofString "maim") = tx [109, 97, 105, 109] := tx_lit _ (by decide +kernel)
  have e6 : D.str (Str.ofString "nobody") = tx [110, 111, 98, 111, 100, 121] := tx_lit _ (by decide +kernel)
  have lp := forF_findE (is := [1]) (fg := [1]) (ks := kName) (F := w_stranger_0) (enc := tx) (ρ := [some (.lst (nl.map tx)), none]) (fun l => !decide (l ∈ nl)) (fun l => .rt (tx l)) (xs := L) fun l hl => by
    have g := g_notin_tx (hL l hl).1.asc (fun l hl => (hn l hl).1.asc)
    cases z : decide (l ∈ nl)
    · rw [z] at g
      simp -implicitDefEqProofs [w_stranger_0, g, -g_notin_eq, z]
    · rw [z] at g
      simp -implicitDefEqProofs [w_stranger_0, g, -g_notin_eq, z]
  have lp2 : forF [1] kName w_stranger_0 [1] [tx [109, 97, 105, 110, 115], tx [109, 97, 105], tx [111], tx [111, 116, 104, 101, 114], tx [122, 122, 122, 122, 122, 122, 122, 122], tx [109, 97, 105, 109]] [some (.lst (nl.map tx)), none] = _ := lp
  cases q : L.find? fun l => !decide (l ∈ nl) with
  | none =>
    rw [q] at lp2
    simp only [Option.elim] at lp2
    exact ⟨[110, 111, 98, 111, 100, 121], by simp -implicitDefEqProofs [m_stranger, b_stranger, e0, e1, e2, e3, e4, e5, e6, lp2], name_lit (by decide)⟩
  | some l =>
    rw [q] at lp2
    simp only [Option.elim] at lp2
    exact ⟨l, by simp -implicitDefEqProofs [m_stranger, b_stranger, e0, e1, e2, e3, e4, e5, e6, lp2], hL l (List.mem_of_find?_eq_some q)⟩
theorem wrong_row_ok {c v0 v1 many : Int} {nl : List (List Nat)} (h0 : 0 < v0 ∧ v0 ≤ 4) (h1 : 0 < v1 ∧ v1 ≤ 4) (hm : 0 < many ∧ many ≤ 99) (hn : ∀ l ∈ nl, isName l) :
    ∃ r, m_wrong_row [.int c, .lst [.int v0, .int v1], .int many, .lst (nl.map tx)] = .ok (eRw r) ∧ RwSm r := by
  have s := dg_rng c 1013 (m := 2) (by decide)
  have m3 := dg_rng c 1019 (m := 3) (by decide)
  have l6 := dg_rng c 1109 (m := 6) (by decide)
  obtain ⟨st, hst, nst⟩ := stranger_ok hn
  have hside : ∃ sh : Bool, g_ix (.lst [.str "shared", .str "own"]) (.int (dg c 1013 2)) = .ok (eSide sh) ∧ g_ix (.lst [.int v0, .int v1]) (.int (dg c 1013 2)) = .ok (.int (vOf v0 v1 sh)) := by
    generalize dg c 1013 2 = d at s
    obtain rfl | rfl : d = 0 ∨ d = 1 := by omega
    · exact ⟨true, rfl, rfl⟩
    · exact ⟨false, rfl, rfl⟩
  have hgo : ∃ b : Bool, g_ix (.lst [.str "go", .str "fork"]) (.int (dg c 1013 2)) = .ok (if b then .str "go" else .str "fork") := by
    generalize dg c 1013 2 = d at s
    obtain rfl | rfl : d = 0 ∨ d = 1 := by omega
    · exact ⟨true, rfl⟩
    · exact ⟨false, rfl⟩
  have hmore : ∃ x : Int, g_ix (.lst [.int 0, .int 1, .int 900]) (.int (dg c 1019 3)) = .ok (.int x) ∧ 0 ≤ x ∧ x ≤ 900 := by
    generalize dg c 1019 3 = d at m3
    obtain rfl | rfl | rfl : d = 0 ∨ d = 1 ∨ d = 2 := by omega
    · exact ⟨0, rfl, by omega, by omega⟩
    · exact ⟨1, rfl, by omega, by omega⟩
    · exact ⟨900, rfl, by omega, by omega⟩
  obtain ⟨sh, s1, s2⟩ := hside
  obtain ⟨b, gb⟩ := hgo
  obtain ⟨x, hx, x0, x1⟩ := hmore
  have vo : 0 ≤ vOf v0 v1 sh ∧ vOf v0 v1 sh ≤ 4 := by cases sh <;> simp only [vOf] <;> omega
  have n1 : NumOk (vOf v0 v1 sh + x) := ⟨by omega, by omega⟩
  have n2 : NumOk (many + x) := ⟨by omega, by omega⟩
  have n0 : NumOk 0 := ⟨by omega, by omega⟩
  generalize hl : dg c 1109 6 = lot at *
  have R : ∀ r, r_wrong_row_4 [some (.int c), some (.lst [.int v0, .int v1]), some (.int many), some (.lst (nl.map tx)), some (.int (dg c 1013 2)), some (eSide sh), some (.int x), some (.int lot)] = .rt (eRw r) → m_wrong_row [.int c, .lst [.int v0, .int v1], .int many, .lst (nl.map tx)] = .ok (eRw r) := fun r h => by
    simp -implicitDefEqProofs [m_wrong_row, b_wrong_row, r_wrong_row_0, r_wrong_row_1, r_wrong_row_2, r_wrong_row_3, digit_ok, hl, s1, hx, h]
  obtain rfl | rfl | rfl | rfl | rfl | rfl : lot = 0 ∨ lot = 1 ∨ lot = 2 ∨ lot = 3 ∨ lot = 4 ∨ lot = 5 := by omega
  · exact ⟨.call st, R _ (by simp -implicitDefEqProofs [r_wrong_row_4, hst, eRw, G4.wordsOf]), nst⟩
  · exact ⟨.set sh (vOf v0 v1 sh + x), R _ (by simp -implicitDefEqProofs [r_wrong_row_4, r_wrong_row_5, s2, eRw, G4.wordsOf]), n1⟩
  · cases b
    · exact ⟨.fork (many + x), R _ (by simp -implicitDefEqProofs [r_wrong_row_4, r_wrong_row_5, r_wrong_row_6, gb, eRw, G4.wordsOf]), n2⟩
    · exact ⟨.go (many + x), R _ (by simp -implicitDefEqProofs [r_wrong_row_4, r_wrong_row_5, r_wrong_row_6, gb, eRw, G4.wordsOf]), n2⟩
  · exact ⟨.iff sh (vOf v0 v1 sh + x) (many + x), R _ (by simp -implicitDefEqProofs [r_wrong_row_4, r_wrong_row_5, r_wrong_row_6, r_wrong_row_7, s2, eRw, G4.wordsOf]), n1, n2⟩
  · exact ⟨.iff sh 0 (many + x), R _ (by simp -implicitDefEqProofs [r_wrong_row_4, r_wrong_row_5, r_wrong_row_6, r_wrong_row_7, r_wrong_row_8, eRw, G4.wordsOf]), n0, n2⟩
  · exact ⟨.skip, R _ (by simp -implicitDefEqProofs [r_wrong_row_4, r_wrong_row_5, r_wrong_row_6, r_wrong_row_7, r_wrong_row_8, r_wrong_row_9, eRw, G4.wordsOf]), trivial⟩
theorem ldeal_ok {cs : List Int} {names : List D} (hn : 0 < names.length) {x0 x1 x3 x4 x7 x8 x9 x10 x11 x12 x13 : Option D} (hcl : cs.length ≤ 60) : ∀ o, forF [6] kName w_loose_0 [6] (cs.map D.int) [x0, x1, some (.lst names), x3, x4, some (.lst (dD (List.replicate names.length []))), none, x7, x8, x9, x10, x11, x12, x13] = o →
    ∃ L, o = .nx [x0, x1, some (.lst names), x3, x4, some (.lst (dD L)), none, x7, x8, x9, x10, x11, x12, x13] ∧ L.length = names.length ∧ ∀ l ∈ L, l.length ≤ 60 := fun o hF => by
  obtain ⟨L, rfl, iv⟩ := forF_inv (S := List (List Int)) hF (fun L => [x0, x1, some (.lst names), x3, x4, some (.lst (dD L)), none, x7, x8, x9, x10, x11, x12, x13]) (fun i L => L.length = names.length ∧ ∀ l ∈ L, l.length ≤ i) _ ⟨by simp, by simp⟩ rfl (fun i L c hx iv => by
    obtain ⟨hL, hl⟩ := iv
    have hi := idx_lt hx
    have d := dg_rng c 1051 (m := (names.length : Int)) (by omega)
    obtain ⟨k, hk⟩ := Int.eq_ofNat_of_zero_le d.1
    rw [hk] at d
    have kl : k < L.length := by omega
    have gk : L[k]? = some L[k] := by simp [kl]
    have ll := hl _ (List.getElem_mem kl)
    have ix : ixN (dD L).length (k : Int) = some k := by rw [dD_len]; exact ixN_ok (by omega) (by omega)
    refine ⟨L.set k (L[k] ++ [c]), ?_, by simp [hL], fun l hm => ?_⟩
    · have e1 : D.lst ((L[k].map D.int) ++ [.int c]) = D.lst ((L[k] ++ [c]).map D.int) := by simp
      simp -implicitDefEqProofs [w_loose_0, digit_ok, hn, hk, noEx, ix, dD_get gk, show L[k].length < 16777216 by omega]
      rw [e1, dD_set]
    · rcases List.mem_or_eq_of_mem_set hm with h | rfl
      · have := hl l h; omega
      · simp; omega)
  exact ⟨L, rfl, iv.1, fun l h => by have := iv.2 l h; omega⟩
theorem lrows_ok {os : List Int} {v0 v1 : Int} {rare : Int} {nl : List (List Nat)} {x0 x3 x5 x7 x8 x9 : Option D} (hr : rare = 9 ∨ rare = 61) (hol : os.length ≤ 62) (h0 : 0 < v0 ∧ v0 ≤ 4) (h1 : 0 < v1 ∧ v1 ≤ 4) (hn : 0 < nl.length) (hn2 : nl.length ≤ 10) (hnm : ∀ l ∈ nl, isName l) : ∀ o,
    forF [12, 6] (kTup 2 (ksCons kName (ksCons kName ksNil))) w_loose_2 [6, 12, 13] (os.zipIdx.map fun p => D.tup [.int (p.2 : Int), .int p.1]) [x0, some (.lst [.int v0, .int v1]), some (.lst (nl.map tx)), x3, some (.int rare), x5, none, x7, x8, x9, some (.lst (os.map D.int)), some (.lst []), none, none] = o →
    ∃ rows : List Rw, o = .nx [x0, some (.lst [.int v0, .int v1]), some (.lst (nl.map tx)), x3, some (.int rare), x5, none, x7, x8, x9, some (.lst (os.map D.int)), some (.lst (rows.map eRw)), none, none] ∧ rows.length = os.length ∧ ∀ r ∈ rows, RwSm r := fun o hF => by
  obtain ⟨rows, rfl, iv⟩ := forF_inv (S := List Rw) hF (fun rows => [x0, some (.lst [.int v0, .int v1]), some (.lst (nl.map tx)), x3, some (.int rare), x5, none, x7, x8, x9, some (.lst (os.map D.int)), some (.lst (rows.map eRw)), none, none]) (fun i rows => rows.length = i ∧ (∀ r ∈ rows, RwSm r)) [] ⟨rfl, by simp⟩ rfl (fun i rows p hx iv => by
    obtain ⟨e1, e2⟩ := zipIdx_get hx
    have hi := idx_lt e2
    have rp : 0 < rare := by rcases hr with rfl | rfl <;> decide
    obtain ⟨r, hr, ok, en⟩ := row_ok (c := p.1) (v0 := v0) (v1 := v1) (many := (os.length : Int)) (nl := nl) (last := decide ((p.2 : Int) = (os.length : Int) - 1)) h0.1 h1.1 (by omega) hn (by omega)
    have sm := rwSm ok h0.2 h1.2 (by omega) hnm
    obtain ⟨r2, hr2, sm2⟩ := wrong_row_ok (c := p.1) (v0 := v0) (v1 := v1) (many := (os.length : Int)) h0 h1 ⟨by omega, by omega⟩ hnm
    by_cases z : dg p.1 1117 rare = 4
    · refine ⟨rows ++ [r2], ?_, by simp [iv.1], fun r' hr' => ?_⟩
      · simp -implicitDefEqProofs [w_loose_2, hr, hr2, digit_ok, rp, z, show rows.length < 16777216 by omega, imm_eRw]
      · rcases List.mem_append.mp hr' with h | h
        · exact iv.2 r' h
        · rw [show r' = r2 by simpa using h]; exact sm2
    · refine ⟨rows ++ [r], ?_, by simp [iv.1], fun r' hr' => ?_⟩
      · simp -implicitDefEqProofs [w_loose_2, hr, hr2, digit_ok, rp, z, show rows.length < 16777216 by omega, imm_eRw]
      · rcases List.mem_append.mp hr' with h | h
        · exact iv.2 r' h
        · rw [show r' = r by simpa using h]; exact sm)
  have h := iv.1
  simp at h
  exact ⟨rows, rfl, h, iv.2⟩
end K53
namespace K53
open PySem L2 DL G4 G16
theorem loose_ok {cs : List Int} {v0 v1 c : Int} {nl : List (List Nat)} (hcl : cs.length ≤ 60) (h0 : 0 < v0 ∧ v0 ≤ 4) (h1 : 0 < v1 ∧ v1 ≤ 4) (hn : 0 < nl.length) (hn2 : nl.length ≤ 10) (hnm : ∀ l ∈ nl, isName l) :
    ∃ ps : List Proc, m_loose [.lst (cs.map D.int), .lst [.int v0, .int v1], .lst (nl.map tx), .int c] = .ok (eP v0 v1 ps) ∧ ps.map (·.1) = nl ∧ ∀ p ∈ ps, PSm p ∧ p.2.length ≤ 62 := by
  have r2 := dg_rng c 1163 (m := 2) (by decide)
  obtain ⟨rare, hrare, hr⟩ : ∃ rare, g_ix (.lst [.int 9, .int 61]) (.int (dg c 1163 2)) = .ok (.int rare) ∧ (rare = 9 ∨ rare = 61) := by
    generalize dg c 1163 2 = d at r2
    obtain rfl | rfl : d = 0 ∨ d = 1 := by omega
    · exact ⟨9, rfl, .inl rfl⟩
    · exact ⟨61, rfl, .inr rfl⟩
  have hc : ∀ e0 e1 e2 e3 e4 e5 e6 e7 e8 e10 e11 e12 e13 : Option D, compL [9] kName tTrue (vLstI (nLst aNil)) [e0, e1, e2, e3, e4, e5, e6, e7, e8, none, e10, e11, e12, e13] (nl.map tx) = .ok (nl.map fun _ => D.lst []) := fun _ _ _ _ _ _ _ _ _ _ _ _ _ => compL_eq (fun _ => D.lst []) (fun x _ => by simp -implicitDefEqProofs)
  have e0 : (nl.map fun _ => D.lst []) = dD (List.replicate nl.length []) := by unfold dD; simp [List.map_const']
  simp -implicitDefEqProofs [m_loose, b_loose, digit_ok, hrare, hc, show nl.length ≤ 16777216 by omega]
  rw [e0]
  generalize hF : forF _ _ _ _ _ _ = o
  have e1 : nl.length = (nl.map tx).length := by simp
  rw [e1] at hF
  obtain ⟨L, rfl, hL, hl⟩ := ldeal_ok (by simpa using hn) hcl o hF
  simp -implicitDefEqProofs [enumD_map]
  generalize hG : forF _ _ _ _ _ _ = o
  obtain ⟨ps, rfl, iv⟩ := forF_inv (S := List Proc) hG (fun ps => [some (.lst (cs.map D.int)), some (.lst [.int v0, .int v1]), some (.lst (nl.map tx)), some (.int c), some (.int rare), some (.lst (dD L)), none, some (.lst (ps.map eProc)), none, none, none, none, none, none]) (fun i ps => ps.map (·.1) = nl.take i ∧ ∀ p ∈ ps, PSm p ∧ p.2.length ≤ 62) [] ⟨rfl, by simp⟩ rfl (fun i ps q hx iv => by
    obtain ⟨e1, e2⟩ := zipIdx_get hx
    have hi := idx_lt e2
    have hm := mem_getElem? e2
    have hL2 : L.length = nl.length := by simpa using hL
    have gi : L[i]? = some (L[i]'(by omega)) := by simp [hL2, hi]
    have ll := hl _ (List.getElem_mem (show i < L.length by omega))
    generalize hli : L[i]'(by omega) = li at gi ll
    have gx : g_ix (.lst (dD L)) (.int (i : Int)) = .ok (.lst (li.map D.int)) := by
      have := g_ix_nat (dD L) i (by rw [dD_len]; omega)
      rw [this]
      have h2 := dD_get gi
      rw [List.getElem?_eq_getElem (by rw [dD_len]; omega)] at h2
      injection h2 with h2
      rw [h2]
    have g0 : g_mul (D.int 7) (D.int i) = .ok (D.int (7 * (i : Int))) := g_mul_int (.inr ⟨by omega, by omega⟩)
    have g1 : g_mul (D.int (7 * (i : Int))) (D.int i) = .ok (D.int (7 * (i : Int) * i)) := g_mul_int (.inr ⟨by omega, by omega⟩)
    have pl : ps.length ≤ 10 := by have := congrArg List.length iv.1; simp at this; omega
    obtain ⟨rows, hro, rl, rok⟩ := lrows_ok (os := li ++ [c + 7 * (i : Int) * i]) (v0 := v0) (v1 := v1) (nl := nl) (x0 := some (.lst (cs.map D.int))) (x3 := some (.int c)) (x5 := some (.lst (dD L))) (x7 := some (.lst (ps.map eProc))) (x8 := some (.int i)) (x9 := some (tx q.1)) hr (by simp; omega) h0 h1 hn hn2 hnm _ rfl
    refine ⟨ps ++ [(q.1, rows)], ?_, ?_, fun p hp => ?_⟩
    · rw [e1]
      simp -implicitDefEqProofs [w_loose_3, gx, g0, g1, show li.length + 1 ≤ 16777216 by omega]
      simp only [List.map_append, List.map_cons, List.map_nil] at hro
      rw [show enumD (li.map D.int ++ [D.int (c + 7 * (i : Int) * i)]) = (li ++ [c + 7 * (i : Int) * i]).zipIdx.map fun p => D.tup [.int (p.2 : Int), .int p.1] by rw [← enumD_map]; simp]
      simp -implicitDefEqProofs [hro, show ps.length < 16777216 by omega, eProc]
    · rw [List.map_append, iv.1, List.take_add_one, e2]; rfl
    · rcases List.mem_append.mp hp with h | h
      · exact iv.2 p h
      · rw [show p = (q.1, rows) by simpa using h]
        have rl2 : rows.length = li.length + 1 := by rw [rl]; simp
        exact ⟨⟨hnm _ hm, rok, fun e => by simp only at e; rw [e] at rl2; simp at rl2, by simp only; omega⟩, by simp only; omega⟩)
  simp -implicitDefEqProofs
  refine ⟨ps, rfl, ?_, fun a b h => iv.2 _ h⟩
  have := iv.1
  simpa using this
def repR (xs : List D) : D → Res (List D)
  | .int k => if -(2 ^ 63) ≤ k ∧ k < 2 ^ 63 ∧ xs.length * k.toNat ≤ sizeLine then .ok (List.replicate k.toNat xs).flatten else .no
  | _ => .no
theorem e_rep {f : DL.Env → Res (List D)} {g : DL.Env → Res D} {ρ : DL.Env} : nRep f g ρ = (f ρ).thn fun xs => (g ρ).thn fun y => repR xs y := by
  unfold nRep
  cases f ρ with
  | ok xs =>
    cases g ρ with
    | ok y => cases y <;> rfl
    | ex c => rfl
    | no => rfl
  | ex c => rfl
  | no => rfl
theorem named_ok {c : Int} {nl : List (List Nat)} (h1 : 0 < nl.length) (h4 : nl.length ≤ 4) (hn : ∀ l ∈ nl, isName l) :
    ∃ nl2 : List (List Nat), m_named [.int c, .lst (nl.map tx)] = .ok (.lst (nl2.map tx)) ∧ 0 < nl2.length ∧ nl2.length ≤ 4 ∧ ∀ l ∈ nl2, isName l := by
  by_cases q3 : dg c 1097 9 = 3
  · have rp2 : ∀ d : D, repR [d] (.int 2) = .ok [d, d] := fun d => by
      have := nRep_one (f := fun _ => .ok [d]) (g := fun _ => .ok (.int 2)) (ρ := []) (d := d) (k := 2) rfl rfl (by omega)
      rw [e_rep] at this; exact this
    have rp1 : ∀ d : D, repR [d] (.int 1) = .ok [d] := fun d => by
      have := nRep_one (f := fun _ => .ok [d]) (g := fun _ => .ok (.int 1)) (ρ := []) (d := d) (k := 1) rfl rfl (by omega)
      rw [e_rep] at this; exact this
    have g0 : ∀ (x : D) (r : List D), r.length ≤ 10 → g_ix (.lst (x :: r)) (.int 0) = .ok x := fun x r h => by
      have := g_ix_nat (x :: r) 0 (by simp)
      exact this
    match nl, h1, h4, hn with
    | [a], _, _, hn =>
      have sl : g_sl (.lst [tx a]) none (some (-1)) = .ok (.lst []) := rfl
      exact ⟨[a, a], by simp -implicitDefEqProofs [m_named, b_named, digit_ok, q3, sl, g0, e_rep, rp2], by simp, by simp, fun l hl => hn l (by simpa using hl)⟩
    | [a, b], _, _, hn =>
      have sl : g_sl (.lst [tx a, tx b]) none (some (-1)) = .ok (.lst [tx a]) := rfl
      exact ⟨[a, a], by simp -implicitDefEqProofs [m_named, b_named, digit_ok, q3, sl, g0, e_rep, rp1], by simp, by simp, fun l hl => hn l (by simp at hl; simp [hl])⟩
    | [a, b, d], _, _, hn =>
      have sl : g_sl (.lst [tx a, tx b, tx d]) none (some (-1)) = .ok (.lst [tx a, tx b]) := rfl
      exact ⟨[a, b, a], by simp -implicitDefEqProofs [m_named, b_named, digit_ok, q3, sl, g0, e_rep, rp1], by simp, by simp, fun l hl => hn l (by simp at hl; rcases hl with rfl | rfl | rfl <;> simp)⟩
    | [a, b, d, e], _, _, hn =>
      have sl : g_sl (.lst [tx a, tx b, tx d, tx e]) none (some (-1)) = .ok (.lst [tx a, tx b, tx d]) := rfl
      exact ⟨[a, b, d, a], by simp -implicitDefEqProofs [m_named, b_named, digit_ok, q3, sl, g0, e_rep, rp1], by simp, by simp, fun l hl => hn l (by simp at hl; rcases hl with rfl | rfl | rfl | rfl <;> simp)⟩
  · by_cases q5 : dg c 1097 9 = 5
    · have lq : D.str (Str.ofString "q") = tx [113] := tx_lit _ (by decide +kernel)
      have hc : ∀ e0 e1 e2 : Option D, compL [3] kName tTrue (v2 g_ix (vLstOf (nLst (aCons (vC (.str "q")) (aCons (vVar 3) aNil)))) (vCall c_int (aCons (v2 g_ne (vVar 3) (vC (.str "main"))) aNil))) [e0, e1, e2, none] (nl.map tx) = .ok ((nl.map fun l => if l = mainL then [113] else l).map tx) := fun e0 e1 e2 => by
        rw [List.map_map]
        refine compL_eq (tx ∘ fun l => if l = mainL then [113] else l) fun l hl => ?_
        have g := g_ne_tx (hn l hl).1.asc low_main.asc
        have i0 : g_ix (.lst [tx [113], tx l]) (.int 0) = .ok (tx [113]) := rfl
        have i1 : g_ix (.lst [tx [113], tx l]) (.int 1) = .ok (tx l) := rfl
        by_cases z : l = mainL
        · rw [decide_eq_true z] at g
          simp -implicitDefEqProofs [g, -g_ne_S, lit_main, lq, i0, z]
          rw [z] at g i0
          simp -implicitDefEqProofs [g, -g_ne_S, i0]
        · rw [decide_eq_false z] at g
          simp -implicitDefEqProofs [g, -g_ne_S, lit_main, lq, i1, z]
      refine ⟨_, by simp -implicitDefEqProofs [m_named, b_named, digit_ok, q3, q5, hc, -List.map_map, show nl.length ≤ 16777216 by omega]; rfl, by simpa using h1, by simpa using h4, fun l hl => ?_⟩
      obtain ⟨x, hx, rfl⟩ := List.mem_map.mp hl
      split
      · exact name_lit (by decide)
      · exact hn x hx
    · exact ⟨nl, by simp -implicitDefEqProofs [m_named, b_named, digit_ok, q3, q5], h1, h4, hn⟩
end K53
namespace K53
open PySem L2 DL G4 G16
theorem lits_tx : ∀ {ss : List String} {ls : List (List Nat)}, (ss.map fun s => (Str.ofString s).cps.toList) = ls → (ss.map fun s => D.str (Str.ofString s)) = ls.map tx
  | [], ls, h => by subst h; rfl
  | s :: r, ls, h => by
    subst h
    rw [List.map_cons, List.map_cons, List.map_cons, lits_tx (ss := r) rfl]
    congr 1
instance (k l : List Nat) : Decidable (fits k l) := by unfold fits; infer_instance
def fitAB : List (List Nat) → List (List Nat) → Bool
  | [], [] => true
  | k :: ks, l :: ls => decide (fits k l) && fitAB ks ls
  | _, _ => false
def rowTest (l : List Nat) : Bool := match TL.spl [32] 0 [] l with
  | w :: ws => (match shapeOf w with
    | some s => fitAB s ws
    | none => false)
  | [] => false
def procTest (l : List Nat) : Bool := match TL.spl [58, 32] 0 [] l with
  | [a, b] => decide (isName a) && (TL.spl [44, 32] 0 [] b).all rowTest
  | _ => false
def valTest (l : List Nat) : Bool := match TL.spl [32] 0 [] l with
  | [w, x, y] => decide (w = w_values) && (decide (x ∈ [[49], [50], [51], [52]]) && decide (y ∈ [[49], [50], [51], [52]]))
  | _ => false
def partsTest : List (List Nat) → Bool
  | w :: ws => valTest w && (!ws.isEmpty && ws.all procTest)
  | [] => false
def canTest (l : List Nat) : Bool := partsTest (TL.spl [59, 32] 0 [] l)
theorem cnt_ok {n : Nat} (h : n < 1000) : isCnt (TL.numL n) := by
  have h1 := is_count_ok h
  have hl := TL.numL_len (k := 3) (by decide) h
  rw [is_count_any (by omega) (numL_asc n)] at h1
  injection h1 with h1
  injection h1 with h1
  exact of_decide_eq_true h1
theorem fit_W (sh : Bool) : fits w_which (wside sh) := .inr (.inl ⟨rfl, by cases sh <;> decide⟩)
theorem fit_N {v : Int} (h : NumOk v) : fits w_count (TL.numL v.toNat) := .inr (.inr ⟨rfl, cnt_ok (by have := h.1; have := h.2; omega)⟩)
theorem rowTest_ok {r : Rw} (h : RwSm r) : rowTest (rowT r) = true := by
  unfold rowTest
  rw [show TL.spl [32] 0 [] (rowT r) = sw r from SX.spl_join (c := 32) (sep := []) (by simp [sw]) fun p hp => (pl_sw h p hp).no (by omega)]
  unfold sw
  simp only
  rw [shape_eq]
  simp only
  cases r <;> simp only [ts, tW, tN, List.map_cons, List.map_nil, fitAB, decide_eq_true (fit_W _), Bool.and_self, Bool.true_and, Bool.and_true]
  · rw [decide_eq_true (fit_N h)]
  · rw [decide_eq_true (fit_N h.1), decide_eq_true (fit_N h.2)]; rfl
  · rw [decide_eq_true (fit_N h)]
  · rw [decide_eq_true (fit_N h)]
  · exact decide_eq_true (.inl ⟨rfl, h⟩)
theorem procTest_ok {p : Proc} (h : PS p) : procTest (procT p) = true := by
  unfold procTest
  rw [show TL.spl [58, 32] 0 [] (procT p) = [p.1, rowsT p.2] from SX.spl_join (c := 58) (sep := [32]) (parts := [p.1, rowsT p.2]) (by simp) fun x hx => by
    simp only [List.mem_cons, List.not_mem_nil, or_false] at hx
    rcases hx with rfl | rfl
    · exact (pl_name h.nm).no (by omega)
    · exact rowsT_no h.rw (by omega)]
  simp only
  rw [decide_eq_true h.nm, rowsT_spl h.rw h.ne, Bool.true_and, List.all_map, List.all_eq_true]
  exact fun r hr => rowTest_ok (h.rw r hr)
theorem valTest_ok {a b : Int} (ha : V4 a) (hb : V4 b) : valTest (valT a b) = true := by
  unfold valTest
  rw [show TL.spl [32] 0 [] (valT a b) = _ from SX.spl_join (c := 32) (sep := []) (by simp) fun p hp => by
    simp only [List.mem_cons, List.not_mem_nil, or_false] at hp
    rcases hp with rfl | rfl | rfl
    · decide
    · exact TL.numL_free (by omega)
    · exact TL.numL_free (by omega)]
  simp only
  rw [decide_eq_true (v4_num ha), decide_eq_true (v4_num hb)]
  rfl
theorem can_test {l : List Nat} (h : Can l) : canTest l = true := by
  obtain ⟨a, b, ps, ha, hb, h0, hp, rfl⟩ := h
  unfold canTest
  rw [show TL.spl [59, 32] 0 [] (progT a b ps) = _ from SX.spl_join (c := 59) (sep := [32]) (by simp) fun p hm => by
    rcases List.mem_cons.mp hm with rfl | hm
    · exact valT_no
    · obtain ⟨q, hq, rfl⟩ := List.mem_map.mp hm
      exact (hp q hq).no]
  show (valTest (valT a b) && (!(ps.map procT).isEmpty && (ps.map procT).all procTest)) = true
  rw [valTest_ok ha hb, Bool.true_and, Bool.and_eq_true]
  refine ⟨?_, ?_⟩
  · cases ps with
    | nil => exact absurd rfl h0
    | cons p r => rfl
  · rw [List.all_map, List.all_eq_true]
    exact fun p h => procTest_ok (hp p h)
theorem no_test {l : List Nat} (as : asc l) (hl : l.length ≤ 100000) (h : canTest l = false) : m_read [tx l] = .ex "NoText" :=
  (read_any as hl).resolve_left fun c => by rw [can_test c] at h; cases h
def oddRow : List (List Nat) := [[], [115, 107, 105, 112, 32, 49], [115, 107, 105, 112, 32], [115, 101, 116, 32, 111, 119, 110], [115, 101, 116, 32, 49], [115, 101, 116, 32, 98, 111, 116, 104, 32, 49], [115, 101, 116, 32, 111, 119, 110, 32, 48, 49], [115, 101, 116, 32, 111, 119, 110, 32, 49, 48, 48, 48], [115, 101, 116, 32, 115, 104, 97, 114, 101, 100, 32, 45, 49], [115, 101, 116, 32, 115, 104, 97, 114, 101, 100, 32, 120], [97, 110, 121], [97, 110, 121, 32, 109, 105, 110, 101], [97, 110, 121, 32, 111, 119, 110, 32, 49], [116, 117, 114, 110], [105, 102, 32, 111, 119, 110, 32, 49], [105, 102, 32, 111, 119, 110, 32, 49, 32, 50, 32, 51], [105, 102, 32, 111, 119, 110, 32, 48, 49, 32, 50], [105, 102, 32, 111, 119, 110, 32, 49, 32, 48, 50], [105, 102, 32, 49, 32, 50], [103, 111], [103, 111, 32, 102], [103, 111, 32, 48, 48], [103, 111, 32, 49, 32, 50], [102, 111, 114, 107], [102, 111, 114, 107, 32, 48, 48, 48, 49], [99, 97, 108, 108], [99, 97, 108, 108, 32, 70], [99, 97, 108, 108, 32, 102, 49], [99, 97, 108, 108, 32, 97, 98, 99, 100, 101, 102, 103, 104, 105], [99, 97, 108, 108, 32, 102, 32, 102], [98, 97, 99, 107, 32, 48], [115, 116, 111, 112, 32, 48], [83, 116, 111, 112], [106, 117, 109, 112, 32, 49], [118, 97, 108, 117, 101, 115, 32, 49, 32, 49], [103, 111, 32, 43, 49], [49]]
def oddRowS : List String := ["", "skip 1", "skip ", "set own", "set 1", "set both 1", "set own 01", "set own 1000", "set shared -1", "set shared x", "any", "any mine", "any own 1", "turn", "if own 1", "if own 1 2 3", "if own 01 2", "if own 1 02", "if 1 2", "go", "go f", "go 00", "go 1 2", "fork", "fork 0001", "call", "call F", "call f1", "call abcdefghi", "call f f", "back 0", "stop 0", "Stop", "jump 1", "values 1 1", "go +1", "1"]
theorem oddRow_lit : (oddRowS.map fun s => D.str (Str.ofString s)) = oddRow.map tx := lits_tx (by decide +kernel)
def oddFirst : List (List Nat) := [[118, 97, 108, 117, 101, 115, 32, 48, 32, 49], [118, 97, 108, 117, 101, 115, 32, 49, 32, 53], [118, 97, 108, 117, 101, 115, 32, 50], [118, 97, 108, 117, 101, 115], [118, 97, 108, 117, 101, 115, 32, 49, 32, 49, 32, 49], [118, 97, 108, 117, 101, 32, 49, 32, 49], [118, 97, 108, 117, 101, 115, 32, 48, 49, 32, 49], [118, 97, 108, 117, 101, 115, 32, 49, 32, 45, 49], [118, 97, 108, 117, 101, 115, 32, 49, 48, 32, 49], [86, 97, 108, 117, 101, 115, 32, 49, 32, 49], [], [118, 97, 108, 117, 101, 115, 32, 120, 32, 49], [49, 32, 49], [118, 97, 108, 117, 101, 115, 32, 49, 32, 49, 32]]
def oddFirstS : List String := ["values 0 1", "values 1 5", "values 2", "values", "values 1 1 1", "value 1 1", "values 01 1", "values 1 -1", "values 10 1", "Values 1 1", "", "values x 1", "1 1", "values 1 1 "]
theorem oddFirst_lit : (oddFirstS.map fun s => D.str (Str.ofString s)) = oddFirst.map tx := lits_tx (by decide +kernel)
def oddName : List (List Nat) := [[], [70], [102, 49], [97, 98, 99, 100, 101, 102, 103, 104, 105], [102, 32, 102], [109, 97, 105, 110, 32], [49]]
def oddNameS : List String := ["", "F", "f1", "abcdefghi", "f f", "main ", "1"]
theorem oddName_lit : (oddNameS.map fun s => D.str (Str.ofString s)) = oddName.map tx := lits_tx (by decide +kernel)
def oddText : List (List Nat) := [[], [118, 97, 108, 117, 101, 115, 32, 50, 32, 49], [118, 97, 108, 117, 101, 115, 32, 50, 32, 49, 59, 32], [118, 97, 108, 117, 101, 115, 32, 50, 32, 49, 59], [109, 97, 105, 110, 58, 32, 115, 116, 111, 112], [118, 97, 108, 117, 101, 115, 32, 49, 32, 49, 59, 32, 109, 97, 105, 110], [118, 97, 108, 117, 101, 115, 32, 49, 32, 49, 59, 32, 109, 97, 105, 110, 58], [118, 97, 108, 117, 101, 115, 32, 49, 32, 49, 59, 32, 109, 97, 105, 110, 58, 32], [118, 97, 108, 117, 101, 115, 32, 49, 32, 49, 59, 32, 109, 97, 105, 110, 58, 32, 115, 116, 111, 112, 44, 32], [118, 97, 108, 117, 101, 115, 32, 49, 32, 49, 59, 32, 109, 97, 105, 110, 58, 32, 115, 116, 111, 112, 59], [118, 97, 108, 117, 101, 115, 32, 49, 32, 49, 59, 32, 109, 97, 105, 110, 58, 32, 115, 116, 111, 112, 59, 32], [118, 97, 108, 117, 101, 115, 32, 49, 32, 49, 44, 32, 109, 97, 105, 110, 58, 32, 115, 116, 111, 112], [118, 97, 108, 117, 101, 115, 32, 49, 32, 49, 59, 32, 109, 97, 105, 110, 58, 32, 115, 116, 111, 112, 44, 32, 102, 58, 32, 115, 116, 111, 112], [118, 97, 108, 117, 101, 115, 32, 49, 32, 49, 59, 32, 109, 97, 105, 110, 58, 32, 102, 58, 32, 115, 116, 111, 112], [59, 32, 118, 97, 108, 117, 101, 115, 32, 49, 32, 49, 59, 32, 109, 97, 105, 110, 58, 32, 115, 116, 111, 112], [118, 97, 108, 117, 101, 115, 32, 49, 32, 49, 59, 32, 118, 97, 108, 117, 101, 115, 32, 49, 32, 49, 59, 32, 109, 97, 105, 110, 58, 32, 115, 116, 111, 112]]
def oddTextS : List String := ["", "values 2 1", "values 2 1; ", "values 2 1;", "main: stop", "values 1 1; main", "values 1 1; main:", "values 1 1; main: ", "values 1 1; main: stop, ", "values 1 1; main: stop;", "values 1 1; main: stop; ", "values 1 1, main: stop", "values 1 1; main: stop, f: stop", "values 1 1; main: f: stop", "; values 1 1; main: stop", "values 1 1; values 1 1; main: stop"]
theorem oddText_lit : (oddTextS.map fun s => D.str (Str.ofString s)) = oddText.map tx := lits_tx (by decide +kernel)
theorem ixw_any {xs : List (List Nat)} {i : Int} (h0 : 0 ≤ i) (h1 : i < xs.length) : ∃ w ∈ xs, g_ix (.lst (xs.map tx)) (.int i) = .ok (tx w) :=
  ⟨xs[i.toNat]'(by omega), List.getElem_mem _, g_ix_lst' tx xs i h0 h1⟩
theorem oddRow_ok (c : Int) : ∃ w ∈ oddRow, m_odd_row [.int c] = .ok (tx w) := by
  have d := dg_rng c 1123 (m := 37) (by decide)
  obtain ⟨w, hw, e⟩ := ixw_any (xs := oddRow) d.1 d.2
  rw [← oddRow_lit] at e
  refine ⟨w, hw, ?_⟩
  simp only [oddRowS, List.map_cons, List.map_nil] at e
  simp -implicitDefEqProofs [m_odd_row, b_odd_row, digit_ok, e]
theorem oddFirst_ok (c : Int) : ∃ w ∈ oddFirst, m_odd_first [.int c] = .ok (tx w) := by
  have d := dg_rng c 1123 (m := 14) (by decide)
  obtain ⟨w, hw, e⟩ := ixw_any (xs := oddFirst) d.1 d.2
  rw [← oddFirst_lit] at e
  refine ⟨w, hw, ?_⟩
  simp only [oddFirstS, List.map_cons, List.map_nil] at e
  simp -implicitDefEqProofs [m_odd_first, b_odd_first, digit_ok, e]
theorem oddText_ok (c : Int) : ∃ w ∈ oddText, m_odd_text [.int c] = .ok (tx w) := by
  have d := dg_rng c 1123 (m := 16) (by decide)
  obtain ⟨w, hw, e⟩ := ixw_any (xs := oddText) d.1 d.2
  rw [← oddText_lit] at e
  refine ⟨w, hw, ?_⟩
  simp only [oddTextS, List.map_cons, List.map_nil] at e
  simp -implicitDefEqProofs [m_odd_text, b_odd_text, digit_ok, e]
def cleanB (l : List Nat) : Bool := (l.all fun c => decide (c < 128)) && decide (l.length ≤ 40)
theorem clean_asc {l : List Nat} (h : cleanB l = true) : asc l ∧ l.length ≤ 40 := by
  unfold cleanB at h
  simp only [Bool.and_eq_true, List.all_eq_true, decide_eq_true_eq] at h
  exact ⟨fun c hc => h.1 c hc, h.2⟩
theorem oddRow_not : ∀ w ∈ oddRow, (rowTest w = false ∧ cleanB w = true) ∧ (44 ∉ w ∧ 58 ∉ w ∧ 59 ∉ w) := by decide +kernel
theorem oddFirst_not : ∀ w ∈ oddFirst, (valTest w = false ∧ cleanB w = true) ∧ 59 ∉ w := by decide +kernel
theorem oddName_not : ∀ w ∈ oddName, (decide (isName w) = false ∧ cleanB w = true) ∧ (58 ∉ w ∧ 59 ∉ w) := by decide +kernel
theorem oddText_not : ∀ w ∈ oddText, canTest w = false ∧ cleanB w = true := by decide +kernel
end K53
namespace K53
open PySem L2 DL G4 G16
def oname (c : Int) : List Nat := (oddName[(dg c 1123 7).toNat]?).getD []
theorem oname_ok (c : Int) : oname c ∈ oddName ∧ g_ix (.lst (oddName.map tx)) (.int (dg c 1123 7)) = .ok (tx (oname c)) := by
  have d := dg_rng c 1123 (m := 7) (by decide)
  have hl : oddName.length = 7 := rfl
  have e : oname c = oddName[(dg c 1123 7).toNat]'(by omega) := by unfold oname; rw [List.getElem?_eq_getElem (by omega)]; rfl
  rw [e]
  exact ⟨List.getElem_mem _, g_ix_lst' tx oddName _ d.1 (by omega)⟩
def pieceT (lot c : Int) (odd : List Nat) (at' k : Nat) (p : Proc) : List Nat :=
  (if lot = 5 ∧ k = at' then oname c else p.1) ++ ([58, 32] ++ TL.joinL [44, 32] (if lot = 3 ∧ k = at' then (p.2.map rowT).set (dg c 1151 p.2.length).toNat odd else p.2.map rowT))
theorem row_text10 {r : Rw} (h : RwSm r) (e0 e1 e2 e3 e4 e5 e6 e7 e8 : Option D) : compL [9] kName tTrue (vCall c_str (aCons (vVar 9) aNil)) [e0, e1, e2, e3, e4, e5, e6, e7, e8, none] (G4.wordsOf r) = .ok ((sw r).map tx) := by
  rw [words_ts1, sw_ts1, List.map_map]
  exact compL_eq (enc := fun t : List Nat × List Nat × D => t.2.2) (tx ∘ fun t => t.2.1) fun t ht => by
    simp -implicitDefEqProofs [ts1_str h t ht]
theorem rows_text10 {p : Proc} (h : PSm p) (e0 e1 e2 e3 e4 e5 e6 e7 : Option D) : compL [8] kName tTrue (vJoin (vC (.str " ")) (vLstOf (nComp (iSeq (vVar 8)) [9] kName tTrue (vCall c_str (aCons (vVar 9) aNil)) [9]))) [e0, e1, e2, e3, e4, e5, e6, e7, none, none] (p.2.map eRw) = .ok ((p.2.map rowT).map tx) := by
  rw [List.map_map]
  exact compL_eq (enc := eRw) (tx ∘ rowT) fun r hr => by
    have h1 := row_text10 (h.rw r hr) e0 e1 e2 e3 e4 e5 e6 e7 (some (eRw r))
    have h2 := row_join (h.rw r hr)
    have h3 := (sw_len (h.rw r hr)).2
    have h4 : (sw r).length ≤ 16777216 := by omega
    have h5 : seqOf (eRw r) = .ok (G4.wordsOf r) := rfl
    generalize sw r = S at *
    generalize eRw r = W at *
    simp -implicitDefEqProofs [h5, h1, h4, lit_sp, h2]
theorem told_len {l : List (List Nat)} (h : ∀ p ∈ l, p.length ≤ 40) (hl : l.length ≤ 62) : (TL.joinL [44, 32] l).length ≤ 2604 := by
  have := joinL_len (s := [44, 32]) h
  have h2 : l.length * (40 + 2) ≤ 62 * 42 := Nat.mul_le_mul_right _ hl
  simp only [List.length_cons, List.length_nil] at this
  omega
theorem told_join {l : List (List Nat)} (h : ∀ p ∈ l, p.length ≤ 40) (hl : l.length ≤ 62) : joinR ⟨[44, 32].toArray⟩ (.lst (l.map tx)) = .ok (tx (TL.joinL [44, 32] l)) := by
  refine joinR_tx ?_
  have h1 := sum_le (fun l : List Nat => l.length) 40 h
  simp only [List.length_cons, List.length_nil]
  omega
section
variable {v0 v1 lot c : Int} {ps : List Proc} {odd : List Nat} {at' : Nat}
theorem rows_40 {p : Proc} (h : PSm p) : ∀ q ∈ p.2.map rowT, q.length ≤ 40 := fun q hq => by
  obtain ⟨r, hr, rfl⟩ := List.mem_map.mp hq
  have := rowT_len (h.rw r hr); omega
theorem set_40 {p : Proc} (h : PSm p) {n : Nat} (ho : odd.length ≤ 40) : ∀ q ∈ (p.2.map rowT).set n odd, q.length ≤ 40 := fun q hq => by
  rcases List.mem_or_eq_of_mem_set hq with h2 | rfl
  · exact rows_40 h q h2
  · exact ho
theorem piece_turn {P : D} {p : Proc} {qs : List (List Nat)} {k : Nat} (h : PSm p) (h62 : p.2.length ≤ 62) (hk : ps[k]? = some p) (hP : g_ix P (.int 2) = .ok (.lst (ps.map eProc))) (hlp : ps.length ≤ 60) (ho : m_odd_row [.int c] = .ok (tx odd)) (ho2 : odd.length ≤ 40) (hq : qs.length ≤ 100) :
    turn [5] kName w_pieces_0 [5, 6, 7] (.int (k : Int)) [some P, some (.int lot), some (.int c), some (.lst (qs.map tx)), some (.int (at' : Int)), none, none, none, none, none] =
      .inl [some P, some (.int lot), some (.int c), some (.lst ((qs ++ [pieceT lot c odd at' k p]).map tx)), some (.int (at' : Int)), none, none, none, none, none] := by
  have lt := idx_lt hk
  have ek : ps[k] = p := by rw [List.getElem?_eq_getElem lt] at hk; exact Option.some.inj hk
  have gk : g_ix (.lst (ps.map eProc)) (.int (k : Int)) = .ok (eProc p) := by rw [g_ix_lst eProc ps k lt, ek]
  have g1 : g_ix (eProc p) (.int 1) = .ok (.lst (p.2.map eRw)) := rfl
  have g0 : g_ix (eProc p) (.int 0) = .ok (tx p.1) := rfl
  have rt := fun e0 e1 e2 e3 e4 e5 e6 e7 => rows_text10 h e0 e1 e2 e3 e4 e5 e6 e7
  have n8 := h.nm.2.2
  have p0 : 0 < p.2.length := List.length_pos_iff.mpr h.ne
  have d := dg_rng c 1151 (m := (p.2.length : Int)) (by omega)
  have r40 := rows_40 h
  have s40 := set_40 h (n := (dg c 1151 p.2.length).toNat) ho2
  obtain ⟨on1, on2⟩ := oname_ok c
  have onl : (oname c).length ≤ 40 := (clean_asc (oddName_not _ on1).1.2).2
  rw [← oddName_lit] at on2
  simp only [oddNameS, List.map_cons, List.map_nil] at on2
  have jn : ∀ l : List (List Nat), (∀ p ∈ l, p.length ≤ 40) → l.length ≤ 62 → ∀ hd : List Nat, hd.length ≤ 40 →
      joinR ⟨[44, 32].toArray⟩ (.lst (l.map tx)) = .ok (tx (TL.joinL [44, 32] l)) ∧ g_add (tx hd) (tx [58, 32]) = .ok (tx (hd ++ [58, 32])) ∧ g_add (tx (hd ++ [58, 32])) (tx (TL.joinL [44, 32] l)) = .ok (tx (hd ++ ([58, 32] ++ TL.joinL [44, 32] l))) := fun l h1 h2 hd h3 => by
    have h4 := told_len h1 h2
    refine ⟨told_join h1 h2, g_add_tx (by simp; omega), ?_⟩
    rw [g_add_tx (by simp; omega), List.append_assoc]
  have lz : p.2.length ≤ 16777216 := by omega
  have lm : (p.2.map rowT).length = p.2.length := by simp
  have ls : ((p.2.map rowT).set (dg c 1151 p.2.length).toNat odd).length = p.2.length := by simp
  have ixd : ixN p.2.length (dg c 1151 p.2.length) = some (dg c 1151 p.2.length).toNat := ixN_ok d.1 d.2
  by_cases z3 : lot = 3 ∧ k = at'
  · have z5 : ¬ (lot = 5 ∧ k = at') := by omega
    obtain ⟨j1, j2, j3⟩ := jn _ s40 (by omega) p.1 (by omega)
    have e : pieceT lot c odd at' k p = p.1 ++ ([58, 32] ++ TL.joinL [44, 32] ((p.2.map rowT).set (dg c 1151 p.2.length).toNat odd)) := by
      unfold pieceT; rw [if_neg z5, if_pos z3]
    rw [e]
    obtain ⟨z3a, rfl⟩ := z3
    generalize p.1 ++ ([58, 32] ++ TL.joinL [44, 32] ((p.2.map rowT).set (dg c 1151 p.2.length).toNat odd)) = Q at *
    generalize hR : (p.2.map rowT) = R at *
    rw [List.map_set] at j1
    have sd : setD (.lst (R.map tx)) (.int (dg c 1151 p.2.length)) (tx odd) = .ok (.lst ((R.map tx).set (dg c 1151 p.2.length).toNat (tx odd))) := by
      unfold setD
      simp only
      rw [List.length_map, lm, ixd]
    simp -implicitDefEqProofs [w_pieces_0, hP, gk, g1, g0, rt, lz, lm, z3a, setO, sd, digit_ok, p0, ho, ixd, lit_ds, lit_cs, j1, j2, j3, show qs.length < 16777216 by omega]
  · by_cases z5 : lot = 5 ∧ k = at'
    · obtain ⟨j1, j2, j3⟩ := jn _ r40 (by omega) (oname c) onl
      have e : pieceT lot c odd at' k p = oname c ++ ([58, 32] ++ TL.joinL [44, 32] (p.2.map rowT)) := by
        unfold pieceT; rw [if_neg z3, if_pos z5]
      rw [e]
      obtain ⟨z5a, rfl⟩ := z5
      generalize oname c ++ ([58, 32] ++ TL.joinL [44, 32] (p.2.map rowT)) = Q at *
      generalize hR : (p.2.map rowT) = R at *
      simp -implicitDefEqProofs [w_pieces_0, hP, gk, g1, g0, rt, lz, lm, z5a, digit_ok, on2, lit_ds, lit_cs, j1, j2, j3, show qs.length < 16777216 by omega]
    · obtain ⟨j1, j2, j3⟩ := jn _ r40 (by omega) p.1 (by omega)
      have e : pieceT lot c odd at' k p = p.1 ++ ([58, 32] ++ TL.joinL [44, 32] (p.2.map rowT)) := by
        unfold pieceT; rw [if_neg z3, if_neg z5]
      rw [e]
      generalize p.1 ++ ([58, 32] ++ TL.joinL [44, 32] (p.2.map rowT)) = Q at *
      generalize hR : (p.2.map rowT) = R at *
      by_cases za : (k : Int) = (at' : Int)
      · have y3 : ¬ lot = 3 := fun e => z3 ⟨e, by omega⟩
        have y5 : ¬ lot = 5 := fun e => z5 ⟨e, by omega⟩
        simp -implicitDefEqProofs [w_pieces_0, hP, gk, g1, g0, rt, lz, lm, y3, y5, lit_ds, lit_cs, j1, j2, j3, show qs.length < 16777216 by omega]
      · by_cases y3 : lot = 3
        · simp -implicitDefEqProofs [w_pieces_0, hP, gk, g1, g0, rt, lz, lm, y3, za, lit_ds, lit_cs, j1, j2, j3, show qs.length < 16777216 by omega]
        · by_cases y5 : lot = 5
          · simp -implicitDefEqProofs [w_pieces_0, hP, gk, g1, g0, rt, lz, lm, y5, za, lit_ds, lit_cs, j1, j2, j3, show qs.length < 16777216 by omega]
          · simp -implicitDefEqProofs [w_pieces_0, hP, gk, g1, g0, rt, lz, lm, y3, y5, za, lit_ds, lit_cs, j1, j2, j3, show qs.length < 16777216 by omega]
end
end K53
namespace K53
open PySem L2 DL G4 G16
def partsT (lot c v0 v1 : Int) (odd fst : List Nat) (at' : Nat) (ps : List Proc) : List (List Nat) :=
  (if lot = 4 then fst else valT v0 v1) :: ps.zipIdx.map fun q => pieceT lot c odd at' q.2 q.1
section
variable {v0 v1 lot c : Int} {ps : List Proc} {odd fst : List Nat} {at' : Nat}
theorem piece_len {p : Proc} {k : Nat} (h : PSm p) (h62 : p.2.length ≤ 62) (ho : odd ∈ oddRow) : (pieceT lot c odd at' k p).length ≤ 2650 := by
  have n8 := h.nm.2.2
  have onl := (clean_asc (oddName_not _ (oname_ok c).1).1.2).2
  have odl := (clean_asc (oddRow_not _ ho).1.2).2
  have a1 := told_len (rows_40 h) (by simpa using h62)
  have a2 := told_len (set_40 (odd := odd) h (n := (dg c 1151 p.2.length).toNat) odl) (by simpa using h62)
  unfold pieceT
  simp only [List.length_append, List.length_cons, List.length_nil]
  split <;> split <;> omega
theorem parts_len (ha : V4 v0) (hb : V4 v1) (sm : ∀ p ∈ ps, PSm p ∧ p.2.length ≤ 62) (ho : odd ∈ oddRow) (hf : fst ∈ oddFirst) : ∀ q ∈ partsT lot c v0 v1 odd fst at' ps, q.length ≤ 2650 := fun q hq => by
  unfold partsT at hq
  rcases List.mem_cons.mp hq with rfl | hq
  · have h1 := (clean_asc (oddFirst_not _ hf).1.2).2
    have h2 := valT_len ha hb
    split <;> omega
  · obtain ⟨x, hx, rfl⟩ := List.mem_map.mp hq
    have := sm x.1 (by have := List.mem_zipIdx_iff_getElem?.mp hx; exact mem_getElem? this)
    exact piece_len this.1 this.2 ho
theorem text_len (ha : V4 v0) (hb : V4 v1) (sm : ∀ p ∈ ps, PSm p ∧ p.2.length ≤ 62) (ho : odd ∈ oddRow) (hf : fst ∈ oddFirst) (hl : ps.length ≤ 10) : (TL.joinL [59, 32] (partsT lot c v0 v1 odd fst at' ps)).length ≤ 29172 := by
  have := joinL_len (s := [59, 32]) (parts_len (lot := lot) (c := c) (at' := at') ha hb sm ho hf)
  have h2 : (partsT lot c v0 v1 odd fst at' ps).length ≤ 11 := by unfold partsT; simp; omega
  have h3 : (partsT lot c v0 v1 odd fst at' ps).length * (2650 + 2) ≤ 11 * 2652 := Nat.mul_le_mul_right _ h2
  simp only [List.length_cons, List.length_nil] at this
  omega
theorem pieces_ok (ha : V4 v0) (hb : V4 v1) (sm : ∀ p ∈ ps, PSm p ∧ p.2.length ≤ 62) (h0 : 0 < ps.length) (hl : ps.length ≤ 10) :
    ∃ odd ∈ oddRow, ∃ fst ∈ oddFirst, ∃ at' : Nat, at' < ps.length ∧ m_pieces [eP v0 v1 ps, .int lot, .int c] = .ok (tx (TL.joinL [59, 32] (partsT lot c v0 v1 odd fst at' ps))) := by
  obtain ⟨odd, ho, eo⟩ := oddRow_ok c
  obtain ⟨fst, hf, ef⟩ := oddFirst_ok c
  have d := dg_rng c 1129 (m := (ps.length : Int)) (by omega)
  obtain ⟨at', eat⟩ := Int.eq_ofNat_of_zero_le d.1
  refine ⟨odd, ho, fst, hf, at', by omega, ?_⟩
  have odl := (clean_asc (oddRow_not _ ho).1.2).2
  have sa := str_v4 ha
  have sb := str_v4 hb
  have la := v4_len ha
  have lb := v4_len hb
  have ev : valT v0 v1 = w_values ++ [32] ++ TL.numL v0.toNat ++ [32] ++ TL.numL v1.toNat := by
    show w_values ++ ([32] ++ (TL.numL v0.toNat ++ ([32] ++ TL.numL v1.toNat))) = _
    simp only [List.append_assoc]
  have plen := parts_len (lot := lot) (c := c) (at' := at') ha hb sm ho hf
  have jn : joinR ⟨[59, 32].toArray⟩ (.lst ((partsT lot c v0 v1 odd fst at' ps).map tx)) = .ok (tx (TL.joinL [59, 32] (partsT lot c v0 v1 odd fst at' ps))) := by
    refine joinR_tx ?_
    have h1 := sum_le (fun l : List Nat => l.length) 2650 plen
    have h2 : (partsT lot c v0 v1 odd fst at' ps).length ≤ 11 := by unfold partsT; simp; omega
    simp only [List.length_cons, List.length_nil]
    omega
  have gp : g_ix (eP v0 v1 ps) (.int 2) = .ok (.lst (ps.map eProc)) := rfl
  have gp0 : g_ix (eP v0 v1 ps) (.int 0) = .ok (.int v0) := rfl
  have gp1 : g_ix (eP v0 v1 ps) (.int 1) = .ok (.int v1) := rfl
  have lp : ∀ (w : List Nat) o, forF [5] kName w_pieces_0 [5, 6, 7] ((List.range ps.length).map fun (k : Nat) => D.int (k : Int)) [some (eP v0 v1 ps), some (.int lot), some (.int c), some (.lst [tx w]), some (.int (at' : Int)), none, none, none, none, none] = o →
      o = .nx [some (eP v0 v1 ps), some (.int lot), some (.int c), some (.lst ((w :: ps.zipIdx.map fun q => pieceT lot c odd at' q.2 q.1).map tx)), some (.int (at' : Int)), none, none, none, none, none] := fun w o hF => by
    obtain ⟨qs, rfl, iv⟩ := forF_inv (S := List (List Nat)) hF (fun qs => [some (eP v0 v1 ps), some (.int lot), some (.int c), some (.lst (qs.map tx)), some (.int (at' : Int)), none, none, none, none, none]) (fun i qs => qs = w :: (ps.zipIdx.take i).map fun q => pieceT lot c odd at' q.2 q.1) [w] (by simp) rfl (fun i qs k hx iv => by
      obtain ⟨rfl, hi⟩ := range_get hx
      have hk : ps[k]? = some ps[k] := List.getElem?_eq_getElem hi
      have s := sm _ (List.getElem_mem hi)
      refine ⟨qs ++ [pieceT lot c odd at' k ps[k]], piece_turn s.1 s.2 hk gp (by omega) eo odl (by rw [iv]; simp; omega), ?_⟩
      have hz : ps.zipIdx[k]? = some (ps[k], k) := by rw [List.getElem?_zipIdx, hk]; simp
      rw [iv, List.take_add_one, hz]
      simp)
    rw [iv]
    congr 6
    rw [List.take_of_length_le (by simp)]
  have a1 : g_add (tx (w_values ++ [32])) (tx (TL.numL v0.toNat)) = .ok (tx (w_values ++ [32] ++ TL.numL v0.toNat)) := g_add_tx (by simp [w_values, la])
  have a2 : g_add (tx (w_values ++ [32] ++ TL.numL v0.toNat)) (tx [32]) = .ok (tx (w_values ++ [32] ++ TL.numL v0.toNat ++ [32])) := g_add_tx (by simp [w_values, la])
  have a3 : g_add (tx (w_values ++ [32] ++ TL.numL v0.toNat ++ [32])) (tx (TL.numL v1.toNat)) = .ok (tx (valT v0 v1)) := by rw [g_add_tx (by simp [w_values, la, lb]), ev]
  have lv := lit_vals
  have hc : (ps.map eProc).length = ps.length := by simp
  unfold partsT at jn ⊢
  generalize eP v0 v1 ps = P at *
  generalize valT v0 v1 = V at *
  generalize TL.numL v0.toNat = A at *
  generalize TL.numL v1.toNat = B at *
  generalize w_values ++ [32] = W at *
  generalize W ++ A ++ [32] = W2 at *
  generalize W ++ A = W1 at *
  by_cases z4 : lot = 4
  · rw [if_pos z4] at jn ⊢
    generalize hQ : TL.joinL [59, 32] (fst :: ps.zipIdx.map fun q => pieceT lot c odd at' q.2 q.1) = Q at *
    simp -implicitDefEqProofs [m_pieces, b_pieces, gp, gp0, gp1, lv, lit_sp, sa, sb, a1, a2, a3, z4, ef, digit_ok, h0, eat]
    rw [rng1_ok (by omega) (by omega)]
    simp -implicitDefEqProofs
    generalize hF : forF _ _ _ _ _ _ = o
    have := lp fst o (by rw [← hF, z4])
    rw [this]
    generalize (fst :: ps.zipIdx.map fun q => pieceT lot c odd at' q.2 q.1).map tx = M at *
    simp -implicitDefEqProofs [lit_ss, jn]
  · rw [if_neg z4] at jn ⊢
    generalize hQ : TL.joinL [59, 32] (V :: ps.zipIdx.map fun q => pieceT lot c odd at' q.2 q.1) = Q at *
    simp -implicitDefEqProofs [m_pieces, b_pieces, gp, gp0, gp1, lv, lit_sp, sa, sb, a1, a2, a3, z4, digit_ok, h0, eat]
    rw [rng1_ok (by omega) (by omega)]
    simp -implicitDefEqProofs
    generalize hF : forF _ _ _ _ _ _ = o
    have := lp V o hF
    rw [this]
    generalize (V :: ps.zipIdx.map fun q => pieceT lot c odd at' q.2 q.1).map tx = M at *
    simp -implicitDefEqProofs [lit_ss, jn]
end
end K53
namespace K53
open PySem L2 DL G4 G16
def pun (x : Nat) : Prop := x = 44 ∨ x = 58 ∨ x = 59
def fig (x : Nat) : Prop := 48 ≤ x ∧ x ≤ 57
structure Wd (u : List Nat) : Prop where
  ne : u ≠ []
  pl : pl u
  nz : ∀ f r, u = 48 :: f :: r → False
def Pc (p : List Nat) : Prop := ∃ u e, p = u ++ e ∧ Wd u ∧ (e = [] ∨ ∃ x, pun x ∧ e = [x])
theorem Wd.pc {u : List Nat} (h : Wd u) : Pc u := ⟨u, [], by simp, h, .inl rfl⟩
theorem Wd.no {u : List Nat} (h : Wd u) {c : Nat} (hc : c < 48 ∨ (57 < c ∧ c < 97)) : c ∉ u := h.pl.no hc
theorem Pc.ne {p : List Nat} (h : Pc p) : p ≠ [] := by
  obtain ⟨u, e, rfl, hu, _⟩ := h
  intro z
  exact hu.ne (List.append_eq_nil_iff.mp z).1
theorem Pc.no {p : List Nat} (h : Pc p) : 32 ∉ p := by
  obtain ⟨u, e, rfl, hu, he⟩ := h
  intro m
  rcases List.mem_append.mp m with m | m
  · exact hu.no (by omega) m
  · rcases he with rfl | ⟨x, hx, rfl⟩
    · cases m
    · simp at m; unfold pun at hx; omega
theorem Pc.fol {p A B : List Nat} {x c : Nat} (h : Pc p) (hx : pun x) (e : p = A ++ x :: c :: B) : False := by
  obtain ⟨u, v, rfl, hu, hv⟩ := h
  have nx : x ∉ u := hu.no (by unfold pun at hx; omega)
  have lv : v.length ≤ 1 := by rcases hv with rfl | ⟨y, _, rfl⟩ <;> simp
  rcases List.append_eq_append_iff.mp e with ⟨a, e1, e2⟩ | ⟨a, e1, e2⟩
  · rw [e2] at lv; simp at lv; omega
  · cases a with
    | nil => simp at e2; rw [← e2] at lv; simp at lv
    | cons y r =>
      simp at e2
      rw [e1, ← e2.1] at nx
      exact nx (by simp)
theorem joinL_app {s : List Nat} : ∀ {L R : List (List Nat)}, L ≠ [] → R ≠ [] → TL.joinL s (L ++ R) = TL.joinL s L ++ (s ++ TL.joinL s R)
  | [p], R, _, hR => by rw [List.singleton_append, joinL_cons hR]; rfl
  | p :: q :: r, R, _, hR => by
    rw [List.cons_append, joinL_cons (by simp), joinL_app (L := q :: r) (by simp) hR, joinL_cons (p := p) (by simp)]
    simp
theorem joinL_last {s u v : List Nat} : ∀ {L : List (List Nat)}, TL.joinL s (L ++ [u ++ v]) = TL.joinL s (L ++ [u]) ++ v
  | [] => rfl
  | p :: r => by
    rw [joinL_app (by simp) (by simp), joinL_app (by simp) (by simp)]
    simp [TL.joinL]
def BL (l : List Nat) : Prop := ∃ L u, (∀ p ∈ L, Pc p) ∧ Wd u ∧ l = TL.joinL [32] (L ++ [u])
theorem BL.words {ws : List (List Nat)} (h0 : ws ≠ []) (h : ∀ w ∈ ws, Wd w) : BL (TL.joinL [32] ws) :=
  ⟨ws.dropLast, ws.getLast h0, fun p hp => (h p (List.dropLast_subset ws hp)).pc, h _ (List.getLast_mem h0), by rw [List.dropLast_concat_getLast h0]⟩
theorem BL.pn {a b : List Nat} {x : Nat} (ha : BL a) (hb : BL b) (hx : pun x) : BL (a ++ ([x, 32] ++ b)) := by
  obtain ⟨L, u, hL, hu, rfl⟩ := ha
  obtain ⟨M, v, hM, hv, rfl⟩ := hb
  refine ⟨(L ++ [u ++ [x]]) ++ M, v, fun p hp => ?_, hv, ?_⟩
  · rcases List.mem_append.mp hp with hp | hp
    · rcases List.mem_append.mp hp with hp | hp
      · exact hL p hp
      · rw [List.mem_singleton.mp hp]
        exact ⟨u, [x], rfl, hu, .inr ⟨x, hx, rfl⟩⟩
    · exact hM p hp
  · rw [List.append_assoc (L ++ [u ++ [x]]), joinL_app (L := L ++ [u ++ [x]]) (R := M ++ [v]) (by simp) (by simp), joinL_last]
    simp
theorem BL.join {x : Nat} (hx : pun x) : ∀ {ps : List (List Nat)}, ps ≠ [] → (∀ p ∈ ps, BL p) → BL (TL.joinL [x, 32] ps)
  | [p], _, h => h p (by simp)
  | p :: q :: r, _, h => by
    rw [joinL_cons (by simp)]
    exact BL.pn (h p (by simp)) (BL.join hx (by simp) fun y hy => h y (List.mem_cons_of_mem _ hy)) hx
theorem wd_num {n : Nat} : Wd (TL.numL n) := by
  refine ⟨TL.numL_ne n, pl_num n, fun f r e => ?_⟩
  by_cases z : n = 0
  · subst z
    rw [TL.numL_lt (by omega)] at e
    simp at e
  · obtain ⟨c, t, e2, ne⟩ := numL_head (n + 1) n (by omega) (by omega)
    rw [e2] at e
    injection e with e _
    exact ne e
theorem wd_low {l : List Nat} (h : isName l) : Wd l := ⟨fun e => by have := h.2.1; rw [e] at this; simp at this, pl_name h, fun f r e => by have := h.1 48 (by rw [e]; simp); omega⟩
theorem wd_hd (r : Rw) : Wd (hd r) := by
  have h : ∀ w ∈ [w_skip, w_set, w_any, w_turn, w_if, w_go, w_fork, w_call, w_back, w_stop], decide (isName w) = true := by decide
  have m : hd r ∈ [w_skip, w_set, w_any, w_turn, w_if, w_go, w_fork, w_call, w_back, w_stop] := by cases r <;> simp [hd]
  exact wd_low (of_decide_eq_true (h _ m))
theorem wd_side (sh : Bool) : Wd (wside sh) := by cases sh <;> exact wd_low (of_decide_eq_true (by decide))
theorem wd_sw {r : Rw} (h : RwSm r) : ∀ w ∈ sw r, Wd w := by
  intro p hp
  unfold sw at hp
  rcases List.mem_cons.mp hp with rfl | hp
  · exact wd_hd r
  · cases r <;> simp only [ts, tW, tN, List.map_cons, List.map_nil, List.mem_cons, List.not_mem_nil, or_false] at hp
    · rcases hp with rfl | rfl
      · exact wd_side _
      · exact wd_num
    · subst hp; exact wd_side _
    · subst hp; exact wd_side _
    · rcases hp with rfl | rfl | rfl
      · exact wd_side _
      · exact wd_num
      · exact wd_num
    · subst hp; exact wd_num
    · subst hp; exact wd_num
    · subst hp; exact wd_low h
theorem bl_row {r : Rw} (h : RwSm r) : BL (rowT r) := BL.words (by simp [sw]) (wd_sw h)
theorem bl_proc {p : Proc} (h : PS p) : BL (procT p) :=
  BL.pn (BL.words (ws := [p.1]) (by simp) (by simpa using wd_low h.nm)) (BL.join (.inl rfl) (by simpa using h.ne) fun q hq => by
    obtain ⟨r, hr, rfl⟩ := List.mem_map.mp hq
    exact bl_row (h.rw r hr)) (.inr (.inl rfl))
theorem bl_val {a b : Int} : BL (valT a b) := BL.words (by simp) fun w hw => by
  simp only [List.mem_cons, List.not_mem_nil, or_false] at hw
  rcases hw with rfl | rfl | rfl
  · exact wd_low (of_decide_eq_true (by decide))
  · exact wd_num
  · exact wd_num
theorem bl_prog {a b : Int} {ps : List Proc} (h : ∀ p ∈ ps, PS p) : BL (progT a b ps) := BL.join (.inr (.inr rfl)) (by simp) fun p hp => by
  rcases List.mem_cons.mp hp with rfl | hp
  · exact bl_val
  · obtain ⟨q, hq, rfl⟩ := List.mem_map.mp hp
    exact bl_proc (h q hq)
theorem bl_can {l : List Nat} (h : Can l) : BL l := by
  obtain ⟨a, b, ps, _, _, _, hp, rfl⟩ := h
  exact bl_prog hp
theorem cut32 : ∀ {ps : List (List Nat)} {A B : List Nat}, (∀ p ∈ ps, 32 ∉ p) → TL.joinL [32] ps = A ++ 32 :: B → ∃ L R, L ≠ [] ∧ R ≠ [] ∧ ps = L ++ R ∧ A = TL.joinL [32] L ∧ B = TL.joinL [32] R
  | [], A, B, _, e => by simp [TL.joinL] at e
  | [p], A, B, h, e => by
    have e : p = A ++ 32 :: B := e
    exact absurd (by rw [e]; simp) (h p (by simp))
  | p :: q :: r, A, B, h, e => by
    rw [joinL_cons (by simp)] at e
    have np := h p (by simp)
    rcases List.append_eq_append_iff.mp e with ⟨a, e1, e2⟩ | ⟨a, e1, e2⟩
    · cases a with
      | nil =>
        simp at e1 e2
        exact ⟨[p], q :: r, by simp, by simp, rfl, e1, e2.symm⟩
      | cons y t =>
        simp at e2
        obtain ⟨L, R, hL, hR, e3, e4, e5⟩ := cut32 (ps := q :: r) (fun x hx => h x (List.mem_cons_of_mem _ hx)) e2.2
        refine ⟨p :: L, R, by simp, hR, by rw [e3]; rfl, ?_, e5⟩
        rw [joinL_cons hL, e1, ← e2.1, e4]; rfl
    · cases a with
      | nil =>
        simp at e1 e2
        exact ⟨[p], q :: r, by simp, by simp, rfl, e1.symm, e2⟩
      | cons y t =>
        simp at e2
        exact absurd (by rw [e1, ← e2.1]; simp) np
theorem join_head {R : List (List Nat)} (h0 : R ≠ []) (h : ∀ p ∈ R, Pc p) : ∃ q S, Pc q ∧ TL.joinL [32] R = q ++ S ∧ (S = [] ∨ ∃ t, S = 32 :: t) := by
  match R, h0 with
  | [q], _ => exact ⟨q, [], h q (by simp), by simp [TL.joinL], .inl rfl⟩
  | q :: q2 :: r, _ => exact ⟨q, _, h q (by simp), joinL_cons (by simp), .inr ⟨_, rfl⟩⟩
theorem BL.pcs {l : List Nat} (h : BL l) : ∃ ps, (∀ p ∈ ps, Pc p) ∧ l = TL.joinL [32] ps := by
  obtain ⟨L, u, hL, hu, e⟩ := h
  exact ⟨_, fun p hp => by
    rcases List.mem_append.mp hp with hp | hp
    · exact hL p hp
    · rw [List.mem_singleton.mp hp]; exact hu.pc, e⟩
theorem BL.behind {A B : List Nat} (h : BL (A ++ 32 :: B)) : ∃ q S, Pc q ∧ B = q ++ S ∧ (S = [] ∨ ∃ t, S = 32 :: t) := by
  obtain ⟨ps, hp, e⟩ := h.pcs
  obtain ⟨L, R, _, hR, e1, _, e3⟩ := cut32 (fun p h => (hp p h).no) e.symm
  have := join_head hR fun p h => hp p (by rw [e1]; exact List.mem_append_right _ h)
  rw [e3]; exact this
theorem no_dbl {A B : List Nat} (h : BL (A ++ 32 :: 32 :: B)) : False := by
  obtain ⟨q, S, hq, e, _⟩ := h.behind
  cases q with
  | nil => exact hq.ne rfl
  | cons c r =>
    simp at e
    exact hq.no (by rw [← e.1]; simp)
theorem no_zero {A B : List Nat} {f : Nat} (hf : fig f) (h : BL (A ++ 32 :: 48 :: f :: B)) : False := by
  obtain ⟨q, S, hq, e, hS⟩ := h.behind
  obtain ⟨u, v, rfl, hu, hv⟩ := hq
  unfold fig at hf
  match u, hu, e with
  | [], hu, _ => exact hu.ne rfl
  | [a], hu, e =>
    simp at e
    rcases hv with rfl | ⟨x, hx, rfl⟩
    · rcases hS with rfl | ⟨t, rfl⟩
      · simp at e
      · simp at e; omega
    · simp at e; unfold pun at hx; omega
  | a :: b :: r, hu, e =>
    simp at e
    exact hu.nz b r (by rw [← e.1])
theorem fol_join {x c : Nat} (hx : pun x) : ∀ {ps : List (List Nat)} {A B : List Nat}, (∀ p ∈ ps, Pc p) → TL.joinL [32] ps = A ++ x :: c :: B → c = 32
  | [], A, B, _, e => by simp [TL.joinL] at e
  | [p], A, B, h, e => ((h p (by simp)).fol hx (show p = A ++ x :: c :: B from e)).elim
  | p :: q :: r, A, B, h, e => by
    rw [joinL_cons (by simp)] at e
    have x32 : x ≠ 32 := by unfold pun at hx; omega
    rcases List.append_eq_append_iff.mp e with ⟨a, e1, e2⟩ | ⟨a, e1, e2⟩
    · cases a with
      | nil => simp at e2; exact absurd e2.1.symm x32
      | cons y t =>
        simp at e2
        exact fol_join hx (ps := q :: r) (fun p hp => h p (List.mem_cons_of_mem _ hp)) e2.2
    · match a, e1, e2 with
      | [], _, e2 => simp at e2; exact absurd e2.1 x32
      | [y], _, e2 => simp at e2; exact e2.2.1
      | y :: z :: t, e1, e2 =>
        simp at e2
        exact ((h p (by simp)).fol hx (show p = A ++ x :: c :: t by rw [e1, ← e2.1, ← e2.2.1])).elim
theorem no_pun {A B : List Nat} {x c : Nat} (hx : pun x) (hc : c ≠ 32) (h : BL (A ++ x :: c :: B)) : False := by
  obtain ⟨ps, hp, e⟩ := h.pcs
  exact hc (fol_join hx hp e.symm)
def okS (c : Nat) : Prop := c = 32 ∨ pun c ∨ fig c ∨ (97 ≤ c ∧ c ≤ 122)
theorem signs_ok {l : List Nat} (h : BL l) : ∀ c ∈ l, okS c := by
  obtain ⟨ps, hp, rfl⟩ := h.pcs
  intro c hc
  rcases joinL_mem hc with hc | ⟨p, h, hc⟩
  · simp at hc; exact .inl hc
  · obtain ⟨u, v, rfl, hu, hv⟩ := hp p h
    rcases List.mem_append.mp hc with hc | hc
    · have := hu.pl c hc
      unfold okS fig; omega
    · rcases hv with rfl | ⟨x, hx, rfl⟩
      · cases hc
      · simp at hc; rw [hc]; exact .inr (.inl hx)
theorem bl_asc {l : List Nat} (h : BL l) : asc l := fun c hc => by
  have := signs_ok h c hc
  unfold okS pun fig at this
  omega
end K53
namespace K53
open PySem L2 DL G4 G16
theorem cut_two {x : Nat} (hx : x ≠ 32) : ∀ {ps : List (List Nat)} {A B : List Nat}, TL.joinL [x, 32] ps = A ++ 32 :: B → (∃ A', A = A' ++ [x]) ∨
    ∃ L p R A2 B2 pre, ps = L ++ p :: R ∧ p = A2 ++ 32 :: B2 ∧ A ++ B = TL.joinL [x, 32] (L ++ (A2 ++ B2) :: R) ∧ A = pre ++ A2
  | [], A, B, e => by simp [TL.joinL] at e
  | [p], A, B, e => .inr ⟨[], p, [], A, B, [], rfl, e, rfl, rfl⟩
  | p :: q :: r, A, B, e => by
    rw [joinL_cons (by simp)] at e
    rcases List.append_eq_append_iff.mp e with ⟨a, e1, e2⟩ | ⟨a, e1, e2⟩
    · match a, e1, e2 with
      | [], _, e2 => simp at e2; exact absurd e2.1 hx
      | [y], e1, e2 => simp at e2; exact .inl ⟨p, by rw [e1, ← e2.1]⟩
      | y :: z :: t, e1, e2 =>
        simp at e2
        obtain ⟨rfl, rfl, e3⟩ := e2
        rcases cut_two hx (ps := q :: r) e3 with ⟨A', h⟩ | ⟨L, p', R, A2, B2, pre, h1, h2, h3, h4⟩
        · exact .inl ⟨p ++ [x, 32] ++ A', by rw [e1, h]; simp⟩
        · refine .inr ⟨p :: L, p', R, A2, B2, p ++ [x, 32] ++ pre, by rw [h1]; rfl, h2, ?_, by rw [e1, h4]; simp⟩
          rw [List.cons_append, joinL_cons (by simp), ← h3, e1]
          simp
    · cases a with
      | nil => simp at e2; exact absurd e2.1.symm hx
      | cons y t =>
        simp at e2
        obtain ⟨rfl, rfl⟩ := e2
        refine .inr ⟨[], p, q :: r, A, t, [], rfl, e1, ?_, rfl⟩
        rw [List.nil_append, joinL_cons (p := A ++ t) (q := q :: r) (by simp)]
        simp
theorem glue {p q : List Nat} : ∀ {L R : List (List Nat)}, TL.joinL [32] (L ++ [p]) ++ TL.joinL [32] (q :: R) = TL.joinL [32] (L ++ (p ++ q) :: R)
  | [], R => by
    cases R with
    | nil => rfl
    | cons a t =>
      rw [List.nil_append, List.nil_append, joinL_cons (p := q) (by simp), joinL_cons (p := p ++ q) (by simp)]
      simp [TL.joinL]
  | a :: t, R => by
    rw [List.cons_append, joinL_cons (p := a) (q := t ++ [p]) (by simp), show a :: t ++ (p ++ q) :: R = a :: (t ++ (p ++ q) :: R) from rfl, joinL_cons (p := a) (q := t ++ (p ++ q) :: R) (by simp), ← glue (L := t) (R := R)]
    simp
theorem cut_words {ws : List (List Nat)} {A B : List Nat} (h : ∀ w ∈ ws, 32 ∉ w) (e : TL.joinL [32] ws = A ++ 32 :: B) :
    ∃ L p q R, ws = L ++ p :: q :: R ∧ A ++ B = TL.joinL [32] (L ++ (p ++ q) :: R) := by
  obtain ⟨L, R, hL, hR, e1, e2, e3⟩ := cut32 h e
  obtain ⟨q, R', rfl⟩ : ∃ q R', R = q :: R' := by cases R with | nil => exact absurd rfl hR | cons q r => exact ⟨q, r, rfl⟩
  refine ⟨L.dropLast, L.getLast hL, q, R', ?_, ?_⟩
  · rw [e1]
    conv => lhs; rw [← List.dropLast_concat_getLast hL]
    simp
  · rw [e2, e3, ← glue, List.dropLast_concat_getLast hL]
theorem hd_ext {r r' : Rw} {q : List Nat} (h : hd r' = hd r ++ q) : q = [] := by
  cases r <;> cases r' <;> simp [hd, w_skip, w_set, w_any, w_turn, w_if, w_go, w_fork, w_call, w_back, w_stop] at h <;> exact h
theorem row_glue {r r' : Rw} {L R : List (List Nat)} {p q : List Nat} (hr : RwSm r) (h : sw r = L ++ p :: q :: R) (h' : sw r' = L ++ (p ++ q) :: R) : False := by
  cases L with
  | nil =>
    have wq := wd_sw hr q (by rw [h]; simp)
    unfold sw at h h'
    simp at h h'
    exact wq.ne (hd_ext (h'.1.trans (by rw [h.1])))
  | cons w L =>
    have hd2 : hd r = hd r' := by
      unfold sw at h h'
      simp at h h'
      rw [h.1, h'.1]
    have s1 := shape_eq r
    rw [hd2, shape_eq r'] at s1
    injection s1 with s1
    have l := congrArg List.length s1
    have l1 := congrArg List.length h
    have l2 := congrArg List.length h'
    unfold sw at l1 l2
    simp at l l1 l2
    omega
theorem no32_sw {r : Rw} (h : RwSm r) : ∀ w ∈ sw r, 32 ∉ w := fun w hw => (wd_sw h w hw).no (by omega)
theorem row_cut {r r' : Rw} {A B : List Nat} (hr : RwSm r) (hr' : RwSm r') (e : rowT r = A ++ 32 :: B) (e' : rowT r' = A ++ B) : False := by
  obtain ⟨L, p, q, R, h1, h2⟩ := cut_words (no32_sw hr) e
  have m : ∀ w ∈ L ++ (p ++ q) :: R, 32 ∉ w := fun w hw => by
    have hs := no32_sw hr
    rw [h1] at hs
    rcases List.mem_append.mp hw with hw | hw
    · exact hs w (by simp [hw])
    · rcases List.mem_cons.mp hw with rfl | hw
      · intro m
        rcases List.mem_append.mp m with m | m
        · exact hs p (by simp) m
        · exact hs q (by simp) m
      · exact hs w (by simp [hw])
  have s1 : TL.spl [32] 0 [] (rowT r') = sw r' := SX.spl_join (c := 32) (sep := []) (by simp [sw]) (no32_sw hr')
  have s2 : TL.spl [32] 0 [] (rowT r') = L ++ (p ++ q) :: R := by
    rw [e', h2]
    exact SX.spl_join (c := 32) (sep := []) (by simp) m
  exact row_glue hr h1 (by rw [← s1, s2])
theorem app_eq {α : Type} {L R M : List α} {x : α} (h : L ++ x :: R = M) : x ∈ M := by rw [← h]; simp
theorem join_inj {x : Nat} {s : List Nat} {ps qs : List (List Nat)} (h0 : ps ≠ []) (h1 : qs ≠ []) (hp : ∀ p ∈ ps, x ∉ p) (hq : ∀ p ∈ qs, x ∉ p) (e : TL.joinL (x :: s) ps = TL.joinL (x :: s) qs) : ps = qs := by
  rw [← SX.spl_join (c := x) (sep := s) h0 hp, e, SX.spl_join (c := x) (sep := s) h1 hq]
theorem mem_change {x : Nat} {L R : List (List Nat)} {A B : List Nat} (h : ∀ p ∈ L ++ (A ++ 32 :: B) :: R, x ∉ p) : ∀ p ∈ L ++ (A ++ B) :: R, x ∉ p := fun p hp => by
  rcases List.mem_append.mp hp with hp | hp
  · exact h p (by simp [hp])
  · rcases List.mem_cons.mp hp with rfl | hp
    · intro m
      have := h (A ++ 32 :: B) (by simp)
      exact this (by rcases List.mem_append.mp m with m | m <;> simp [m])
    · exact h p (by simp [hp])
theorem rows_free {rs : List Rw} (h : ∀ r ∈ rs, RwSm r) : ∀ p ∈ rs.map rowT, 44 ∉ p := fun p hp => by
  obtain ⟨r, hr, rfl⟩ := List.mem_map.mp hp
  exact rowT_no (h r hr) (.inl (by omega)) (by omega)
theorem rows_cut {rs rs' : List Rw} {A B : List Nat} (hr : ∀ r ∈ rs, RwSm r) (hr' : ∀ r ∈ rs', RwSm r) (h0 : rs ≠ []) (h0' : rs' ≠ []) (e : rowsT rs = A ++ 32 :: B) (e' : rowsT rs' = A ++ B) : ∃ A', A = A' ++ [44] := by
  rcases cut_two (x := 44) (by omega) e with h | ⟨L, p, R, A2, B2, pre, h1, h2, h3, _⟩
  · exact h
  · exfalso
    have f := rows_free hr
    rw [h1, h2] at f
    have := join_inj (by simpa using h0') (by simp) (rows_free hr') (mem_change f) (e'.trans h3)
    have m : A2 ++ B2 ∈ rs'.map rowT := app_eq this.symm
    obtain ⟨r', hr1, e1⟩ := List.mem_map.mp m
    have m2 : p ∈ rs.map rowT := app_eq h1.symm
    obtain ⟨r, hr2, e2⟩ := List.mem_map.mp m2
    exact row_cut (hr r hr2) (hr' r' hr1) (e2.trans h2) e1
theorem proc_free {p : Proc} (h : PS p) : ∀ q ∈ [p.1, rowsT p.2], 58 ∉ q := fun q hq => by
  simp only [List.mem_cons, List.not_mem_nil, or_false] at hq
  rcases hq with rfl | rfl
  · exact (pl_name h.nm).no (by omega)
  · exact rowsT_no h.rw (by omega)
theorem proc_cut {p p' : Proc} {A B : List Nat} (h : PS p) (h' : PS p') (e : procT p = A ++ 32 :: B) (e' : procT p' = A ++ B) : ∃ A' x, pun x ∧ A = A' ++ [x] := by
  have e : TL.joinL [58, 32] [p.1, rowsT p.2] = A ++ 32 :: B := e
  have e' : TL.joinL [58, 32] [p'.1, rowsT p'.2] = A ++ B := e'
  rcases cut_two (x := 58) (by omega) e with ⟨A', h⟩ | ⟨L, q, R, A2, B2, pre, h1, h2, h3, h4⟩
  · exact ⟨A', 58, .inr (.inl rfl), h⟩
  · have f := proc_free h
    rw [h1, h2] at f
    have inj := join_inj (by simp) (by simp) (proc_free h') (mem_change f) (e'.trans h3)
    match L, h1, inj with
    | [], h1, _ =>
      simp at h1
      exact absurd (by rw [h1.1, h2]; simp) ((pl_name h.nm).no (c := 32) (by omega))
    | [a], h1, inj =>
      simp at h1 inj
      obtain ⟨A', e3⟩ := rows_cut h.rw h'.rw h.ne h'.ne (h1.2.1.trans h2) inj.2.1
      exact ⟨pre ++ A', 44, .inl rfl, by rw [h4, e3]; simp⟩
    | a :: b :: t, h1, _ =>
      have := congrArg List.length h1
      simp at this
theorem val_cut {a b a' b' : Int} {A B : List Nat} (e : valT a b = A ++ 32 :: B) (e' : valT a' b' = A ++ B) : False := by
  have free : ∀ a b : Int, ∀ w ∈ [w_values, TL.numL a.toNat, TL.numL b.toNat], 32 ∉ w := fun a b w hw => by
    simp only [List.mem_cons, List.not_mem_nil, or_false] at hw
    rcases hw with rfl | rfl | rfl
    · decide
    · exact TL.numL_free (by omega)
    · exact TL.numL_free (by omega)
  obtain ⟨L, p, q, R, h1, h2⟩ := cut_words (free a b) e
  have f := free a b
  rw [h1] at f
  have m : ∀ w ∈ L ++ (p ++ q) :: R, 32 ∉ w := fun w hw => by
    rcases List.mem_append.mp hw with hw | hw
    · exact f w (by simp [hw])
    · rcases List.mem_cons.mp hw with rfl | hw
      · intro m
        rcases List.mem_append.mp m with m | m
        · exact f p (by simp) m
        · exact f q (by simp) m
      · exact f w (by simp [hw])
  have := join_inj (x := 32) (s := []) (by simp) (by simp) (free a' b') m (e'.trans h2)
  have l1 := congrArg List.length h1
  have l2 := congrArg List.length this
  simp at l1 l2
  omega
theorem parts_free {a b : Int} {ps : List Proc} (h : ∀ p ∈ ps, PS p) : ∀ q ∈ valT a b :: ps.map procT, 59 ∉ q := fun q hq => by
  rcases List.mem_cons.mp hq with rfl | hq
  · exact valT_no
  · obtain ⟨p, hp, rfl⟩ := List.mem_map.mp hq
    exact (h p hp).no
theorem no_blank {a b : Int} {ps : List Proc} {A B : List Nat} (h : ∀ p ∈ ps, PS p) (e : progT a b ps = A ++ 32 :: B) : ¬ Can (A ++ B) := fun hc => by
  have key : ∀ A' x, pun x → A = A' ++ [x] → False := fun A' x hx eA => by
    have bl := bl_prog (a := a) (b := b) h
    rw [e] at bl
    obtain ⟨q, S, hq, eB, _⟩ := bl.behind
    have bc := bl_can hc
    cases q with
    | nil => exact hq.ne rfl
    | cons c r =>
      have c32 : c ≠ 32 := fun z => hq.no (by rw [z]; simp)
      rw [eA, eB] at bc
      exact no_pun (A := A') (B := r ++ S) hx c32 (by simpa using bc)
  obtain ⟨a', b', ps', _, _, _, h', e'⟩ := hc
  rcases cut_two (x := 59) (by omega) e with ⟨A', hA⟩ | ⟨L, q, R, A2, B2, pre, h1, h2, h3, h4⟩
  · exact key A' 59 (.inr (.inr rfl)) hA
  · have f := parts_free (a := a) (b := b) h
    rw [h1, h2] at f
    have inj := join_inj (by simp) (by simp) (parts_free (a := a') (b := b') h') (mem_change f) (e'.symm.trans h3)
    cases L with
    | nil =>
      simp at h1 inj
      exact val_cut (h1.1.trans h2) inj.1
    | cons w L =>
      simp at h1 inj
      have m1 : q ∈ ps.map procT := app_eq h1.2.symm
      have m2 : A2 ++ B2 ∈ ps'.map procT := app_eq inj.2.symm
      obtain ⟨p, hp, e1⟩ := List.mem_map.mp m1
      obtain ⟨p', hp', e2⟩ := List.mem_map.mp m2
      obtain ⟨A', x, hx, e3⟩ := proc_cut (h p hp) (h' p' hp') (e1.trans h2) e2
      exact key (pre ++ A') x hx (by rw [h4, e3]; simp)
end K53
namespace K53
open PySem L2 DL G4 G16
def oddSg : List Nat := [33, 34, 35, 36, 38, 39, 40, 41, 42, 43, 45, 46, 47, 60, 61, 62, 63, 64, 65, 66, 67, 68, 69, 70, 71, 72, 73, 74, 75, 76, 77, 78, 79, 80, 81, 82, 83, 84, 85, 86, 87, 88, 89, 90, 91, 92, 93, 94, 95, 96, 123, 124, 125, 126, 10, 9]
theorem lit_odd : D.str (Str.ofString "!\"#$&'()*+-./<=>?@ABCDEFGHIJKLMNOPQRSTUVWXYZ[\\]^_`{|}~\n\t") = tx oddSg := tx_lit oddSg (by decide +kernel)
theorem odd_no {c : Nat} (h : c ∈ oddSg) : c < 128 ∧ ¬ okS c := by
  have : ∀ c ∈ oddSg, c < 128 ∧ (c ≠ 32 ∧ (c ≠ 44 ∧ c ≠ 58 ∧ c ≠ 59) ∧ ¬ (48 ≤ c ∧ c ≤ 57) ∧ ¬ (97 ≤ c ∧ c ≤ 122)) := by decide
  have t := this c h
  exact ⟨t.1, fun o => by unfold okS pun fig at o; omega⟩
def sg (T : List Nat) (k : Nat) : Nat := (T[k]?).getD 0
theorem sg_at {T : List Nat} {k : Nat} (h : k < T.length) : T = T.take k ++ sg T k :: T.drop (k + 1) := by
  have e : sg T k = T[k] := by unfold sg; rw [List.getElem?_eq_getElem h]; rfl
  rw [e, ← List.drop_eq_getElem_cons h, List.take_append_drop]
theorem sg_ix {T : List Nat} {k : Nat} (hl : T.length ≤ 16777216) (h : k < T.length) : g_ix (tx T) (.int (k : Int)) = .ok (tx [sg T k]) := by
  have e : sg T k = T[k] := by unfold sg; rw [List.getElem?_eq_getElem h]; rfl
  rw [g_ix_tx hl (by omega) (by omega), e]
  rfl
theorem sg_asc {T : List Nat} {k : Nat} (as : asc T) : asc [sg T k] := fun c hc => by
  simp at hc
  subst hc
  unfold sg
  cases h : T[k]? with
  | none => decide
  | some x => exact as x (mem_getElem? h)
theorem cutT {T : List Nat} {k : Nat} (hl : T.length ≤ 16777216) : g_sl (tx T) none (some (k : Int)) = .ok (tx (T.take k)) ∧ g_sl (tx T) (some (k : Int)) none = .ok (tx (T.drop k)) := by
  refine ⟨?_, ?_⟩
  · rw [g_sl_tx hl, cutA_to]
  · rw [g_sl_tx hl, cutA_from]
section
variable {T : List Nat} {c : Int}
theorem blanks_ok (as : asc T) (hl : T.length ≤ 30000) (e0 e1 e2 e3 e5 e6 : Option D) (h0 : e0 = some (tx T)) : compL [4] kName (vB (v2 g_eq (v2 g_ix (vVar 0) (vVar 4)) (vC (.str " ")))) (vVar 4) [e0, e1, e2, e3, none, e5, e6] ((List.range T.length).map fun (k : Nat) => D.int (k : Int)) =
    .ok (((List.range T.length).filter fun k => decide (sg T k = 32)).map fun (k : Nat) => D.int (k : Int)) := by
  subst h0
  have a32 : asc [32] := by unfold asc; decide
  refine compL_if (fun k => decide (sg T k = 32)) (fun (k : Nat) => D.int (k : Int)) (fun k hk => ?_) fun k hk _ => ?_
  · have hk : k < T.length := List.mem_range.mp hk
    have g := g_eq_tx (sg_asc (k := k) as) a32
    have g : g_eq (tx [sg T k]) (tx [32]) = .ok (.bl (decide (sg T k = 32))) := by rw [g]; simp
    have gi := sg_ix (by omega) hk
    simp -implicitDefEqProofs [gi, lit_sp, -g_eq_S, g]
  · simp -implicitDefEqProofs
theorem counts_ok (as : asc T) (hl : T.length ≤ 30000) (e0 e1 e2 e3 e5 e6 : Option D) (h0 : e0 = some (tx T)) : compL [4] kName (tAndD (vB (v2 g_eq (v2 g_ix (vVar 0) (v2 g_sub (vVar 4) (vC (.int 1)))) (vC (.str " ")))) (vB (v2 g_in (v2 g_ix (vVar 0) (vVar 4)) (vC (.str "0123456789"))))) (vVar 4) [e0, e1, e2, e3, none, e5, e6] ((List.range (T.length - 1)).map fun (k : Nat) => D.int ((k : Int) + 1)) =
    .ok (((List.range (T.length - 1)).filter fun k => decide (sg T k = 32) && decide (sg T (k + 1) ∈ figs)).map fun (k : Nat) => D.int ((k : Int) + 1)) := by
  subst h0
  have a32 : asc [32] := by unfold asc; decide
  refine compL_if (fun k => decide (sg T k = 32) && decide (sg T (k + 1) ∈ figs)) (fun (k : Nat) => D.int ((k : Int) + 1)) (fun k hk => ?_) fun k hk _ => ?_
  · have hk : k < T.length - 1 := List.mem_range.mp hk
    have g := g_eq_tx (sg_asc (k := k) as) a32
    have g : g_eq (tx [sg T k]) (tx [32]) = .ok (.bl (decide (sg T k = 32))) := by rw [g]; simp
    have gi := sg_ix (T := T) (k := k) (by omega) (by omega)
    have gj := sg_ix (T := T) (k := k + 1) (by omega) (by omega)
    rw [show ((k + 1 : Nat) : Int) = (k : Int) + 1 by omega] at gj
    have gin : g_in (tx [sg T (k + 1)]) (tx figs) = .ok (.bl (decide (sg T (k + 1) ∈ figs))) := g_in_sign _ _
    have ez : (k : Int) + 1 - 1 = (k : Int) := by omega
    cases z : decide (sg T k = 32)
    · rw [z] at g
      simp -implicitDefEqProofs [gi, gj, ez, lit_sp, -g_eq_S, g]
    · rw [z] at g
      simp -implicitDefEqProofs [gi, gj, ez, lit_sp, lit_figs, -g_eq_S, -g_in_eq, g, gin]
  · simp -implicitDefEqProofs
end
end K53
namespace K53
open PySem L2 DL G4 G16
theorem prog_head {a b : Int} {ps : List Proc} : ∃ f B, progT a b ps = w_values ++ 32 :: f :: B ∧ fig f := by
  have hv : ∃ R, progT a b ps = valT a b ++ R := by
    unfold progT
    cases ps with
    | nil => exact ⟨[], by simp [TL.joinL]⟩
    | cons p r => exact ⟨_, joinL_cons (by simp)⟩
  obtain ⟨R, hR⟩ := hv
  have ev : valT a b = w_values ++ ([32] ++ (TL.numL a.toNat ++ ([32] ++ TL.numL b.toNat))) := rfl
  cases hn : TL.numL a.toNat with
  | nil => exact absurd hn (TL.numL_ne _)
  | cons f t =>
    have hf := numL_mem (n := a.toNat) (c := f) (by rw [hn]; simp)
    refine ⟨f, t ++ ([32] ++ TL.numL b.toNat) ++ R, ?_, hf⟩
    rw [hR, ev, hn]
    simp
section
variable {v0 v1 c : Int} {ps : List Proc} {T : List Nat}
theorem ins_ok {k : Nat} {x : Nat} (hl : T.length ≤ 30000) : g_add (tx (T.take k)) (tx [x]) = .ok (tx (T.take k ++ [x])) ∧ g_add (tx (T.take k ++ [x])) (tx (T.drop k)) = .ok (tx (T.take k ++ [x] ++ T.drop k)) :=
  ⟨g_add_tx (by simp; omega), g_add_tx (by simp; omega)⟩
theorem ins_asc {k : Nat} {x : Nat} (as : asc T) (hx : x < 128) : asc (T.take k ++ [x] ++ T.drop k) := fun c hc => by
  rcases List.mem_append.mp hc with hc | hc
  · rcases List.mem_append.mp hc with hc | hc
    · exact as c (List.mem_of_mem_take hc)
    · simp at hc; omega
  · exact as c (List.mem_of_mem_drop hc)
theorem spoilt0 (as : asc T) (hl : T.length ≤ 30000) : ∃ l, m_spoilt [tx T, .int 0, .int c] = .ok (tx l) ∧ asc l ∧ l.length ≤ 30001 ∧ ¬ Can l := by
  have d := dg_rng c 9973 (m := (T.length : Int) + 1) (by omega)
  obtain ⟨k, hk⟩ := Int.eq_ofNat_of_zero_le d.1
  have d2 := dg_rng c 1123 (m := 56) (by decide)
  have hol : oddSg.length = 56 := rfl
  obtain ⟨j, hj⟩ := Int.eq_ofNat_of_zero_le d2.1
  have hj2 : j < oddSg.length := by omega
  have gi := sg_ix (T := oddSg) (k := j) (by decide) hj2
  have eo : sg oddSg j ∈ oddSg := by unfold sg; rw [List.getElem?_eq_getElem hj2]; exact List.getElem_mem _
  have no := odd_no eo
  generalize sg oddSg j = x at *
  obtain ⟨s1, s2⟩ := cutT (T := T) (k := k) (by omega)
  obtain ⟨a1, a2⟩ := ins_ok (T := T) (k := k) (x := x) hl
  refine ⟨T.take k ++ [x] ++ T.drop k, ?_, ins_asc as no.1, by simp; omega, fun h => no.2 (signs_ok (bl_can h) x (by simp))⟩
  have ll : T.length ≤ 16777216 := by omega
  have cl : c_len [tx oddSg] = .ok (.int 56) := by rw [c_len_tx (by decide)]; rfl
  generalize T.take k = A at *
  generalize T.drop k = B at *
  generalize A ++ [x] ++ B = Q at *
  generalize A ++ [x] = A1 at *
  have p1 : (0 : Int) < (T.length : Int) + 1 := by omega
  simp -implicitDefEqProofs [m_spoilt, b_spoilt, lit_odd, digit_ok, ll, cl, p1, hk, hj, gi, s1, s2, a1, a2]
theorem blank_pick (hb : ∃ k, k < T.length ∧ sg T k = 32) : ∃ k, k < T.length ∧ sg T k = 32 ∧ 0 < ((List.range T.length).filter fun k => decide (sg T k = 32)).length ∧
    g_ix (.lst (((List.range T.length).filter fun k => decide (sg T k = 32)).map fun (k : Nat) => D.int (k : Int))) (.int (dg c 9973 (((List.range T.length).filter fun k => decide (sg T k = 32)).length : Int))) = .ok (.int (k : Int)) := by
  obtain ⟨j, hj, ej⟩ := hb
  have mj : j ∈ (List.range T.length).filter fun k => decide (sg T k = 32) := List.mem_filter.mpr ⟨List.mem_range.mpr hj, by simp [ej]⟩
  have hm : ∀ k ∈ (List.range T.length).filter fun k => decide (sg T k = 32), k < T.length ∧ sg T k = 32 := fun k hk => by
    have := List.mem_filter.mp hk
    exact ⟨List.mem_range.mp this.1, by simpa using this.2⟩
  generalize (List.range T.length).filter (fun k => decide (sg T k = 32)) = F at *
  have p := List.length_pos_of_mem mj
  have d := dg_rng c 9973 (m := (F.length : Int)) (by omega)
  have e := g_ix_lst' (fun (k : Nat) => D.int (k : Int)) F _ d.1 d.2
  have h := hm _ (List.getElem_mem (show (dg c 9973 F.length).toNat < F.length by omega))
  exact ⟨_, h.1, h.2, p, e⟩
theorem spoilt12 {lot : Int} (hlot : lot = 1 ∨ lot = 2) (hT : T = progT v0 v1 ps) (hp : ∀ p ∈ ps, PS p) (as : asc T) (hl : T.length ≤ 30000) : ∃ l, m_spoilt [tx T, .int lot, .int c] = .ok (tx l) ∧ asc l ∧ l.length ≤ 30001 ∧ ¬ Can l := by
  obtain ⟨f, B, eT, hf⟩ := prog_head (a := v0) (b := v1) (ps := ps)
  rw [← hT] at eT
  have hb : ∃ k, k < T.length ∧ sg T k = 32 := ⟨6, by rw [eT]; simp [w_values], by rw [eT]; rfl⟩
  obtain ⟨k, k1, k2, p0, gi⟩ := blank_pick (c := c) hb
  have eTk := sg_at k1
  rw [k2] at eTk
  have hc := fun e1 e2 e3 e5 e6 => blanks_ok as hl (some (tx T)) e1 e2 e3 e5 e6 rfl
  have ll : T.length ≤ 16777216 := by omega
  have lf : ((List.range T.length).filter fun k => decide (sg T k = 32)).length ≤ 16777216 := Nat.le_trans (List.length_filter_le _ _) (by simp; omega)
  have g1 : ¬ lot = 0 := by omega
  have g8 : ¬ lot = 8 := by omega
  obtain ⟨s1, s2⟩ := cutT (T := T) (k := k) (by omega)
  have s3 := (cutT (T := T) (k := k + 1) (by omega)).2
  rw [show ((k + 1 : Nat) : Int) = (k : Int) + 1 by omega] at s3
  obtain ⟨a1, a2⟩ := ins_ok (T := T) (k := k) (x := 32) hl
  generalize hF : (List.range T.length).filter (fun k => decide (sg T k = 32)) = F at *
  have rg := rng1_ok (j := (T.length : Int)) (by omega) (by omega)
  rw [Int.toNat_natCast] at rg
  rcases hlot with rfl | rfl
  · refine ⟨T.take k ++ [32] ++ T.drop k, ?_, ins_asc as (by omega), by simp; omega, fun h => ?_⟩
    · generalize T.take k ++ [32] ++ T.drop k = Q at *
      generalize T.take k ++ [32] = A1 at *
      simp only [lit_sp] at hc
      simp -implicitDefEqProofs [m_spoilt, b_spoilt, digit_ok, ll, rg, hc, lf, p0, gi, s1, s2, a1, a2, lit_sp]
    · have e : T.take k ++ [32] ++ T.drop k = T.take k ++ 32 :: 32 :: T.drop (k + 1) := by
        have : T.drop k = 32 :: T.drop (k + 1) := by
          conv => lhs; rw [eTk]
          rw [List.drop_append_of_le_length (by simp; omega)]
          simp
        rw [this]; simp
      rw [e] at h
      exact no_dbl (bl_can h)
  · have a3 : g_add (tx (T.take k)) (tx (T.drop (k + 1))) = .ok (tx (T.take k ++ T.drop (k + 1))) := g_add_tx (by simp; omega)
    refine ⟨T.take k ++ T.drop (k + 1), ?_, fun x hx => ?_, by simp; omega, ?_⟩
    · generalize T.take k ++ T.drop (k + 1) = Q at *
      simp -implicitDefEqProofs [m_spoilt, b_spoilt, digit_ok, ll, rg, hc, lf, p0, gi, s1, s3, a3]
    · rcases List.mem_append.mp hx with hx | hx
      · exact as x (List.mem_of_mem_take hx)
      · exact as x (List.mem_of_mem_drop hx)
    · rw [hT] at eTk ⊢
      exact no_blank hp eTk
theorem spoilt8 (hT : T = progT v0 v1 ps) (hp : ∀ p ∈ ps, PS p) (as : asc T) (hl : T.length ≤ 30000) : ∃ l, m_spoilt [tx T, .int 8, .int c] = .ok (tx l) ∧ asc l ∧ l.length ≤ 30001 ∧ ¬ Can l := by
  obtain ⟨f, B, eT, hf⟩ := prog_head (a := v0) (b := v1) (ps := ps)
  rw [← hT] at eT
  have hc := fun e1 e2 e3 e5 e6 => counts_ok as hl (some (tx T)) e1 e2 e3 e5 e6 rfl
  have ll : T.length ≤ 16777216 := by omega
  have hb : 6 ∈ (List.range (T.length - 1)).filter fun k => decide (sg T k = 32) && decide (sg T (k + 1) ∈ figs) := by
    refine List.mem_filter.mpr ⟨List.mem_range.mpr (by rw [eT]; simp [w_values]), ?_⟩
    have e1 : sg T 6 = 32 := by rw [eT]; rfl
    have e2 : sg T (6 + 1) = f := by rw [eT]; rfl
    rw [e1, e2, decide_eq_true (mem_figs hf)]
    rfl
  have hm : ∀ k ∈ (List.range (T.length - 1)).filter fun k => decide (sg T k = 32) && decide (sg T (k + 1) ∈ figs), k < T.length - 1 ∧ sg T k = 32 ∧ fig (sg T (k + 1)) := fun k hk => by
    have := List.mem_filter.mp hk
    have t := this.2
    simp only [Bool.and_eq_true, decide_eq_true_eq] at t
    exact ⟨List.mem_range.mp this.1, t.1, figs_iff.mp t.2⟩
  have lf : ((List.range (T.length - 1)).filter fun k => decide (sg T k = 32) && decide (sg T (k + 1) ∈ figs)).length ≤ 16777216 := Nat.le_trans (List.length_filter_le _ _) (by simp; omega)
  generalize (List.range (T.length - 1)).filter (fun k => decide (sg T k = 32) && decide (sg T (k + 1) ∈ figs)) = F at *
  have p0 := List.length_pos_of_mem hb
  have d := dg_rng c 9973 (m := (F.length : Int)) (by omega)
  have gi := g_ix_lst' (fun (k : Nat) => D.int ((k : Int) + 1)) F _ d.1 d.2
  have h := hm _ (List.getElem_mem (show (dg c 9973 F.length).toNat < F.length by omega))
  generalize F[(dg c 9973 F.length).toNat]'(by omega) = k at *
  obtain ⟨h1, h2, h3⟩ := h
  have eTk := sg_at (T := T) (k := k) (by omega)
  rw [h2] at eTk
  have e3 : T.drop (k + 1) = sg T (k + 1) :: T.drop (k + 1 + 1) := by
    have e : sg T (k + 1) = T[k + 1]'(by omega) := by unfold sg; rw [List.getElem?_eq_getElem (by omega)]; rfl
    rw [e, ← List.drop_eq_getElem_cons]
  obtain ⟨s1, s2⟩ := cutT (T := T) (k := k + 1) (by omega)
  rw [show ((k + 1 : Nat) : Int) = (k : Int) + 1 by omega] at s1 s2
  obtain ⟨a1, a2⟩ := ins_ok (T := T) (k := k + 1) (x := 48) hl
  have rg := rng2_nat (a := 1) (b := T.length) (by omega) (by omega)
  have er : (List.range' 1 (T.length - 1)).map (fun (j : Nat) => D.int (j : Int)) = (List.range (T.length - 1)).map fun (k : Nat) => D.int ((k : Int) + 1) := by
    rw [List.range'_eq_map_range, List.map_map]
    refine List.map_congr_left fun j _ => ?_
    exact congrArg D.int (show ((1 + j : Nat) : Int) = (j : Int) + 1 by omega)
  rw [er] at rg
  refine ⟨T.take (k + 1) ++ [48] ++ T.drop (k + 1), ?_, ins_asc as (by omega), by simp; omega, fun h => ?_⟩
  · generalize T.take (k + 1) ++ [48] ++ T.drop (k + 1) = Q at *
    generalize T.take (k + 1) ++ [48] = A1 at *
    have rg : rng2 (.int 1) (.int (T.length : Int)) = _ := rg
    simp -implicitDefEqProofs [m_spoilt, b_spoilt, digit_ok, ll, rg, hc, lf, p0, gi, s1, s2, a1, a2, lit_n0]
  · have e : T.take (k + 1) ++ [48] ++ T.drop (k + 1) = T.take k ++ 32 :: 48 :: sg T (k + 1) :: T.drop (k + 1 + 1) := by
      rw [e3]
      have : T.take (k + 1) = T.take k ++ [32] := by
        have e : sg T k = T[k]'(by omega) := by unfold sg; rw [List.getElem?_eq_getElem (by omega)]; rfl
        rw [List.take_add_one, List.getElem?_eq_getElem (by omega), ← e, h2]; rfl
      rw [this]; simp
    rw [e] at h
    exact no_zero h3 (bl_can h)
end
end K53
namespace K53
open PySem L2 DL G4 G16
section
variable {v0 v1 : Int} {ps : List Proc}
theorem due0 (h : dueOf v0 v1 ps = 0) (sm : ∀ p ∈ ps, PSm p) : ∀ p ∈ ps, ProcOk v0 v1 (ps.map (·.1)) p := by
  unfold dueOf at h
  split at h
  · split at h
    · intro p hp
      have c0 : codeRows v0 v1 (ps.map (·.1)) p.2 = 0 := by
        unfold codeAll at h
        cases q : ps.find? fun p => codeRows v0 v1 (ps.map (·.1)) p.2 != 0 with
        | none =>
          have := List.find?_eq_none.mp q p hp
          simpa using this
        | some x =>
          rw [q] at h
          simp only at h
          have := List.find?_some q
          simp [h] at this
      have b0 : ∀ k r, p.2[k]? = some r → bad v0 v1 (ps.map (·.1)) p.2.length k r = 0 := fun k r hr => by
        unfold codeRows at c0
        cases q : firstK v0 v1 (ps.map (·.1)) p.2 with
        | none =>
          have := List.find?_eq_none.mp q k (List.mem_range.mpr (idx_lt hr))
          have : badAt v0 v1 (ps.map (·.1)) p.2 k = 0 := by simpa using this
          unfold badAt at this
          rw [hr] at this
          exact this
        | some x =>
          rw [q] at c0
          exact absurd c0 (firstK_ne q)
      have b1 : ∀ k r, p.2[k]? = some r → callBad (ps.map (·.1)) r = false ∧ valBad v0 v1 r = false ∧ goalBad p.2.length r = false ∧ endBad p.2.length k r = false := fun k r hr => by
        have := b0 k r hr
        unfold bad at this
        split at this
        · omega
        · split at this
          · omega
          · split at this
            · omega
            · split at this
              · omega
              · simp_all
      have s := sm p hp
      refine ⟨s.nm, fun r hr => ?_, List.length_pos_iff.mpr s.ne, s.few, fun r hr => ?_⟩
      · obtain ⟨k, hk⟩ := List.mem_iff_getElem?.mp hr
        obtain ⟨h1, h2, h3, _⟩ := b1 k r hk
        have sr := s.rw r hr
        cases r <;> simp only [RwOk, RwSm, NumOk, callBad, valBad, goalBad, Bool.not_eq_false', decide_eq_true_eq, decide_eq_false_iff_not] at * <;> first | trivial | omega | assumption
      · obtain ⟨_, _, _, h4⟩ := b1 _ r hr
        have lt := idx_lt hr
        unfold endBad at h4
        rw [decide_eq_true (by omega), Bool.true_and] at h4
        cases r <;> first | trivial | (simp [G16.k4] at h4)
    · omega
  · omega
theorem parts_bad {lot c : Int} {odd fst : List Nat} {at' : Nat} (hlot : lot = 3 ∨ lot = 4 ∨ lot = 5) (sm : ∀ p ∈ ps, PSm p) (ho : odd ∈ oddRow) (hf : fst ∈ oddFirst) (hat : at' < ps.length) :
    canTest (TL.joinL [59, 32] (partsT lot c v0 v1 odd fst at' ps)) = false := by
  have hon := oddName_not _ (oname_ok c).1
  have hor := oddRow_not _ ho
  have hof := oddFirst_not _ hf
  have told_no : ∀ p ∈ ps, ∀ l : List (List Nat), (∀ q ∈ l, q ∈ p.2.map rowT ∨ q = odd) → ∀ x, x = 58 ∨ x = 59 → x ∉ TL.joinL [44, 32] l := fun p hp l hl x hx m => by
    rcases joinL_mem m with m | ⟨q, hq, m⟩
    · simp at m; omega
    · rcases hl q hq with h | rfl
      · obtain ⟨r, hr, rfl⟩ := List.mem_map.mp h
        exact rowT_no ((sm p hp).rw r hr) (.inr (by omega)) (by omega) m
      · rcases hx with rfl | rfl
        · exact hor.2.2.1 m
        · exact hor.2.2.2 m
  have told_or : ∀ (p : Proc) (k : Nat), ∀ q ∈ (if lot = 3 ∧ k = at' then (p.2.map rowT).set (dg c 1151 p.2.length).toNat odd else p.2.map rowT), q ∈ p.2.map rowT ∨ q = odd := fun p k q hq => by
    split at hq
    · rcases List.mem_or_eq_of_mem_set hq with h | rfl
      · exact .inl h
      · exact .inr rfl
    · exact .inl hq
  have nm_no : ∀ p ∈ ps, ∀ k x, x = 58 ∨ x = 59 → x ∉ (if lot = 5 ∧ k = at' then oname c else p.1) := fun p hp k x hx => by
    split
    · rcases hx with rfl | rfl
      · exact hon.2.1
      · exact hon.2.2
    · exact (pl_name (sm p hp).nm).no (by omega)
  have free : ∀ q ∈ partsT lot c v0 v1 odd fst at' ps, 59 ∉ q := fun q hq => by
    unfold partsT at hq
    rcases List.mem_cons.mp hq with rfl | hq
    · split
      · exact hof.2
      · exact valT_no
    · obtain ⟨x, hx, rfl⟩ := List.mem_map.mp hq
      have hp : x.1 ∈ ps := mem_getElem? (List.mem_zipIdx_iff_getElem?.mp hx)
      unfold pieceT
      intro m
      rcases List.mem_append.mp m with m | m
      · exact nm_no x.1 hp x.2 59 (.inr rfl) m
      · rcases List.mem_append.mp m with m | m
        · simp at m
        · exact told_no x.1 hp _ (told_or x.1 x.2) 59 (.inr rfl) m
  unfold canTest
  rw [SX.spl_join (c := 59) (sep := [32]) (by unfold partsT; simp) free]
  unfold partsT
  show (valTest _ && (!(ps.zipIdx.map fun q => pieceT lot c odd at' q.2 q.1).isEmpty && (ps.zipIdx.map fun q => pieceT lot c odd at' q.2 q.1).all procTest)) = false
  by_cases z4 : lot = 4
  · rw [if_pos z4, hof.1.1]; rfl
  · suffices h : (ps.zipIdx.map fun q => pieceT lot c odd at' q.2 q.1).all procTest = false by rw [h]; simp
    rw [List.all_eq_false]
    have hz : (ps[at'], at') ∈ ps.zipIdx := List.mem_zipIdx_iff_getElem?.mpr (List.getElem?_eq_getElem hat)
    refine ⟨pieceT lot c odd at' at' ps[at'], List.mem_map.mpr ⟨_, hz, rfl⟩, ?_⟩
    have hp : ps[at'] ∈ ps := List.getElem_mem hat
    generalize ps[at'] = p at *
    have s := sm p hp
    have hA := nm_no p hp at' 58 (.inl rfl)
    have hB := told_no p hp _ (told_or p at') 58 (.inl rfl)
    have eA : lot = 5 → (if lot = 5 ∧ at' = at' then oname c else p.1) = oname c := fun z => if_pos ⟨z, rfl⟩
    have eB : lot = 3 → (if lot = 3 ∧ at' = at' then (p.2.map rowT).set (dg c 1151 p.2.length).toNat odd else p.2.map rowT) = (p.2.map rowT).set (dg c 1151 p.2.length).toNat odd := fun z => if_pos ⟨z, rfl⟩
    have e : pieceT lot c odd at' at' p = TL.joinL [58, 32] [(if lot = 5 ∧ at' = at' then oname c else p.1), TL.joinL [44, 32] (if lot = 3 ∧ at' = at' then (p.2.map rowT).set (dg c 1151 p.2.length).toNat odd else p.2.map rowT)] := rfl
    rw [e]
    generalize (if lot = 5 ∧ at' = at' then oname c else p.1) = a at *
    generalize (if lot = 3 ∧ at' = at' then (p.2.map rowT).set (dg c 1151 p.2.length).toNat odd else p.2.map rowT) = told at *
    unfold procTest
    rw [SX.spl_join (c := 58) (sep := [32]) (by simp) fun q hq => by
      simp only [List.mem_cons, List.not_mem_nil, or_false] at hq
      rcases hq with rfl | rfl
      · exact hA
      · exact hB]
    simp only
    by_cases z5 : lot = 5
    · rw [eA z5, hon.1.1]; simp
    · have z3 : lot = 3 := by omega
      rw [eB z3]
      have p0 : 0 < p.2.length := List.length_pos_iff.mpr s.ne
      have d := dg_rng c 1151 (m := (p.2.length : Int)) (by omega)
      have jl : (dg c 1151 p.2.length).toNat < (p.2.map rowT).length := by rw [List.length_map]; omega
      rw [SX.spl_join (c := 44) (sep := [32]) (List.ne_nil_of_length_pos (by rw [List.length_set]; omega)) fun q hq => by
        rcases List.mem_or_eq_of_mem_set hq with h | rfl
        · obtain ⟨r, hr, rfl⟩ := List.mem_map.mp h
          exact rowT_no (s.rw r hr) (.inl (by omega)) (by omega)
        · exact hor.2.1]
      have : ((p.2.map rowT).set (dg c 1151 p.2.length).toNat odd).all rowTest = false := by
        rw [List.all_eq_false]
        exact ⟨odd, List.mem_set jl odd, by rw [hor.1.1]; simp⟩
      rw [this]; simp
theorem parts_plain {lot c : Int} {odd fst : List Nat} {at' : Nat} (h3 : lot ≠ 3) (h4 : lot ≠ 4) (h5 : lot ≠ 5) : TL.joinL [59, 32] (partsT lot c v0 v1 odd fst at' ps) = progT v0 v1 ps := by
  unfold partsT progT
  rw [if_neg h4]
  congr 2
  have : (ps.zipIdx.map fun q => pieceT lot c odd at' q.2 q.1) = (ps.zipIdx.map Prod.fst).map procT := by
    rw [List.map_map]
    refine List.map_congr_left fun q _ => ?_
    unfold pieceT
    rw [if_neg (fun h => h5 h.1), if_neg (fun h => h3 h.1)]
    rfl
  rw [this, List.zipIdx_map_fst]
theorem parts_asc {lot c : Int} {odd fst : List Nat} {at' : Nat} (sm : ∀ p ∈ ps, PSm p) (ho : odd ∈ oddRow) (hf : fst ∈ oddFirst) : asc (TL.joinL [59, 32] (partsT lot c v0 v1 odd fst at' ps)) := fun x hx => by
  rcases joinL_mem hx with hx | ⟨q, hq, hx⟩
  · simp at hx; omega
  · unfold partsT at hq
    rcases List.mem_cons.mp hq with rfl | hq
    · split at hx
      · exact (clean_asc (oddFirst_not _ hf).1.2).1 x hx
      · exact bl_asc bl_val x hx
    · obtain ⟨y, hy, rfl⟩ := List.mem_map.mp hq
      have hp : y.1 ∈ ps := mem_getElem? (List.mem_zipIdx_iff_getElem?.mp hy)
      have s := sm y.1 hp
      unfold pieceT at hx
      rcases List.mem_append.mp hx with hx | hx
      · split at hx
        · exact (clean_asc (oddName_not _ (oname_ok c).1).1.2).1 x hx
        · exact s.nm.1.asc x hx
      · rcases List.mem_append.mp hx with hx | hx
        · simp at hx; omega
        · rcases joinL_mem hx with hx | ⟨q, hq, hx2⟩
          · simp at hx; omega
          · have : q ∈ y.1.2.map rowT ∨ q = odd := by
              split at hq
              · rcases List.mem_or_eq_of_mem_set hq with h | rfl
                · exact .inl h
                · exact .inr rfl
              · exact .inl hq
            rcases this with h | rfl
            · obtain ⟨r, hr, rfl⟩ := List.mem_map.mp h
              exact bl_asc (bl_row (s.rw r hr)) x hx2
            · exact (clean_asc (oddRow_not _ ho).1.2).1 x hx2
end
end K53
namespace K53
open PySem L2 DL G4 G16
theorem no_read {d : D} (h : g_isi "str" d = .ok (.bl false)) : m_read [d] = .ex "NoText" := by
  simp -implicitDefEqProofs [m_read, b_read, r_read_0, h]
theorem not_text {l : List Nat} {c : Int} : ∃ d, g_ix (.lst [.non, .int 7, .bl true, .lst [tx l], .tup [tx l], .dK [(.inr ⟨l.toArray⟩, tx l)]]) (.int (dg c 1123 6)) = .ok d ∧ g_isi "str" d = .ok (.bl false) := by
  have r := dg_rng c 1123 (m := 6) (by decide)
  generalize dg c 1123 6 = k at r
  obtain rfl | rfl | rfl | rfl | rfl | rfl : k = 0 ∨ k = 1 ∨ k = 2 ∨ k = 3 ∨ k = 4 ∨ k = 5 := by omega
  · exact ⟨_, rfl, by simp⟩
  · exact ⟨_, rfl, by simp⟩
  · exact ⟨_, rfl, by simp⟩
  · exact ⟨_, rfl, by simp⟩
  · exact ⟨_, rfl, by simp⟩
  · exact ⟨_, rfl, by simp⟩
theorem disp_tx (l : List Nat) : dispR (tx l) (tx l) = .ok (.dK [(.inr ⟨l.toArray⟩, tx l)]) := rfl
theorem end_text {x0 x1 x2 x3 x4 : Option D} {lot : Int} {d : D} (h : m_read [d] = .ex "NoText") :
    r_law_11 [x0, x1, x2, x3, x4, some (.int lot), some d, some (tx textL), none] = .rt (.bl true) := by
  have lr := lr_text h
  have g1 : g_ne (tx textL) (tx (wordL 0)) = .ok (.bl true) := by rw [g_ne_tx as_text (as_word 0)]; rfl
  have g2 : g_eq (tx textL) (tx textL) = .ok (.bl true) := by rw [g_eq_tx as_text as_text]; simp
  simp -implicitDefEqProofs [r_law_11, r_law_12, lr, lw0, -g_ne_S, -g_eq_S, g1, g2]
section
variable {v0 v1 c : Int} {ps : List Proc}
theorem end_prog {x0 x1 x2 x3 : Option D} {lot : Int} (ha : V4 v0) (hb : V4 v1) (sm : ∀ p ∈ ps, PSm p) (h0 : ps ≠ []) (hl : ps.length ≤ 10) :
    r_law_11 [x0, x1, x2, x3, some (eP v0 v1 ps), some (.int lot), some (tx (progT v0 v1 ps)), some (tx (wordL (dueOf v0 v1 ps))), none] = .rt (.bl true) := by
  have rd := read_prog ha hb sm (by omega) h0
  by_cases z : dueOf v0 v1 ps = 0
  · rw [if_pos z] at rd
    have lr := lr_ok rd
    have ok := due0 z sm
    have s := same_ok (a := v0) (b := v1) (ps := ps) (fun l hl => by obtain ⟨p, hp, rfl⟩ := List.mem_map.mp hl; exact (sm p hp).nm) ok (by omega)
    rw [z]
    have g1 : g_ne (tx (wordL 0)) (tx (wordL 0)) = .ok (.bl false) := by rw [g_ne_tx (as_word 0) (as_word 0)]; rfl
    have g2 : g_eq (tx (wordL 0)) (tx (wordL 0)) = .ok (.bl true) := by rw [g_eq_tx (as_word 0) (as_word 0)]; rfl
    generalize eP v0 v1 ps = P at *
    generalize progT v0 v1 ps = T at *
    simp -implicitDefEqProofs [r_law_11, r_law_12, r_law_13, lr, lw0, -g_ne_S, -g_eq_S, g1, g2, s]
  · rw [if_neg z] at rd
    have le := dueOf_le (v0 := v0) (v1 := v1) (ps := ps)
    have lr := lr_err (by omega) le rd
    have g1 : g_ne (tx (wordL (dueOf v0 v1 ps))) (tx (wordL 0)) = .ok (.bl true) := by
      rw [g_ne_tx (as_word _) (as_word 0)]
      generalize dueOf v0 v1 ps = n at *
      obtain rfl | rfl | rfl | rfl : n = 1 ∨ n = 2 ∨ n = 3 ∨ n = 4 := by omega
      all_goals rfl
    have g2 : g_eq (tx (wordL (dueOf v0 v1 ps))) (tx (wordL (dueOf v0 v1 ps))) = .ok (.bl true) := by rw [g_eq_tx (as_word _) (as_word _)]; simp
    generalize tx (wordL (dueOf v0 v1 ps)) = W at *
    generalize eP v0 v1 ps = P at *
    generalize progT v0 v1 ps = T at *
    simp -implicitDefEqProofs [r_law_11, r_law_12, lr, lw0, -g_ne_S, -g_eq_S, g1, g2]
theorem lot_ok (d : Int) (hd : 0 ≤ d ∧ d < 24) : ∃ lot, g_ix (.lst [.int 0, .int 1, .int 2, .int 3, .int 3, .int 3, .int 4, .int 5, .int 6, .int 7, .int 8, .int 8, .int 9]) (.int (if d < 12 then d else 12)) = .ok (.int lot) ∧ 0 ≤ lot ∧ lot ≤ 9 := by
  have hm : 0 ≤ (if d < 12 then d else 12) ∧ (if d < 12 then d else 12) < 13 := by split <;> omega
  generalize (if d < 12 then d else 12) = m at hm
  have e := g_ix_lst' D.int [0, 1, 2, 3, 3, 3, 4, 5, 6, 7, 8, 8, 9] m hm.1 (by simpa using hm.2)
  have b : ∀ x ∈ ([0, 1, 2, 3, 3, 3, 4, 5, 6, 7, 8, 8, 9] : List Int), 0 ≤ x ∧ x ≤ 9 := by decide
  exact ⟨_, e, b _ (List.getElem_mem _)⟩
theorem tail_ok {x0 x2 x3 : Option D} {lot : Int} (hlot : 0 ≤ lot ∧ lot ≤ 9) (ha : V4 v0) (hb : V4 v1) (sm : ∀ p ∈ ps, PSm p ∧ p.2.length ≤ 62) (h0 : 0 < ps.length) (hl : ps.length ≤ 10) :
    r_law_5 [x0, some (.int c), x2, x3, some (eP v0 v1 ps), some (.int lot), none, none, none] = .rt (.bl true) := by
  have sm1 : ∀ p ∈ ps, PSm p := fun p hp => (sm p hp).1
  have psp : ∀ p ∈ ps, PS p := fun p hp => PSm.ps (sm p hp).1
  obtain ⟨odd, ho, fst, hf, at', hat, pc⟩ := pieces_ok (lot := lot) (c := c) ha hb sm h0 hl
  have tl := text_len (lot := lot) (c := c) (at' := at') ha hb sm ho hf hl
  have ta := parts_asc (lot := lot) (c := c) (v0 := v0) (v1 := v1) (at' := at') sm1 ho hf
  have wd := word_any (v0 := v0) (v1 := v1) (fun p hp => (sm p hp).1.nm) sm1 (by omega)
  have hne : ps ≠ [] := List.length_pos_iff.mp h0
  obtain ⟨ot, hot, eot⟩ := oddText_ok c
  have hott := oddText_not _ hot
  obtain ⟨nd, e1, e2⟩ := not_text (l := TL.joinL [59, 32] (partsT lot c v0 v1 odd fst at' ps)) (c := c)
  have dt := disp_tx (TL.joinL [59, 32] (partsT lot c v0 v1 odd fst at' ps))
  by_cases z9 : lot = 9
  · subst z9
    have et := parts_plain (v0 := v0) (v1 := v1) (ps := ps) (c := c) (odd := odd) (fst := fst) (at' := at') (lot := 9) (by omega) (by omega) (by omega)
    rw [et] at pc
    have fin := end_prog (x0 := x0) (x1 := some (.int c)) (x2 := x2) (x3 := x3) (lot := 9) ha hb sm1 hne hl
    generalize tx (wordL (dueOf v0 v1 ps)) = W at *
    generalize eP v0 v1 ps = P at *
    generalize progT v0 v1 ps = T at *
    simp -implicitDefEqProofs [r_law_5, r_law_6, r_law_7, r_law_8, r_law_9, r_law_10, pc, wd, fin]
  · by_cases zs : lot = 0 ∨ lot = 1 ∨ lot = 2 ∨ lot = 8
    · have et := parts_plain (v0 := v0) (v1 := v1) (ps := ps) (c := c) (odd := odd) (fst := fst) (at' := at') (lot := lot) (by omega) (by omega) (by omega)
      rw [et] at pc tl ta
      have sp : ∃ l, m_spoilt [tx (progT v0 v1 ps), .int lot, .int c] = .ok (tx l) ∧ asc l ∧ l.length ≤ 30001 ∧ ¬ Can l := by
        rcases zs with rfl | rfl | rfl | rfl
        · exact spoilt0 ta (by omega)
        · exact spoilt12 (.inl rfl) rfl psp ta (by omega)
        · exact spoilt12 (.inr rfl) rfl psp ta (by omega)
        · exact spoilt8 rfl psp ta (by omega)
      obtain ⟨l, s1, s2, s3, s4⟩ := sp
      have fin := fun x4 => end_text (x0 := x0) (x1 := some (.int c)) (x2 := x2) (x3 := x3) (x4 := x4) (lot := lot) ((read_any s2 (by omega)).resolve_left s4)
      generalize eP v0 v1 ps = P at *
      generalize progT v0 v1 ps = T at *
      have q6 : ¬ lot = 6 := by omega
      have q7 : ¬ lot = 7 := by omega
      have q8 : lot ≤ 8 := by omega
      by_cases y : lot ≤ 2
      · simp -implicitDefEqProofs [r_law_5, r_law_6, r_law_7, r_law_8, r_law_9, r_law_10, pc, wd, y, s1, q6, q7, q8, lit_text, fin]
      · have y8 : lot = 8 := by omega
        subst y8
        simp -implicitDefEqProofs [r_law_5, r_law_6, r_law_7, r_law_8, r_law_9, r_law_10, pc, wd, s1, lit_text, fin]
    · have q2 : ¬ lot ≤ 2 := by omega
      have q8 : ¬ lot = 8 := by omega
      have q9 : lot ≤ 8 := by omega
      by_cases z6 : lot = 6
      · have fin := fun x4 => end_text (x0 := x0) (x1 := some (.int c)) (x2 := x2) (x3 := x3) (x4 := x4) (lot := lot) (no_test (clean_asc hott.2).1 (by have := (clean_asc hott.2).2; omega) hott.1)
        have q7 : ¬ lot = 7 := by omega
        generalize eP v0 v1 ps = P at *
        generalize TL.joinL [59, 32] (partsT lot c v0 v1 odd fst at' ps) = T at *
        subst z6
        simp -implicitDefEqProofs [r_law_5, r_law_6, r_law_7, r_law_8, r_law_9, r_law_10, pc, wd, eot, lit_text, fin]
      · by_cases z7 : lot = 7
        · have fin := fun x4 => end_text (x0 := x0) (x1 := some (.int c)) (x2 := x2) (x3 := x3) (x4 := x4) (lot := lot) (no_read e2)
          generalize eP v0 v1 ps = P at *
          generalize TL.joinL [59, 32] (partsT lot c v0 v1 odd fst at' ps) = T at *
          subst z7
          simp -implicitDefEqProofs [r_law_5, r_law_6, r_law_7, r_law_8, r_law_9, r_law_10, pc, wd, digit_ok, dt, e1, lit_text, fin]
        · have bd := parts_bad (v0 := v0) (v1 := v1) (ps := ps) (lot := lot) (c := c) (at' := at') (by omega) sm1 ho hf hat
          have fin := fun x4 => end_text (x0 := x0) (x1 := some (.int c)) (x2 := x2) (x3 := x3) (x4 := x4) (lot := lot) (no_test ta (by omega) bd)
          generalize eP v0 v1 ps = P at *
          generalize TL.joinL [59, 32] (partsT lot c v0 v1 odd fst at' ps) = T at *
          simp -implicitDefEqProofs [r_law_5, r_law_6, r_law_7, r_law_8, r_law_9, r_law_10, pc, wd, q2, q8, q9, z6, z7, lit_text, fin]
end
theorem law_math : ∀ ns : List Int, ns.length ≤ 63 → m_law [.lst (ns.map D.int)] = .ok (.bl true) := fun ns h63 => by
  obtain ⟨c, hc, c0, _⟩ := cell_ok ns 0 (by omega)
  obtain ⟨d, hd, d0, _⟩ := cell_ok ns 1 (by omega)
  obtain ⟨nl, hnl, nd, nm, n4, nn⟩ := names_ok d0
  have n0 : 0 < nl.length := List.length_pos_of_mem nm
  obtain ⟨nl2, hn2, n20, n24, nn2⟩ := named_ok (c := c) n0 n4 nn
  have r0 := dg_rng c 1033 (m := 4) (by decide)
  have r1 := dg_rng c 1039 (m := 4) (by decide)
  have cl : (cutA ns (some 2) (some 62)).length ≤ 60 := by rw [cutA_mid2_62]; simp; omega
  have sl : g_sl (.lst (ns.map D.int)) (some 2) (some 62) = .ok (.lst ((cutA ns (some 2) (some 62)).map D.int)) := by
    simp [cutA_map', -cutA_mid2_62]
  generalize cutA ns (some 2) (some 62) = cs at *
  obtain ⟨ps, hps, e1, e2⟩ := loose_ok (cs := cs) (v0 := 1 + dg c 1033 4) (v1 := 1 + dg c 1039 4) (c := c) (nl := nl2) cl ⟨by omega, by omega⟩ ⟨by omega, by omega⟩ n20 (by omega) nn2
  obtain ⟨lot, l1, l2⟩ := lot_ok (dg c 1117 24) (dg_rng c 1117 (by decide))
  have pl : ps.length = nl2.length := by rw [← e1]; simp
  have tl := fun x0 x2 x3 => tail_ok (x0 := x0) (x2 := x2) (x3 := x3) (c := c) (lot := lot) l2 (v0 := 1 + dg c 1033 4) (v1 := 1 + dg c 1039 4) ⟨by omega, by omega⟩ ⟨by omega, by omega⟩ e2 (by omega) (by omega)
  have mn : c_min2 [.int 12, .int (dg c 1117 24)] = .ok (.int (if dg c 1117 24 < 12 then dg c 1117 24 else 12)) := rfl
  generalize eP (1 + dg c 1033 4) (1 + dg c 1039 4) ps = P at *
  simp -implicitDefEqProofs [m_law, b_law, r_law_0, r_law_1, r_law_2, r_law_3, r_law_4, hc, hd, hnl, hn2, digit_ok, sl, hps, mn, l1, tl]
end K53
namespace K53
open PySem PySem.Spec PyProof.Rows L2 DL
def top (i : Nat) : Stmt := PySem.Challenge.pw_callwalk_k53_refused_programs.main.body.getD i (.Pass ⟨0, 0, 0, 0⟩)
abbrev s_is_name : Stmt := top 10
abbrev N_is_name : List Str := ["word", "sign"]
theorem sc_is_name : FnScope N_is_name ["word"] (defScope s_is_name) := ⟨rfl, rfl, rfl, by decide +kernel, rfl, by decide +kernel, by decide +kernel⟩
abbrev s_is_count : Stmt := top 11
abbrev N_is_count : List Str := ["word", "sign"]
theorem sc_is_count : FnScope N_is_count ["word"] (defScope s_is_count) := ⟨rfl, rfl, rfl, by decide +kernel, rfl, by decide +kernel, by decide +kernel⟩
abbrev s_read_word : Stmt := top 12
abbrev N_read_word : List Str := ["kind", "word"]
theorem sc_read_word : FnScope N_read_word ["kind", "word"] (defScope s_read_word) := ⟨rfl, rfl, rfl, by decide +kernel, rfl, by decide +kernel, by decide +kernel⟩
abbrev s_shape_of : Stmt := top 13
abbrev N_shape_of : List Str := ["word"]
theorem sc_shape_of : FnScope N_shape_of ["word"] (defScope s_shape_of) := ⟨rfl, rfl, rfl, by decide +kernel, rfl, by decide +kernel, by decide +kernel⟩
abbrev s_read_row : Stmt := top 14
abbrev N_read_row : List Str := ["text", "words", "shape", "row", "kind", "word"]
theorem sc_read_row : FnScope N_read_row ["text"] (defScope s_read_row) := ⟨rfl, rfl, rfl, by decide +kernel, rfl, by decide +kernel, by decide +kernel⟩
abbrev s_read_procedure : Stmt := top 15
abbrev N_read_procedure : List Str := ["text", "parts", "row"]
theorem sc_read_procedure : FnScope N_read_procedure ["text"] (defScope s_read_procedure) := ⟨rfl, rfl, rfl, by decide +kernel, rfl, by decide +kernel, by decide +kernel⟩
abbrev s_read_values : Stmt := top 16
abbrev N_read_values : List Str := ["text", "words", "word"]
theorem sc_read_values : FnScope N_read_values ["text"] (defScope s_read_values) := ⟨rfl, rfl, rfl, by decide +kernel, rfl, by decide +kernel, by decide +kernel⟩
abbrev s_values_of : Stmt := top 17
abbrev N_values_of : List Str := ["program", "which"]
theorem sc_values_of : FnScope N_values_of ["program", "which"] (defScope s_values_of) := ⟨rfl, rfl, rfl, by decide +kernel, rfl, by decide +kernel, by decide +kernel⟩
abbrev s_look_at : Stmt := top 18
abbrev N_look_at : List Str := ["program", "names", "rows", "at", "row"]
theorem sc_look_at : FnScope N_look_at ["program", "names", "rows", "at"] (defScope s_look_at) := ⟨rfl, rfl, rfl, by decide +kernel, rfl, by decide +kernel, by decide +kernel⟩
abbrev s_look_over : Stmt := top 19
abbrev N_look_over : List Str := ["program", "names", "name", "rows", "at", "one"]
theorem sc_look_over : FnScope N_look_over ["program"] (defScope s_look_over) := ⟨rfl, rfl, rfl, by decide +kernel, rfl, by decide +kernel, by decide +kernel⟩
abbrev s_read : Stmt := top 20
abbrev N_read : List Str := ["text", "parts", "values", "program", "part"]
theorem sc_read : FnScope N_read ["text"] (defScope s_read) := ⟨rfl, rfl, rfl, by decide +kernel, rfl, by decide +kernel, by decide +kernel⟩
abbrev s_cell_at : Stmt := top 22
abbrev N_cell_at : List Str := ["_law_script", "_law_k"]
theorem sc_cell_at : FnScope N_cell_at ["_law_script", "_law_k"] (defScope s_cell_at) := ⟨rfl, rfl, rfl, by decide +kernel, rfl, by decide +kernel, by decide +kernel⟩
abbrev s_digit : Stmt := top 23
abbrev N_digit : List Str := ["_law_cell", "_law_prime", "_law_many"]
theorem sc_digit : FnScope N_digit ["_law_cell", "_law_prime", "_law_many"] (defScope s_digit) := ⟨rfl, rfl, rfl, by decide +kernel, rfl, by decide +kernel, by decide +kernel⟩
abbrev s_names : Stmt := top 24
abbrev N_names : List Str := ["_law_cell", "_law_others", "_law_size", "_law_base", "_law_k", "_law_spot", "_law_lot", "_law_sign", "_law_name", "_law_at"]
theorem sc_names : FnScope N_names ["_law_cell"] (defScope s_names) := ⟨rfl, rfl, rfl, by decide +kernel, rfl, by decide +kernel, by decide +kernel⟩
abbrev s_row : Stmt := top 25
abbrev N_row : List Str := ["_law_cell", "_law_values", "_law_many", "_law_names_here", "_law_last", "_law_lot", "_law_side", "_law_which", "_law_number", "_law_goal"]
theorem sc_row : FnScope N_row ["_law_cell", "_law_values", "_law_many", "_law_names_here", "_law_last"] (defScope s_row) := ⟨rfl, rfl, rfl, by decide +kernel, rfl, by decide +kernel, by decide +kernel⟩
abbrev s_whole : Stmt := top 26
abbrev N_whole : List Str := ["_law_found"]
theorem sc_whole : FnScope N_whole ["_law_found"] (defScope s_whole) := ⟨rfl, rfl, rfl, by decide +kernel, rfl, by decide +kernel, by decide +kernel⟩
abbrev s_row_same : Stmt := top 27
abbrev N_row_same : List Str := ["_law_found", "_law_due", "_law_one", "_law_word_here"]
theorem sc_row_same : FnScope N_row_same ["_law_found", "_law_due"] (defScope s_row_same) := ⟨rfl, rfl, rfl, by decide +kernel, rfl, by decide +kernel, by decide +kernel⟩
abbrev s_rows_same : Stmt := top 28
abbrev N_rows_same : List Str := ["_law_found", "_law_due", "_law_one", "_law_row_here"]
theorem sc_rows_same : FnScope N_rows_same ["_law_found", "_law_due"] (defScope s_rows_same) := ⟨rfl, rfl, rfl, by decide +kernel, rfl, by decide +kernel, by decide +kernel⟩
abbrev s_same : Stmt := top 29
abbrev N_same : List Str := ["_law_found", "_law_due", "_law_one", "_law_part"]
theorem sc_same : FnScope N_same ["_law_found", "_law_due"] (defScope s_same) := ⟨rfl, rfl, rfl, by decide +kernel, rfl, by decide +kernel, by decide +kernel⟩
abbrev s_stranger : Stmt := top 30
abbrev N_stranger : List Str := ["_law_names_here", "_law_name"]
theorem sc_stranger : FnScope N_stranger ["_law_names_here"] (defScope s_stranger) := ⟨rfl, rfl, rfl, by decide +kernel, rfl, by decide +kernel, by decide +kernel⟩
abbrev s_wrong_row : Stmt := top 31
abbrev N_wrong_row : List Str := ["_law_cell", "_law_values", "_law_many", "_law_names_here", "_law_side", "_law_which", "_law_more", "_law_lot"]
theorem sc_wrong_row : FnScope N_wrong_row ["_law_cell", "_law_values", "_law_many", "_law_names_here"] (defScope s_wrong_row) := ⟨rfl, rfl, rfl, by decide +kernel, rfl, by decide +kernel, by decide +kernel⟩
abbrev s_loose : Stmt := top 32
abbrev N_loose : List Str := ["_law_cells", "_law_values", "_law_names_here", "_law_seed", "_law_rare", "_law_dealt", "_law_cell", "_law_procedures", "_law_k", "_law_name", "_law_own", "_law_rows", "_law_at", "_law_row_here"]
theorem sc_loose : FnScope N_loose ["_law_cells", "_law_values", "_law_names_here", "_law_seed"] (defScope s_loose) := ⟨rfl, rfl, rfl, by decide +kernel, rfl, by decide +kernel, by decide +kernel⟩
abbrev s_row_word : Stmt := top 33
abbrev N_row_word : List Str := ["_law_program", "_law_names_here", "_law_rows", "_law_at", "_law_row_here"]
theorem sc_row_word : FnScope N_row_word ["_law_program", "_law_names_here", "_law_rows", "_law_at"] (defScope s_row_word) := ⟨rfl, rfl, rfl, by decide +kernel, rfl, by decide +kernel, by decide +kernel⟩
abbrev s_word : Stmt := top 34
abbrev N_word : List Str := ["_law_program", "_law_names_here", "_law_k", "_law_name", "_law_rows", "_law_at", "_law_word_here"]
theorem sc_word : FnScope N_word ["_law_program"] (defScope s_word) := ⟨rfl, rfl, rfl, by decide +kernel, rfl, by decide +kernel, by decide +kernel⟩
abbrev s_odd_row : Stmt := top 35
abbrev N_odd_row : List Str := ["_law_cell", "_law_some"]
theorem sc_odd_row : FnScope N_odd_row ["_law_cell"] (defScope s_odd_row) := ⟨rfl, rfl, rfl, by decide +kernel, rfl, by decide +kernel, by decide +kernel⟩
abbrev s_odd_first : Stmt := top 36
abbrev N_odd_first : List Str := ["_law_cell", "_law_some"]
theorem sc_odd_first : FnScope N_odd_first ["_law_cell"] (defScope s_odd_first) := ⟨rfl, rfl, rfl, by decide +kernel, rfl, by decide +kernel, by decide +kernel⟩
abbrev s_odd_text : Stmt := top 37
abbrev N_odd_text : List Str := ["_law_cell", "_law_some"]
theorem sc_odd_text : FnScope N_odd_text ["_law_cell"] (defScope s_odd_text) := ⟨rfl, rfl, rfl, by decide +kernel, rfl, by decide +kernel, by decide +kernel⟩
abbrev s_pieces : Stmt := top 38
abbrev N_pieces : List Str := ["_law_program", "_law_lot", "_law_cell", "_law_parts", "_law_at", "_law_k", "_law_told", "_law_head", "_law_row_here", "_law_word_here"]
theorem sc_pieces : FnScope N_pieces ["_law_program", "_law_lot", "_law_cell"] (defScope s_pieces) := ⟨rfl, rfl, rfl, by decide +kernel, rfl, by decide +kernel, by decide +kernel⟩
abbrev s_spoilt : Stmt := top 39
abbrev N_spoilt : List Str := ["_law_signs", "_law_lot", "_law_cell", "_law_odd", "_law_at", "_law_counts", "_law_blanks"]
theorem sc_spoilt : FnScope N_spoilt ["_law_signs", "_law_lot", "_law_cell"] (defScope s_spoilt) := ⟨rfl, rfl, rfl, by decide +kernel, rfl, by decide +kernel, by decide +kernel⟩
abbrev s_law_read : Stmt := top 40
abbrev N_law_read : List Str := ["_law_signs", "_law_word_here", "_law_found"]
theorem sc_law_read : FnScope N_law_read ["_law_signs"] (defScope s_law_read) := ⟨rfl, rfl, rfl, by decide +kernel, rfl, by decide +kernel, by decide +kernel⟩
abbrev s_named : Stmt := top 41
abbrev N_named : List Str := ["_law_cell", "_law_names_here", "_law_lot", "_law_name"]
theorem sc_named : FnScope N_named ["_law_cell", "_law_names_here"] (defScope s_named) := ⟨rfl, rfl, rfl, by decide +kernel, rfl, by decide +kernel, by decide +kernel⟩
abbrev s_law : Stmt := top 42
abbrev N_law : List Str := ["_law_script", "_law_cell", "_law_values", "_law_names_here", "_law_program", "_law_lot", "_law_signs", "_law_due", "_law_found"]
theorem sc_law : FnScope N_law ["_law_script"] (defScope s_law) := ⟨rfl, rfl, rfl, by decide +kernel, rfl, by decide +kernel, by decide +kernel⟩
structure Tx (K : PySem.W.Frag) (mg : Str → Option Value) where
  f_is_name : Addr
  d_is_name : FuncData
  F_is_name : Fun K "is_name" "is_name" s_is_name f_is_name d_is_name
  g_is_name : mg "is_name" = some (.ref f_is_name)
  b_is_name : Binds K d_is_name ["word"] []
  f_is_count : Addr
  d_is_count : FuncData
  F_is_count : Fun K "is_count" "is_count" s_is_count f_is_count d_is_count
  g_is_count : mg "is_count" = some (.ref f_is_count)
  b_is_count : Binds K d_is_count ["word"] []
  f_read_word : Addr
  d_read_word : FuncData
  F_read_word : Fun K "read_word" "read_word" s_read_word f_read_word d_read_word
  g_read_word : mg "read_word" = some (.ref f_read_word)
  b_read_word : Binds K d_read_word ["kind", "word"] []
  f_shape_of : Addr
  d_shape_of : FuncData
  F_shape_of : Fun K "shape_of" "shape_of" s_shape_of f_shape_of d_shape_of
  g_shape_of : mg "shape_of" = some (.ref f_shape_of)
  b_shape_of : Binds K d_shape_of ["word"] []
  f_read_row : Addr
  d_read_row : FuncData
  F_read_row : Fun K "read_row" "read_row" s_read_row f_read_row d_read_row
  g_read_row : mg "read_row" = some (.ref f_read_row)
  b_read_row : Binds K d_read_row ["text"] []
  f_read_procedure : Addr
  d_read_procedure : FuncData
  F_read_procedure : Fun K "read_procedure" "read_procedure" s_read_procedure f_read_procedure d_read_procedure
  g_read_procedure : mg "read_procedure" = some (.ref f_read_procedure)
  b_read_procedure : Binds K d_read_procedure ["text"] []
  f_read_values : Addr
  d_read_values : FuncData
  F_read_values : Fun K "read_values" "read_values" s_read_values f_read_values d_read_values
  g_read_values : mg "read_values" = some (.ref f_read_values)
  b_read_values : Binds K d_read_values ["text"] []
  f_values_of : Addr
  d_values_of : FuncData
  F_values_of : Fun K "values_of" "values_of" s_values_of f_values_of d_values_of
  g_values_of : mg "values_of" = some (.ref f_values_of)
  b_values_of : Binds K d_values_of ["program", "which"] []
  f_look_at : Addr
  d_look_at : FuncData
  F_look_at : Fun K "look_at" "look_at" s_look_at f_look_at d_look_at
  g_look_at : mg "look_at" = some (.ref f_look_at)
  b_look_at : Binds K d_look_at ["program", "names", "rows", "at"] []
  f_look_over : Addr
  d_look_over : FuncData
  F_look_over : Fun K "look_over" "look_over" s_look_over f_look_over d_look_over
  g_look_over : mg "look_over" = some (.ref f_look_over)
  b_look_over : Binds K d_look_over ["program"] []
  f_read : Addr
  d_read : FuncData
  F_read : Fun K "read" "read" s_read f_read d_read
  g_read : mg "read" = some (.ref f_read)
  b_read : Binds K d_read ["text"] []
  f_cell_at : Addr
  d_cell_at : FuncData
  F_cell_at : Fun K "_law_cell_at" "_law_cell_at" s_cell_at f_cell_at d_cell_at
  g_cell_at : mg "_law_cell_at" = some (.ref f_cell_at)
  b_cell_at : Binds K d_cell_at ["_law_script", "_law_k"] []
  f_digit : Addr
  d_digit : FuncData
  F_digit : Fun K "_law_digit" "_law_digit" s_digit f_digit d_digit
  g_digit : mg "_law_digit" = some (.ref f_digit)
  b_digit : Binds K d_digit ["_law_cell", "_law_prime", "_law_many"] []
  f_names : Addr
  d_names : FuncData
  F_names : Fun K "_law_names" "_law_names" s_names f_names d_names
  g_names : mg "_law_names" = some (.ref f_names)
  b_names : Binds K d_names ["_law_cell"] []
  f_row : Addr
  d_row : FuncData
  F_row : Fun K "_law_row" "_law_row" s_row f_row d_row
  g_row : mg "_law_row" = some (.ref f_row)
  b_row : Binds K d_row ["_law_cell", "_law_values", "_law_many", "_law_names_here", "_law_last"] []
  f_whole : Addr
  d_whole : FuncData
  F_whole : Fun K "_law_whole" "_law_whole" s_whole f_whole d_whole
  g_whole : mg "_law_whole" = some (.ref f_whole)
  b_whole : Binds K d_whole ["_law_found"] []
  f_row_same : Addr
  d_row_same : FuncData
  F_row_same : Fun K "_law_row_same" "_law_row_same" s_row_same f_row_same d_row_same
  g_row_same : mg "_law_row_same" = some (.ref f_row_same)
  b_row_same : Binds K d_row_same ["_law_found", "_law_due"] []
  f_rows_same : Addr
  d_rows_same : FuncData
  F_rows_same : Fun K "_law_rows_same" "_law_rows_same" s_rows_same f_rows_same d_rows_same
  g_rows_same : mg "_law_rows_same" = some (.ref f_rows_same)
  b_rows_same : Binds K d_rows_same ["_law_found", "_law_due"] []
  f_same : Addr
  d_same : FuncData
  F_same : Fun K "_law_same" "_law_same" s_same f_same d_same
  g_same : mg "_law_same" = some (.ref f_same)
  b_same : Binds K d_same ["_law_found", "_law_due"] []
  f_stranger : Addr
  d_stranger : FuncData
  F_stranger : Fun K "_law_stranger" "_law_stranger" s_stranger f_stranger d_stranger
  g_stranger : mg "_law_stranger" = some (.ref f_stranger)
  b_stranger : Binds K d_stranger ["_law_names_here"] []
  f_wrong_row : Addr
  d_wrong_row : FuncData
  F_wrong_row : Fun K "_law_wrong_row" "_law_wrong_row" s_wrong_row f_wrong_row d_wrong_row
  g_wrong_row : mg "_law_wrong_row" = some (.ref f_wrong_row)
  b_wrong_row : Binds K d_wrong_row ["_law_cell", "_law_values", "_law_many", "_law_names_here"] []
  f_loose : Addr
  d_loose : FuncData
  F_loose : Fun K "_law_loose" "_law_loose" s_loose f_loose d_loose
  g_loose : mg "_law_loose" = some (.ref f_loose)
  b_loose : Binds K d_loose ["_law_cells", "_law_values", "_law_names_here", "_law_seed"] []
  f_row_word : Addr
  d_row_word : FuncData
  F_row_word : Fun K "_law_row_word" "_law_row_word" s_row_word f_row_word d_row_word
  g_row_word : mg "_law_row_word" = some (.ref f_row_word)
  b_row_word : Binds K d_row_word ["_law_program", "_law_names_here", "_law_rows", "_law_at"] []
  f_word : Addr
  d_word : FuncData
  F_word : Fun K "_law_word" "_law_word" s_word f_word d_word
  g_word : mg "_law_word" = some (.ref f_word)
  b_word : Binds K d_word ["_law_program"] []
  f_odd_row : Addr
  d_odd_row : FuncData
  F_odd_row : Fun K "_law_odd_row" "_law_odd_row" s_odd_row f_odd_row d_odd_row
  g_odd_row : mg "_law_odd_row" = some (.ref f_odd_row)
  b_odd_row : Binds K d_odd_row ["_law_cell"] []
  f_odd_first : Addr
  d_odd_first : FuncData
  F_odd_first : Fun K "_law_odd_first" "_law_odd_first" s_odd_first f_odd_first d_odd_first
  g_odd_first : mg "_law_odd_first" = some (.ref f_odd_first)
  b_odd_first : Binds K d_odd_first ["_law_cell"] []
  f_odd_text : Addr
  d_odd_text : FuncData
  F_odd_text : Fun K "_law_odd_text" "_law_odd_text" s_odd_text f_odd_text d_odd_text
  g_odd_text : mg "_law_odd_text" = some (.ref f_odd_text)
  b_odd_text : Binds K d_odd_text ["_law_cell"] []
  f_pieces : Addr
  d_pieces : FuncData
  F_pieces : Fun K "_law_pieces" "_law_pieces" s_pieces f_pieces d_pieces
  g_pieces : mg "_law_pieces" = some (.ref f_pieces)
  b_pieces : Binds K d_pieces ["_law_program", "_law_lot", "_law_cell"] []
  f_spoilt : Addr
  d_spoilt : FuncData
  F_spoilt : Fun K "_law_spoilt" "_law_spoilt" s_spoilt f_spoilt d_spoilt
  g_spoilt : mg "_law_spoilt" = some (.ref f_spoilt)
  b_spoilt : Binds K d_spoilt ["_law_signs", "_law_lot", "_law_cell"] []
  f_law_read : Addr
  d_law_read : FuncData
  F_law_read : Fun K "_law_read" "_law_read" s_law_read f_law_read d_law_read
  g_law_read : mg "_law_read" = some (.ref f_law_read)
  b_law_read : Binds K d_law_read ["_law_signs"] []
  f_named : Addr
  d_named : FuncData
  F_named : Fun K "_law_named" "_law_named" s_named f_named d_named
  g_named : mg "_law_named" = some (.ref f_named)
  b_named : Binds K d_named ["_law_cell", "_law_names_here"] []
  f_law : Addr
  d_law : FuncData
  F_law : Fun K "law" "law" s_law f_law d_law
  g_law : mg "law" = some (.ref f_law)
  b_law : Binds K d_law ["_law_script"] []
  n_all : mg "all" = none
  n_bool : mg "bool" = none
  n_enumerate : mg "enumerate" = none
  n_int : mg "int" = none
  n_isinstance : mg "isinstance" = none
  n_len : mg "len" = none
  n_list : mg "list" = none
  n_min : mg "min" = none
  n_range : mg "range" = none
  n_set : mg "set" = none
  n_str : mg "str" = none
  n_tuple : mg "tuple" = none
  n_zip : mg "zip" = none
  mt_FIGURES : ∃ tk, mg "FIGURES" = some (.str "0123456789" tk)
  mt_LETTERS : ∃ tk, mg "LETTERS" = some (.str "abcdefghijklmnopqrstuvwxyz" tk)
  xC_NoName : Addr
  xh_NoName : mg "NoName" = some (.ref xC_NoName)
  xq_NoName : PySem.W.excIn K xC_NoName [.type "ValueError", .type "Exception", .type "BaseException", .type "object"] "ValueError.__new__" = true
  xk_NoName : PySem.W.keepIn K (.ref xC_NoName) = true
  xb_NoName : PySem.W.subIn K (.ref xC_NoName) (.type "BaseException") = some true
  xt_NoName : PySem.W.typeIn K (.ref xC_NoName) = some (.type "type")
  xC_NoRow : Addr
  xh_NoRow : mg "NoRow" = some (.ref xC_NoRow)
  xq_NoRow : PySem.W.excIn K xC_NoRow [.type "ValueError", .type "Exception", .type "BaseException", .type "object"] "ValueError.__new__" = true
  xk_NoRow : PySem.W.keepIn K (.ref xC_NoRow) = true
  xb_NoRow : PySem.W.subIn K (.ref xC_NoRow) (.type "BaseException") = some true
  xt_NoRow : PySem.W.typeIn K (.ref xC_NoRow) = some (.type "type")
  xC_NoText : Addr
  xh_NoText : mg "NoText" = some (.ref xC_NoText)
  xq_NoText : PySem.W.excIn K xC_NoText [.type "ValueError", .type "Exception", .type "BaseException", .type "object"] "ValueError.__new__" = true
  xk_NoText : PySem.W.keepIn K (.ref xC_NoText) = true
  xb_NoText : PySem.W.subIn K (.ref xC_NoText) (.type "BaseException") = some true
  xt_NoText : PySem.W.typeIn K (.ref xC_NoText) = some (.type "type")
  xC_NoValue : Addr
  xh_NoValue : mg "NoValue" = some (.ref xC_NoValue)
  xq_NoValue : PySem.W.excIn K xC_NoValue [.type "ValueError", .type "Exception", .type "BaseException", .type "object"] "ValueError.__new__" = true
  xk_NoValue : PySem.W.keepIn K (.ref xC_NoValue) = true
  xb_NoValue : PySem.W.subIn K (.ref xC_NoValue) (.type "BaseException") = some true
  xt_NoValue : PySem.W.typeIn K (.ref xC_NoValue) = some (.type "type")
  xC_Twice : Addr
  xh_Twice : mg "Twice" = some (.ref xC_Twice)
  xq_Twice : PySem.W.excIn K xC_Twice [.type "ValueError", .type "Exception", .type "BaseException", .type "object"] "ValueError.__new__" = true
  xk_Twice : PySem.W.keepIn K (.ref xC_Twice) = true
  xb_Twice : PySem.W.subIn K (.ref xC_Twice) (.type "BaseException") = some true
  xt_Twice : PySem.W.typeIn K (.ref xC_Twice) = some (.type "type")
  xe_NoName_NoName : PySem.W.exmOne K (.ref xC_NoName) (.ref xC_NoName) = some true
  xe_NoName_NoRow : PySem.W.exmOne K (.ref xC_NoName) (.ref xC_NoRow) = some false
  xe_NoName_NoText : PySem.W.exmOne K (.ref xC_NoName) (.ref xC_NoText) = some false
  xe_NoName_NoValue : PySem.W.exmOne K (.ref xC_NoName) (.ref xC_NoValue) = some false
  xe_NoName_Twice : PySem.W.exmOne K (.ref xC_NoName) (.ref xC_Twice) = some false
  xe_NoRow_NoName : PySem.W.exmOne K (.ref xC_NoRow) (.ref xC_NoName) = some false
  xe_NoRow_NoRow : PySem.W.exmOne K (.ref xC_NoRow) (.ref xC_NoRow) = some true
  xe_NoRow_NoText : PySem.W.exmOne K (.ref xC_NoRow) (.ref xC_NoText) = some false
  xe_NoRow_NoValue : PySem.W.exmOne K (.ref xC_NoRow) (.ref xC_NoValue) = some false
  xe_NoRow_Twice : PySem.W.exmOne K (.ref xC_NoRow) (.ref xC_Twice) = some false
  xe_NoText_NoName : PySem.W.exmOne K (.ref xC_NoText) (.ref xC_NoName) = some false
  xe_NoText_NoRow : PySem.W.exmOne K (.ref xC_NoText) (.ref xC_NoRow) = some false
  xe_NoText_NoText : PySem.W.exmOne K (.ref xC_NoText) (.ref xC_NoText) = some true
  xe_NoText_NoValue : PySem.W.exmOne K (.ref xC_NoText) (.ref xC_NoValue) = some false
  xe_NoText_Twice : PySem.W.exmOne K (.ref xC_NoText) (.ref xC_Twice) = some false
  xe_NoValue_NoName : PySem.W.exmOne K (.ref xC_NoValue) (.ref xC_NoName) = some false
  xe_NoValue_NoRow : PySem.W.exmOne K (.ref xC_NoValue) (.ref xC_NoRow) = some false
  xe_NoValue_NoText : PySem.W.exmOne K (.ref xC_NoValue) (.ref xC_NoText) = some false
  xe_NoValue_NoValue : PySem.W.exmOne K (.ref xC_NoValue) (.ref xC_NoValue) = some true
  xe_NoValue_Twice : PySem.W.exmOne K (.ref xC_NoValue) (.ref xC_Twice) = some false
  xe_Twice_NoName : PySem.W.exmOne K (.ref xC_Twice) (.ref xC_NoName) = some false
  xe_Twice_NoRow : PySem.W.exmOne K (.ref xC_Twice) (.ref xC_NoRow) = some false
  xe_Twice_NoText : PySem.W.exmOne K (.ref xC_Twice) (.ref xC_NoText) = some false
  xe_Twice_NoValue : PySem.W.exmOne K (.ref xC_Twice) (.ref xC_NoValue) = some false
  xe_Twice_Twice : PySem.W.exmOne K (.ref xC_Twice) (.ref xC_Twice) = some true
section
variable {P : Program} {w : World} {K : PySem.W.Frag} {mg : Str → Option Value} {base : Heap}
theorem ok_is_name (T : Tx K mg) : FnOk P w K mg base (L2.CX P w) 1 T.f_is_name T.d_is_name ["word"] (spK mg none 1 G16.m_is_name) :=
  def_ok (N := N_is_name) (F := (sRet (vAnd (vChain (gI (fun i j => decide (i ≤ j))) (gI (fun i j => decide (i ≤ j))) (vC (.int 1)) (vCall c_len (aCons (vVar 0) aNil)) (vC (.int 8))) (vCall c_all (aCons (vLstOf (nComp (iStrD (vVar 0)) [1] kName tTrue (v2 g_in (vVar 1) (vC (.str "abcdefghijklmnopqrstuvwxyz"))) [1])) aNil))))) T.F_is_name sc_is_name (own' := []) (.inl rfl) fun cdv A outer s H E hr tk hp =>
      (dss_one (ds_ret rfl (de_and (de_chain op_le op_le de_int (de_callB call_len say_len (by rfl) T.n_len (by decide +kernel) (da_cons (de_var (pv 0)) da_nil)) de_int) (de_one (de_callB (cr_all (by rfl)) say_all (by rfl) T.n_all (by decide +kernel) (da_cons (DN.de (dn_comp rfl sc_is_name.nd (di_str (de_var (pv 0))) (own := [("sign", 1)]) (blkOk_by (own := [("sign", 1)]) (N := N_is_name) (sc := defScope s_is_name) (by decide +kernel)) (is := [1]) (fun _ _ _ _ _ => (dg_name (pg_name (i := 1) sc_is_name.nd rfl (by first | exact Or.inl rfl | exact Or.inr rfl)))) (fun _ _ _ _ _ => dts_nil) (fun _ _ _ _ _ => (de_cmp (op_inAny (hu65 hr)) say_in (de_var (pv 1)) (de_textG (by rfl) T.mt_LETTERS) (by rfl))) (by decide))) da_nil))))))
theorem ok_is_count (T : Tx K mg) : FnOk P w K mg base (L2.CX P w) 1 T.f_is_count T.d_is_count ["word"] (spK mg none 1 G16.m_is_count) :=
  def_ok (N := N_is_count) (F := (sSeq (sIf (tOrD (tNotD (vB (vChain (gI (fun i j => decide (i ≤ j))) (gI (fun i j => decide (i ≤ j))) (vC (.int 1)) (vCall c_len (aCons (vVar 0) aNil)) (vC (.int 3))))) (tNotD (vB (vCall c_all (aCons (vLstOf (nComp (iStrD (vVar 0)) [1] kName tTrue (v2 g_in (vVar 1) (vC (.str "0123456789"))) [1])) aNil)))))
  (sRet (vC (.bl false)))
  sNext)
  (sRet (vOr (v2 g_eq (vVar 0) (vC (.str "0"))) (v2 g_ne (v2 g_ix (vVar 0) (vC (.int 0))) (vC (.str "0"))))))) T.F_is_count sc_is_count (own' := []) (.inl rfl) fun cdv A outer s H E hr tk hp =>
      (dss_cons (own1 := []) (ds_if (DW.dt (dw_or (dt_not (dt_chain op_le op_le de_int (de_callB call_len say_len (by rfl) T.n_len (by decide +kernel) (da_cons (de_var (pv 0)) da_nil)) de_int)) (dw_or1 (dt_not (dt_val (de_callB (cr_all (by rfl)) say_all (by rfl) T.n_all (by decide +kernel) (da_cons (DN.de (dn_comp rfl sc_is_count.nd (di_str (de_var (pv 0))) (own := [("sign", 1)]) (blkOk_by (own := [("sign", 1)]) (N := N_is_count) (sc := defScope s_is_count) (by decide +kernel)) (is := [1]) (fun _ _ _ _ _ => (dg_name (pg_name (i := 1) sc_is_count.nd rfl (by first | exact Or.inl rfl | exact Or.inr rfl)))) (fun _ _ _ _ _ => dts_nil) (fun _ _ _ _ _ => (de_cmp (op_inAny (hu65 hr)) say_in (de_var (pv 1)) (de_textG (by rfl) T.mt_FIGURES) (by rfl))) (by decide))) da_nil)))))))
      (dss_one (ds_ret rfl de_bl))
      dss_nil)
      (dss_one (ds_ret rfl (de_or (de_cmp (op_eqD (hu64 hr)) say_eq (de_var (pv 0)) de_str (nomark _)) (de_one (de_cmp (op_neD (hu64 hr)) say_ne (de_ix (ix_any (hu1 hr)) say_ix (de_var (pv 0)) de_int (fun _ _ => rfl)) de_str (nomark _)))))))
theorem ok_read_word (T : Tx K mg) : FnOk P w K mg base (L2.CX P w) 2 T.f_read_word T.d_read_word ["kind", "word"] (spK mg none 2 G16.m_read_word) :=
  def_ok (N := N_read_word) (F := (sSeq (sIf (tAndD (vB (v2 g_eq (vVar 0) (vC (.str "name")))) (vB (vCallN 1 G16.m_is_name (aCons (vVar 1) aNil))))
  (sRet (vVar 1))
  sNext)
  (sSeq (sIf (tAndD (vB (v2 g_eq (vVar 0) (vC (.str "which")))) (vB (v2 g_inT (vVar 1) (vTup (aCons (vC (.str "shared")) (aCons (vC (.str "own")) aNil))))))
  (sRet (vVar 1))
  sNext)
  (sSeq (sIf (tAndD (vB (v2 g_eq (vVar 0) (vC (.str "count")))) (vB (vCallN 1 G16.m_is_count (aCons (vVar 1) aNil))))
  (sRet (vCall c_intS (aCons (vVar 1) aNil)))
  sNext)
  (sRaise "NoText"))))) T.F_read_word sc_read_word (own' := []) (.inl rfl) fun cdv A outer s H E hr tk hp =>
      (dss_cons (own1 := []) (ds_if (DW.dt (dw_and (dt_cmp (op_eqD (hu64 hr)) say_eq (de_var (pv 0)) de_str (nomark _)) (dw_and1 (dt_val (de_call (ok_is_name T) tk (hr.mono (by decide)) (by rfl) T.g_is_name T.F_is_name.kp T.b_is_name (da_cons (de_var (pv 1)) da_nil))))))
      (dss_one (ds_ret rfl (de_var (pv 1))))
      dss_nil)
      (dss_cons (own1 := []) (ds_if (DW.dt (dw_and (dt_cmp (op_eqD (hu64 hr)) say_eq (de_var (pv 0)) de_str (nomark _)) (dw_and1 (dt_cmp (op_inT (hu65 hr)) say_inT (de_var (pv 1)) (de_tup (da_cons de_str (da_cons de_str da_nil))) (by rfl)))))
      (dss_one (ds_ret rfl (de_var (pv 1))))
      dss_nil)
      (dss_cons (own1 := []) (ds_if (DW.dt (dw_and (dt_cmp (op_eqD (hu64 hr)) say_eq (de_var (pv 0)) de_str (nomark _)) (dw_and1 (dt_val (de_call (ok_is_count T) tk (hr.mono (by decide)) (by rfl) T.g_is_count T.F_is_count.kp T.b_is_count (da_cons (de_var (pv 1)) da_nil))))))
      (dss_one (ds_ret rfl (de_callTy call_int_str say_intS (by rfl) T.n_int (by decide +kernel) (da_cons (de_var (pv 1)) da_nil))))
      dss_nil)
      (dss_one (ds_raise (c := "NoText") rfl tk (pmk_own PySem.F.excBase_ValueError T.xq_NoText T.xh_NoText T.xk_NoText (raises_own T.xb_NoText T.xt_NoText) (by rfl)) T.xh_NoText)))))
theorem ok_shape_of (T : Tx K mg) : FnOk P w K mg base (L2.CX P w) 1 T.f_shape_of T.d_shape_of ["word"] (spK mg none 1 G16.m_shape_of) :=
  def_ok (N := N_shape_of) (F := (sSeq (sIf (vB (v2 g_inT (vVar 0) (vTup (aCons (vC (.str "skip")) (aCons (vC (.str "back")) (aCons (vC (.str "stop")) aNil))))))
  (sRet (vTup aNil))
  sNext)
  (sSeq (sIf (vB (v2 g_inT (vVar 0) (vTup (aCons (vC (.str "any")) (aCons (vC (.str "turn")) aNil)))))
  (sRet (vTup (aCons (vC (.str "which")) aNil)))
  sNext)
  (sSeq (sIf (vB (v2 g_inT (vVar 0) (vTup (aCons (vC (.str "go")) (aCons (vC (.str "fork")) aNil)))))
  (sRet (vTup (aCons (vC (.str "count")) aNil)))
  sNext)
  (sSeq (sIf (vB (v2 g_eq (vVar 0) (vC (.str "set"))))
  (sRet (vTup (aCons (vC (.str "which")) (aCons (vC (.str "count")) aNil))))
  sNext)
  (sSeq (sIf (vB (v2 g_eq (vVar 0) (vC (.str "if"))))
  (sRet (vTup (aCons (vC (.str "which")) (aCons (vC (.str "count")) (aCons (vC (.str "count")) aNil)))))
  sNext)
  (sSeq (sIf (vB (v2 g_eq (vVar 0) (vC (.str "call"))))
  (sRet (vTup (aCons (vC (.str "name")) aNil)))
  sNext)
  (sRet (vC .non))))))))) T.F_shape_of sc_shape_of (own' := []) (.inl rfl) fun cdv A outer s H E hr tk hp =>
      (dss_cons (own1 := []) (ds_if (dt_cmp (op_inT (hu65 hr)) say_inT (de_var (pv 0)) (de_tup (da_cons de_str (da_cons de_str (da_cons de_str da_nil)))) (by rfl))
      (dss_one (ds_ret rfl (de_tup da_nil)))
      dss_nil)
      (dss_cons (own1 := []) (ds_if (dt_cmp (op_inT (hu65 hr)) say_inT (de_var (pv 0)) (de_tup (da_cons de_str (da_cons de_str da_nil))) (by rfl))
      (dss_one (ds_ret rfl (de_tup (da_cons de_str da_nil))))
      dss_nil)
      (dss_cons (own1 := []) (ds_if (dt_cmp (op_inT (hu65 hr)) say_inT (de_var (pv 0)) (de_tup (da_cons de_str (da_cons de_str da_nil))) (by rfl))
      (dss_one (ds_ret rfl (de_tup (da_cons de_str da_nil))))
      dss_nil)
      (dss_cons (own1 := []) (ds_if (dt_cmp (op_eqD (hu64 hr)) say_eq (de_var (pv 0)) de_str (nomark _))
      (dss_one (ds_ret rfl (de_tup (da_cons de_str (da_cons de_str da_nil)))))
      dss_nil)
      (dss_cons (own1 := []) (ds_if (dt_cmp (op_eqD (hu64 hr)) say_eq (de_var (pv 0)) de_str (nomark _))
      (dss_one (ds_ret rfl (de_tup (da_cons de_str (da_cons de_str (da_cons de_str da_nil))))))
      dss_nil)
      (dss_cons (own1 := []) (ds_if (dt_cmp (op_eqD (hu64 hr)) say_eq (de_var (pv 0)) de_str (nomark _))
      (dss_one (ds_ret rfl (de_tup (da_cons de_str da_nil))))
      dss_nil)
      (dss_one (ds_ret rfl de_non))))))))
theorem ok_read_row (T : Tx K mg) : FnOk P w K mg base (L2.CX P w) 3 T.f_read_row T.d_read_row ["text"] (spK mg none 1 G16.m_read_row) :=
  def_ok (N := N_read_row) (F := (sSeq (sAsg [] 1 (vLstOf (nSplit (vVar 0) (vC (.str " ")))))
  (sSeq (sAsg [] 2 (vCallN 1 G16.m_shape_of (aCons (v2 g_ix (vVar 1) (vC (.int 0))) aNil)))
  (sSeq (sIf (tOrD (vB (v2 g_isN (vVar 2) (vC .non))) (vB (v2 g_ne (vCall c_len (aCons (vVar 1) aNil)) (v2 g_add (vCall c_len (aCons (vVar 2) aNil)) (vC (.int 1))))))
  (sRaise "NoText")
  sNext)
  (sSeq (sAsg [] 3 (vLstOf (nLst (aCons (v2 g_ix (vVar 1) (vC (.int 0))) aNil))))
  (sSeq (sFor [(3, .sh)] (iZip2M (vVar 2) (vSl (vVar 1) (oSome (vC (.int 1))) oNone)) [4, 5] (kTup 2 (ksCons kName (ksCons kName ksNil)))
  (sApp [(3, .sh)] 3 (vCallN 2 G16.m_read_word (aCons (vVar 4) (aCons (vVar 5) aNil))))
  [4, 5])
  (sRet (vCall c_tuple (aCons (vVar 3) aNil))))))))) T.F_read_row sc_read_row (own' := [(3, .sh)]) (.inl rfl) fun cdv A outer s H E hr tk hp =>
      (dss_cons (own1 := []) (ds_asg (j := 1) (ae_set (j := 1) sc_read_row.nd rfl (.inl rfl) (DN.de (dn_split (de_var (pv 0)) de_str))))
      (dss_cons (own1 := []) (ds_asg (j := 2) (ae_set (j := 2) sc_read_row.nd rfl (.inl rfl) (de_call (ok_shape_of T) tk (hr.mono (by decide)) (by rfl) T.g_shape_of T.F_shape_of.kp T.b_shape_of (da_cons (de_ix (ix_any (hu1 hr)) say_ix (de_var (pv 1)) de_int (fun _ _ => rfl)) da_nil))))
      (dss_cons (own1 := []) (ds_if (DW.dt (dw_or (dt_cmp op_isN say_isN (de_var (pv 2)) de_non (nomark _)) (dw_or1 (dt_cmp (op_neD (hu64 hr)) say_ne (de_callB call_len say_len (by rfl) T.n_len (by decide +kernel) (da_cons (de_var (pv 1)) da_nil)) (de_op op_addAny say_add (de_callB call_len say_len (by rfl) T.n_len (by decide +kernel) (da_cons (de_var (pv 2)) da_nil)) de_int) (nomark _)))))
      (dss_one (ds_raise (c := "NoText") rfl tk (pmk_own PySem.F.excBase_ValueError T.xq_NoText T.xh_NoText T.xk_NoText (raises_own T.xb_NoText T.xt_NoText) (by rfl)) T.xh_NoText))
      dss_nil)
      (dss_cons (own1 := [(3, .sh)]) (ds_asgS (j := 3) (af_set (j := 3) sc_read_row.nd rfl (.inl rfl) (DN.sh (dn_lst (da_cons (de_ix (ix_any (hu1 hr)) say_ix (de_var (pv 1)) de_int (fun _ _ => rfl)) da_nil)))))
      (dss_cons (own1 := [(3, .sh)]) (ds_for (fg := [4, 5]) (is := [4, 5]) hp rfl (di_zip2M (by rfl) T.n_zip (de_var (pv 2)) (de_sl (de_var (pv 1)) (do_some de_int) do_none)) (dg_tup rfl (dgs_cons (is := [4]) (dg_name (pg_name (i := 4) sc_read_row.nd rfl (by first | exact Or.inl rfl | exact Or.inr rfl))) (dgs_cons (is := [5]) (dg_name (pg_name (i := 5) sc_read_row.nd rfl (by first | exact Or.inl rfl | exact Or.inr rfl))) dgs_nil)))
      (dss_one (ds_app (j := 3) rfl (pv 3) (de_call (ok_read_word T) tk (hr.mono (by decide)) (by rfl) T.g_read_word T.F_read_word.kp T.b_read_word (da_cons (de_var (pv 4)) (da_cons (de_var (pv 5)) da_nil))) (pe := fun {t} p => pe_append (pv 3) (p := p)))) (by decide))
      (dss_one (ds_ret rfl (de_callTy call_tuple_of say_tuple (by rfl) T.n_tuple (by decide +kernel) (da_cons (de_var (pv 3)) da_nil)))))))))
theorem ok_read_procedure (T : Tx K mg) : FnOk P w K mg base (L2.CX P w) 4 T.f_read_procedure T.d_read_procedure ["text"] (spK mg none 1 m_read_procedure) :=
  def_ok (N := N_read_procedure) (F := (sSeq (sAsg [] 1 (vLstOf (nSplit (vVar 0) (vC (.str ": ")))))
  (sSeq (sIf (tOrD (vB (v2 g_ne (vCall c_len (aCons (vVar 1) aNil)) (vC (.int 2)))) (tNotD (vB (vCallN 1 G16.m_is_name (aCons (v2 g_ix (vVar 1) (vC (.int 0))) aNil)))))
  (sRaise "NoText")
  sNext)
  (sRet (vTup (aCons (v2 g_ix (vVar 1) (vC (.int 0))) (aCons (vLstOf (nCompX (iSeq (vLstOf (nSplit (v2 g_ix (vVar 1) (vC (.int 1))) (vC (.str ", "))))) [2] kName tTrue (vCallN 1 G16.m_read_row (aCons (vVar 2) aNil)) [2])) aNil))))))) T.F_read_procedure sc_read_procedure (own' := []) (.inl rfl) fun cdv A outer s H E hr tk hp =>
      (dss_cons (own1 := []) (ds_asg (j := 1) (ae_set (j := 1) sc_read_procedure.nd rfl (.inl rfl) (DN.de (dn_split (de_var (pv 0)) de_str))))
      (dss_cons (own1 := []) (ds_if (DW.dt (dw_or (dt_cmp (op_neD (hu64 hr)) say_ne (de_callB call_len say_len (by rfl) T.n_len (by decide +kernel) (da_cons (de_var (pv 1)) da_nil)) de_int (nomark _)) (dw_or1 (dt_not (dt_val (de_call (ok_is_name T) tk (hr.mono (by decide)) (by rfl) T.g_is_name T.F_is_name.kp T.b_is_name (da_cons (de_ix (ix_any (hu1 hr)) say_ix (de_var (pv 1)) de_int (fun _ _ => rfl)) da_nil)))))))
      (dss_one (ds_raise (c := "NoText") rfl tk (pmk_own PySem.F.excBase_ValueError T.xq_NoText T.xh_NoText T.xk_NoText (raises_own T.xb_NoText T.xt_NoText) (by rfl)) T.xh_NoText))
      dss_nil)
      (dss_one (ds_ret rfl (de_tup (da_cons (de_ix (ix_any (hu1 hr)) say_ix (de_var (pv 1)) de_int (fun _ _ => rfl)) (da_cons (DN.de (dn_compX rfl rfl tk rfl sc_read_procedure.nd (di_seq (DN.de (dn_split (de_ix (ix_any (hu1 hr)) say_ix (de_var (pv 1)) de_int (fun _ _ => rfl)) de_str))) (own := [("row", 2)]) (blkOk_by (own := [("row", 2)]) (N := N_read_procedure) (sc := defScope s_read_procedure) (by decide +kernel)) (is := [2]) (fun _ _ _ _ _ => (dg_name (pg_name (i := 2) sc_read_procedure.nd rfl (by first | exact Or.inl rfl | exact Or.inr rfl)))) (fun _ _ _ _ _ _ tkX => dts_nil) (fun _ _ _ _ _ _ tkX => (de_call (ok_read_row T) tkX (hr.mono (by decide)) (by rfl) T.g_read_row T.F_read_row.kp T.b_read_row (da_cons (de_var (pv 2)) da_nil))) (by decide))) da_nil)))))))
theorem ok_read_values (T : Tx K mg) : FnOk P w K mg base (L2.CX P w) 1 T.f_read_values T.d_read_values ["text"] (spK mg none 1 G16.m_read_values) :=
  def_ok (N := N_read_values) (F := (sSeq (sAsg [] 1 (vLstOf (nSplit (vVar 0) (vC (.str " ")))))
  (sSeq (sIf (tOrD (vB (v2 g_ne (vCall c_len (aCons (vVar 1) aNil)) (vC (.int 3)))) (vB (v2 g_ne (v2 g_ix (vVar 1) (vC (.int 0))) (vC (.str "values")))))
  (sRaise "NoText")
  sNext)
  (sSeq (sFor [] (iSeq (vSl (vVar 1) (oSome (vC (.int 1))) oNone)) [2] kName
  (sIf (vB (v2 g_notinT (vVar 2) (vTup (aCons (vC (.str "1")) (aCons (vC (.str "2")) (aCons (vC (.str "3")) (aCons (vC (.str "4")) aNil)))))))
  (sRaise "NoText")
  sNext)
  [2])
  (sRet (vTup (aCons (vCall c_intS (aCons (v2 g_ix (vVar 1) (vC (.int 1))) aNil)) (aCons (vCall c_intS (aCons (v2 g_ix (vVar 1) (vC (.int 2))) aNil)) aNil)))))))) T.F_read_values sc_read_values (own' := []) (.inl rfl) fun cdv A outer s H E hr tk hp =>
      (dss_cons (own1 := []) (ds_asg (j := 1) (ae_set (j := 1) sc_read_values.nd rfl (.inl rfl) (DN.de (dn_split (de_var (pv 0)) de_str))))
      (dss_cons (own1 := []) (ds_if (DW.dt (dw_or (dt_cmp (op_neD (hu64 hr)) say_ne (de_callB call_len say_len (by rfl) T.n_len (by decide +kernel) (da_cons (de_var (pv 1)) da_nil)) de_int (nomark _)) (dw_or1 (dt_cmp (op_neD (hu64 hr)) say_ne (de_ix (ix_any (hu1 hr)) say_ix (de_var (pv 1)) de_int (fun _ _ => rfl)) de_str (nomark _)))))
      (dss_one (ds_raise (c := "NoText") rfl tk (pmk_own PySem.F.excBase_ValueError T.xq_NoText T.xh_NoText T.xk_NoText (raises_own T.xb_NoText T.xt_NoText) (by rfl)) T.xh_NoText))
      dss_nil)
      (dss_cons (own1 := []) (ds_for (fg := [2]) (is := [2]) hp rfl (di_seq (de_sl (de_var (pv 1)) (do_some de_int) do_none)) (dg_name (pg_name (i := 2) sc_read_values.nd rfl (by first | exact Or.inl rfl | exact Or.inr rfl)))
      (dss_one (ds_if (dt_cmp (op_notInT (hu65 hr)) say_notinT (de_var (pv 2)) (de_tup (da_cons de_str (da_cons de_str (da_cons de_str (da_cons de_str da_nil))))) (by rfl))
      (dss_one (ds_raise (c := "NoText") rfl tk (pmk_own PySem.F.excBase_ValueError T.xq_NoText T.xh_NoText T.xk_NoText (raises_own T.xb_NoText T.xt_NoText) (by rfl)) T.xh_NoText))
      dss_nil)) (by decide))
      (dss_one (ds_ret rfl (de_tup (da_cons (de_callTy call_int_str say_intS (by rfl) T.n_int (by decide +kernel) (da_cons (de_ix (ix_any (hu1 hr)) say_ix (de_var (pv 1)) de_int (fun _ _ => rfl)) da_nil)) (da_cons (de_callTy call_int_str say_intS (by rfl) T.n_int (by decide +kernel) (da_cons (de_ix (ix_any (hu1 hr)) say_ix (de_var (pv 1)) de_int (fun _ _ => rfl)) da_nil)) da_nil))))))))
theorem ok_values_of (T : Tx K mg) : FnOk P w K mg base (L2.CX P w) 1 T.f_values_of T.d_values_of ["program", "which"] (spK mg none 2 G16.m_values_of) :=
  def_ok (N := N_values_of) (F := (sSeq (sIf (vB (v2 g_eq (vVar 1) (vC (.str "shared"))))
  (sRet (v2 g_ix (vVar 0) (vC (.int 0))))
  sNext)
  (sRet (v2 g_ix (vVar 0) (vC (.int 1)))))) T.F_values_of sc_values_of (own' := []) (.inl rfl) fun cdv A outer s H E hr tk hp =>
      (dss_cons (own1 := []) (ds_if (dt_cmp (op_eqD (hu64 hr)) say_eq (de_var (pv 1)) de_str (nomark _))
      (dss_one (ds_ret rfl (de_ix (ix_any (hu1 hr)) say_ix (de_var (pv 0)) de_int (fun _ _ => rfl))))
      dss_nil)
      (dss_one (ds_ret rfl (de_ix (ix_any (hu1 hr)) say_ix (de_var (pv 0)) de_int (fun _ _ => rfl)))))
theorem ok_look_at (T : Tx K mg) : FnOk P w K mg base (L2.CX P w) 2 T.f_look_at T.d_look_at ["program", "names", "rows", "at"] (spK mg none 4 G16.m_look_at) :=
  def_ok (N := N_look_at) (F := (sSeq (sAsg [] 4 (v2 g_ix (vVar 2) (vVar 3)))
  (sSeq (sIf (tAndD (vB (v2 g_eq (v2 g_ix (vVar 4) (vC (.int 0))) (vC (.str "call")))) (vB (v2 g_notin (v2 g_ix (vVar 4) (vC (.int 1))) (vVar 1))))
  (sRaise "NoName")
  sNext)
  (sSeq (sIf (tAndD (vB (v2 g_inT (v2 g_ix (vVar 4) (vC (.int 0))) (vTup (aCons (vC (.str "set")) (aCons (vC (.str "if")) aNil))))) (vB (v2 (gI (fun i j => decide (j ≤ i))) (v2 g_ix (vVar 4) (vC (.int 2))) (vCallN 2 G16.m_values_of (aCons (vVar 0) (aCons (v2 g_ix (vVar 4) (vC (.int 1))) aNil))))))
  (sRaise "NoValue")
  sNext)
  (sSeq (sIf (tAndD (vB (v2 g_inT (v2 g_ix (vVar 4) (vC (.int 0))) (vTup (aCons (vC (.str "go")) (aCons (vC (.str "fork")) (aCons (vC (.str "if")) aNil)))))) (vB (v2 (gI (fun i j => decide (j ≤ i))) (v2 g_ix (vVar 4) (v1 g_neg (vC (.int 1)))) (vCall c_len (aCons (vVar 2) aNil)))))
  (sRaise "NoRow")
  sNext)
  (sIf (tAndD (vB (v2 g_eq (vVar 3) (v2 g_sub (vCall c_len (aCons (vVar 2) aNil)) (vC (.int 1))))) (vB (v2 g_notinT (v2 g_ix (vVar 4) (vC (.int 0))) (vTup (aCons (vC (.str "go")) (aCons (vC (.str "back")) (aCons (vC (.str "stop")) aNil)))))))
  (sRaise "NoRow")
  sNext)))))) T.F_look_at sc_look_at (own' := []) (.inl rfl) fun cdv A outer s H E hr tk hp =>
      (dss_cons (own1 := []) (ds_asg (j := 4) (ae_set (j := 4) sc_look_at.nd rfl (.inl rfl) (de_ix (ix_any (hu1 hr)) say_ix (de_var (pv 2)) (de_var (pv 3)) (fun _ _ => rfl))))
      (dss_cons (own1 := []) (ds_if (DW.dt (dw_and (dt_cmp (op_eqD (hu64 hr)) say_eq (de_ix (ix_any (hu1 hr)) say_ix (de_var (pv 4)) de_int (fun _ _ => rfl)) de_str (nomark _)) (dw_and1 (dt_cmp (op_notInAny (hu65 hr)) say_notin (de_ix (ix_any (hu1 hr)) say_ix (de_var (pv 4)) de_int (fun _ _ => rfl)) (de_var (pv 1)) (by rfl)))))
      (dss_one (ds_raise (c := "NoName") rfl tk (pmk_own PySem.F.excBase_ValueError T.xq_NoName T.xh_NoName T.xk_NoName (raises_own T.xb_NoName T.xt_NoName) (by rfl)) T.xh_NoName))
      dss_nil)
      (dss_cons (own1 := []) (ds_if (DW.dt (dw_and (dt_cmp (op_inT (hu65 hr)) say_inT (de_ix (ix_any (hu1 hr)) say_ix (de_var (pv 4)) de_int (fun _ _ => rfl)) (de_tup (da_cons de_str (da_cons de_str da_nil))) (by rfl)) (dw_and1 (dt_cmp op_ge say_I (de_ix (ix_any (hu1 hr)) say_ix (de_var (pv 4)) de_int (fun _ _ => rfl)) (de_call (ok_values_of T) tk (hr.mono (by decide)) (by rfl) T.g_values_of T.F_values_of.kp T.b_values_of (da_cons (de_var (pv 0)) (da_cons (de_ix (ix_any (hu1 hr)) say_ix (de_var (pv 4)) de_int (fun _ _ => rfl)) da_nil))) (nomark _)))))
      (dss_one (ds_raise (c := "NoValue") rfl tk (pmk_own PySem.F.excBase_ValueError T.xq_NoValue T.xh_NoValue T.xk_NoValue (raises_own T.xb_NoValue T.xt_NoValue) (by rfl)) T.xh_NoValue))
      dss_nil)
      (dss_cons (own1 := []) (ds_if (DW.dt (dw_and (dt_cmp (op_inT (hu65 hr)) say_inT (de_ix (ix_any (hu1 hr)) say_ix (de_var (pv 4)) de_int (fun _ _ => rfl)) (de_tup (da_cons de_str (da_cons de_str (da_cons de_str da_nil)))) (by rfl)) (dw_and1 (dt_cmp op_ge say_I (de_ix (ix_any (hu1 hr)) say_ix (de_var (pv 4)) (de_neg de_int) (fun _ _ => rfl)) (de_callB call_len say_len (by rfl) T.n_len (by decide +kernel) (da_cons (de_var (pv 2)) da_nil)) (nomark _)))))
      (dss_one (ds_raise (c := "NoRow") rfl tk (pmk_own PySem.F.excBase_ValueError T.xq_NoRow T.xh_NoRow T.xk_NoRow (raises_own T.xb_NoRow T.xt_NoRow) (by rfl)) T.xh_NoRow))
      dss_nil)
      (dss_one (ds_if (DW.dt (dw_and (dt_cmp (op_eqD (hu64 hr)) say_eq (de_var (pv 3)) (de_op op_sub say_sub (de_callB call_len say_len (by rfl) T.n_len (by decide +kernel) (da_cons (de_var (pv 2)) da_nil)) de_int) (nomark _)) (dw_and1 (dt_cmp (op_notInT (hu65 hr)) say_notinT (de_ix (ix_any (hu1 hr)) say_ix (de_var (pv 4)) de_int (fun _ _ => rfl)) (de_tup (da_cons de_str (da_cons de_str (da_cons de_str da_nil)))) (by rfl)))))
      (dss_one (ds_raise (c := "NoRow") rfl tk (pmk_own PySem.F.excBase_ValueError T.xq_NoRow T.xh_NoRow T.xk_NoRow (raises_own T.xb_NoRow T.xt_NoRow) (by rfl)) T.xh_NoRow))
      dss_nil))))))
theorem ok_look_over (T : Tx K mg) : FnOk P w K mg base (L2.CX P w) 3 T.f_look_over T.d_look_over ["program"] (spK mg none 1 G16.m_look_over) :=
  def_ok (N := N_look_over) (F := (sSeq (sAsg [] 1 (vLstOf (nComp (iSeq (v2 g_ix (vVar 0) (vC (.int 2)))) [5] kName tTrue (v2 g_ix (vVar 5) (vC (.int 0))) [5])))
  (sSeq (sIf (vB (v2 g_ne (v1 g_lenT (vVar 1)) (vCall c_len (aCons (vVar 1) aNil))))
  (sRaise "Twice")
  sNext)
  (sSeq (sIf (vB (v2 g_notin (vC (.str "main")) (vVar 1)))
  (sRaise "NoName")
  sNext)
  (sFor [] (iSeq (v2 g_ix (vVar 0) (vC (.int 2)))) [2, 3] (kTup 2 (ksCons kName (ksCons kName ksNil)))
  (sFor [] (iRange1 (vCall c_len (aCons (vVar 3) aNil))) [4] kName
  (sDrop (vCallN 4 G16.m_look_at (aCons (vVar 0) (aCons (vVar 1) (aCons (vVar 3) (aCons (vVar 4) aNil))))))
  [4])
  [2, 3, 4]))))) T.F_look_over sc_look_over (own' := []) (.inl rfl) fun cdv A outer s H E hr tk hp =>
      (dss_cons (own1 := []) (ds_asg (j := 1) (AN.ae (an_comp (i := 1) rfl sc_look_over.nd rfl rfl (sw_true rfl rfl rfl (by decide +kernel)) (di_seq (de_ix (ix_any (hu1 hr)) say_ix (de_var (pv 0)) de_int (fun _ _ => rfl))) (own := [("one", 5)]) (blkOk_by (own := [("one", 5)]) (N := N_look_over) (sc := defScope s_look_over) (by decide +kernel)) (is := [5]) (fun _ _ _ _ _ => (dg_name (pg_name (i := 5) sc_look_over.nd rfl (by first | exact Or.inl rfl | exact Or.inr rfl)))) (fun _ _ _ _ _ => dts_nil) (fun _ _ _ _ _ => (de_ix (ix_any (hu1 hr)) say_ix (de_var (pv 5)) de_int (fun _ _ => rfl))) (by decide))))
      (dss_cons (own1 := []) (ds_if (dt_cmp (op_neD (hu64 hr)) say_ne (de_lenT rfl (by rfl) T.n_len (by rfl) T.n_set (de_var (pv 1))) (de_callB call_len say_len (by rfl) T.n_len (by decide +kernel) (da_cons (de_var (pv 1)) da_nil)) (nomark _))
      (dss_one (ds_raise (c := "Twice") rfl tk (pmk_own PySem.F.excBase_ValueError T.xq_Twice T.xh_Twice T.xk_Twice (raises_own T.xb_Twice T.xt_Twice) (by rfl)) T.xh_Twice))
      dss_nil)
      (dss_cons (own1 := []) (ds_if (dt_cmp (op_notInAny (hu65 hr)) say_notin de_str (de_var (pv 1)) (by rfl))
      (dss_one (ds_raise (c := "NoName") rfl tk (pmk_own PySem.F.excBase_ValueError T.xq_NoName T.xh_NoName T.xk_NoName (raises_own T.xb_NoName T.xt_NoName) (by rfl)) T.xh_NoName))
      dss_nil)
      (dss_one (ds_for (fg := [2, 3, 4]) (is := [2, 3]) hp rfl (di_seq (de_ix (ix_any (hu1 hr)) say_ix (de_var (pv 0)) de_int (fun _ _ => rfl))) (dg_tup rfl (dgs_cons (is := [2]) (dg_name (pg_name (i := 2) sc_look_over.nd rfl (by first | exact Or.inl rfl | exact Or.inr rfl))) (dgs_cons (is := [3]) (dg_name (pg_name (i := 3) sc_look_over.nd rfl (by first | exact Or.inl rfl | exact Or.inr rfl))) dgs_nil)))
      (dss_one (ds_for (fg := [4]) (is := [4]) hp rfl (di_range1 (by rfl) T.n_range (de_callB call_len say_len (by rfl) T.n_len (by decide +kernel) (da_cons (de_var (pv 3)) da_nil))) (dg_name (pg_name (i := 4) sc_look_over.nd rfl (by first | exact Or.inl rfl | exact Or.inr rfl)))
      (dss_one (ds_expr (de_call (ok_look_at T) tk (hr.mono (by decide)) (by rfl) T.g_look_at T.F_look_at.kp T.b_look_at (da_cons (de_var (pv 0)) (da_cons (de_var (pv 1)) (da_cons (de_var (pv 3)) (da_cons (de_var (pv 4)) da_nil))))))) (by decide))) (by decide))))))
theorem ok_read (T : Tx K mg) : FnOk P w K mg base (L2.CX P w) 5 T.f_read T.d_read ["text"] (spK mg none 1 m_read) :=
  def_ok (N := N_read) (F := (sSeq (sIf (tNotD (vB (v1 (g_isi "str") (vVar 0))))
  (sRaise "NoText")
  sNext)
  (sSeq (sAsg [] 1 (vLstOf (nSplit (vVar 0) (vC (.str "; ")))))
  (sSeq (sAsg [] 2 (vCallN 1 G16.m_read_values (aCons (v2 g_ix (vVar 1) (vC (.int 0))) aNil)))
  (sSeq (sIf (vB (v2 (gI (fun i j => decide (i < j))) (vCall c_len (aCons (vVar 1) aNil)) (vC (.int 2))))
  (sRaise "NoText")
  sNext)
  (sSeq (sAsg [] 3 (vTup (aCons (v2 g_ix (vVar 2) (vC (.int 0))) (aCons (v2 g_ix (vVar 2) (vC (.int 1))) (aCons (vLstOf (nCompX (iSeq (vSl (vVar 1) (oSome (vC (.int 1))) oNone)) [4] kName tTrue (vCallN 1 m_read_procedure (aCons (vVar 4) aNil)) [4])) aNil)))))
  (sSeq (sDrop (vCallN 1 G16.m_look_over (aCons (vVar 3) aNil)))
  (sRet (vVar 3))))))))) T.F_read sc_read (own' := []) (.inl rfl) fun cdv A outer s H E hr tk hp =>
      (dss_cons (own1 := []) (ds_if (dt_not (dt_val (de_isi (n := "str") (de_var (pv 0)) (by rfl) T.n_isinstance (by rfl) T.n_str (by decide +kernel))))
      (dss_one (ds_raise (c := "NoText") rfl tk (pmk_own PySem.F.excBase_ValueError T.xq_NoText T.xh_NoText T.xk_NoText (raises_own T.xb_NoText T.xt_NoText) (by rfl)) T.xh_NoText))
      dss_nil)
      (dss_cons (own1 := []) (ds_asg (j := 1) (ae_set (j := 1) sc_read.nd rfl (.inl rfl) (DN.de (dn_split (de_var (pv 0)) de_str))))
      (dss_cons (own1 := []) (ds_asg (j := 2) (ae_set (j := 2) sc_read.nd rfl (.inl rfl) (de_call (ok_read_values T) tk (hr.mono (by decide)) (by rfl) T.g_read_values T.F_read_values.kp T.b_read_values (da_cons (de_ix (ix_any (hu1 hr)) say_ix (de_var (pv 1)) de_int (fun _ _ => rfl)) da_nil))))
      (dss_cons (own1 := []) (ds_if (dt_cmp op_lt say_I (de_callB call_len say_len (by rfl) T.n_len (by decide +kernel) (da_cons (de_var (pv 1)) da_nil)) de_int (nomark _))
      (dss_one (ds_raise (c := "NoText") rfl tk (pmk_own PySem.F.excBase_ValueError T.xq_NoText T.xh_NoText T.xk_NoText (raises_own T.xb_NoText T.xt_NoText) (by rfl)) T.xh_NoText))
      dss_nil)
      (dss_cons (own1 := []) (ds_asg (j := 3) (ae_set (j := 3) sc_read.nd rfl (.inl rfl) (de_tup (da_cons (de_ix (ix_any (hu1 hr)) say_ix (de_var (pv 2)) de_int (fun _ _ => rfl)) (da_cons (de_ix (ix_any (hu1 hr)) say_ix (de_var (pv 2)) de_int (fun _ _ => rfl)) (da_cons (DN.de (dn_compX rfl rfl tk rfl sc_read.nd (di_seq (de_sl (de_var (pv 1)) (do_some de_int) do_none)) (own := [("part", 4)]) (blkOk_by (own := [("part", 4)]) (N := N_read) (sc := defScope s_read) (by decide +kernel)) (is := [4]) (fun _ _ _ _ _ => (dg_name (pg_name (i := 4) sc_read.nd rfl (by first | exact Or.inl rfl | exact Or.inr rfl)))) (fun _ _ _ _ _ _ tkX => dts_nil) (fun _ _ _ _ _ _ tkX => (de_call (ok_read_procedure T) tkX (hr.mono (by decide)) (by rfl) T.g_read_procedure T.F_read_procedure.kp T.b_read_procedure (da_cons (de_var (pv 4)) da_nil))) (by decide))) da_nil))))))
      (dss_cons (own1 := []) (ds_expr (de_call (ok_look_over T) tk (hr.mono (by decide)) (by rfl) T.g_look_over T.F_look_over.kp T.b_look_over (da_cons (de_var (pv 3)) da_nil)))
      (dss_one (ds_ret rfl (de_var (pv 3))))))))))
theorem ok_cell_at (T : Tx K mg) : FnOk P w K mg base (L2.CX P w) 1 T.f_cell_at T.d_cell_at ["_law_script", "_law_k"] (spK mg none 2 G4.m_cell_at) :=
  def_ok (N := N_cell_at) (F := (sSeq (sIf (vB (v2 (gI (fun i j => decide (i < j))) (vVar 1) (vCall c_len (aCons (vVar 0) aNil))))
  (sRet (v2 g_mod (v2 g_ix (vVar 0) (vVar 1)) (v2 g_pow (vC (.int 10)) (vC (.int 60)))))
  sNext)
  (sRet (vC (.int 0))))) T.F_cell_at sc_cell_at (own' := []) (.inl rfl) fun cdv A outer s H E hr tk hp =>
      (dss_cons (own1 := []) (ds_if (dt_cmp op_lt say_I (de_var (pv 1)) (de_callB call_len say_len (by rfl) T.n_len (by decide +kernel) (da_cons (de_var (pv 0)) da_nil)) (nomark _))
      (dss_one (ds_ret rfl (de_op op_mod say_mod (de_ix (ix_any (hu1 hr)) say_ix (de_var (pv 0)) (de_var (pv 1)) (fun _ _ => rfl)) (de_op op_pow say_pow de_int de_int))))
      dss_nil)
      (dss_one (ds_ret rfl de_int)))
theorem ok_digit (T : Tx K mg) : FnOk P w K mg base (L2.CX P w) 1 T.f_digit T.d_digit ["_law_cell", "_law_prime", "_law_many"] (spK mg none 3 G4.m_digit) :=
  def_ok (N := N_digit) (F := (sRet (v2 g_mod (v2 g_mod (v2 g_add (v2 g_mul (v2 g_mod (vVar 0) (v2 g_pow (vC (.int 10)) (vC (.int 60)))) (vC (.int 48271))) (vC (.int 11))) (vVar 1)) (vVar 2)))) T.F_digit sc_digit (own' := []) (.inl rfl) fun cdv A outer s H E hr tk hp =>
      (dss_one (ds_ret rfl (de_op op_mod say_mod (de_op op_mod say_mod (de_op op_addAny say_add (de_op op_mul say_mul (de_op op_mod say_mod (de_var (pv 0)) (de_op op_pow say_pow de_int de_int)) de_int) de_int) (de_var (pv 1))) (de_var (pv 2)))))
theorem ok_names (T : Tx K mg) : FnOk P w K mg base (L2.CX P w) 2 T.f_names T.d_names ["_law_cell"] (spK mg (some .dp) 1 G4.m_names) :=
  def_ok (N := N_names) (F := (sSeq (sAsgV 1 (vLstI (nLst aNil)))
  (sSeq (sAsg [(1, .dp)] 2 (v2 g_add (vC (.int 1)) (vCallN 3 G4.m_digit (aCons (vVar 0) (aCons (vC (.int 1063)) (aCons (vC (.int 8)) aNil))))))
  (sSeq (sAsg [(1, .dp)] 3 (vC (.str "")))
  (sSeq (sFor [(1, .dp)] (iRange1 (vVar 2)) [4] kName
  (sAsg [(1, .dp)] 3 (v2 g_add (vVar 3) (v2 g_ix (vC (.str "abcdefghijklmnopqrstuvwxyz")) (vCallN 3 G4.m_digit (aCons (v2 g_add (vVar 0) (v2 g_mul (v2 g_mul (vC (.int 5)) (vVar 4)) (vVar 4))) (aCons (vC (.int 1093)) (aCons (vC (.int 26)) aNil)))))))
  [4])
  (sSeq (sAsg [(1, .dp)] 5 (vCallN 3 G4.m_digit (aCons (vVar 0) (aCons (vC (.int 1069)) (aCons (vVar 2) aNil)))))
  (sSeq (sAsg [(1, .dp)] 6 (vCallN 3 G4.m_digit (aCons (vVar 0) (aCons (vC (.int 1087)) (aCons (vC (.int 4)) aNil)))))
  (sSeq (sFor [(1, .dp)] (iRange1 (vCallN 3 G4.m_digit (aCons (vVar 0) (aCons (vC (.int 1061)) (aCons (vC (.int 4)) aNil))))) [4] kName
  (sSeq (sAsg [(1, .dp)] 7 (v2 g_ix (vC (.str "bcdefghjklopqrstuvwxyz")) (v2 g_mod (v2 g_add (vVar 0) (v2 g_mul (vVar 4) (v2 g_add (vC (.int 1)) (v2 g_mod (v2 g_fdiv (vVar 0) (vC (.int 22))) (vC (.int 7)))))) (vC (.int 22)))))
  (sSeq (sAsg [(1, .dp)] 8 (v2 g_add (v2 g_add (vSl (vVar 3) oNone (oSome (vVar 5))) (vVar 7)) (vSl (vVar 3) (oSome (v2 g_add (vVar 5) (vC (.int 1)))) oNone)))
  (sSeq (sIf (vB (v2 g_eq (vVar 6) (vC (.int 2))))
  (sAsg [(1, .dp)] 8 (v2 g_add (vC (.str "main")) (vVar 7)))
  sNext)
  (sSeq (sIf (vB (v2 g_eq (vVar 6) (vC (.int 3))))
  (sAsg [(1, .dp)] 8 (vSl (vC (.str "main")) oNone (oSome (v2 g_add (vC (.int 1)) (vVar 4)))))
  sNext)
  (sAppI 1 (vVar 8))))))
  [4, 7, 8])
  (sSeq (sAsgI 9 (vCallN 3 G4.m_digit (aCons (vVar 0) (aCons (vC (.int 1091)) (aCons (v2 g_add (vCall c_len (aCons (vVar 1) aNil)) (vC (.int 1))) aNil)))))
  (sRet (vLstI (nCat (v2 g_add (vSl (vVar 1) oNone (oSome (vVar 9))) (vLstOf (nLst (aCons (vC (.str "main")) aNil)))) (vSl (vVar 1) (oSome (vVar 9)) oNone))))))))))))) T.F_names sc_names (own' := [(1, .dp)]) (.inr rfl) fun cdv A outer s H E hr tk hp =>
      (dss_cons (own1 := [(1, .dp)]) (ds_asgD (j := 1) (af_set (j := 1) sc_names.nd rfl (.inl rfl) (DN.dp (dn_lst da_nil))))
      (dss_cons (own1 := [(1, .dp)]) (ds_asg (j := 2) (ae_set (j := 2) sc_names.nd rfl (.inl rfl) (de_op op_addAny say_add de_int (de_call (ok_digit T) tk (hr.mono (by decide)) (by rfl) T.g_digit T.F_digit.kp T.b_digit (da_cons (de_var (pv 0)) (da_cons de_int (da_cons de_int da_nil)))))))
      (dss_cons (own1 := [(1, .dp)]) (ds_asg (j := 3) (ae_set (j := 3) sc_names.nd rfl (.inl rfl) de_str))
      (dss_cons (own1 := [(1, .dp)]) (ds_for (fg := [4]) (is := [4]) hp rfl (di_range1 (by rfl) T.n_range (de_var (pv 2))) (dg_name (pg_name (i := 4) sc_names.nd rfl (by first | exact Or.inl rfl | exact Or.inr rfl)))
      (dss_one (ds_asg (j := 3) (ae_set (j := 3) sc_names.nd rfl (.inl rfl) (de_op op_addAny say_add (de_var (pv 3)) (de_ix (ix_any (hu1 hr)) say_ix de_str (de_call (ok_digit T) tk (hr.mono (by decide)) (by rfl) T.g_digit T.F_digit.kp T.b_digit (da_cons (de_op op_addAny say_add (de_var (pv 0)) (de_op op_mul say_mul (de_op op_mul say_mul de_int (de_var (pv 4))) (de_var (pv 4)))) (da_cons de_int (da_cons de_int da_nil)))) (fun _ _ => rfl)))))) (by decide))
      (dss_cons (own1 := [(1, .dp)]) (ds_asg (j := 5) (ae_set (j := 5) sc_names.nd rfl (.inl rfl) (de_call (ok_digit T) tk (hr.mono (by decide)) (by rfl) T.g_digit T.F_digit.kp T.b_digit (da_cons (de_var (pv 0)) (da_cons de_int (da_cons (de_var (pv 2)) da_nil))))))
      (dss_cons (own1 := [(1, .dp)]) (ds_asg (j := 6) (ae_set (j := 6) sc_names.nd rfl (.inl rfl) (de_call (ok_digit T) tk (hr.mono (by decide)) (by rfl) T.g_digit T.F_digit.kp T.b_digit (da_cons (de_var (pv 0)) (da_cons de_int (da_cons de_int da_nil))))))
      (dss_cons (own1 := [(1, .dp)]) (ds_for (fg := [4, 7, 8]) (is := [4]) hp rfl (di_range1 (by rfl) T.n_range (de_call (ok_digit T) tk (hr.mono (by decide)) (by rfl) T.g_digit T.F_digit.kp T.b_digit (da_cons (de_var (pv 0)) (da_cons de_int (da_cons de_int da_nil))))) (dg_name (pg_name (i := 4) sc_names.nd rfl (by first | exact Or.inl rfl | exact Or.inr rfl)))
      (dss_cons (own1 := [(1, .dp)]) (ds_asg (j := 7) (ae_set (j := 7) sc_names.nd rfl (.inl rfl) (de_ix (ix_any (hu1 hr)) say_ix de_str (de_op op_mod say_mod (de_op op_addAny say_add (de_var (pv 0)) (de_op op_mul say_mul (de_var (pv 4)) (de_op op_addAny say_add de_int (de_op op_mod say_mod (de_op op_fdivW say_fdiv (de_var (pv 0)) de_int) de_int)))) de_int) (fun _ _ => rfl))))
      (dss_cons (own1 := [(1, .dp)]) (ds_asg (j := 8) (ae_set (j := 8) sc_names.nd rfl (.inl rfl) (de_op op_addAny say_add (de_op op_addAny say_add (de_sl (de_var (pv 3)) do_none (do_some (de_var (pv 5)))) (de_var (pv 7))) (de_sl (de_var (pv 3)) (do_some (de_op op_addAny say_add (de_var (pv 5)) de_int)) do_none))))
      (dss_cons (own1 := [(1, .dp)]) (ds_if (dt_cmp (op_eqD (hu64 hr)) say_eq (de_var (pv 6)) de_int (nomark _))
      (dss_one (ds_asg (j := 8) (ae_set (j := 8) sc_names.nd rfl (.inl rfl) (de_op op_addAny say_add de_str (de_var (pv 7))))))
      dss_nil)
      (dss_cons (own1 := [(1, .dp)]) (ds_if (dt_cmp (op_eqD (hu64 hr)) say_eq (de_var (pv 6)) de_int (nomark _))
      (dss_one (ds_asg (j := 8) (ae_set (j := 8) sc_names.nd rfl (.inl rfl) (de_sl de_str do_none (do_some (de_op op_addAny say_add de_int (de_var (pv 4))))))))
      dss_nil)
      (dss_one (ds_appI (kd := .dp) (j := 1) rfl (pv 1) (de_var (pv 8)) (pe := fun {t} p => pe_append (pv 1) (p := p)))))))) (by decide))
      (dss_cons (own1 := [(1, .dp)]) (ds_asgI (j := 9) (ae_set (j := 9) sc_names.nd rfl (.inl rfl) (de_call (ok_digit T) tk (hr.mono (by decide)) (by rfl) T.g_digit T.F_digit.kp T.b_digit (da_cons (de_var (pv 0)) (da_cons de_int (da_cons (de_op op_addAny say_add (de_callB call_len say_len (by rfl) T.n_len (by decide +kernel) (da_cons (de_var (pv 1)) da_nil)) de_int) da_nil))))))
      (dss_one (ds_retF rfl (DN.dp (dn_cat (de_op op_addAny say_add (de_sl (de_var (pv 1)) do_none (do_some (de_var (pv 9)))) (DN.de (dn_lst (da_cons de_str da_nil)))) (de_sl (de_var (pv 1)) (do_some (de_var (pv 9))) do_none)))))))))))))
theorem ok_row (T : Tx K mg) : FnOk P w K mg base (L2.CX P w) 2 T.f_row T.d_row ["_law_cell", "_law_values", "_law_many", "_law_names_here", "_law_last"] (spK mg none 5 G4.m_row) :=
  def_ok (N := N_row) (F := (sSeq (sAsg [] 5 (vCallN 3 G4.m_digit (aCons (vVar 0) (aCons (vC (.int 1009)) (aCons (vC (.int 14)) aNil)))))
  (sSeq (sIf (vB (vVar 4))
  (sAsg [] 5 (v2 g_ix (vLstOf (nLst (aCons (vC (.int 7)) (aCons (vC (.int 10)) (aCons (vC (.int 11)) aNil))))) (vCallN 3 G4.m_digit (aCons (vVar 0) (aCons (vC (.int 1009)) (aCons (vC (.int 3)) aNil))))))
  sNext)
  (sSeq (sAsg [] 6 (vCallN 3 G4.m_digit (aCons (vVar 0) (aCons (vC (.int 1013)) (aCons (vC (.int 2)) aNil)))))
  (sSeq (sAsg [] 7 (v2 g_ix (vLstOf (nLst (aCons (vC (.str "shared")) (aCons (vC (.str "own")) aNil)))) (vVar 6)))
  (sSeq (sAsg [] 8 (vCallN 3 G4.m_digit (aCons (vVar 0) (aCons (vC (.int 1019)) (aCons (v2 g_ix (vVar 1) (vVar 6)) aNil)))))
  (sSeq (sAsg [] 9 (vCallN 3 G4.m_digit (aCons (vVar 0) (aCons (vC (.int 1021)) (aCons (vVar 2) aNil)))))
  (sSeq (sIf (vB (v2 (gI (fun i j => decide (j ≤ i))) (vVar 5) (vC (.int 12))))
  (sRet (vTup (aCons (vC (.str "call")) (aCons (v2 g_ix (vVar 3) (vCallN 3 G4.m_digit (aCons (vVar 0) (aCons (vC (.int 1031)) (aCons (vCall c_len (aCons (vVar 3) aNil)) aNil))))) aNil))))
  sNext)
  (sSeq (sIf (tOrD (vB (v2 g_eq (vVar 5) (vC (.int 1)))) (vB (v2 g_eq (vVar 5) (vC (.int 2)))))
  (sRet (vTup (aCons (vC (.str "set")) (aCons (vVar 7) (aCons (vVar 8) aNil)))))
  sNext)
  (sSeq (sIf (tOrD (vB (v2 g_eq (vVar 5) (vC (.int 3)))) (vB (v2 g_eq (vVar 5) (vC (.int 4)))))
  (sRet (vTup (aCons (v2 g_ix (vLstOf (nLst (aCons (vC (.str "any")) (aCons (vC (.str "turn")) aNil)))) (v2 g_sub (vVar 5) (vC (.int 3)))) (aCons (vVar 7) aNil))))
  sNext)
  (sSeq (sIf (tOrD (vB (v2 g_eq (vVar 5) (vC (.int 5)))) (vB (v2 g_eq (vVar 5) (vC (.int 6)))))
  (sRet (vTup (aCons (vC (.str "if")) (aCons (vVar 7) (aCons (vVar 8) (aCons (vVar 9) aNil))))))
  sNext)
  (sSeq (sIf (tAndD (vB (v2 (gI (fun i j => decide (j ≤ i))) (vVar 5) (vC (.int 7)))) (vB (v2 (gI (fun i j => decide (i ≤ j))) (vVar 5) (vC (.int 9)))))
  (sRet (vTup (aCons (v2 g_ix (vLstOf (nLst (aCons (vC (.str "go")) (aCons (vC (.str "fork")) (aCons (vC (.str "fork")) aNil))))) (v2 g_sub (vVar 5) (vC (.int 7)))) (aCons (vVar 9) aNil))))
  sNext)
  (sSeq (sIf (vB (v2 (gI (fun i j => decide (j ≤ i))) (vVar 5) (vC (.int 10))))
  (sRet (vTup (aCons (v2 g_ix (vLstOf (nLst (aCons (vC (.str "back")) (aCons (vC (.str "stop")) aNil)))) (v2 g_sub (vVar 5) (vC (.int 10)))) aNil)))
  sNext)
  (sRet (vTup (aCons (vC (.str "skip")) aNil)))))))))))))))) T.F_row sc_row (own' := []) (.inl rfl) fun cdv A outer s H E hr tk hp =>
      (dss_cons (own1 := []) (ds_asg (j := 5) (ae_set (j := 5) sc_row.nd rfl (.inl rfl) (de_call (ok_digit T) tk (hr.mono (by decide)) (by rfl) T.g_digit T.F_digit.kp T.b_digit (da_cons (de_var (pv 0)) (da_cons de_int (da_cons de_int da_nil))))))
      (dss_cons (own1 := []) (ds_if (dt_val (de_var (pv 4)))
      (dss_one (ds_asg (j := 5) (ae_set (j := 5) sc_row.nd rfl (.inl rfl) (de_ix (ix_any (hu1 hr)) say_ix (DN.de (dn_lst (da_cons de_int (da_cons de_int (da_cons de_int da_nil))))) (de_call (ok_digit T) tk (hr.mono (by decide)) (by rfl) T.g_digit T.F_digit.kp T.b_digit (da_cons (de_var (pv 0)) (da_cons de_int (da_cons de_int da_nil)))) (fun _ _ => rfl)))))
      dss_nil)
      (dss_cons (own1 := []) (ds_asg (j := 6) (ae_set (j := 6) sc_row.nd rfl (.inl rfl) (de_call (ok_digit T) tk (hr.mono (by decide)) (by rfl) T.g_digit T.F_digit.kp T.b_digit (da_cons (de_var (pv 0)) (da_cons de_int (da_cons de_int da_nil))))))
      (dss_cons (own1 := []) (ds_asg (j := 7) (ae_set (j := 7) sc_row.nd rfl (.inl rfl) (de_ix (ix_any (hu1 hr)) say_ix (DN.de (dn_lst (da_cons de_str (da_cons de_str da_nil)))) (de_var (pv 6)) (fun _ _ => rfl))))
      (dss_cons (own1 := []) (ds_asg (j := 8) (ae_set (j := 8) sc_row.nd rfl (.inl rfl) (de_call (ok_digit T) tk (hr.mono (by decide)) (by rfl) T.g_digit T.F_digit.kp T.b_digit (da_cons (de_var (pv 0)) (da_cons de_int (da_cons (de_ix (ix_any (hu1 hr)) say_ix (de_var (pv 1)) (de_var (pv 6)) (fun _ _ => rfl)) da_nil))))))
      (dss_cons (own1 := []) (ds_asg (j := 9) (ae_set (j := 9) sc_row.nd rfl (.inl rfl) (de_call (ok_digit T) tk (hr.mono (by decide)) (by rfl) T.g_digit T.F_digit.kp T.b_digit (da_cons (de_var (pv 0)) (da_cons de_int (da_cons (de_var (pv 2)) da_nil))))))
      (dss_cons (own1 := []) (ds_if (dt_cmp op_ge say_I (de_var (pv 5)) de_int (nomark _))
      (dss_one (ds_ret rfl (de_tup (da_cons de_str (da_cons (de_ix (ix_any (hu1 hr)) say_ix (de_var (pv 3)) (de_call (ok_digit T) tk (hr.mono (by decide)) (by rfl) T.g_digit T.F_digit.kp T.b_digit (da_cons (de_var (pv 0)) (da_cons de_int (da_cons (de_callB call_len say_len (by rfl) T.n_len (by decide +kernel) (da_cons (de_var (pv 3)) da_nil)) da_nil)))) (fun _ _ => rfl)) da_nil)))))
      dss_nil)
      (dss_cons (own1 := []) (ds_if (DW.dt (dw_or (dt_cmp (op_eqD (hu64 hr)) say_eq (de_var (pv 5)) de_int (nomark _)) (dw_or1 (dt_cmp (op_eqD (hu64 hr)) say_eq (de_var (pv 5)) de_int (nomark _)))))
      (dss_one (ds_ret rfl (de_tup (da_cons de_str (da_cons (de_var (pv 7)) (da_cons (de_var (pv 8)) da_nil))))))
      dss_nil)
      (dss_cons (own1 := []) (ds_if (DW.dt (dw_or (dt_cmp (op_eqD (hu64 hr)) say_eq (de_var (pv 5)) de_int (nomark _)) (dw_or1 (dt_cmp (op_eqD (hu64 hr)) say_eq (de_var (pv 5)) de_int (nomark _)))))
      (dss_one (ds_ret rfl (de_tup (da_cons (de_ix (ix_any (hu1 hr)) say_ix (DN.de (dn_lst (da_cons de_str (da_cons de_str da_nil)))) (de_op op_sub say_sub (de_var (pv 5)) de_int) (fun _ _ => rfl)) (da_cons (de_var (pv 7)) da_nil)))))
      dss_nil)
      (dss_cons (own1 := []) (ds_if (DW.dt (dw_or (dt_cmp (op_eqD (hu64 hr)) say_eq (de_var (pv 5)) de_int (nomark _)) (dw_or1 (dt_cmp (op_eqD (hu64 hr)) say_eq (de_var (pv 5)) de_int (nomark _)))))
      (dss_one (ds_ret rfl (de_tup (da_cons de_str (da_cons (de_var (pv 7)) (da_cons (de_var (pv 8)) (da_cons (de_var (pv 9)) da_nil)))))))
      dss_nil)
      (dss_cons (own1 := []) (ds_if (DW.dt (dw_and (dt_cmp op_ge say_I (de_var (pv 5)) de_int (nomark _)) (dw_and1 (dt_cmp op_le say_I (de_var (pv 5)) de_int (nomark _)))))
      (dss_one (ds_ret rfl (de_tup (da_cons (de_ix (ix_any (hu1 hr)) say_ix (DN.de (dn_lst (da_cons de_str (da_cons de_str (da_cons de_str da_nil))))) (de_op op_sub say_sub (de_var (pv 5)) de_int) (fun _ _ => rfl)) (da_cons (de_var (pv 9)) da_nil)))))
      dss_nil)
      (dss_cons (own1 := []) (ds_if (dt_cmp op_ge say_I (de_var (pv 5)) de_int (nomark _))
      (dss_one (ds_ret rfl (de_tup (da_cons (de_ix (ix_any (hu1 hr)) say_ix (DN.de (dn_lst (da_cons de_str (da_cons de_str da_nil)))) (de_op op_sub say_sub (de_var (pv 5)) de_int) (fun _ _ => rfl)) da_nil))))
      dss_nil)
      (dss_one (ds_ret rfl (de_tup (da_cons de_str da_nil))))))))))))))))
theorem ok_whole (T : Tx K mg) : FnOk P w K mg base (L2.CX P w) 1 T.f_whole T.d_whole ["_law_found"] (spK mg none 1 G1.m_whole) :=
  def_ok (N := N_whole) (F := (sRet (vAnd (v1 (g_isi "int") (vVar 0)) (vNot (v1 (g_isi "bool") (vVar 0)))))) T.F_whole sc_whole (own' := []) (.inl rfl) fun cdv A outer s H E hr tk hp =>
      (dss_one (ds_ret rfl (de_and (de_isi (n := "int") (de_var (pv 0)) (by rfl) T.n_isinstance (by rfl) T.n_int (by decide +kernel)) (de_one (de_not (de_isi (n := "bool") (de_var (pv 0)) (by rfl) T.n_isinstance (by rfl) T.n_bool (by decide +kernel)))))))
theorem ok_row_same (T : Tx K mg) : FnOk P w K mg base (L2.CX P w) 2 T.f_row_same T.d_row_same ["_law_found", "_law_due"] (spK mg none 2 G4.m_row_same) :=
  def_ok (N := N_row_same) (F := (sSeq (sIf (tOrD (tNotD (vB (v1 (g_isi "tuple") (vVar 0)))) (vB (v2 g_ne (vCall c_len (aCons (vVar 0) aNil)) (vCall c_len (aCons (vVar 1) aNil)))))
  (sRet (vC (.bl false)))
  sNext)
  (sSeq (sFor [] (iZip2 (vVar 0) (vVar 1)) [2, 3] (kTup 2 (ksCons kName (ksCons kName ksNil)))
  (sSeq (sIf (tAndD (vB (v1 (g_isi "str") (vVar 3))) (tNotD (vB (v1 (g_isi "str") (vVar 2)))))
  (sRet (vC (.bl false)))
  sNext)
  (sIf (tAndD (vB (v1 (g_isi "int") (vVar 3))) (tNotD (vB (vCallN 1 G1.m_whole (aCons (vVar 2) aNil)))))
  (sRet (vC (.bl false)))
  sNext))
  [2, 3])
  (sRet (v2 g_eq (vVar 0) (vVar 1)))))) T.F_row_same sc_row_same (own' := []) (.inl rfl) fun cdv A outer s H E hr tk hp =>
      (dss_cons (own1 := []) (ds_if (DW.dt (dw_or (dt_not (dt_val (de_isi (n := "tuple") (de_var (pv 0)) (by rfl) T.n_isinstance (by rfl) T.n_tuple (by decide +kernel)))) (dw_or1 (dt_cmp (op_neD (hu64 hr)) say_ne (de_callB call_len say_len (by rfl) T.n_len (by decide +kernel) (da_cons (de_var (pv 0)) da_nil)) (de_callB call_len say_len (by rfl) T.n_len (by decide +kernel) (da_cons (de_var (pv 1)) da_nil)) (nomark _)))))
      (dss_one (ds_ret rfl de_bl))
      dss_nil)
      (dss_cons (own1 := []) (ds_for (fg := [2, 3]) (is := [2, 3]) hp rfl (di_zip2 (by rfl) T.n_zip (de_var (pv 0)) (de_var (pv 1))) (dg_tup rfl (dgs_cons (is := [2]) (dg_name (pg_name (i := 2) sc_row_same.nd rfl (by first | exact Or.inl rfl | exact Or.inr rfl))) (dgs_cons (is := [3]) (dg_name (pg_name (i := 3) sc_row_same.nd rfl (by first | exact Or.inl rfl | exact Or.inr rfl))) dgs_nil)))
      (dss_cons (own1 := []) (ds_if (DW.dt (dw_and (dt_val (de_isi (n := "str") (de_var (pv 3)) (by rfl) T.n_isinstance (by rfl) T.n_str (by decide +kernel))) (dw_and1 (dt_not (dt_val (de_isi (n := "str") (de_var (pv 2)) (by rfl) T.n_isinstance (by rfl) T.n_str (by decide +kernel)))))))
      (dss_one (ds_ret rfl de_bl))
      dss_nil)
      (dss_one (ds_if (DW.dt (dw_and (dt_val (de_isi (n := "int") (de_var (pv 3)) (by rfl) T.n_isinstance (by rfl) T.n_int (by decide +kernel))) (dw_and1 (dt_not (dt_val (de_call (ok_whole T) tk (hr.mono (by decide)) (by rfl) T.g_whole T.F_whole.kp T.b_whole (da_cons (de_var (pv 2)) da_nil)))))))
      (dss_one (ds_ret rfl de_bl))
      dss_nil))) (by decide))
      (dss_one (ds_ret rfl (de_cmp (op_eqD (hu64 hr)) say_eq (de_var (pv 0)) (de_var (pv 1)) (nomark _))))))
theorem ok_rows_same (T : Tx K mg) : FnOk P w K mg base (L2.CX P w) 3 T.f_rows_same T.d_rows_same ["_law_found", "_law_due"] (spK mg none 2 G4.m_rows_same) :=
  def_ok (N := N_rows_same) (F := (sSeq (sIf (tOrD (tNotD (vB (v1 (g_isi "tuple") (vVar 0)))) (tOrD (vB (v2 g_ne (vCall c_len (aCons (vVar 0) aNil)) (vC (.int 2)))) (tNotD (vB (v1 (g_isi "str") (v2 g_ix (vVar 0) (vC (.int 0))))))))
  (sRet (vC (.bl false)))
  sNext)
  (sSeq (sIf (tOrD (vB (v2 g_ne (v2 g_ix (vVar 0) (vC (.int 0))) (v2 g_ix (vVar 1) (vC (.int 0))))) (tOrD (tNotD (vB (v1 (g_isi "list") (v2 g_ix (vVar 0) (vC (.int 1)))))) (vB (v2 g_ne (vCall c_len (aCons (v2 g_ix (vVar 0) (vC (.int 1))) aNil)) (vCall c_len (aCons (v2 g_ix (vVar 1) (vC (.int 1))) aNil))))))
  (sRet (vC (.bl false)))
  sNext)
  (sRet (vCall c_all (aCons (vLstOf (nComp (iZip2 (v2 g_ix (vVar 0) (vC (.int 1))) (v2 g_ix (vVar 1) (vC (.int 1)))) [2, 3] (kTup 2 (ksCons kName (ksCons kName ksNil))) tTrue (vCallN 2 G4.m_row_same (aCons (vVar 2) (aCons (vVar 3) aNil))) [2, 3])) aNil)))))) T.F_rows_same sc_rows_same (own' := []) (.inl rfl) fun cdv A outer s H E hr tk hp =>
      (dss_cons (own1 := []) (ds_if (DW.dt (dw_or (dt_not (dt_val (de_isi (n := "tuple") (de_var (pv 0)) (by rfl) T.n_isinstance (by rfl) T.n_tuple (by decide +kernel)))) (dw_or (dt_cmp (op_neD (hu64 hr)) say_ne (de_callB call_len say_len (by rfl) T.n_len (by decide +kernel) (da_cons (de_var (pv 0)) da_nil)) de_int (nomark _)) (dw_or1 (dt_not (dt_val (de_isi (n := "str") (de_ix (ix_any (hu1 hr)) say_ix (de_var (pv 0)) de_int (fun _ _ => rfl)) (by rfl) T.n_isinstance (by rfl) T.n_str (by decide +kernel))))))))
      (dss_one (ds_ret rfl de_bl))
      dss_nil)
      (dss_cons (own1 := []) (ds_if (DW.dt (dw_or (dt_cmp (op_neD (hu64 hr)) say_ne (de_ix (ix_any (hu1 hr)) say_ix (de_var (pv 0)) de_int (fun _ _ => rfl)) (de_ix (ix_any (hu1 hr)) say_ix (de_var (pv 1)) de_int (fun _ _ => rfl)) (nomark _)) (dw_or (dt_not (dt_val (de_isi (n := "list") (de_ix (ix_any (hu1 hr)) say_ix (de_var (pv 0)) de_int (fun _ _ => rfl)) (by rfl) T.n_isinstance (by rfl) T.n_list (by decide +kernel)))) (dw_or1 (dt_cmp (op_neD (hu64 hr)) say_ne (de_callB call_len say_len (by rfl) T.n_len (by decide +kernel) (da_cons (de_ix (ix_any (hu1 hr)) say_ix (de_var (pv 0)) de_int (fun _ _ => rfl)) da_nil)) (de_callB call_len say_len (by rfl) T.n_len (by decide +kernel) (da_cons (de_ix (ix_any (hu1 hr)) say_ix (de_var (pv 1)) de_int (fun _ _ => rfl)) da_nil)) (nomark _))))))
      (dss_one (ds_ret rfl de_bl))
      dss_nil)
      (dss_one (ds_ret rfl (de_callB (cr_all (by rfl)) say_all (by rfl) T.n_all (by decide +kernel) (da_cons (DN.de (dn_comp rfl sc_rows_same.nd (di_zip2 (by rfl) T.n_zip (de_ix (ix_any (hu1 hr)) say_ix (de_var (pv 0)) de_int (fun _ _ => rfl)) (de_ix (ix_any (hu1 hr)) say_ix (de_var (pv 1)) de_int (fun _ _ => rfl))) (own := [("_law_one", 2), ("_law_row_here", 3)]) (blkOk_by (own := [("_law_one", 2), ("_law_row_here", 3)]) (N := N_rows_same) (sc := defScope s_rows_same) (by decide +kernel)) (is := [2, 3]) (fun _ _ _ _ _ => (dg_tup rfl (dgs_cons (is := [2]) (dg_name (pg_name (i := 2) sc_rows_same.nd rfl (by first | exact Or.inl rfl | exact Or.inr rfl))) (dgs_cons (is := [3]) (dg_name (pg_name (i := 3) sc_rows_same.nd rfl (by first | exact Or.inl rfl | exact Or.inr rfl))) dgs_nil)))) (fun _ _ _ _ _ => dts_nil) (fun _ _ _ _ _ => (de_call (ok_row_same T) takes0 (hr.mono (by decide)) (by rfl) T.g_row_same T.F_row_same.kp T.b_row_same (da_cons (de_var (pv 2)) (da_cons (de_var (pv 3)) da_nil)))) (by decide))) da_nil))))))
theorem ok_same (T : Tx K mg) : FnOk P w K mg base (L2.CX P w) 4 T.f_same T.d_same ["_law_found", "_law_due"] (spK mg none 2 G4.m_same) :=
  def_ok (N := N_same) (F := (sSeq (sIf (tOrD (tNotD (vB (v1 (g_isi "tuple") (vVar 0)))) (vB (v2 g_ne (vCall c_len (aCons (vVar 0) aNil)) (vC (.int 3)))))
  (sRet (vC (.bl false)))
  sNext)
  (sSeq (sIf (tOrD (tNotD (vB (vCallN 1 G1.m_whole (aCons (v2 g_ix (vVar 0) (vC (.int 0))) aNil)))) (tOrD (tNotD (vB (vCallN 1 G1.m_whole (aCons (v2 g_ix (vVar 0) (vC (.int 1))) aNil)))) (vB (v2 g_ne (vSl (vVar 0) oNone (oSome (vC (.int 2)))) (vSl (vVar 1) oNone (oSome (vC (.int 2))))))))
  (sRet (vC (.bl false)))
  sNext)
  (sSeq (sIf (tOrD (tNotD (vB (v1 (g_isi "list") (v2 g_ix (vVar 0) (vC (.int 2)))))) (vB (v2 g_ne (vCall c_len (aCons (v2 g_ix (vVar 0) (vC (.int 2))) aNil)) (vCall c_len (aCons (v2 g_ix (vVar 1) (vC (.int 2))) aNil)))))
  (sRet (vC (.bl false)))
  sNext)
  (sRet (vCall c_all (aCons (vLstOf (nComp (iZip2 (v2 g_ix (vVar 0) (vC (.int 2))) (v2 g_ix (vVar 1) (vC (.int 2)))) [2, 3] (kTup 2 (ksCons kName (ksCons kName ksNil))) tTrue (vCallN 2 G4.m_rows_same (aCons (vVar 2) (aCons (vVar 3) aNil))) [2, 3])) aNil))))))) T.F_same sc_same (own' := []) (.inl rfl) fun cdv A outer s H E hr tk hp =>
      (dss_cons (own1 := []) (ds_if (DW.dt (dw_or (dt_not (dt_val (de_isi (n := "tuple") (de_var (pv 0)) (by rfl) T.n_isinstance (by rfl) T.n_tuple (by decide +kernel)))) (dw_or1 (dt_cmp (op_neD (hu64 hr)) say_ne (de_callB call_len say_len (by rfl) T.n_len (by decide +kernel) (da_cons (de_var (pv 0)) da_nil)) de_int (nomark _)))))
      (dss_one (ds_ret rfl de_bl))
      dss_nil)
      (dss_cons (own1 := []) (ds_if (DW.dt (dw_or (dt_not (dt_val (de_call (ok_whole T) tk (hr.mono (by decide)) (by rfl) T.g_whole T.F_whole.kp T.b_whole (da_cons (de_ix (ix_any (hu1 hr)) say_ix (de_var (pv 0)) de_int (fun _ _ => rfl)) da_nil)))) (dw_or (dt_not (dt_val (de_call (ok_whole T) tk (hr.mono (by decide)) (by rfl) T.g_whole T.F_whole.kp T.b_whole (da_cons (de_ix (ix_any (hu1 hr)) say_ix (de_var (pv 0)) de_int (fun _ _ => rfl)) da_nil)))) (dw_or1 (dt_cmp (op_neD (hu64 hr)) say_ne (de_sl (de_var (pv 0)) do_none (do_some de_int)) (de_sl (de_var (pv 1)) do_none (do_some de_int)) (nomark _))))))
      (dss_one (ds_ret rfl de_bl))
      dss_nil)
      (dss_cons (own1 := []) (ds_if (DW.dt (dw_or (dt_not (dt_val (de_isi (n := "list") (de_ix (ix_any (hu1 hr)) say_ix (de_var (pv 0)) de_int (fun _ _ => rfl)) (by rfl) T.n_isinstance (by rfl) T.n_list (by decide +kernel)))) (dw_or1 (dt_cmp (op_neD (hu64 hr)) say_ne (de_callB call_len say_len (by rfl) T.n_len (by decide +kernel) (da_cons (de_ix (ix_any (hu1 hr)) say_ix (de_var (pv 0)) de_int (fun _ _ => rfl)) da_nil)) (de_callB call_len say_len (by rfl) T.n_len (by decide +kernel) (da_cons (de_ix (ix_any (hu1 hr)) say_ix (de_var (pv 1)) de_int (fun _ _ => rfl)) da_nil)) (nomark _)))))
      (dss_one (ds_ret rfl de_bl))
      dss_nil)
      (dss_one (ds_ret rfl (de_callB (cr_all (by rfl)) say_all (by rfl) T.n_all (by decide +kernel) (da_cons (DN.de (dn_comp rfl sc_same.nd (di_zip2 (by rfl) T.n_zip (de_ix (ix_any (hu1 hr)) say_ix (de_var (pv 0)) de_int (fun _ _ => rfl)) (de_ix (ix_any (hu1 hr)) say_ix (de_var (pv 1)) de_int (fun _ _ => rfl))) (own := [("_law_one", 2), ("_law_part", 3)]) (blkOk_by (own := [("_law_one", 2), ("_law_part", 3)]) (N := N_same) (sc := defScope s_same) (by decide +kernel)) (is := [2, 3]) (fun _ _ _ _ _ => (dg_tup rfl (dgs_cons (is := [2]) (dg_name (pg_name (i := 2) sc_same.nd rfl (by first | exact Or.inl rfl | exact Or.inr rfl))) (dgs_cons (is := [3]) (dg_name (pg_name (i := 3) sc_same.nd rfl (by first | exact Or.inl rfl | exact Or.inr rfl))) dgs_nil)))) (fun _ _ _ _ _ => dts_nil) (fun _ _ _ _ _ => (de_call (ok_rows_same T) takes0 (hr.mono (by decide)) (by rfl) T.g_rows_same T.F_rows_same.kp T.b_rows_same (da_cons (de_var (pv 2)) (da_cons (de_var (pv 3)) da_nil)))) (by decide))) da_nil)))))))
theorem ok_stranger (T : Tx K mg) : FnOk P w K mg base (L2.CX P w) 1 T.f_stranger T.d_stranger ["_law_names_here"] (spK mg none 1 m_stranger) :=
  def_ok (N := N_stranger) (F := (sSeq (sFor [] (iSeq (vLstOf (nLst (aCons (vC (.str "mains")) (aCons (vC (.str "mai")) (aCons (vC (.str "o")) (aCons (vC (.str "other")) (aCons (vC (.str "zzzzzzzz")) (aCons (vC (.str "maim")) aNil))))))))) [1] kName
  (sIf (vB (v2 g_notin (vVar 1) (vVar 0)))
  (sRet (vVar 1))
  sNext)
  [1])
  (sRet (vC (.str "nobody"))))) T.F_stranger sc_stranger (own' := []) (.inl rfl) fun cdv A outer s H E hr tk hp =>
      (dss_cons (own1 := []) (ds_for (fg := [1]) (is := [1]) hp rfl (di_seq (DN.de (dn_lst (da_cons de_str (da_cons de_str (da_cons de_str (da_cons de_str (da_cons de_str (da_cons de_str da_nil))))))))) (dg_name (pg_name (i := 1) sc_stranger.nd rfl (by first | exact Or.inl rfl | exact Or.inr rfl)))
      (dss_one (ds_if (dt_cmp (op_notInAny (hu65 hr)) say_notin (de_var (pv 1)) (de_var (pv 0)) (by rfl))
      (dss_one (ds_ret rfl (de_var (pv 1))))
      dss_nil)) (by decide))
      (dss_one (ds_ret rfl de_str)))
theorem ok_wrong_row (T : Tx K mg) : FnOk P w K mg base (L2.CX P w) 2 T.f_wrong_row T.d_wrong_row ["_law_cell", "_law_values", "_law_many", "_law_names_here"] (spK mg none 4 m_wrong_row) :=
  def_ok (N := N_wrong_row) (F := (sSeq (sAsg [] 4 (vCallN 3 G4.m_digit (aCons (vVar 0) (aCons (vC (.int 1013)) (aCons (vC (.int 2)) aNil)))))
  (sSeq (sAsg [] 5 (v2 g_ix (vLstOf (nLst (aCons (vC (.str "shared")) (aCons (vC (.str "own")) aNil)))) (vVar 4)))
  (sSeq (sAsg [] 6 (v2 g_ix (vLstOf (nLst (aCons (vC (.int 0)) (aCons (vC (.int 1)) (aCons (vC (.int 900)) aNil))))) (vCallN 3 G4.m_digit (aCons (vVar 0) (aCons (vC (.int 1019)) (aCons (vC (.int 3)) aNil))))))
  (sSeq (sAsg [] 7 (vCallN 3 G4.m_digit (aCons (vVar 0) (aCons (vC (.int 1109)) (aCons (vC (.int 6)) aNil)))))
  (sSeq (sIf (vB (v2 g_eq (vVar 7) (vC (.int 0))))
  (sRet (vTup (aCons (vC (.str "call")) (aCons (vCallN 1 m_stranger (aCons (vVar 3) aNil)) aNil))))
  sNext)
  (sSeq (sIf (vB (v2 g_eq (vVar 7) (vC (.int 1))))
  (sRet (vTup (aCons (vC (.str "set")) (aCons (vVar 5) (aCons (v2 g_add (v2 g_ix (vVar 1) (vVar 4)) (vVar 6)) aNil)))))
  sNext)
  (sSeq (sIf (vB (v2 g_eq (vVar 7) (vC (.int 2))))
  (sRet (vTup (aCons (v2 g_ix (vLstOf (nLst (aCons (vC (.str "go")) (aCons (vC (.str "fork")) aNil)))) (vVar 4)) (aCons (v2 g_add (vVar 2) (vVar 6)) aNil))))
  sNext)
  (sSeq (sIf (vB (v2 g_eq (vVar 7) (vC (.int 3))))
  (sRet (vTup (aCons (vC (.str "if")) (aCons (vVar 5) (aCons (v2 g_add (v2 g_ix (vVar 1) (vVar 4)) (vVar 6)) (aCons (v2 g_add (vVar 2) (vVar 6)) aNil))))))
  sNext)
  (sSeq (sIf (vB (v2 g_eq (vVar 7) (vC (.int 4))))
  (sRet (vTup (aCons (vC (.str "if")) (aCons (vVar 5) (aCons (vC (.int 0)) (aCons (v2 g_add (vVar 2) (vVar 6)) aNil))))))
  sNext)
  (sRet (vTup (aCons (vC (.str "skip")) aNil))))))))))))) T.F_wrong_row sc_wrong_row (own' := []) (.inl rfl) fun cdv A outer s H E hr tk hp =>
      (dss_cons (own1 := []) (ds_asg (j := 4) (ae_set (j := 4) sc_wrong_row.nd rfl (.inl rfl) (de_call (ok_digit T) tk (hr.mono (by decide)) (by rfl) T.g_digit T.F_digit.kp T.b_digit (da_cons (de_var (pv 0)) (da_cons de_int (da_cons de_int da_nil))))))
      (dss_cons (own1 := []) (ds_asg (j := 5) (ae_set (j := 5) sc_wrong_row.nd rfl (.inl rfl) (de_ix (ix_any (hu1 hr)) say_ix (DN.de (dn_lst (da_cons de_str (da_cons de_str da_nil)))) (de_var (pv 4)) (fun _ _ => rfl))))
      (dss_cons (own1 := []) (ds_asg (j := 6) (ae_set (j := 6) sc_wrong_row.nd rfl (.inl rfl) (de_ix (ix_any (hu1 hr)) say_ix (DN.de (dn_lst (da_cons de_int (da_cons de_int (da_cons de_int da_nil))))) (de_call (ok_digit T) tk (hr.mono (by decide)) (by rfl) T.g_digit T.F_digit.kp T.b_digit (da_cons (de_var (pv 0)) (da_cons de_int (da_cons de_int da_nil)))) (fun _ _ => rfl))))
      (dss_cons (own1 := []) (ds_asg (j := 7) (ae_set (j := 7) sc_wrong_row.nd rfl (.inl rfl) (de_call (ok_digit T) tk (hr.mono (by decide)) (by rfl) T.g_digit T.F_digit.kp T.b_digit (da_cons (de_var (pv 0)) (da_cons de_int (da_cons de_int da_nil))))))
      (dss_cons (own1 := []) (ds_if (dt_cmp (op_eqD (hu64 hr)) say_eq (de_var (pv 7)) de_int (nomark _))
      (dss_one (ds_ret rfl (de_tup (da_cons de_str (da_cons (de_call (ok_stranger T) tk (hr.mono (by decide)) (by rfl) T.g_stranger T.F_stranger.kp T.b_stranger (da_cons (de_var (pv 3)) da_nil)) da_nil)))))
      dss_nil)
      (dss_cons (own1 := []) (ds_if (dt_cmp (op_eqD (hu64 hr)) say_eq (de_var (pv 7)) de_int (nomark _))
      (dss_one (ds_ret rfl (de_tup (da_cons de_str (da_cons (de_var (pv 5)) (da_cons (de_op op_addAny say_add (de_ix (ix_any (hu1 hr)) say_ix (de_var (pv 1)) (de_var (pv 4)) (fun _ _ => rfl)) (de_var (pv 6))) da_nil))))))
      dss_nil)
      (dss_cons (own1 := []) (ds_if (dt_cmp (op_eqD (hu64 hr)) say_eq (de_var (pv 7)) de_int (nomark _))
      (dss_one (ds_ret rfl (de_tup (da_cons (de_ix (ix_any (hu1 hr)) say_ix (DN.de (dn_lst (da_cons de_str (da_cons de_str da_nil)))) (de_var (pv 4)) (fun _ _ => rfl)) (da_cons (de_op op_addAny say_add (de_var (pv 2)) (de_var (pv 6))) da_nil)))))
      dss_nil)
      (dss_cons (own1 := []) (ds_if (dt_cmp (op_eqD (hu64 hr)) say_eq (de_var (pv 7)) de_int (nomark _))
      (dss_one (ds_ret rfl (de_tup (da_cons de_str (da_cons (de_var (pv 5)) (da_cons (de_op op_addAny say_add (de_ix (ix_any (hu1 hr)) say_ix (de_var (pv 1)) (de_var (pv 4)) (fun _ _ => rfl)) (de_var (pv 6))) (da_cons (de_op op_addAny say_add (de_var (pv 2)) (de_var (pv 6))) da_nil)))))))
      dss_nil)
      (dss_cons (own1 := []) (ds_if (dt_cmp (op_eqD (hu64 hr)) say_eq (de_var (pv 7)) de_int (nomark _))
      (dss_one (ds_ret rfl (de_tup (da_cons de_str (da_cons (de_var (pv 5)) (da_cons de_int (da_cons (de_op op_addAny say_add (de_var (pv 2)) (de_var (pv 6))) da_nil)))))))
      dss_nil)
      (dss_one (ds_ret rfl (de_tup (da_cons de_str da_nil)))))))))))))
theorem ok_loose (T : Tx K mg) : FnOk P w K mg base (L2.CX P w) 3 T.f_loose T.d_loose ["_law_cells", "_law_values", "_law_names_here", "_law_seed"] (spK mg none 4 m_loose) :=
  def_ok (N := N_loose) (F := (sSeq (sAsg [] 4 (v2 g_ix (vLstOf (nLst (aCons (vC (.int 9)) (aCons (vC (.int 61)) aNil)))) (vCallN 3 G4.m_digit (aCons (vVar 3) (aCons (vC (.int 1163)) (aCons (vC (.int 2)) aNil))))))
  (sSeq (sAsgV 5 (vLstOf (nComp (iSeq (vVar 2)) [9] kName tTrue (vLstI (nLst aNil)) [9])))
  (sSeq (sFor [(5, .dp)] (iSeq (vVar 0)) [6] kName
  (sPAppI 5 (pIx 5 (pName 5) (vCallN 3 G4.m_digit (aCons (vVar 6) (aCons (vC (.int 1051)) (aCons (vCall c_len (aCons (vVar 2) aNil)) aNil))))) (vVar 6))
  [6])
  (sSeq (sAsg [(5, .dp)] 7 (vLstOf (nLst aNil)))
  (sSeq (sFor [(7, .sh), (5, .dp)] (iEnumD (vVar 2)) [8, 9] (kTup 2 (ksCons kName (ksCons kName ksNil)))
  (sSeq (sAsgV 10 (vLstI (nCat (v2 g_ix (vVar 5) (vVar 8)) (vLstOf (nLst (aCons (v2 g_add (vVar 3) (v2 g_mul (v2 g_mul (vC (.int 7)) (vVar 8)) (vVar 8))) aNil))))))
  (sSeq (sAsgV 11 (vLstI (nLst aNil)))
  (sSeq (sFor [(11, .dp), (7, .sh), (5, .dp)] (iEnumD (vVar 10)) [12, 6] (kTup 2 (ksCons kName (ksCons kName ksNil)))
  (sSeq (sAsg [(11, .dp), (7, .sh), (5, .dp)] 13 (vCallN 5 G4.m_row (aCons (vVar 6) (aCons (vVar 1) (aCons (vCall c_len (aCons (vVar 10) aNil)) (aCons (vVar 2) (aCons (v2 g_eq (vVar 12) (v2 g_sub (vCall c_len (aCons (vVar 10) aNil)) (vC (.int 1)))) aNil)))))))
  (sSeq (sIf (vB (v2 g_eq (vCallN 3 G4.m_digit (aCons (vVar 6) (aCons (vC (.int 1117)) (aCons (vVar 4) aNil)))) (vC (.int 4))))
  (sAsg [(11, .dp), (7, .sh), (5, .dp)] 13 (vCallN 4 m_wrong_row (aCons (vVar 6) (aCons (vVar 1) (aCons (vCall c_len (aCons (vVar 10) aNil)) (aCons (vVar 2) aNil))))))
  sNext)
  (sAppI 11 (vVar 13))))
  [6, 12, 13])
  (sApp [(7, .sh), (5, .dp)] 7 (vTup (aCons (vVar 9) (aCons (vVar 11) aNil)))))))
  [6, 8, 9, 10, 11, 12, 13])
  (sRet (vTup (aCons (v2 g_ix (vVar 1) (vC (.int 0))) (aCons (v2 g_ix (vVar 1) (vC (.int 1))) (aCons (vVar 7) aNil))))))))))) T.F_loose sc_loose (own' := [(5, .dp)]) (.inl rfl) fun cdv A outer s H E hr tk hp =>
      (dss_cons (own1 := []) (ds_asg (j := 4) (ae_set (j := 4) sc_loose.nd rfl (.inl rfl) (de_ix (ix_any (hu1 hr)) say_ix (DN.de (dn_lst (da_cons de_int (da_cons de_int da_nil)))) (de_call (ok_digit T) tk (hr.mono (by decide)) (by rfl) T.g_digit T.F_digit.kp T.b_digit (da_cons (de_var (pv 3)) (da_cons de_int (da_cons de_int da_nil)))) (fun _ _ => rfl))))
      (dss_cons (own1 := [(5, .dp)]) (ds_asgD (j := 5) (af_comp (i := 5) rfl sc_loose.nd rfl rfl (sw_true rfl rfl rfl (by decide +kernel)) (di_seq (de_var (pv 2))) (own := [("_law_name", 9)]) (blkOk_by (own := [("_law_name", 9)]) (N := N_loose) (sc := defScope s_loose) (by decide +kernel)) (is := [9]) (fun _ _ _ _ _ => (dg_name (pg_name (i := 9) sc_loose.nd rfl (by first | exact Or.inl rfl | exact Or.inr rfl)))) (fun _ _ _ _ _ => dts_nil) (fun _ _ _ _ _ => (DN.dp (dn_lst da_nil))) (by decide)))
      (dss_cons (own1 := [(5, .dp)]) (ds_for (fg := [6]) (is := [6]) hp rfl (di_seq (de_var (pv 0))) (dg_name (pg_name (i := 6) sc_loose.nd rfl (by first | exact Or.inl rfl | exact Or.inr rfl)))
      (dss_one (ds_pappI rfl (dp_ix (hu1 hr) rfl (dp_name (j := 5) rfl (pv 5)) (de_call (ok_digit T) takes0 (hr.mono (by decide)) (by rfl) T.g_digit T.F_digit.kp T.b_digit (da_cons (de_var (pv 6)) (da_cons de_int (da_cons (de_callB call_len say_len (by rfl) T.n_len (by decide +kernel) (da_cons (de_var (pv 2)) da_nil)) da_nil)))) (fun _ _ => rfl)) (de_var (pv 6)))) (by decide))
      (dss_cons (own1 := [(7, .sh), (5, .dp)]) (ds_asgS (j := 7) (af_set (j := 7) sc_loose.nd rfl (.inl rfl) (DN.sh (dn_lst da_nil))))
      (dss_cons (own1 := [(7, .sh), (5, .dp)]) (ds_for (fg := [6, 8, 9, 10, 11, 12, 13]) (is := [8, 9]) hp rfl (di_enum (by rfl) T.n_enumerate (de_var (pv 2))) (dg_tup rfl (dgs_cons (is := [8]) (dg_name (pg_name (i := 8) sc_loose.nd rfl (by first | exact Or.inl rfl | exact Or.inr rfl))) (dgs_cons (is := [9]) (dg_name (pg_name (i := 9) sc_loose.nd rfl (by first | exact Or.inl rfl | exact Or.inr rfl))) dgs_nil)))
      (dss_cons (own1 := [(10, .dp), (7, .sh), (5, .dp)]) (ds_asgD (j := 10) (af_set (j := 10) sc_loose.nd rfl (.inl rfl) (DN.dp (dn_cat (de_ix (ix_any (hu1 hr)) say_ix (de_var (pv 5)) (de_var (pv 8)) (fun _ _ => rfl)) (DN.de (dn_lst (da_cons (de_op op_addAny say_add (de_var (pv 3)) (de_op op_mul say_mul (de_op op_mul say_mul de_int (de_var (pv 8))) (de_var (pv 8)))) da_nil)))))))
      (dss_cons (own1 := [(11, .dp), (10, .dp), (7, .sh), (5, .dp)]) (ds_asgD (j := 11) (af_set (j := 11) sc_loose.nd rfl (.inl rfl) (DN.dp (dn_lst da_nil))))
      (dss_cons (own1 := [(11, .dp), (7, .sh), (5, .dp)]) (ds_freeze 10 (ds_for (fg := [6, 12, 13]) (is := [12, 6]) hp rfl (di_enum (by rfl) T.n_enumerate (de_var (pv 10))) (dg_tup rfl (dgs_cons (is := [12]) (dg_name (pg_name (i := 12) sc_loose.nd rfl (by first | exact Or.inl rfl | exact Or.inr rfl))) (dgs_cons (is := [6]) (dg_name (pg_name (i := 6) sc_loose.nd rfl (by first | exact Or.inl rfl | exact Or.inr rfl))) dgs_nil)))
      (dss_cons (own1 := [(11, .dp), (7, .sh), (5, .dp)]) (ds_asg (j := 13) (ae_set (j := 13) sc_loose.nd rfl (.inl rfl) (de_call (ok_row T) tk (hr.mono (by decide)) (by rfl) T.g_row T.F_row.kp T.b_row (da_cons (de_var (pv 6)) (da_cons (de_var (pv 1)) (da_cons (de_callB call_len say_len (by rfl) T.n_len (by decide +kernel) (da_cons (de_var (pv 10)) da_nil)) (da_cons (de_var (pv 2)) (da_cons (de_cmp (op_eqD (hu64 hr)) say_eq (de_var (pv 12)) (de_op op_sub say_sub (de_callB call_len say_len (by rfl) T.n_len (by decide +kernel) (da_cons (de_var (pv 10)) da_nil)) de_int) (nomark _)) da_nil))))))))
      (dss_cons (own1 := [(11, .dp), (7, .sh), (5, .dp)]) (ds_if (dt_cmp (op_eqD (hu64 hr)) say_eq (de_call (ok_digit T) tk (hr.mono (by decide)) (by rfl) T.g_digit T.F_digit.kp T.b_digit (da_cons (de_var (pv 6)) (da_cons de_int (da_cons (de_var (pv 4)) da_nil)))) de_int (nomark _))
      (dss_one (ds_asg (j := 13) (ae_set (j := 13) sc_loose.nd rfl (.inl rfl) (de_call (ok_wrong_row T) tk (hr.mono (by decide)) (by rfl) T.g_wrong_row T.F_wrong_row.kp T.b_wrong_row (da_cons (de_var (pv 6)) (da_cons (de_var (pv 1)) (da_cons (de_callB call_len say_len (by rfl) T.n_len (by decide +kernel) (da_cons (de_var (pv 10)) da_nil)) (da_cons (de_var (pv 2)) da_nil))))))))
      dss_nil)
      (dss_one (ds_appI (kd := .dp) (j := 11) rfl (pv 11) (de_var (pv 13)) (pe := fun {t} p => pe_append (pv 11) (p := p)))))) (by decide)))
      (dss_one (ds_freeze 11 (ds_app (j := 7) rfl (pv 7) (de_tup (da_cons (de_var (pv 9)) (da_cons (de_var (pv 11)) da_nil))) (pe := fun {t} p => pe_append (pv 7) (p := p)))))))) (by decide))
      (dss_one (ds_freeze 7 (ds_ret rfl (de_tup (da_cons (de_ix (ix_any (hu1 hr)) say_ix (de_var (pv 1)) de_int (fun _ _ => rfl)) (da_cons (de_ix (ix_any (hu1 hr)) say_ix (de_var (pv 1)) de_int (fun _ _ => rfl)) (da_cons (de_var (pv 7)) da_nil))))))))))))
theorem ok_row_word (T : Tx K mg) : FnOk P w K mg base (L2.CX P w) 1 T.f_row_word T.d_row_word ["_law_program", "_law_names_here", "_law_rows", "_law_at"] (spK mg none 4 m_row_word) :=
  def_ok (N := N_row_word) (F := (sSeq (sAsg [] 4 (v2 g_ix (vVar 2) (vVar 3)))
  (sSeq (sIf (tAndD (vB (v2 g_eq (v2 g_ix (vVar 4) (vC (.int 0))) (vC (.str "call")))) (vB (v2 g_notin (v2 g_ix (vVar 4) (vC (.int 1))) (vVar 1))))
  (sRet (vC (.str "name")))
  sNext)
  (sSeq (sIf (tOrD (vB (v2 g_eq (v2 g_ix (vVar 4) (vC (.int 0))) (vC (.str "set")))) (vB (v2 g_eq (v2 g_ix (vVar 4) (vC (.int 0))) (vC (.str "if")))))
  (sIf (vB (v2 (gI (fun i j => decide (j ≤ i))) (v2 g_ix (vVar 4) (vC (.int 2))) (v2 g_ix (vLstOf (nLst (aCons (v2 g_ix (vVar 0) (vC (.int 0))) (aCons (v2 g_ix (vVar 0) (vC (.int 1))) aNil)))) (vIndex (vLstOf (nLst (aCons (vC (.str "shared")) (aCons (vC (.str "own")) aNil)))) (v2 g_ix (vVar 4) (vC (.int 1)))))))
  (sRet (vC (.str "value")))
  sNext)
  sNext)
  (sSeq (sIf (tOrD (vB (v2 g_eq (v2 g_ix (vVar 4) (vC (.int 0))) (vC (.str "go")))) (tOrD (vB (v2 g_eq (v2 g_ix (vVar 4) (vC (.int 0))) (vC (.str "fork")))) (vB (v2 g_eq (v2 g_ix (vVar 4) (vC (.int 0))) (vC (.str "if"))))))
  (sIf (vB (v2 (gI (fun i j => decide (j ≤ i))) (v2 g_ix (vVar 4) (v1 g_neg (vC (.int 1)))) (vCall c_len (aCons (vVar 2) aNil))))
  (sRet (vC (.str "row")))
  sNext)
  sNext)
  (sSeq (sIf (tAndD (vB (v2 g_eq (vVar 3) (v2 g_sub (vCall c_len (aCons (vVar 2) aNil)) (vC (.int 1))))) (tAndD (vB (v2 g_ne (v2 g_ix (vVar 4) (vC (.int 0))) (vC (.str "go")))) (tAndD (vB (v2 g_ne (v2 g_ix (vVar 4) (vC (.int 0))) (vC (.str "back")))) (vB (v2 g_ne (v2 g_ix (vVar 4) (vC (.int 0))) (vC (.str "stop")))))))
  (sRet (vC (.str "row")))
  sNext)
  (sRet (vC (.str "none"))))))))) T.F_row_word sc_row_word (own' := []) (.inl rfl) fun cdv A outer s H E hr tk hp =>
      (dss_cons (own1 := []) (ds_asg (j := 4) (ae_set (j := 4) sc_row_word.nd rfl (.inl rfl) (de_ix (ix_any (hu1 hr)) say_ix (de_var (pv 2)) (de_var (pv 3)) (fun _ _ => rfl))))
      (dss_cons (own1 := []) (ds_if (DW.dt (dw_and (dt_cmp (op_eqD (hu64 hr)) say_eq (de_ix (ix_any (hu1 hr)) say_ix (de_var (pv 4)) de_int (fun _ _ => rfl)) de_str (nomark _)) (dw_and1 (dt_cmp (op_notInAny (hu65 hr)) say_notin (de_ix (ix_any (hu1 hr)) say_ix (de_var (pv 4)) de_int (fun _ _ => rfl)) (de_var (pv 1)) (by rfl)))))
      (dss_one (ds_ret rfl de_str))
      dss_nil)
      (dss_cons (own1 := []) (ds_if (DW.dt (dw_or (dt_cmp (op_eqD (hu64 hr)) say_eq (de_ix (ix_any (hu1 hr)) say_ix (de_var (pv 4)) de_int (fun _ _ => rfl)) de_str (nomark _)) (dw_or1 (dt_cmp (op_eqD (hu64 hr)) say_eq (de_ix (ix_any (hu1 hr)) say_ix (de_var (pv 4)) de_int (fun _ _ => rfl)) de_str (nomark _)))))
      (dss_one (ds_if (dt_cmp op_ge say_I (de_ix (ix_any (hu1 hr)) say_ix (de_var (pv 4)) de_int (fun _ _ => rfl)) (de_ix (ix_any (hu1 hr)) say_ix (DN.de (dn_lst (da_cons (de_ix (ix_any (hu1 hr)) say_ix (de_var (pv 0)) de_int (fun _ _ => rfl)) (da_cons (de_ix (ix_any (hu1 hr)) say_ix (de_var (pv 0)) de_int (fun _ _ => rfl)) da_nil)))) (de_index (hu65 hr) (DN.de (dn_lst (da_cons de_str (da_cons de_str da_nil)))) (de_ix (ix_any (hu1 hr)) say_ix (de_var (pv 4)) de_int (fun _ _ => rfl))) (fun _ _ => rfl)) (nomark _))
      (dss_one (ds_ret rfl de_str))
      dss_nil))
      dss_nil)
      (dss_cons (own1 := []) (ds_if (DW.dt (dw_or (dt_cmp (op_eqD (hu64 hr)) say_eq (de_ix (ix_any (hu1 hr)) say_ix (de_var (pv 4)) de_int (fun _ _ => rfl)) de_str (nomark _)) (dw_or (dt_cmp (op_eqD (hu64 hr)) say_eq (de_ix (ix_any (hu1 hr)) say_ix (de_var (pv 4)) de_int (fun _ _ => rfl)) de_str (nomark _)) (dw_or1 (dt_cmp (op_eqD (hu64 hr)) say_eq (de_ix (ix_any (hu1 hr)) say_ix (de_var (pv 4)) de_int (fun _ _ => rfl)) de_str (nomark _))))))
      (dss_one (ds_if (dt_cmp op_ge say_I (de_ix (ix_any (hu1 hr)) say_ix (de_var (pv 4)) (de_neg de_int) (fun _ _ => rfl)) (de_callB call_len say_len (by rfl) T.n_len (by decide +kernel) (da_cons (de_var (pv 2)) da_nil)) (nomark _))
      (dss_one (ds_ret rfl de_str))
      dss_nil))
      dss_nil)
      (dss_cons (own1 := []) (ds_if (DW.dt (dw_and (dt_cmp (op_eqD (hu64 hr)) say_eq (de_var (pv 3)) (de_op op_sub say_sub (de_callB call_len say_len (by rfl) T.n_len (by decide +kernel) (da_cons (de_var (pv 2)) da_nil)) de_int) (nomark _)) (dw_and (dt_cmp (op_neD (hu64 hr)) say_ne (de_ix (ix_any (hu1 hr)) say_ix (de_var (pv 4)) de_int (fun _ _ => rfl)) de_str (nomark _)) (dw_and (dt_cmp (op_neD (hu64 hr)) say_ne (de_ix (ix_any (hu1 hr)) say_ix (de_var (pv 4)) de_int (fun _ _ => rfl)) de_str (nomark _)) (dw_and1 (dt_cmp (op_neD (hu64 hr)) say_ne (de_ix (ix_any (hu1 hr)) say_ix (de_var (pv 4)) de_int (fun _ _ => rfl)) de_str (nomark _)))))))
      (dss_one (ds_ret rfl de_str))
      dss_nil)
      (dss_one (ds_ret rfl de_str)))))))
theorem ok_word (T : Tx K mg) : FnOk P w K mg base (L2.CX P w) 2 T.f_word T.d_word ["_law_program"] (spK mg none 1 m_word) :=
  def_ok (N := N_word) (F := (sSeq (sAsg [] 1 (vLstOf (nComp (iSeq (v2 g_ix (vVar 0) (vC (.int 2)))) [3, 4] (kTup 2 (ksCons kName (ksCons kName ksNil))) tTrue (vVar 3) [3, 4])))
  (sSeq (sFor [] (iEnumD (vVar 1)) [2, 3] (kTup 2 (ksCons kName (ksCons kName ksNil)))
  (sIf (vB (v2 g_in (vVar 3) (vSl (vVar 1) oNone (oSome (vVar 2)))))
  (sRet (vC (.str "twice")))
  sNext)
  [2, 3])
  (sSeq (sIf (vB (v2 g_notin (vC (.str "main")) (vVar 1)))
  (sRet (vC (.str "name")))
  sNext)
  (sSeq (sFor [] (iSeq (v2 g_ix (vVar 0) (vC (.int 2)))) [3, 4] (kTup 2 (ksCons kName (ksCons kName ksNil)))
  (sFor [] (iRange1 (vCall c_len (aCons (vVar 4) aNil))) [5] kName
  (sSeq (sAsg [] 6 (vCallN 4 m_row_word (aCons (vVar 0) (aCons (vVar 1) (aCons (vVar 4) (aCons (vVar 5) aNil))))))
  (sIf (vB (v2 g_ne (vVar 6) (vC (.str "none"))))
  (sRet (vVar 6))
  sNext))
  [5, 6])
  [3, 4, 5, 6])
  (sRet (vC (.str "none")))))))) T.F_word sc_word (own' := []) (.inl rfl) fun cdv A outer s H E hr tk hp =>
      (dss_cons (own1 := []) (ds_asg (j := 1) (AN.ae (an_comp (i := 1) rfl sc_word.nd rfl rfl (sw_true rfl rfl rfl (by decide +kernel)) (di_seq (de_ix (ix_any (hu1 hr)) say_ix (de_var (pv 0)) de_int (fun _ _ => rfl))) (own := [("_law_name", 3), ("_law_rows", 4)]) (blkOk_by (own := [("_law_name", 3), ("_law_rows", 4)]) (N := N_word) (sc := defScope s_word) (by decide +kernel)) (is := [3, 4]) (fun _ _ _ _ _ => (dg_tup rfl (dgs_cons (is := [3]) (dg_name (pg_name (i := 3) sc_word.nd rfl (by first | exact Or.inl rfl | exact Or.inr rfl))) (dgs_cons (is := [4]) (dg_name (pg_name (i := 4) sc_word.nd rfl (by first | exact Or.inl rfl | exact Or.inr rfl))) dgs_nil)))) (fun _ _ _ _ _ => dts_nil) (fun _ _ _ _ _ => (de_var (pv 3))) (by decide))))
      (dss_cons (own1 := []) (ds_for (fg := [2, 3]) (is := [2, 3]) hp rfl (di_enum (by rfl) T.n_enumerate (de_var (pv 1))) (dg_tup rfl (dgs_cons (is := [2]) (dg_name (pg_name (i := 2) sc_word.nd rfl (by first | exact Or.inl rfl | exact Or.inr rfl))) (dgs_cons (is := [3]) (dg_name (pg_name (i := 3) sc_word.nd rfl (by first | exact Or.inl rfl | exact Or.inr rfl))) dgs_nil)))
      (dss_one (ds_if (dt_cmp (op_inAny (hu65 hr)) say_in (de_var (pv 3)) (de_sl (de_var (pv 1)) do_none (do_some (de_var (pv 2)))) (by rfl))
      (dss_one (ds_ret rfl de_str))
      dss_nil)) (by decide))
      (dss_cons (own1 := []) (ds_if (dt_cmp (op_notInAny (hu65 hr)) say_notin de_str (de_var (pv 1)) (by rfl))
      (dss_one (ds_ret rfl de_str))
      dss_nil)
      (dss_cons (own1 := []) (ds_for (fg := [3, 4, 5, 6]) (is := [3, 4]) hp rfl (di_seq (de_ix (ix_any (hu1 hr)) say_ix (de_var (pv 0)) de_int (fun _ _ => rfl))) (dg_tup rfl (dgs_cons (is := [3]) (dg_name (pg_name (i := 3) sc_word.nd rfl (by first | exact Or.inl rfl | exact Or.inr rfl))) (dgs_cons (is := [4]) (dg_name (pg_name (i := 4) sc_word.nd rfl (by first | exact Or.inl rfl | exact Or.inr rfl))) dgs_nil)))
      (dss_one (ds_for (fg := [5, 6]) (is := [5]) hp rfl (di_range1 (by rfl) T.n_range (de_callB call_len say_len (by rfl) T.n_len (by decide +kernel) (da_cons (de_var (pv 4)) da_nil))) (dg_name (pg_name (i := 5) sc_word.nd rfl (by first | exact Or.inl rfl | exact Or.inr rfl)))
      (dss_cons (own1 := []) (ds_asg (j := 6) (ae_set (j := 6) sc_word.nd rfl (.inl rfl) (de_call (ok_row_word T) tk (hr.mono (by decide)) (by rfl) T.g_row_word T.F_row_word.kp T.b_row_word (da_cons (de_var (pv 0)) (da_cons (de_var (pv 1)) (da_cons (de_var (pv 4)) (da_cons (de_var (pv 5)) da_nil)))))))
      (dss_one (ds_if (dt_cmp (op_neD (hu64 hr)) say_ne (de_var (pv 6)) de_str (nomark _))
      (dss_one (ds_ret rfl (de_var (pv 6))))
      dss_nil))) (by decide))) (by decide))
      (dss_one (ds_ret rfl de_str))))))
theorem ok_odd_row (T : Tx K mg) : FnOk P w K mg base (L2.CX P w) 2 T.f_odd_row T.d_odd_row ["_law_cell"] (spK mg none 1 m_odd_row) :=
  def_ok (N := N_odd_row) (F := (sSeq (sAsg [] 1 (vLstOf (nLst (aCons (vC (.str "")) (aCons (vC (.str "skip 1")) (aCons (vC (.str "skip ")) (aCons (vC (.str "set own")) (aCons (vC (.str "set 1")) (aCons (vC (.str "set both 1")) (aCons (vC (.str "set own 01")) (aCons (vC (.str "set own 1000")) (aCons (vC (.str "set shared -1")) aNil))))))))))))
  (sSeq (sAsg [] 1 (v2 g_add (vVar 1) (vLstOf (nLst (aCons (vC (.str "set shared x")) (aCons (vC (.str "any")) (aCons (vC (.str "any mine")) (aCons (vC (.str "any own 1")) (aCons (vC (.str "turn")) (aCons (vC (.str "if own 1")) (aCons (vC (.str "if own 1 2 3")) (aCons (vC (.str "if own 01 2")) aNil))))))))))))
  (sSeq (sAsg [] 1 (v2 g_add (vVar 1) (vLstOf (nLst (aCons (vC (.str "if own 1 02")) (aCons (vC (.str "if 1 2")) (aCons (vC (.str "go")) (aCons (vC (.str "go f")) (aCons (vC (.str "go 00")) (aCons (vC (.str "go 1 2")) (aCons (vC (.str "fork")) (aCons (vC (.str "fork 0001")) (aCons (vC (.str "call")) (aCons (vC (.str "call F")) aNil))))))))))))))
  (sSeq (sAsg [] 1 (v2 g_add (vVar 1) (vLstOf (nLst (aCons (vC (.str "call f1")) (aCons (vC (.str "call abcdefghi")) (aCons (vC (.str "call f f")) (aCons (vC (.str "back 0")) (aCons (vC (.str "stop 0")) (aCons (vC (.str "Stop")) (aCons (vC (.str "jump 1")) (aCons (vC (.str "values 1 1")) (aCons (vC (.str "go +1")) aNil)))))))))))))
  (sSeq (sAsg [] 1 (v2 g_add (vVar 1) (vLstOf (nLst (aCons (vC (.str "1")) aNil)))))
  (sRet (v2 g_ix (vVar 1) (vCallN 3 G4.m_digit (aCons (vVar 0) (aCons (vC (.int 1123)) (aCons (vC (.int 37)) aNil)))))))))))) T.F_odd_row sc_odd_row (own' := []) (.inl rfl) fun cdv A outer s H E hr tk hp =>
      (dss_cons (own1 := []) (ds_asg (j := 1) (ae_set (j := 1) sc_odd_row.nd rfl (.inl rfl) (DN.de (dn_lst (da_cons de_str (da_cons de_str (da_cons de_str (da_cons de_str (da_cons de_str (da_cons de_str (da_cons de_str (da_cons de_str (da_cons de_str da_nil)))))))))))))
      (dss_cons (own1 := []) (ds_asg (j := 1) (ae_set (j := 1) sc_odd_row.nd rfl (.inl rfl) (de_op op_addAny say_add (de_var (pv 1)) (DN.de (dn_lst (da_cons de_str (da_cons de_str (da_cons de_str (da_cons de_str (da_cons de_str (da_cons de_str (da_cons de_str (da_cons de_str da_nil)))))))))))))
      (dss_cons (own1 := []) (ds_asg (j := 1) (ae_set (j := 1) sc_odd_row.nd rfl (.inl rfl) (de_op op_addAny say_add (de_var (pv 1)) (DN.de (dn_lst (da_cons de_str (da_cons de_str (da_cons de_str (da_cons de_str (da_cons de_str (da_cons de_str (da_cons de_str (da_cons de_str (da_cons de_str (da_cons de_str da_nil)))))))))))))))
      (dss_cons (own1 := []) (ds_asg (j := 1) (ae_set (j := 1) sc_odd_row.nd rfl (.inl rfl) (de_op op_addAny say_add (de_var (pv 1)) (DN.de (dn_lst (da_cons de_str (da_cons de_str (da_cons de_str (da_cons de_str (da_cons de_str (da_cons de_str (da_cons de_str (da_cons de_str (da_cons de_str da_nil))))))))))))))
      (dss_cons (own1 := []) (ds_asg (j := 1) (ae_set (j := 1) sc_odd_row.nd rfl (.inl rfl) (de_op op_addAny say_add (de_var (pv 1)) (DN.de (dn_lst (da_cons de_str da_nil))))))
      (dss_one (ds_ret rfl (de_ix (ix_any (hu1 hr)) say_ix (de_var (pv 1)) (de_call (ok_digit T) tk (hr.mono (by decide)) (by rfl) T.g_digit T.F_digit.kp T.b_digit (da_cons (de_var (pv 0)) (da_cons de_int (da_cons de_int da_nil)))) (fun _ _ => rfl)))))))))
theorem ok_odd_first (T : Tx K mg) : FnOk P w K mg base (L2.CX P w) 2 T.f_odd_first T.d_odd_first ["_law_cell"] (spK mg none 1 m_odd_first) :=
  def_ok (N := N_odd_first) (F := (sSeq (sAsg [] 1 (vLstOf (nLst (aCons (vC (.str "values 0 1")) (aCons (vC (.str "values 1 5")) (aCons (vC (.str "values 2")) (aCons (vC (.str "values")) (aCons (vC (.str "values 1 1 1")) (aCons (vC (.str "value 1 1")) (aCons (vC (.str "values 01 1")) (aCons (vC (.str "values 1 -1")) aNil)))))))))))
  (sSeq (sAsg [] 1 (v2 g_add (vVar 1) (vLstOf (nLst (aCons (vC (.str "values 10 1")) (aCons (vC (.str "Values 1 1")) (aCons (vC (.str "")) (aCons (vC (.str "values x 1")) (aCons (vC (.str "1 1")) (aCons (vC (.str "values 1 1 ")) aNil))))))))))
  (sRet (v2 g_ix (vVar 1) (vCallN 3 G4.m_digit (aCons (vVar 0) (aCons (vC (.int 1123)) (aCons (vC (.int 14)) aNil))))))))) T.F_odd_first sc_odd_first (own' := []) (.inl rfl) fun cdv A outer s H E hr tk hp =>
      (dss_cons (own1 := []) (ds_asg (j := 1) (ae_set (j := 1) sc_odd_first.nd rfl (.inl rfl) (DN.de (dn_lst (da_cons de_str (da_cons de_str (da_cons de_str (da_cons de_str (da_cons de_str (da_cons de_str (da_cons de_str (da_cons de_str da_nil))))))))))))
      (dss_cons (own1 := []) (ds_asg (j := 1) (ae_set (j := 1) sc_odd_first.nd rfl (.inl rfl) (de_op op_addAny say_add (de_var (pv 1)) (DN.de (dn_lst (da_cons de_str (da_cons de_str (da_cons de_str (da_cons de_str (da_cons de_str (da_cons de_str da_nil)))))))))))
      (dss_one (ds_ret rfl (de_ix (ix_any (hu1 hr)) say_ix (de_var (pv 1)) (de_call (ok_digit T) tk (hr.mono (by decide)) (by rfl) T.g_digit T.F_digit.kp T.b_digit (da_cons (de_var (pv 0)) (da_cons de_int (da_cons de_int da_nil)))) (fun _ _ => rfl))))))
theorem ok_odd_text (T : Tx K mg) : FnOk P w K mg base (L2.CX P w) 2 T.f_odd_text T.d_odd_text ["_law_cell"] (spK mg none 1 m_odd_text) :=
  def_ok (N := N_odd_text) (F := (sSeq (sAsg [] 1 (vLstOf (nLst (aCons (vC (.str "")) (aCons (vC (.str "values 2 1")) (aCons (vC (.str "values 2 1; ")) (aCons (vC (.str "values 2 1;")) (aCons (vC (.str "main: stop")) (aCons (vC (.str "values 1 1; main")) (aCons (vC (.str "values 1 1; main:")) aNil))))))))))
  (sSeq (sAsg [] 1 (v2 g_add (vVar 1) (vLstOf (nLst (aCons (vC (.str "values 1 1; main: ")) (aCons (vC (.str "values 1 1; main: stop, ")) (aCons (vC (.str "values 1 1; main: stop;")) aNil)))))))
  (sSeq (sAsg [] 1 (v2 g_add (vVar 1) (vLstOf (nLst (aCons (vC (.str "values 1 1; main: stop; ")) (aCons (vC (.str "values 1 1, main: stop")) (aCons (vC (.str "values 1 1; main: stop, f: stop")) aNil)))))))
  (sSeq (sAsg [] 1 (v2 g_add (vVar 1) (vLstOf (nLst (aCons (vC (.str "values 1 1; main: f: stop")) (aCons (vC (.str "; values 1 1; main: stop")) (aCons (vC (.str "values 1 1; values 1 1; main: stop")) aNil)))))))
  (sRet (v2 g_ix (vVar 1) (vCallN 3 G4.m_digit (aCons (vVar 0) (aCons (vC (.int 1123)) (aCons (vC (.int 16)) aNil))))))))))) T.F_odd_text sc_odd_text (own' := []) (.inl rfl) fun cdv A outer s H E hr tk hp =>
      (dss_cons (own1 := []) (ds_asg (j := 1) (ae_set (j := 1) sc_odd_text.nd rfl (.inl rfl) (DN.de (dn_lst (da_cons de_str (da_cons de_str (da_cons de_str (da_cons de_str (da_cons de_str (da_cons de_str (da_cons de_str da_nil)))))))))))
      (dss_cons (own1 := []) (ds_asg (j := 1) (ae_set (j := 1) sc_odd_text.nd rfl (.inl rfl) (de_op op_addAny say_add (de_var (pv 1)) (DN.de (dn_lst (da_cons de_str (da_cons de_str (da_cons de_str da_nil))))))))
      (dss_cons (own1 := []) (ds_asg (j := 1) (ae_set (j := 1) sc_odd_text.nd rfl (.inl rfl) (de_op op_addAny say_add (de_var (pv 1)) (DN.de (dn_lst (da_cons de_str (da_cons de_str (da_cons de_str da_nil))))))))
      (dss_cons (own1 := []) (ds_asg (j := 1) (ae_set (j := 1) sc_odd_text.nd rfl (.inl rfl) (de_op op_addAny say_add (de_var (pv 1)) (DN.de (dn_lst (da_cons de_str (da_cons de_str (da_cons de_str da_nil))))))))
      (dss_one (ds_ret rfl (de_ix (ix_any (hu1 hr)) say_ix (de_var (pv 1)) (de_call (ok_digit T) tk (hr.mono (by decide)) (by rfl) T.g_digit T.F_digit.kp T.b_digit (da_cons (de_var (pv 0)) (da_cons de_int (da_cons de_int da_nil)))) (fun _ _ => rfl))))))))
theorem ok_pieces (T : Tx K mg) : FnOk P w K mg base (L2.CX P w) 3 T.f_pieces T.d_pieces ["_law_program", "_law_lot", "_law_cell"] (spK mg none 3 m_pieces) :=
  def_ok (N := N_pieces) (F := (sSeq (sAsg [] 3 (vLstOf (nLst (aCons (v2 g_add (v2 g_add (v2 g_add (vC (.str "values ")) (vCall c_str (aCons (v2 g_ix (vVar 0) (vC (.int 0))) aNil))) (vC (.str " "))) (vCall c_str (aCons (v2 g_ix (vVar 0) (vC (.int 1))) aNil))) aNil))))
  (sSeq (sIf (vB (v2 g_eq (vVar 1) (vC (.int 4))))
  (sAsg [(3, .sh)] 3 (vLstOf (nLst (aCons (vCallN 1 m_odd_first (aCons (vVar 2) aNil)) aNil))))
  sNext)
  (sSeq (sAsg [(3, .sh)] 4 (vCallN 3 G4.m_digit (aCons (vVar 2) (aCons (vC (.int 1129)) (aCons (vCall c_len (aCons (v2 g_ix (vVar 0) (vC (.int 2))) aNil)) aNil)))))
  (sSeq (sFor [(3, .sh)] (iRange1 (vCall c_len (aCons (v2 g_ix (vVar 0) (vC (.int 2))) aNil))) [5] kName
  (sThen (sSeq (sAsg [(3, .sh)] 6 (vLstOf (nComp (iSeq (v2 g_ix (v2 g_ix (v2 g_ix (vVar 0) (vC (.int 2))) (vVar 5)) (vC (.int 1)))) [8] kName tTrue (vJoin (vC (.str " ")) (vLstOf (nComp (iSeq (vVar 8)) [9] kName tTrue (vCall c_str (aCons (vVar 9) aNil)) [9]))) [8])))
  (sSeq (sIf (tAndD (vB (v2 g_eq (vVar 1) (vC (.int 3)))) (vB (v2 g_eq (vVar 5) (vVar 4))))
  (sSetL [(6, .sh), (3, .sh)] 6 (vCallN 3 G4.m_digit (aCons (vVar 2) (aCons (vC (.int 1151)) (aCons (vCall c_len (aCons (vVar 6) aNil)) aNil)))) (vCallN 1 m_odd_row (aCons (vVar 2) aNil)))
  sNext)
  (sSeq (sAsg [(6, .sh), (3, .sh)] 7 (v2 g_ix (v2 g_ix (v2 g_ix (vVar 0) (vC (.int 2))) (vVar 5)) (vC (.int 0))))
  (sSeq (sIf (tAndD (vB (v2 g_eq (vVar 1) (vC (.int 5)))) (vB (v2 g_eq (vVar 5) (vVar 4))))
  (sAsg [(6, .sh), (3, .sh)] 7 (v2 g_ix (vLstOf (nLst (aCons (vC (.str "")) (aCons (vC (.str "F")) (aCons (vC (.str "f1")) (aCons (vC (.str "abcdefghi")) (aCons (vC (.str "f f")) (aCons (vC (.str "main ")) (aCons (vC (.str "1")) aNil))))))))) (vCallN 3 G4.m_digit (aCons (vVar 2) (aCons (vC (.int 1123)) (aCons (vC (.int 7)) aNil))))))
  sNext)
  (sAppI 3 (v2 g_add (v2 g_add (vVar 7) (vC (.str ": "))) (vJoin (vC (.str ", ")) (vVar 6)))))))) fun ρ => ρ.set 6 none)
  [5, 6, 7])
  (sRet (vJoin (vC (.str "; ")) (vVar 3)))))))) T.F_pieces sc_pieces (own' := [(3, .sh)]) (.inl rfl) fun cdv A outer s H E hr tk hp =>
      (dss_cons (own1 := [(3, .sh)]) (ds_asgS (j := 3) (af_set (j := 3) sc_pieces.nd rfl (.inl rfl) (DN.sh (dn_lst (da_cons (de_op op_addAny say_add (de_op op_addAny say_add (de_op op_addAny say_add de_str (de_callTy call_strD say_strD (by rfl) T.n_str (by decide +kernel) (da_cons (de_ix (ix_any (hu1 hr)) say_ix (de_var (pv 0)) de_int (fun _ _ => rfl)) da_nil))) de_str) (de_callTy call_strD say_strD (by rfl) T.n_str (by decide +kernel) (da_cons (de_ix (ix_any (hu1 hr)) say_ix (de_var (pv 0)) de_int (fun _ _ => rfl)) da_nil))) da_nil)))))
      (dss_cons (own1 := [(3, .sh)]) (ds_if (dt_cmp (op_eqD (hu64 hr)) say_eq (de_var (pv 1)) de_int (nomark _))
      (dss_one (ds_asgS (j := 3) (af_set (j := 3) sc_pieces.nd rfl (.inl rfl) (DN.sh (dn_lst (da_cons (de_call (ok_odd_first T) tk (hr.mono (by decide)) (by rfl) T.g_odd_first T.F_odd_first.kp T.b_odd_first (da_cons (de_var (pv 2)) da_nil)) da_nil))))))
      dss_nil)
      (dss_cons (own1 := [(3, .sh)]) (ds_asg (j := 4) (ae_set (j := 4) sc_pieces.nd rfl (.inl rfl) (de_call (ok_digit T) tk (hr.mono (by decide)) (by rfl) T.g_digit T.F_digit.kp T.b_digit (da_cons (de_var (pv 2)) (da_cons de_int (da_cons (de_callB call_len say_len (by rfl) T.n_len (by decide +kernel) (da_cons (de_ix (ix_any (hu1 hr)) say_ix (de_var (pv 0)) de_int (fun _ _ => rfl)) da_nil)) da_nil))))))
      (dss_cons (own1 := [(3, .sh)]) (ds_for (fg := [5, 6, 7]) (is := [5]) hp rfl (di_range1 (by rfl) T.n_range (de_callB call_len say_len (by rfl) T.n_len (by decide +kernel) (da_cons (de_ix (ix_any (hu1 hr)) say_ix (de_var (pv 0)) de_int (fun _ _ => rfl)) da_nil))) (dg_name (pg_name (i := 5) sc_pieces.nd rfl (by first | exact Or.inl rfl | exact Or.inr rfl)))
      (dss_drop 6 (dss_cons (own1 := [(6, .sh), (3, .sh)]) (ds_asgS (j := 6) (AN.sh (an_comp (i := 6) rfl sc_pieces.nd rfl rfl (sw_true rfl rfl rfl (by decide +kernel)) (di_seq (de_ix (ix_any (hu1 hr)) say_ix (de_ix (ix_any (hu1 hr)) say_ix (de_ix (ix_any (hu1 hr)) say_ix (de_var (pv 0)) de_int (fun _ _ => rfl)) (de_var (pv 5)) (fun _ _ => rfl)) de_int (fun _ _ => rfl))) (own := [("_law_row_here", 8)]) (blkOk_by (own := [("_law_row_here", 8)]) (N := N_pieces) (sc := defScope s_pieces) (by decide +kernel)) (is := [8]) (fun _ _ _ _ _ => (dg_name (pg_name (i := 8) sc_pieces.nd rfl (by first | exact Or.inl rfl | exact Or.inr rfl)))) (fun _ _ _ _ _ => dts_nil) (fun _ _ _ _ _ => (de_join de_str (DN.de (dn_comp rfl sc_pieces.nd (di_seq (de_var (pv 8))) (own := [("_law_word_here", 9)]) (blkOk_by (own := [("_law_word_here", 9)]) (N := N_pieces) (sc := relS _ (defScope s_pieces)) (by decide +kernel)) (is := [9]) (fun _ _ _ _ _ => (dg_name (pg_name (i := 9) sc_pieces.nd rfl (by first | exact Or.inl rfl | exact Or.inr rfl)))) (fun _ _ _ _ _ => dts_nil) (fun _ _ _ _ _ => (de_callTy call_strD say_strD (by rfl) T.n_str (by decide +kernel) (da_cons (de_var (pv 9)) da_nil))) (by decide))))) (by decide))))
      (dss_cons (own1 := [(6, .sh), (3, .sh)]) (ds_if (DW.dt (dw_and (dt_cmp (op_eqD (hu64 hr)) say_eq (de_var (pv 1)) de_int (nomark _)) (dw_and1 (dt_cmp (op_eqD (hu64 hr)) say_eq (de_var (pv 5)) (de_var (pv 4)) (nomark _)))))
      (dss_one (ds_setL (j := 6) rfl (pv 6) (de_call (ok_digit T) tk (hr.mono (by decide)) (by rfl) T.g_digit T.F_digit.kp T.b_digit (da_cons (de_var (pv 2)) (da_cons de_int (da_cons (de_callB call_len say_len (by rfl) T.n_len (by decide +kernel) (da_cons (de_var (pv 6)) da_nil)) da_nil)))) (de_call (ok_odd_row T) tk (hr.mono (by decide)) (by rfl) T.g_odd_row T.F_odd_row.kp T.b_odd_row (da_cons (de_var (pv 2)) da_nil))))
      dss_nil)
      (dss_cons (own1 := [(6, .sh), (3, .sh)]) (ds_asg (j := 7) (ae_set (j := 7) sc_pieces.nd rfl (.inl rfl) (de_ix (ix_any (hu1 hr)) say_ix (de_ix (ix_any (hu1 hr)) say_ix (de_ix (ix_any (hu1 hr)) say_ix (de_var (pv 0)) de_int (fun _ _ => rfl)) (de_var (pv 5)) (fun _ _ => rfl)) de_int (fun _ _ => rfl))))
      (dss_cons (own1 := [(6, .sh), (3, .sh)]) (ds_if (DW.dt (dw_and (dt_cmp (op_eqD (hu64 hr)) say_eq (de_var (pv 1)) de_int (nomark _)) (dw_and1 (dt_cmp (op_eqD (hu64 hr)) say_eq (de_var (pv 5)) (de_var (pv 4)) (nomark _)))))
      (dss_one (ds_asg (j := 7) (ae_set (j := 7) sc_pieces.nd rfl (.inl rfl) (de_ix (ix_any (hu1 hr)) say_ix (DN.de (dn_lst (da_cons de_str (da_cons de_str (da_cons de_str (da_cons de_str (da_cons de_str (da_cons de_str (da_cons de_str da_nil))))))))) (de_call (ok_digit T) tk (hr.mono (by decide)) (by rfl) T.g_digit T.F_digit.kp T.b_digit (da_cons (de_var (pv 2)) (da_cons de_int (da_cons de_int da_nil)))) (fun _ _ => rfl)))))
      dss_nil)
      (dss_one (ds_appI (kd := .sh) (j := 3) rfl (pv 3) (de_op op_addAny say_add (de_op op_addAny say_add (de_var (pv 7)) de_str) (de_join de_str (de_var (pv 6)))) (pe := fun {t} p => pe_append (pv 3) (p := p))))))))) (by decide))
      (dss_one (ds_ret rfl (de_join de_str (de_var (pv 3)))))))))
theorem ok_spoilt (T : Tx K mg) : FnOk P w K mg base (L2.CX P w) 2 T.f_spoilt T.d_spoilt ["_law_signs", "_law_lot", "_law_cell"] (spK mg none 3 m_spoilt) :=
  def_ok (N := N_spoilt) (F := (sSeq (sIf (vB (v2 g_eq (vVar 1) (vC (.int 0))))
  (sSeq (sAsg [] 3 (vC (.str "!\"#$&'()*+-./<=>?@ABCDEFGHIJKLMNOPQRSTUVWXYZ[\\]^_`{|}~\n\t")))
  (sSeq (sAsg [] 4 (vCallN 3 G4.m_digit (aCons (vVar 2) (aCons (vC (.int 9973)) (aCons (v2 g_add (vCall c_len (aCons (vVar 0) aNil)) (vC (.int 1))) aNil)))))
  (sRet (v2 g_add (v2 g_add (vSl (vVar 0) oNone (oSome (vVar 4))) (v2 g_ix (vVar 3) (vCallN 3 G4.m_digit (aCons (vVar 2) (aCons (vC (.int 1123)) (aCons (vCall c_len (aCons (vVar 3) aNil)) aNil)))))) (vSl (vVar 0) (oSome (vVar 4)) oNone)))))
  sNext)
  (sSeq (sIf (vB (v2 g_eq (vVar 1) (vC (.int 8))))
  (sSeq (sAsg [] 5 (vLstOf (nComp (iRange2 (vC (.int 1)) (vCall c_len (aCons (vVar 0) aNil))) [4] kName (tAndD (vB (v2 g_eq (v2 g_ix (vVar 0) (v2 g_sub (vVar 4) (vC (.int 1)))) (vC (.str " ")))) (vB (v2 g_in (v2 g_ix (vVar 0) (vVar 4)) (vC (.str "0123456789"))))) (vVar 4) [4])))
  (sSeq (sAsg [] 4 (v2 g_ix (vVar 5) (vCallN 3 G4.m_digit (aCons (vVar 2) (aCons (vC (.int 9973)) (aCons (vCall c_len (aCons (vVar 5) aNil)) aNil))))))
  (sRet (v2 g_add (v2 g_add (vSl (vVar 0) oNone (oSome (vVar 4))) (vC (.str "0"))) (vSl (vVar 0) (oSome (vVar 4)) oNone)))))
  sNext)
  (sSeq (sAsg [] 6 (vLstOf (nComp (iRange1 (vCall c_len (aCons (vVar 0) aNil))) [4] kName (vB (v2 g_eq (v2 g_ix (vVar 0) (vVar 4)) (vC (.str " ")))) (vVar 4) [4])))
  (sSeq (sAsg [] 4 (v2 g_ix (vVar 6) (vCallN 3 G4.m_digit (aCons (vVar 2) (aCons (vC (.int 9973)) (aCons (vCall c_len (aCons (vVar 6) aNil)) aNil))))))
  (sSeq (sIf (vB (v2 g_eq (vVar 1) (vC (.int 1))))
  (sRet (v2 g_add (v2 g_add (vSl (vVar 0) oNone (oSome (vVar 4))) (vC (.str " "))) (vSl (vVar 0) (oSome (vVar 4)) oNone)))
  sNext)
  (sRet (v2 g_add (vSl (vVar 0) oNone (oSome (vVar 4))) (vSl (vVar 0) (oSome (v2 g_add (vVar 4) (vC (.int 1)))) oNone))))))))) T.F_spoilt sc_spoilt (own' := []) (.inl rfl) fun cdv A outer s H E hr tk hp =>
      (dss_cons (own1 := []) (ds_if (dt_cmp (op_eqD (hu64 hr)) say_eq (de_var (pv 1)) de_int (nomark _))
      (dss_cons (own1 := []) (ds_asg (j := 3) (ae_set (j := 3) sc_spoilt.nd rfl (.inl rfl) de_str))
      (dss_cons (own1 := []) (ds_asg (j := 4) (ae_set (j := 4) sc_spoilt.nd rfl (.inl rfl) (de_call (ok_digit T) tk (hr.mono (by decide)) (by rfl) T.g_digit T.F_digit.kp T.b_digit (da_cons (de_var (pv 2)) (da_cons de_int (da_cons (de_op op_addAny say_add (de_callB call_len say_len (by rfl) T.n_len (by decide +kernel) (da_cons (de_var (pv 0)) da_nil)) de_int) da_nil))))))
      (dss_one (ds_ret rfl (de_op op_addAny say_add (de_op op_addAny say_add (de_sl (de_var (pv 0)) do_none (do_some (de_var (pv 4)))) (de_ix (ix_any (hu1 hr)) say_ix (de_var (pv 3)) (de_call (ok_digit T) tk (hr.mono (by decide)) (by rfl) T.g_digit T.F_digit.kp T.b_digit (da_cons (de_var (pv 2)) (da_cons de_int (da_cons (de_callB call_len say_len (by rfl) T.n_len (by decide +kernel) (da_cons (de_var (pv 3)) da_nil)) da_nil)))) (fun _ _ => rfl))) (de_sl (de_var (pv 0)) (do_some (de_var (pv 4))) do_none))))))
      dss_nil)
      (dss_cons (own1 := []) (ds_if (dt_cmp (op_eqD (hu64 hr)) say_eq (de_var (pv 1)) de_int (nomark _))
      (dss_cons (own1 := []) (ds_asg (j := 5) (AN.ae (an_comp (i := 5) rfl sc_spoilt.nd rfl rfl (sw_true rfl rfl rfl (by decide +kernel)) (di_range2 (by rfl) T.n_range de_int (de_callB call_len say_len (by rfl) T.n_len (by decide +kernel) (da_cons (de_var (pv 0)) da_nil))) (own := [("_law_at", 4)]) (blkOk_by (own := [("_law_at", 4)]) (N := N_spoilt) (sc := defScope s_spoilt) (by decide +kernel)) (is := [4]) (fun _ _ _ _ _ => (dg_name (pg_name (i := 4) sc_spoilt.nd rfl (by first | exact Or.inl rfl | exact Or.inr rfl)))) (fun _ _ _ _ _ => (dts_one (DW.dt (dw_and (dt_cmp (op_eqD (hu64 hr)) say_eq (de_ix (ix_any (hu1 hr)) say_ix (de_var (pv 0)) (de_op op_sub say_sub (de_var (pv 4)) de_int) (fun _ _ => rfl)) de_str (nomark _)) (dw_and1 (dt_cmp (op_inAny (hu65 hr)) say_in (de_ix (ix_any (hu1 hr)) say_ix (de_var (pv 0)) (de_var (pv 4)) (fun _ _ => rfl)) de_str (by rfl))))))) (fun _ _ _ _ _ => (de_var (pv 4))) (by decide))))
      (dss_cons (own1 := []) (ds_asg (j := 4) (ae_set (j := 4) sc_spoilt.nd rfl (.inl rfl) (de_ix (ix_any (hu1 hr)) say_ix (de_var (pv 5)) (de_call (ok_digit T) tk (hr.mono (by decide)) (by rfl) T.g_digit T.F_digit.kp T.b_digit (da_cons (de_var (pv 2)) (da_cons de_int (da_cons (de_callB call_len say_len (by rfl) T.n_len (by decide +kernel) (da_cons (de_var (pv 5)) da_nil)) da_nil)))) (fun _ _ => rfl))))
      (dss_one (ds_ret rfl (de_op op_addAny say_add (de_op op_addAny say_add (de_sl (de_var (pv 0)) do_none (do_some (de_var (pv 4)))) de_str) (de_sl (de_var (pv 0)) (do_some (de_var (pv 4))) do_none))))))
      dss_nil)
      (dss_cons (own1 := []) (ds_asg (j := 6) (AN.ae (an_comp (i := 6) rfl sc_spoilt.nd rfl rfl (sw_true rfl rfl rfl (by decide +kernel)) (di_range1 (by rfl) T.n_range (de_callB call_len say_len (by rfl) T.n_len (by decide +kernel) (da_cons (de_var (pv 0)) da_nil))) (own := [("_law_at", 4)]) (blkOk_by (own := [("_law_at", 4)]) (N := N_spoilt) (sc := defScope s_spoilt) (by decide +kernel)) (is := [4]) (fun _ _ _ _ _ => (dg_name (pg_name (i := 4) sc_spoilt.nd rfl (by first | exact Or.inl rfl | exact Or.inr rfl)))) (fun _ _ _ _ _ => (dts_one (dt_cmp (op_eqD (hu64 hr)) say_eq (de_ix (ix_any (hu1 hr)) say_ix (de_var (pv 0)) (de_var (pv 4)) (fun _ _ => rfl)) de_str (nomark _)))) (fun _ _ _ _ _ => (de_var (pv 4))) (by decide))))
      (dss_cons (own1 := []) (ds_asg (j := 4) (ae_set (j := 4) sc_spoilt.nd rfl (.inl rfl) (de_ix (ix_any (hu1 hr)) say_ix (de_var (pv 6)) (de_call (ok_digit T) tk (hr.mono (by decide)) (by rfl) T.g_digit T.F_digit.kp T.b_digit (da_cons (de_var (pv 2)) (da_cons de_int (da_cons (de_callB call_len say_len (by rfl) T.n_len (by decide +kernel) (da_cons (de_var (pv 6)) da_nil)) da_nil)))) (fun _ _ => rfl))))
      (dss_cons (own1 := []) (ds_if (dt_cmp (op_eqD (hu64 hr)) say_eq (de_var (pv 1)) de_int (nomark _))
      (dss_one (ds_ret rfl (de_op op_addAny say_add (de_op op_addAny say_add (de_sl (de_var (pv 0)) do_none (do_some (de_var (pv 4)))) de_str) (de_sl (de_var (pv 0)) (do_some (de_var (pv 4))) do_none))))
      dss_nil)
      (dss_one (ds_ret rfl (de_op op_addAny say_add (de_sl (de_var (pv 0)) do_none (do_some (de_var (pv 4)))) (de_sl (de_var (pv 0)) (do_some (de_op op_addAny say_add (de_var (pv 4)) de_int)) do_none)))))))))
theorem ok_law_read (T : Tx K mg) : FnOk P w K mg base (L2.CX P w) 6 T.f_law_read T.d_law_read ["_law_signs"] (spK mg none 1 m_law_read) :=
  def_ok (N := N_law_read) (F := (sSeq (sAsg [] 1 (vC (.str "none")))
  (sSeq (sAsg [] 2 (vC .non))
  (sSeq (sTry (sAsg [] 2 (vCallN 1 m_read (aCons (vVar 0) aNil)))
  [([("NoName", false), ("NoRow", false), ("NoText", true), ("NoValue", false), ("Twice", false)], (sAsg [] 1 (vC (.str "text")))),
  ([("NoName", false), ("NoRow", false), ("NoText", false), ("NoValue", false), ("Twice", true)], (sAsg [] 1 (vC (.str "twice")))),
  ([("NoName", true), ("NoRow", false), ("NoText", false), ("NoValue", false), ("Twice", false)], (sAsg [] 1 (vC (.str "name")))),
  ([("NoName", false), ("NoRow", false), ("NoText", false), ("NoValue", true), ("Twice", false)], (sAsg [] 1 (vC (.str "value")))),
  ([("NoName", false), ("NoRow", true), ("NoText", false), ("NoValue", false), ("Twice", false)], (sAsg [] 1 (vC (.str "row"))))])
  (sRet (vTup (aCons (vVar 1) (aCons (vVar 2) aNil)))))))) T.F_law_read sc_law_read (own' := []) (.inl rfl) fun cdv A outer s H E hr tk hp =>
      (dss_cons (own1 := []) (ds_asg (j := 1) (ae_set (j := 1) sc_law_read.nd rfl (.inl rfl) de_str))
      (dss_cons (own1 := []) (ds_asg (j := 2) (ae_set (j := 2) sc_law_read.nd rfl (.inl rfl) de_non))
      (dss_cons (own1 := []) (ds_try rfl rfl tk (fun W pn xe tk hp => (dss_one (ds_asg (j := 2) (ae_set (j := 2) sc_law_read.nd rfl (.inl rfl) (de_call (ok_read T) tk (hr.mono (by decide)) (by rfl) T.g_read T.F_read.kp T.b_read (da_cons (de_var (pv 0)) da_nil))))))
      (.cons (x := "NoText") (hv := .ref T.xC_NoText) ⟨by rfl, by decide, .inl T.xh_NoText⟩ (tbl_cons T.xh_NoName T.xe_NoName_NoText (tbl_cons T.xh_NoRow T.xe_NoRow_NoText (tbl_cons T.xh_NoText T.xe_NoText_NoText (tbl_cons T.xh_NoValue T.xe_NoValue_NoText (tbl_cons T.xh_Twice T.xe_Twice_NoText tbl_nil))))) (fun a oe cls dd pn z v => (dss_one (ds_asg (j := 1) (ae_set (j := 1) sc_law_read.nd rfl (.inl rfl) de_str))))
      (.cons (x := "Twice") (hv := .ref T.xC_Twice) ⟨by rfl, by decide, .inl T.xh_Twice⟩ (tbl_cons T.xh_NoName T.xe_NoName_Twice (tbl_cons T.xh_NoRow T.xe_NoRow_Twice (tbl_cons T.xh_NoText T.xe_NoText_Twice (tbl_cons T.xh_NoValue T.xe_NoValue_Twice (tbl_cons T.xh_Twice T.xe_Twice_Twice tbl_nil))))) (fun a oe cls dd pn z v => (dss_one (ds_asg (j := 1) (ae_set (j := 1) sc_law_read.nd rfl (.inl rfl) de_str))))
      (.cons (x := "NoName") (hv := .ref T.xC_NoName) ⟨by rfl, by decide, .inl T.xh_NoName⟩ (tbl_cons T.xh_NoName T.xe_NoName_NoName (tbl_cons T.xh_NoRow T.xe_NoRow_NoName (tbl_cons T.xh_NoText T.xe_NoText_NoName (tbl_cons T.xh_NoValue T.xe_NoValue_NoName (tbl_cons T.xh_Twice T.xe_Twice_NoName tbl_nil))))) (fun a oe cls dd pn z v => (dss_one (ds_asg (j := 1) (ae_set (j := 1) sc_law_read.nd rfl (.inl rfl) de_str))))
      (.cons (x := "NoValue") (hv := .ref T.xC_NoValue) ⟨by rfl, by decide, .inl T.xh_NoValue⟩ (tbl_cons T.xh_NoName T.xe_NoName_NoValue (tbl_cons T.xh_NoRow T.xe_NoRow_NoValue (tbl_cons T.xh_NoText T.xe_NoText_NoValue (tbl_cons T.xh_NoValue T.xe_NoValue_NoValue (tbl_cons T.xh_Twice T.xe_Twice_NoValue tbl_nil))))) (fun a oe cls dd pn z v => (dss_one (ds_asg (j := 1) (ae_set (j := 1) sc_law_read.nd rfl (.inl rfl) de_str))))
      (.cons (x := "NoRow") (hv := .ref T.xC_NoRow) ⟨by rfl, by decide, .inl T.xh_NoRow⟩ (tbl_cons T.xh_NoName T.xe_NoName_NoRow (tbl_cons T.xh_NoRow T.xe_NoRow_NoRow (tbl_cons T.xh_NoText T.xe_NoText_NoRow (tbl_cons T.xh_NoValue T.xe_NoValue_NoRow (tbl_cons T.xh_Twice T.xe_Twice_NoRow tbl_nil))))) (fun a oe cls dd pn z v => (dss_one (ds_asg (j := 1) (ae_set (j := 1) sc_law_read.nd rfl (.inl rfl) de_str))))
      .nil))))))
      (dss_one (ds_ret rfl (de_tup (da_cons (de_var (pv 1)) (da_cons (de_var (pv 2)) da_nil))))))))
theorem ok_named (T : Tx K mg) : FnOk P w K mg base (L2.CX P w) 2 T.f_named T.d_named ["_law_cell", "_law_names_here"] (spK mg none 2 m_named) :=
  def_ok (N := N_named) (F := (sSeq (sAsg [] 2 (vCallN 3 G4.m_digit (aCons (vVar 0) (aCons (vC (.int 1097)) (aCons (vC (.int 9)) aNil)))))
  (sSeq (sIf (vB (v2 g_eq (vVar 2) (vC (.int 3))))
  (sRet (v2 g_add (vSl (vVar 1) oNone (oSome (v1 g_neg (vC (.int 1))))) (vLstOf (nRep (nLst (aCons (v2 g_ix (vVar 1) (vC (.int 0))) aNil)) (v2 g_add (vC (.int 1)) (vCall c_int (aCons (v2 g_eq (vCall c_len (aCons (vVar 1) aNil)) (vC (.int 1))) aNil)))))))
  sNext)
  (sSeq (sIf (vB (v2 g_eq (vVar 2) (vC (.int 5))))
  (sRet (vLstOf (nComp (iSeq (vVar 1)) [3] kName tTrue (v2 g_ix (vLstOf (nLst (aCons (vC (.str "q")) (aCons (vVar 3) aNil)))) (vCall c_int (aCons (v2 g_ne (vVar 3) (vC (.str "main"))) aNil))) [3])))
  sNext)
  (sRet (vVar 1)))))) T.F_named sc_named (own' := []) (.inl rfl) fun cdv A outer s H E hr tk hp =>
      (dss_cons (own1 := []) (ds_asg (j := 2) (ae_set (j := 2) sc_named.nd rfl (.inl rfl) (de_call (ok_digit T) tk (hr.mono (by decide)) (by rfl) T.g_digit T.F_digit.kp T.b_digit (da_cons (de_var (pv 0)) (da_cons de_int (da_cons de_int da_nil))))))
      (dss_cons (own1 := []) (ds_if (dt_cmp (op_eqD (hu64 hr)) say_eq (de_var (pv 2)) de_int (nomark _))
      (dss_one (ds_ret rfl (de_op op_addAny say_add (de_sl (de_var (pv 1)) do_none (do_some (de_neg de_int))) (DN.de (dn_rep (dn_lst (da_cons (de_ix (ix_any (hu1 hr)) say_ix (de_var (pv 1)) de_int (fun _ _ => rfl)) da_nil)) (de_op op_addAny say_add de_int (de_callTy call_int1 say_int (by rfl) T.n_int (by decide +kernel) (da_cons (de_cmp (op_eqD (hu64 hr)) say_eq (de_callB call_len say_len (by rfl) T.n_len (by decide +kernel) (da_cons (de_var (pv 1)) da_nil)) de_int (nomark _)) da_nil))))))))
      dss_nil)
      (dss_cons (own1 := []) (ds_if (dt_cmp (op_eqD (hu64 hr)) say_eq (de_var (pv 2)) de_int (nomark _))
      (dss_one (ds_ret rfl (DN.de (dn_comp rfl sc_named.nd (di_seq (de_var (pv 1))) (own := [("_law_name", 3)]) (blkOk_by (own := [("_law_name", 3)]) (N := N_named) (sc := defScope s_named) (by decide +kernel)) (is := [3]) (fun _ _ _ _ _ => (dg_name (pg_name (i := 3) sc_named.nd rfl (by first | exact Or.inl rfl | exact Or.inr rfl)))) (fun _ _ _ _ _ => dts_nil) (fun _ _ _ _ _ => (de_ix (ix_any (hu1 hr)) say_ix (DN.de (dn_lst (da_cons de_str (da_cons (de_var (pv 3)) da_nil)))) (de_callTy call_int1 say_int (by rfl) T.n_int (by decide +kernel) (da_cons (de_cmp (op_neD (hu64 hr)) say_ne (de_var (pv 3)) de_str (nomark _)) da_nil)) (fun _ _ => rfl))) (by decide)))))
      dss_nil)
      (dss_one (ds_ret rfl (de_var (pv 1)))))))
theorem ok_law (T : Tx K mg) : FnOk P w K mg base (L2.CX P w) 7 T.f_law T.d_law ["_law_script"] (spK mg none 1 m_law) :=
  def_ok (N := N_law) (F := (sSeq (sAsg [] 1 (vCallN 2 G4.m_cell_at (aCons (vVar 0) (aCons (vC (.int 0)) aNil))))
  (sSeq (sAsg [] 2 (vLstOf (nLst (aCons (v2 g_add (vC (.int 1)) (vCallN 3 G4.m_digit (aCons (vVar 1) (aCons (vC (.int 1033)) (aCons (vC (.int 4)) aNil))))) (aCons (v2 g_add (vC (.int 1)) (vCallN 3 G4.m_digit (aCons (vVar 1) (aCons (vC (.int 1039)) (aCons (vC (.int 4)) aNil))))) aNil)))))
  (sSeq (sAsg [] 3 (vCallN 2 m_named (aCons (vVar 1) (aCons (vCallN 1 G4.m_names (aCons (vCallN 2 G4.m_cell_at (aCons (vVar 0) (aCons (vC (.int 1)) aNil))) aNil)) aNil))))
  (sSeq (sAsg [] 4 (vCallN 4 m_loose (aCons (vSl (vVar 0) (oSome (vC (.int 2))) (oSome (vC (.int 62)))) (aCons (vVar 2) (aCons (vVar 3) (aCons (vVar 1) aNil))))))
  (sSeq (sAsg [] 5 (v2 g_ix (vLstOf (nLst (aCons (vC (.int 0)) (aCons (vC (.int 1)) (aCons (vC (.int 2)) (aCons (vC (.int 3)) (aCons (vC (.int 3)) (aCons (vC (.int 3)) (aCons (vC (.int 4)) (aCons (vC (.int 5)) (aCons (vC (.int 6)) (aCons (vC (.int 7)) (aCons (vC (.int 8)) (aCons (vC (.int 8)) (aCons (vC (.int 9)) aNil))))))))))))))) (vCall c_min2 (aCons (vC (.int 12)) (aCons (vCallN 3 G4.m_digit (aCons (vVar 1) (aCons (vC (.int 1117)) (aCons (vC (.int 24)) aNil)))) aNil)))))
  (sSeq (sAsg [] 6 (vCallN 3 m_pieces (aCons (vVar 4) (aCons (vVar 5) (aCons (vVar 1) aNil)))))
  (sSeq (sAsg [] 7 (vCallN 1 m_word (aCons (vVar 4) aNil)))
  (sSeq (sIf (tOrD (vB (v2 (gI (fun i j => decide (i ≤ j))) (vVar 5) (vC (.int 2)))) (vB (v2 g_eq (vVar 5) (vC (.int 8)))))
  (sAsg [] 6 (vCallN 3 m_spoilt (aCons (vVar 6) (aCons (vVar 5) (aCons (vVar 1) aNil)))))
  sNext)
  (sSeq (sIf (vB (v2 g_eq (vVar 5) (vC (.int 6))))
  (sAsg [] 6 (vCallN 1 m_odd_text (aCons (vVar 1) aNil)))
  sNext)
  (sSeq (sIf (vB (v2 g_eq (vVar 5) (vC (.int 7))))
  (sAsg [] 6 (v2 g_ix (vLstOf (nLst (aCons (vC .non) (aCons (vC (.int 7)) (aCons (vC (.bl true)) (aCons (vLstOf (nLst (aCons (vVar 6) aNil))) (aCons (vTup (aCons (vVar 6) aNil)) (aCons (vDisp1 (vVar 6) (vVar 6)) aNil)))))))) (vCallN 3 G4.m_digit (aCons (vVar 1) (aCons (vC (.int 1123)) (aCons (vC (.int 6)) aNil))))))
  sNext)
  (sSeq (sIf (vB (v2 (gI (fun i j => decide (i ≤ j))) (vVar 5) (vC (.int 8))))
  (sAsg [] 7 (vC (.str "text")))
  sNext)
  (sSeq (sAsg [] 8 (vCallN 1 m_law_read (aCons (vVar 6) aNil)))
  (sSeq (sIf (vB (v2 g_ne (vVar 7) (vC (.str "none"))))
  (sRet (v2 g_eq (v2 g_ix (vVar 8) (vC (.int 0))) (vVar 7)))
  sNext)
  (sRet (vAnd (v2 g_eq (v2 g_ix (vVar 8) (vC (.int 0))) (vC (.str "none"))) (vCallN 2 G4.m_same (aCons (v2 g_ix (vVar 8) (vC (.int 1))) (aCons (vVar 4) aNil))))))))))))))))))) T.F_law sc_law (own' := []) (.inl rfl) fun cdv A outer s H E hr tk hp =>
      (dss_cons (own1 := []) (ds_asg (j := 1) (ae_set (j := 1) sc_law.nd rfl (.inl rfl) (de_call (ok_cell_at T) tk (hr.mono (by decide)) (by rfl) T.g_cell_at T.F_cell_at.kp T.b_cell_at (da_cons (de_var (pv 0)) (da_cons de_int da_nil)))))
      (dss_cons (own1 := []) (ds_asg (j := 2) (ae_set (j := 2) sc_law.nd rfl (.inl rfl) (DN.de (dn_lst (da_cons (de_op op_addAny say_add de_int (de_call (ok_digit T) tk (hr.mono (by decide)) (by rfl) T.g_digit T.F_digit.kp T.b_digit (da_cons (de_var (pv 1)) (da_cons de_int (da_cons de_int da_nil))))) (da_cons (de_op op_addAny say_add de_int (de_call (ok_digit T) tk (hr.mono (by decide)) (by rfl) T.g_digit T.F_digit.kp T.b_digit (da_cons (de_var (pv 1)) (da_cons de_int (da_cons de_int da_nil))))) da_nil))))))
      (dss_cons (own1 := []) (ds_asg (j := 3) (ae_set (j := 3) sc_law.nd rfl (.inl rfl) (de_call (ok_named T) tk (hr.mono (by decide)) (by rfl) T.g_named T.F_named.kp T.b_named (da_cons (de_var (pv 1)) (da_cons (de_call (ok_names T) tk (hr.mono (by decide)) (by rfl) T.g_names T.F_names.kp T.b_names (da_cons (de_call (ok_cell_at T) tk (hr.mono (by decide)) (by rfl) T.g_cell_at T.F_cell_at.kp T.b_cell_at (da_cons (de_var (pv 0)) (da_cons de_int da_nil))) da_nil)) da_nil)))))
      (dss_cons (own1 := []) (ds_asg (j := 4) (ae_set (j := 4) sc_law.nd rfl (.inl rfl) (de_call (ok_loose T) tk (hr.mono (by decide)) (by rfl) T.g_loose T.F_loose.kp T.b_loose (da_cons (de_sl (de_var (pv 0)) (do_some de_int) (do_some de_int)) (da_cons (de_var (pv 2)) (da_cons (de_var (pv 3)) (da_cons (de_var (pv 1)) da_nil)))))))
      (dss_cons (own1 := []) (ds_asg (j := 5) (ae_set (j := 5) sc_law.nd rfl (.inl rfl) (de_ix (ix_any (hu1 hr)) say_ix (DN.de (dn_lst (da_cons de_int (da_cons de_int (da_cons de_int (da_cons de_int (da_cons de_int (da_cons de_int (da_cons de_int (da_cons de_int (da_cons de_int (da_cons de_int (da_cons de_int (da_cons de_int (da_cons de_int da_nil))))))))))))))) (de_callB (call_min2 (by rfl)) say_min2 (by rfl) T.n_min (by decide +kernel) (da_cons de_int (da_cons (de_call (ok_digit T) tk (hr.mono (by decide)) (by rfl) T.g_digit T.F_digit.kp T.b_digit (da_cons (de_var (pv 1)) (da_cons de_int (da_cons de_int da_nil)))) da_nil))) (fun _ _ => rfl))))
      (dss_cons (own1 := []) (ds_asg (j := 6) (ae_set (j := 6) sc_law.nd rfl (.inl rfl) (de_call (ok_pieces T) tk (hr.mono (by decide)) (by rfl) T.g_pieces T.F_pieces.kp T.b_pieces (da_cons (de_var (pv 4)) (da_cons (de_var (pv 5)) (da_cons (de_var (pv 1)) da_nil))))))
      (dss_cons (own1 := []) (ds_asg (j := 7) (ae_set (j := 7) sc_law.nd rfl (.inl rfl) (de_call (ok_word T) tk (hr.mono (by decide)) (by rfl) T.g_word T.F_word.kp T.b_word (da_cons (de_var (pv 4)) da_nil))))
      (dss_cons (own1 := []) (ds_if (DW.dt (dw_or (dt_cmp op_le say_I (de_var (pv 5)) de_int (nomark _)) (dw_or1 (dt_cmp (op_eqD (hu64 hr)) say_eq (de_var (pv 5)) de_int (nomark _)))))
      (dss_one (ds_asg (j := 6) (ae_set (j := 6) sc_law.nd rfl (.inl rfl) (de_call (ok_spoilt T) tk (hr.mono (by decide)) (by rfl) T.g_spoilt T.F_spoilt.kp T.b_spoilt (da_cons (de_var (pv 6)) (da_cons (de_var (pv 5)) (da_cons (de_var (pv 1)) da_nil)))))))
      dss_nil)
      (dss_cons (own1 := []) (ds_if (dt_cmp (op_eqD (hu64 hr)) say_eq (de_var (pv 5)) de_int (nomark _))
      (dss_one (ds_asg (j := 6) (ae_set (j := 6) sc_law.nd rfl (.inl rfl) (de_call (ok_odd_text T) tk (hr.mono (by decide)) (by rfl) T.g_odd_text T.F_odd_text.kp T.b_odd_text (da_cons (de_var (pv 1)) da_nil)))))
      dss_nil)
      (dss_cons (own1 := []) (ds_if (dt_cmp (op_eqD (hu64 hr)) say_eq (de_var (pv 5)) de_int (nomark _))
      (dss_one (ds_asg (j := 6) (ae_set (j := 6) sc_law.nd rfl (.inl rfl) (de_ix (ix_any (hu1 hr)) say_ix (DN.de (dn_lst (da_cons de_non (da_cons de_int (da_cons de_bl (da_cons (DN.de (dn_lst (da_cons (de_var (pv 6)) da_nil))) (da_cons (de_tup (da_cons (de_var (pv 6)) da_nil)) (da_cons (DF.de (df_disp1 (de_var (pv 6)) (de_var (pv 6)))) da_nil)))))))) (de_call (ok_digit T) tk (hr.mono (by decide)) (by rfl) T.g_digit T.F_digit.kp T.b_digit (da_cons (de_var (pv 1)) (da_cons de_int (da_cons de_int da_nil)))) (fun _ _ => rfl)))))
      dss_nil)
      (dss_cons (own1 := []) (ds_if (dt_cmp op_le say_I (de_var (pv 5)) de_int (nomark _))
      (dss_one (ds_asg (j := 7) (ae_set (j := 7) sc_law.nd rfl (.inl rfl) de_str)))
      dss_nil)
      (dss_cons (own1 := []) (ds_asg (j := 8) (ae_set (j := 8) sc_law.nd rfl (.inl rfl) (de_call (ok_law_read T) tk (hr.mono (by decide)) (by rfl) T.g_law_read T.F_law_read.kp T.b_law_read (da_cons (de_var (pv 6)) da_nil))))
      (dss_cons (own1 := []) (ds_if (dt_cmp (op_neD (hu64 hr)) say_ne (de_var (pv 7)) de_str (nomark _))
      (dss_one (ds_ret rfl (de_cmp (op_eqD (hu64 hr)) say_eq (de_ix (ix_any (hu1 hr)) say_ix (de_var (pv 8)) de_int (fun _ _ => rfl)) (de_var (pv 7)) (nomark _))))
      dss_nil)
      (dss_one (ds_ret rfl (de_and (de_cmp (op_eqD (hu64 hr)) say_eq (de_ix (ix_any (hu1 hr)) say_ix (de_var (pv 8)) de_int (fun _ _ => rfl)) de_str (nomark _)) (de_one (de_call (ok_same T) tk (hr.mono (by decide)) (by rfl) T.g_same T.F_same.kp T.b_same (da_cons (de_ix (ix_any (hu1 hr)) say_ix (de_var (pv 8)) de_int (fun _ _ => rfl)) (da_cons (de_var (pv 4)) da_nil))))))))))))))))))))
end
end K53
namespace K53
open PySem PySem.Spec PyProof.Rows L2 DL
theorem all_mk {l : PySem.W.OpenLaw} {w : World} {K : PySem.W.Frag} {h : Heap} {mg : Str → Option Value} {fa : Addr} (X : K.In h) (G : h.Ns mainGlobals mg) (hfa : mg "law" = some (.ref fa))
    {f0 : Addr} {od0 an0 : Option Addr} {sl0 : Array (Option Value)} {oc0 kV0 dc0 pm0 cd0 ct0 : Value}
    (a0 : PySem.W.nsIn K mainGlobals "is_name" = some (some (.ref f0))) (l0 : K.lookup f0 = some ⟨oc0, od0, .func (PySem.W.fnOf "is_name" "is_name" (defArgs s_is_name) (defBody s_is_name) (defScope s_is_name) .none kV0 dc0 pm0 an0 cd0 ct0), sl0⟩) (c0 : PySem.W.codeIn K cd0 "is_name" = true) (k0 : PySem.W.keepIn K (.ref f0) = true)
    {f1 : Addr} {od1 an1 : Option Addr} {sl1 : Array (Option Value)} {oc1 kV1 dc1 pm1 cd1 ct1 : Value}
    (a1 : PySem.W.nsIn K mainGlobals "is_count" = some (some (.ref f1))) (l1 : K.lookup f1 = some ⟨oc1, od1, .func (PySem.W.fnOf "is_count" "is_count" (defArgs s_is_count) (defBody s_is_count) (defScope s_is_count) .none kV1 dc1 pm1 an1 cd1 ct1), sl1⟩) (c1 : PySem.W.codeIn K cd1 "is_count" = true) (k1 : PySem.W.keepIn K (.ref f1) = true)
    {f2 : Addr} {od2 an2 : Option Addr} {sl2 : Array (Option Value)} {oc2 kV2 dc2 pm2 cd2 ct2 : Value}
    (a2 : PySem.W.nsIn K mainGlobals "read_word" = some (some (.ref f2))) (l2 : K.lookup f2 = some ⟨oc2, od2, .func (PySem.W.fnOf "read_word" "read_word" (defArgs s_read_word) (defBody s_read_word) (defScope s_read_word) .none kV2 dc2 pm2 an2 cd2 ct2), sl2⟩) (c2 : PySem.W.codeIn K cd2 "read_word" = true) (k2 : PySem.W.keepIn K (.ref f2) = true)
    {f3 : Addr} {od3 an3 : Option Addr} {sl3 : Array (Option Value)} {oc3 kV3 dc3 pm3 cd3 ct3 : Value}
    (a3 : PySem.W.nsIn K mainGlobals "shape_of" = some (some (.ref f3))) (l3 : K.lookup f3 = some ⟨oc3, od3, .func (PySem.W.fnOf "shape_of" "shape_of" (defArgs s_shape_of) (defBody s_shape_of) (defScope s_shape_of) .none kV3 dc3 pm3 an3 cd3 ct3), sl3⟩) (c3 : PySem.W.codeIn K cd3 "shape_of" = true) (k3 : PySem.W.keepIn K (.ref f3) = true)
    {f4 : Addr} {od4 an4 : Option Addr} {sl4 : Array (Option Value)} {oc4 kV4 dc4 pm4 cd4 ct4 : Value}
    (a4 : PySem.W.nsIn K mainGlobals "read_row" = some (some (.ref f4))) (l4 : K.lookup f4 = some ⟨oc4, od4, .func (PySem.W.fnOf "read_row" "read_row" (defArgs s_read_row) (defBody s_read_row) (defScope s_read_row) .none kV4 dc4 pm4 an4 cd4 ct4), sl4⟩) (c4 : PySem.W.codeIn K cd4 "read_row" = true) (k4 : PySem.W.keepIn K (.ref f4) = true)
    {f5 : Addr} {od5 an5 : Option Addr} {sl5 : Array (Option Value)} {oc5 kV5 dc5 pm5 cd5 ct5 : Value}
    (a5 : PySem.W.nsIn K mainGlobals "read_procedure" = some (some (.ref f5))) (l5 : K.lookup f5 = some ⟨oc5, od5, .func (PySem.W.fnOf "read_procedure" "read_procedure" (defArgs s_read_procedure) (defBody s_read_procedure) (defScope s_read_procedure) .none kV5 dc5 pm5 an5 cd5 ct5), sl5⟩) (c5 : PySem.W.codeIn K cd5 "read_procedure" = true) (k5 : PySem.W.keepIn K (.ref f5) = true)
    {f6 : Addr} {od6 an6 : Option Addr} {sl6 : Array (Option Value)} {oc6 kV6 dc6 pm6 cd6 ct6 : Value}
    (a6 : PySem.W.nsIn K mainGlobals "read_values" = some (some (.ref f6))) (l6 : K.lookup f6 = some ⟨oc6, od6, .func (PySem.W.fnOf "read_values" "read_values" (defArgs s_read_values) (defBody s_read_values) (defScope s_read_values) .none kV6 dc6 pm6 an6 cd6 ct6), sl6⟩) (c6 : PySem.W.codeIn K cd6 "read_values" = true) (k6 : PySem.W.keepIn K (.ref f6) = true)
    {f7 : Addr} {od7 an7 : Option Addr} {sl7 : Array (Option Value)} {oc7 kV7 dc7 pm7 cd7 ct7 : Value}
    (a7 : PySem.W.nsIn K mainGlobals "values_of" = some (some (.ref f7))) (l7 : K.lookup f7 = some ⟨oc7, od7, .func (PySem.W.fnOf "values_of" "values_of" (defArgs s_values_of) (defBody s_values_of) (defScope s_values_of) .none kV7 dc7 pm7 an7 cd7 ct7), sl7⟩) (c7 : PySem.W.codeIn K cd7 "values_of" = true) (k7 : PySem.W.keepIn K (.ref f7) = true)
    {f8 : Addr} {od8 an8 : Option Addr} {sl8 : Array (Option Value)} {oc8 kV8 dc8 pm8 cd8 ct8 : Value}
    (a8 : PySem.W.nsIn K mainGlobals "look_at" = some (some (.ref f8))) (l8 : K.lookup f8 = some ⟨oc8, od8, .func (PySem.W.fnOf "look_at" "look_at" (defArgs s_look_at) (defBody s_look_at) (defScope s_look_at) .none kV8 dc8 pm8 an8 cd8 ct8), sl8⟩) (c8 : PySem.W.codeIn K cd8 "look_at" = true) (k8 : PySem.W.keepIn K (.ref f8) = true)
    {f9 : Addr} {od9 an9 : Option Addr} {sl9 : Array (Option Value)} {oc9 kV9 dc9 pm9 cd9 ct9 : Value}
    (a9 : PySem.W.nsIn K mainGlobals "look_over" = some (some (.ref f9))) (l9 : K.lookup f9 = some ⟨oc9, od9, .func (PySem.W.fnOf "look_over" "look_over" (defArgs s_look_over) (defBody s_look_over) (defScope s_look_over) .none kV9 dc9 pm9 an9 cd9 ct9), sl9⟩) (c9 : PySem.W.codeIn K cd9 "look_over" = true) (k9 : PySem.W.keepIn K (.ref f9) = true)
    {f10 : Addr} {od10 an10 : Option Addr} {sl10 : Array (Option Value)} {oc10 kV10 dc10 pm10 cd10 ct10 : Value}
    (a10 : PySem.W.nsIn K mainGlobals "read" = some (some (.ref f10))) (l10 : K.lookup f10 = some ⟨oc10, od10, .func (PySem.W.fnOf "read" "read" (defArgs s_read) (defBody s_read) (defScope s_read) .none kV10 dc10 pm10 an10 cd10 ct10), sl10⟩) (c10 : PySem.W.codeIn K cd10 "read" = true) (k10 : PySem.W.keepIn K (.ref f10) = true)
    {f11 : Addr} {od11 an11 : Option Addr} {sl11 : Array (Option Value)} {oc11 kV11 dc11 pm11 cd11 ct11 : Value}
    (a11 : PySem.W.nsIn K mainGlobals "_law_cell_at" = some (some (.ref f11))) (l11 : K.lookup f11 = some ⟨oc11, od11, .func (PySem.W.fnOf "_law_cell_at" "_law_cell_at" (defArgs s_cell_at) (defBody s_cell_at) (defScope s_cell_at) .none kV11 dc11 pm11 an11 cd11 ct11), sl11⟩) (c11 : PySem.W.codeIn K cd11 "_law_cell_at" = true) (k11 : PySem.W.keepIn K (.ref f11) = true)
    {f12 : Addr} {od12 an12 : Option Addr} {sl12 : Array (Option Value)} {oc12 kV12 dc12 pm12 cd12 ct12 : Value}
    (a12 : PySem.W.nsIn K mainGlobals "_law_digit" = some (some (.ref f12))) (l12 : K.lookup f12 = some ⟨oc12, od12, .func (PySem.W.fnOf "_law_digit" "_law_digit" (defArgs s_digit) (defBody s_digit) (defScope s_digit) .none kV12 dc12 pm12 an12 cd12 ct12), sl12⟩) (c12 : PySem.W.codeIn K cd12 "_law_digit" = true) (k12 : PySem.W.keepIn K (.ref f12) = true)
    {f13 : Addr} {od13 an13 : Option Addr} {sl13 : Array (Option Value)} {oc13 kV13 dc13 pm13 cd13 ct13 : Value}
    (a13 : PySem.W.nsIn K mainGlobals "_law_names" = some (some (.ref f13))) (l13 : K.lookup f13 = some ⟨oc13, od13, .func (PySem.W.fnOf "_law_names" "_law_names" (defArgs s_names) (defBody s_names) (defScope s_names) .none kV13 dc13 pm13 an13 cd13 ct13), sl13⟩) (c13 : PySem.W.codeIn K cd13 "_law_names" = true) (k13 : PySem.W.keepIn K (.ref f13) = true)
    {f14 : Addr} {od14 an14 : Option Addr} {sl14 : Array (Option Value)} {oc14 kV14 dc14 pm14 cd14 ct14 : Value}
    (a14 : PySem.W.nsIn K mainGlobals "_law_row" = some (some (.ref f14))) (l14 : K.lookup f14 = some ⟨oc14, od14, .func (PySem.W.fnOf "_law_row" "_law_row" (defArgs s_row) (defBody s_row) (defScope s_row) .none kV14 dc14 pm14 an14 cd14 ct14), sl14⟩) (c14 : PySem.W.codeIn K cd14 "_law_row" = true) (k14 : PySem.W.keepIn K (.ref f14) = true)
    {f15 : Addr} {od15 an15 : Option Addr} {sl15 : Array (Option Value)} {oc15 kV15 dc15 pm15 cd15 ct15 : Value}
    (a15 : PySem.W.nsIn K mainGlobals "_law_whole" = some (some (.ref f15))) (l15 : K.lookup f15 = some ⟨oc15, od15, .func (PySem.W.fnOf "_law_whole" "_law_whole" (defArgs s_whole) (defBody s_whole) (defScope s_whole) .none kV15 dc15 pm15 an15 cd15 ct15), sl15⟩) (c15 : PySem.W.codeIn K cd15 "_law_whole" = true) (k15 : PySem.W.keepIn K (.ref f15) = true)
    {f16 : Addr} {od16 an16 : Option Addr} {sl16 : Array (Option Value)} {oc16 kV16 dc16 pm16 cd16 ct16 : Value}
    (a16 : PySem.W.nsIn K mainGlobals "_law_row_same" = some (some (.ref f16))) (l16 : K.lookup f16 = some ⟨oc16, od16, .func (PySem.W.fnOf "_law_row_same" "_law_row_same" (defArgs s_row_same) (defBody s_row_same) (defScope s_row_same) .none kV16 dc16 pm16 an16 cd16 ct16), sl16⟩) (c16 : PySem.W.codeIn K cd16 "_law_row_same" = true) (k16 : PySem.W.keepIn K (.ref f16) = true)
    {f17 : Addr} {od17 an17 : Option Addr} {sl17 : Array (Option Value)} {oc17 kV17 dc17 pm17 cd17 ct17 : Value}
    (a17 : PySem.W.nsIn K mainGlobals "_law_rows_same" = some (some (.ref f17))) (l17 : K.lookup f17 = some ⟨oc17, od17, .func (PySem.W.fnOf "_law_rows_same" "_law_rows_same" (defArgs s_rows_same) (defBody s_rows_same) (defScope s_rows_same) .none kV17 dc17 pm17 an17 cd17 ct17), sl17⟩) (c17 : PySem.W.codeIn K cd17 "_law_rows_same" = true) (k17 : PySem.W.keepIn K (.ref f17) = true)
    {f18 : Addr} {od18 an18 : Option Addr} {sl18 : Array (Option Value)} {oc18 kV18 dc18 pm18 cd18 ct18 : Value}
    (a18 : PySem.W.nsIn K mainGlobals "_law_same" = some (some (.ref f18))) (l18 : K.lookup f18 = some ⟨oc18, od18, .func (PySem.W.fnOf "_law_same" "_law_same" (defArgs s_same) (defBody s_same) (defScope s_same) .none kV18 dc18 pm18 an18 cd18 ct18), sl18⟩) (c18 : PySem.W.codeIn K cd18 "_law_same" = true) (k18 : PySem.W.keepIn K (.ref f18) = true)
    {f19 : Addr} {od19 an19 : Option Addr} {sl19 : Array (Option Value)} {oc19 kV19 dc19 pm19 cd19 ct19 : Value}
    (a19 : PySem.W.nsIn K mainGlobals "_law_stranger" = some (some (.ref f19))) (l19 : K.lookup f19 = some ⟨oc19, od19, .func (PySem.W.fnOf "_law_stranger" "_law_stranger" (defArgs s_stranger) (defBody s_stranger) (defScope s_stranger) .none kV19 dc19 pm19 an19 cd19 ct19), sl19⟩) (c19 : PySem.W.codeIn K cd19 "_law_stranger" = true) (k19 : PySem.W.keepIn K (.ref f19) = true)
    {f20 : Addr} {od20 an20 : Option Addr} {sl20 : Array (Option Value)} {oc20 kV20 dc20 pm20 cd20 ct20 : Value}
    (a20 : PySem.W.nsIn K mainGlobals "_law_wrong_row" = some (some (.ref f20))) (l20 : K.lookup f20 = some ⟨oc20, od20, .func (PySem.W.fnOf "_law_wrong_row" "_law_wrong_row" (defArgs s_wrong_row) (defBody s_wrong_row) (defScope s_wrong_row) .none kV20 dc20 pm20 an20 cd20 ct20), sl20⟩) (c20 : PySem.W.codeIn K cd20 "_law_wrong_row" = true) (k20 : PySem.W.keepIn K (.ref f20) = true)
    {f21 : Addr} {od21 an21 : Option Addr} {sl21 : Array (Option Value)} {oc21 kV21 dc21 pm21 cd21 ct21 : Value}
    (a21 : PySem.W.nsIn K mainGlobals "_law_loose" = some (some (.ref f21))) (l21 : K.lookup f21 = some ⟨oc21, od21, .func (PySem.W.fnOf "_law_loose" "_law_loose" (defArgs s_loose) (defBody s_loose) (defScope s_loose) .none kV21 dc21 pm21 an21 cd21 ct21), sl21⟩) (c21 : PySem.W.codeIn K cd21 "_law_loose" = true) (k21 : PySem.W.keepIn K (.ref f21) = true)
    {f22 : Addr} {od22 an22 : Option Addr} {sl22 : Array (Option Value)} {oc22 kV22 dc22 pm22 cd22 ct22 : Value}
    (a22 : PySem.W.nsIn K mainGlobals "_law_row_word" = some (some (.ref f22))) (l22 : K.lookup f22 = some ⟨oc22, od22, .func (PySem.W.fnOf "_law_row_word" "_law_row_word" (defArgs s_row_word) (defBody s_row_word) (defScope s_row_word) .none kV22 dc22 pm22 an22 cd22 ct22), sl22⟩) (c22 : PySem.W.codeIn K cd22 "_law_row_word" = true) (k22 : PySem.W.keepIn K (.ref f22) = true)
    {f23 : Addr} {od23 an23 : Option Addr} {sl23 : Array (Option Value)} {oc23 kV23 dc23 pm23 cd23 ct23 : Value}
    (a23 : PySem.W.nsIn K mainGlobals "_law_word" = some (some (.ref f23))) (l23 : K.lookup f23 = some ⟨oc23, od23, .func (PySem.W.fnOf "_law_word" "_law_word" (defArgs s_word) (defBody s_word) (defScope s_word) .none kV23 dc23 pm23 an23 cd23 ct23), sl23⟩) (c23 : PySem.W.codeIn K cd23 "_law_word" = true) (k23 : PySem.W.keepIn K (.ref f23) = true)
    {f24 : Addr} {od24 an24 : Option Addr} {sl24 : Array (Option Value)} {oc24 kV24 dc24 pm24 cd24 ct24 : Value}
    (a24 : PySem.W.nsIn K mainGlobals "_law_odd_row" = some (some (.ref f24))) (l24 : K.lookup f24 = some ⟨oc24, od24, .func (PySem.W.fnOf "_law_odd_row" "_law_odd_row" (defArgs s_odd_row) (defBody s_odd_row) (defScope s_odd_row) .none kV24 dc24 pm24 an24 cd24 ct24), sl24⟩) (c24 : PySem.W.codeIn K cd24 "_law_odd_row" = true) (k24 : PySem.W.keepIn K (.ref f24) = true)
    {f25 : Addr} {od25 an25 : Option Addr} {sl25 : Array (Option Value)} {oc25 kV25 dc25 pm25 cd25 ct25 : Value}
    (a25 : PySem.W.nsIn K mainGlobals "_law_odd_first" = some (some (.ref f25))) (l25 : K.lookup f25 = some ⟨oc25, od25, .func (PySem.W.fnOf "_law_odd_first" "_law_odd_first" (defArgs s_odd_first) (defBody s_odd_first) (defScope s_odd_first) .none kV25 dc25 pm25 an25 cd25 ct25), sl25⟩) (c25 : PySem.W.codeIn K cd25 "_law_odd_first" = true) (k25 : PySem.W.keepIn K (.ref f25) = true)
    {f26 : Addr} {od26 an26 : Option Addr} {sl26 : Array (Option Value)} {oc26 kV26 dc26 pm26 cd26 ct26 : Value}
    (a26 : PySem.W.nsIn K mainGlobals "_law_odd_text" = some (some (.ref f26))) (l26 : K.lookup f26 = some ⟨oc26, od26, .func (PySem.W.fnOf "_law_odd_text" "_law_odd_text" (defArgs s_odd_text) (defBody s_odd_text) (defScope s_odd_text) .none kV26 dc26 pm26 an26 cd26 ct26), sl26⟩) (c26 : PySem.W.codeIn K cd26 "_law_odd_text" = true) (k26 : PySem.W.keepIn K (.ref f26) = true)
    {f27 : Addr} {od27 an27 : Option Addr} {sl27 : Array (Option Value)} {oc27 kV27 dc27 pm27 cd27 ct27 : Value}
    (a27 : PySem.W.nsIn K mainGlobals "_law_pieces" = some (some (.ref f27))) (l27 : K.lookup f27 = some ⟨oc27, od27, .func (PySem.W.fnOf "_law_pieces" "_law_pieces" (defArgs s_pieces) (defBody s_pieces) (defScope s_pieces) .none kV27 dc27 pm27 an27 cd27 ct27), sl27⟩) (c27 : PySem.W.codeIn K cd27 "_law_pieces" = true) (k27 : PySem.W.keepIn K (.ref f27) = true)
    {f28 : Addr} {od28 an28 : Option Addr} {sl28 : Array (Option Value)} {oc28 kV28 dc28 pm28 cd28 ct28 : Value}
    (a28 : PySem.W.nsIn K mainGlobals "_law_spoilt" = some (some (.ref f28))) (l28 : K.lookup f28 = some ⟨oc28, od28, .func (PySem.W.fnOf "_law_spoilt" "_law_spoilt" (defArgs s_spoilt) (defBody s_spoilt) (defScope s_spoilt) .none kV28 dc28 pm28 an28 cd28 ct28), sl28⟩) (c28 : PySem.W.codeIn K cd28 "_law_spoilt" = true) (k28 : PySem.W.keepIn K (.ref f28) = true)
    {f29 : Addr} {od29 an29 : Option Addr} {sl29 : Array (Option Value)} {oc29 kV29 dc29 pm29 cd29 ct29 : Value}
    (a29 : PySem.W.nsIn K mainGlobals "_law_read" = some (some (.ref f29))) (l29 : K.lookup f29 = some ⟨oc29, od29, .func (PySem.W.fnOf "_law_read" "_law_read" (defArgs s_law_read) (defBody s_law_read) (defScope s_law_read) .none kV29 dc29 pm29 an29 cd29 ct29), sl29⟩) (c29 : PySem.W.codeIn K cd29 "_law_read" = true) (k29 : PySem.W.keepIn K (.ref f29) = true)
    {f30 : Addr} {od30 an30 : Option Addr} {sl30 : Array (Option Value)} {oc30 kV30 dc30 pm30 cd30 ct30 : Value}
    (a30 : PySem.W.nsIn K mainGlobals "_law_named" = some (some (.ref f30))) (l30 : K.lookup f30 = some ⟨oc30, od30, .func (PySem.W.fnOf "_law_named" "_law_named" (defArgs s_named) (defBody s_named) (defScope s_named) .none kV30 dc30 pm30 an30 cd30 ct30), sl30⟩) (c30 : PySem.W.codeIn K cd30 "_law_named" = true) (k30 : PySem.W.keepIn K (.ref f30) = true)
    {f31 : Addr} {od31 an31 : Option Addr} {sl31 : Array (Option Value)} {oc31 kV31 dc31 pm31 cd31 ct31 : Value}
    (a31 : PySem.W.nsIn K mainGlobals "law" = some (some (.ref f31))) (l31 : K.lookup f31 = some ⟨oc31, od31, .func (PySem.W.fnOf "law" "law" (defArgs s_law) (defBody s_law) (defScope s_law) .none kV31 dc31 pm31 an31 cd31 ct31), sl31⟩) (c31 : PySem.W.codeIn K cd31 "law" = true) (k31 : PySem.W.keepIn K (.ref f31) = true)
    (z_all : PySem.W.nsIn K mainGlobals "all" = some none)
    (z_bool : PySem.W.nsIn K mainGlobals "bool" = some none)
    (z_enumerate : PySem.W.nsIn K mainGlobals "enumerate" = some none)
    (z_int : PySem.W.nsIn K mainGlobals "int" = some none)
    (z_isinstance : PySem.W.nsIn K mainGlobals "isinstance" = some none)
    (z_len : PySem.W.nsIn K mainGlobals "len" = some none)
    (z_list : PySem.W.nsIn K mainGlobals "list" = some none)
    (z_min : PySem.W.nsIn K mainGlobals "min" = some none)
    (z_range : PySem.W.nsIn K mainGlobals "range" = some none)
    (z_set : PySem.W.nsIn K mainGlobals "set" = some none)
    (z_str : PySem.W.nsIn K mainGlobals "str" = some none)
    (z_tuple : PySem.W.nsIn K mainGlobals "tuple" = some none)
    (z_zip : PySem.W.nsIn K mainGlobals "zip" = some none)
    {tkt_FIGURES : Tok} (at_FIGURES : PySem.W.nsIn K mainGlobals "FIGURES" = some (some (.str "0123456789" tkt_FIGURES)))
    {tkt_LETTERS : Tok} (at_LETTERS : PySem.W.nsIn K mainGlobals "LETTERS" = some (some (.str "abcdefghijklmnopqrstuvwxyz" tkt_LETTERS)))
    {xC_NoName : Addr} (xa_NoName : PySem.W.nsIn K mainGlobals "NoName" = some (some (.ref xC_NoName))) (xq_NoName : PySem.W.excIn K xC_NoName [.type "ValueError", .type "Exception", .type "BaseException", .type "object"] "ValueError.__new__" = true) (xk_NoName : PySem.W.keepIn K (.ref xC_NoName) = true) (xb_NoName : PySem.W.subIn K (.ref xC_NoName) (.type "BaseException") = some true) (xt_NoName : PySem.W.typeIn K (.ref xC_NoName) = some (.type "type"))
    {xC_NoRow : Addr} (xa_NoRow : PySem.W.nsIn K mainGlobals "NoRow" = some (some (.ref xC_NoRow))) (xq_NoRow : PySem.W.excIn K xC_NoRow [.type "ValueError", .type "Exception", .type "BaseException", .type "object"] "ValueError.__new__" = true) (xk_NoRow : PySem.W.keepIn K (.ref xC_NoRow) = true) (xb_NoRow : PySem.W.subIn K (.ref xC_NoRow) (.type "BaseException") = some true) (xt_NoRow : PySem.W.typeIn K (.ref xC_NoRow) = some (.type "type"))
    {xC_NoText : Addr} (xa_NoText : PySem.W.nsIn K mainGlobals "NoText" = some (some (.ref xC_NoText))) (xq_NoText : PySem.W.excIn K xC_NoText [.type "ValueError", .type "Exception", .type "BaseException", .type "object"] "ValueError.__new__" = true) (xk_NoText : PySem.W.keepIn K (.ref xC_NoText) = true) (xb_NoText : PySem.W.subIn K (.ref xC_NoText) (.type "BaseException") = some true) (xt_NoText : PySem.W.typeIn K (.ref xC_NoText) = some (.type "type"))
    {xC_NoValue : Addr} (xa_NoValue : PySem.W.nsIn K mainGlobals "NoValue" = some (some (.ref xC_NoValue))) (xq_NoValue : PySem.W.excIn K xC_NoValue [.type "ValueError", .type "Exception", .type "BaseException", .type "object"] "ValueError.__new__" = true) (xk_NoValue : PySem.W.keepIn K (.ref xC_NoValue) = true) (xb_NoValue : PySem.W.subIn K (.ref xC_NoValue) (.type "BaseException") = some true) (xt_NoValue : PySem.W.typeIn K (.ref xC_NoValue) = some (.type "type"))
    {xC_Twice : Addr} (xa_Twice : PySem.W.nsIn K mainGlobals "Twice" = some (some (.ref xC_Twice))) (xq_Twice : PySem.W.excIn K xC_Twice [.type "ValueError", .type "Exception", .type "BaseException", .type "object"] "ValueError.__new__" = true) (xk_Twice : PySem.W.keepIn K (.ref xC_Twice) = true) (xb_Twice : PySem.W.subIn K (.ref xC_Twice) (.type "BaseException") = some true) (xt_Twice : PySem.W.typeIn K (.ref xC_Twice) = some (.type "type"))
    (xd_NoName : PySem.W.hasDictIn K xC_NoName = true)
    (xd_NoRow : PySem.W.hasDictIn K xC_NoRow = true)
    (xd_NoText : PySem.W.hasDictIn K xC_NoText = true)
    (xd_NoValue : PySem.W.hasDictIn K xC_NoValue = true)
    (xd_Twice : PySem.W.hasDictIn K xC_Twice = true)
    (xs_NoName_NoName : PySem.W.subIn K (.ref xC_NoName) (.ref xC_NoName) = some true)
    (xs_NoName_NoRow : PySem.W.subIn K (.ref xC_NoName) (.ref xC_NoRow) = some false)
    (xs_NoName_NoText : PySem.W.subIn K (.ref xC_NoName) (.ref xC_NoText) = some false)
    (xs_NoName_NoValue : PySem.W.subIn K (.ref xC_NoName) (.ref xC_NoValue) = some false)
    (xs_NoName_Twice : PySem.W.subIn K (.ref xC_NoName) (.ref xC_Twice) = some false)
    (xs_NoRow_NoName : PySem.W.subIn K (.ref xC_NoRow) (.ref xC_NoName) = some false)
    (xs_NoRow_NoRow : PySem.W.subIn K (.ref xC_NoRow) (.ref xC_NoRow) = some true)
    (xs_NoRow_NoText : PySem.W.subIn K (.ref xC_NoRow) (.ref xC_NoText) = some false)
    (xs_NoRow_NoValue : PySem.W.subIn K (.ref xC_NoRow) (.ref xC_NoValue) = some false)
    (xs_NoRow_Twice : PySem.W.subIn K (.ref xC_NoRow) (.ref xC_Twice) = some false)
    (xs_NoText_NoName : PySem.W.subIn K (.ref xC_NoText) (.ref xC_NoName) = some false)
    (xs_NoText_NoRow : PySem.W.subIn K (.ref xC_NoText) (.ref xC_NoRow) = some false)
    (xs_NoText_NoText : PySem.W.subIn K (.ref xC_NoText) (.ref xC_NoText) = some true)
    (xs_NoText_NoValue : PySem.W.subIn K (.ref xC_NoText) (.ref xC_NoValue) = some false)
    (xs_NoText_Twice : PySem.W.subIn K (.ref xC_NoText) (.ref xC_Twice) = some false)
    (xs_NoValue_NoName : PySem.W.subIn K (.ref xC_NoValue) (.ref xC_NoName) = some false)
    (xs_NoValue_NoRow : PySem.W.subIn K (.ref xC_NoValue) (.ref xC_NoRow) = some false)
    (xs_NoValue_NoText : PySem.W.subIn K (.ref xC_NoValue) (.ref xC_NoText) = some false)
    (xs_NoValue_NoValue : PySem.W.subIn K (.ref xC_NoValue) (.ref xC_NoValue) = some true)
    (xs_NoValue_Twice : PySem.W.subIn K (.ref xC_NoValue) (.ref xC_Twice) = some false)
    (xs_Twice_NoName : PySem.W.subIn K (.ref xC_Twice) (.ref xC_NoName) = some false)
    (xs_Twice_NoRow : PySem.W.subIn K (.ref xC_Twice) (.ref xC_NoRow) = some false)
    (xs_Twice_NoText : PySem.W.subIn K (.ref xC_Twice) (.ref xC_NoText) = some false)
    (xs_Twice_NoValue : PySem.W.subIn K (.ref xC_Twice) (.ref xC_NoValue) = some false)
    (xs_Twice_Twice : PySem.W.subIn K (.ref xC_Twice) (.ref xC_Twice) = some true) :
    ∃ fd : FuncData, (∀ (s : Shared) (v : Value), BindsTo s fd ⟨[v], []⟩ [("_law_script", v)]) ∧ ∀ base : Heap, K.In base → base.Ns mainGlobals mg → FnOk l.prog w K mg base (L2.CX l.prog w) 7 fa fd ["_law_script"] spLaw := by
  have e := hfa.symm.trans (PySem.W.mg_of X G a31)
  cases e
  let T : Tx K mg := {
    f_is_name := _, d_is_name := _, F_is_name := fun_mk l0 c0 k0, g_is_name := PySem.W.mg_of X G a0, b_is_name := (fun_mk (st := s_is_name) l0 c0 k0).binds fun _ _ _ _ _ _ us hl => match us, hl with | [_], _ => rfl,
    f_is_count := _, d_is_count := _, F_is_count := fun_mk l1 c1 k1, g_is_count := PySem.W.mg_of X G a1, b_is_count := (fun_mk (st := s_is_count) l1 c1 k1).binds fun _ _ _ _ _ _ us hl => match us, hl with | [_], _ => rfl,
    f_read_word := _, d_read_word := _, F_read_word := fun_mk l2 c2 k2, g_read_word := PySem.W.mg_of X G a2, b_read_word := (fun_mk (st := s_read_word) l2 c2 k2).binds fun _ _ _ _ _ _ us hl => match us, hl with | [_, _], _ => rfl,
    f_shape_of := _, d_shape_of := _, F_shape_of := fun_mk l3 c3 k3, g_shape_of := PySem.W.mg_of X G a3, b_shape_of := (fun_mk (st := s_shape_of) l3 c3 k3).binds fun _ _ _ _ _ _ us hl => match us, hl with | [_], _ => rfl,
    f_read_row := _, d_read_row := _, F_read_row := fun_mk l4 c4 k4, g_read_row := PySem.W.mg_of X G a4, b_read_row := (fun_mk (st := s_read_row) l4 c4 k4).binds fun _ _ _ _ _ _ us hl => match us, hl with | [_], _ => rfl,
    f_read_procedure := _, d_read_procedure := _, F_read_procedure := fun_mk l5 c5 k5, g_read_procedure := PySem.W.mg_of X G a5, b_read_procedure := (fun_mk (st := s_read_procedure) l5 c5 k5).binds fun _ _ _ _ _ _ us hl => match us, hl with | [_], _ => rfl,
    f_read_values := _, d_read_values := _, F_read_values := fun_mk l6 c6 k6, g_read_values := PySem.W.mg_of X G a6, b_read_values := (fun_mk (st := s_read_values) l6 c6 k6).binds fun _ _ _ _ _ _ us hl => match us, hl with | [_], _ => rfl,
    f_values_of := _, d_values_of := _, F_values_of := fun_mk l7 c7 k7, g_values_of := PySem.W.mg_of X G a7, b_values_of := (fun_mk (st := s_values_of) l7 c7 k7).binds fun _ _ _ _ _ _ us hl => match us, hl with | [_, _], _ => rfl,
    f_look_at := _, d_look_at := _, F_look_at := fun_mk l8 c8 k8, g_look_at := PySem.W.mg_of X G a8, b_look_at := (fun_mk (st := s_look_at) l8 c8 k8).binds fun _ _ _ _ _ _ us hl => match us, hl with | [_, _, _, _], _ => rfl,
    f_look_over := _, d_look_over := _, F_look_over := fun_mk l9 c9 k9, g_look_over := PySem.W.mg_of X G a9, b_look_over := (fun_mk (st := s_look_over) l9 c9 k9).binds fun _ _ _ _ _ _ us hl => match us, hl with | [_], _ => rfl,
    f_read := _, d_read := _, F_read := fun_mk l10 c10 k10, g_read := PySem.W.mg_of X G a10, b_read := (fun_mk (st := s_read) l10 c10 k10).binds fun _ _ _ _ _ _ us hl => match us, hl with | [_], _ => rfl,
    f_cell_at := _, d_cell_at := _, F_cell_at := fun_mk l11 c11 k11, g_cell_at := PySem.W.mg_of X G a11, b_cell_at := (fun_mk (st := s_cell_at) l11 c11 k11).binds fun _ _ _ _ _ _ us hl => match us, hl with | [_, _], _ => rfl,
    f_digit := _, d_digit := _, F_digit := fun_mk l12 c12 k12, g_digit := PySem.W.mg_of X G a12, b_digit := (fun_mk (st := s_digit) l12 c12 k12).binds fun _ _ _ _ _ _ us hl => match us, hl with | [_, _, _], _ => rfl,
    f_names := _, d_names := _, F_names := fun_mk l13 c13 k13, g_names := PySem.W.mg_of X G a13, b_names := (fun_mk (st := s_names) l13 c13 k13).binds fun _ _ _ _ _ _ us hl => match us, hl with | [_], _ => rfl,
    f_row := _, d_row := _, F_row := fun_mk l14 c14 k14, g_row := PySem.W.mg_of X G a14, b_row := (fun_mk (st := s_row) l14 c14 k14).binds fun _ _ _ _ _ _ us hl => match us, hl with | [_, _, _, _, _], _ => rfl,
    f_whole := _, d_whole := _, F_whole := fun_mk l15 c15 k15, g_whole := PySem.W.mg_of X G a15, b_whole := (fun_mk (st := s_whole) l15 c15 k15).binds fun _ _ _ _ _ _ us hl => match us, hl with | [_], _ => rfl,
    f_row_same := _, d_row_same := _, F_row_same := fun_mk l16 c16 k16, g_row_same := PySem.W.mg_of X G a16, b_row_same := (fun_mk (st := s_row_same) l16 c16 k16).binds fun _ _ _ _ _ _ us hl => match us, hl with | [_, _], _ => rfl,
    f_rows_same := _, d_rows_same := _, F_rows_same := fun_mk l17 c17 k17, g_rows_same := PySem.W.mg_of X G a17, b_rows_same := (fun_mk (st := s_rows_same) l17 c17 k17).binds fun _ _ _ _ _ _ us hl => match us, hl with | [_, _], _ => rfl,
    f_same := _, d_same := _, F_same := fun_mk l18 c18 k18, g_same := PySem.W.mg_of X G a18, b_same := (fun_mk (st := s_same) l18 c18 k18).binds fun _ _ _ _ _ _ us hl => match us, hl with | [_, _], _ => rfl,
    f_stranger := _, d_stranger := _, F_stranger := fun_mk l19 c19 k19, g_stranger := PySem.W.mg_of X G a19, b_stranger := (fun_mk (st := s_stranger) l19 c19 k19).binds fun _ _ _ _ _ _ us hl => match us, hl with | [_], _ => rfl,
    f_wrong_row := _, d_wrong_row := _, F_wrong_row := fun_mk l20 c20 k20, g_wrong_row := PySem.W.mg_of X G a20, b_wrong_row := (fun_mk (st := s_wrong_row) l20 c20 k20).binds fun _ _ _ _ _ _ us hl => match us, hl with | [_, _, _, _], _ => rfl,
    f_loose := _, d_loose := _, F_loose := fun_mk l21 c21 k21, g_loose := PySem.W.mg_of X G a21, b_loose := (fun_mk (st := s_loose) l21 c21 k21).binds fun _ _ _ _ _ _ us hl => match us, hl with | [_, _, _, _], _ => rfl,
    f_row_word := _, d_row_word := _, F_row_word := fun_mk l22 c22 k22, g_row_word := PySem.W.mg_of X G a22, b_row_word := (fun_mk (st := s_row_word) l22 c22 k22).binds fun _ _ _ _ _ _ us hl => match us, hl with | [_, _, _, _], _ => rfl,
    f_word := _, d_word := _, F_word := fun_mk l23 c23 k23, g_word := PySem.W.mg_of X G a23, b_word := (fun_mk (st := s_word) l23 c23 k23).binds fun _ _ _ _ _ _ us hl => match us, hl with | [_], _ => rfl,
    f_odd_row := _, d_odd_row := _, F_odd_row := fun_mk l24 c24 k24, g_odd_row := PySem.W.mg_of X G a24, b_odd_row := (fun_mk (st := s_odd_row) l24 c24 k24).binds fun _ _ _ _ _ _ us hl => match us, hl with | [_], _ => rfl,
    f_odd_first := _, d_odd_first := _, F_odd_first := fun_mk l25 c25 k25, g_odd_first := PySem.W.mg_of X G a25, b_odd_first := (fun_mk (st := s_odd_first) l25 c25 k25).binds fun _ _ _ _ _ _ us hl => match us, hl with | [_], _ => rfl,
    f_odd_text := _, d_odd_text := _, F_odd_text := fun_mk l26 c26 k26, g_odd_text := PySem.W.mg_of X G a26, b_odd_text := (fun_mk (st := s_odd_text) l26 c26 k26).binds fun _ _ _ _ _ _ us hl => match us, hl with | [_], _ => rfl,
    f_pieces := _, d_pieces := _, F_pieces := fun_mk l27 c27 k27, g_pieces := PySem.W.mg_of X G a27, b_pieces := (fun_mk (st := s_pieces) l27 c27 k27).binds fun _ _ _ _ _ _ us hl => match us, hl with | [_, _, _], _ => rfl,
    f_spoilt := _, d_spoilt := _, F_spoilt := fun_mk l28 c28 k28, g_spoilt := PySem.W.mg_of X G a28, b_spoilt := (fun_mk (st := s_spoilt) l28 c28 k28).binds fun _ _ _ _ _ _ us hl => match us, hl with | [_, _, _], _ => rfl,
    f_law_read := _, d_law_read := _, F_law_read := fun_mk l29 c29 k29, g_law_read := PySem.W.mg_of X G a29, b_law_read := (fun_mk (st := s_law_read) l29 c29 k29).binds fun _ _ _ _ _ _ us hl => match us, hl with | [_], _ => rfl,
    f_named := _, d_named := _, F_named := fun_mk l30 c30 k30, g_named := PySem.W.mg_of X G a30, b_named := (fun_mk (st := s_named) l30 c30 k30).binds fun _ _ _ _ _ _ us hl => match us, hl with | [_, _], _ => rfl,
    f_law := _, d_law := _, F_law := fun_mk l31 c31 k31, g_law := PySem.W.mg_of X G a31, b_law := (fun_mk (st := s_law) l31 c31 k31).binds fun _ _ _ _ _ _ us hl => match us, hl with | [_], _ => rfl,
    n_all := PySem.W.mg_none_of X G z_all,
    n_bool := PySem.W.mg_none_of X G z_bool,
    n_enumerate := PySem.W.mg_none_of X G z_enumerate,
    n_int := PySem.W.mg_none_of X G z_int,
    n_isinstance := PySem.W.mg_none_of X G z_isinstance,
    n_len := PySem.W.mg_none_of X G z_len,
    n_list := PySem.W.mg_none_of X G z_list,
    n_min := PySem.W.mg_none_of X G z_min,
    n_range := PySem.W.mg_none_of X G z_range,
    n_set := PySem.W.mg_none_of X G z_set,
    n_str := PySem.W.mg_none_of X G z_str,
    n_tuple := PySem.W.mg_none_of X G z_tuple,
    n_zip := PySem.W.mg_none_of X G z_zip,
    mt_FIGURES := ⟨_, PySem.W.mg_of X G at_FIGURES⟩,
    mt_LETTERS := ⟨_, PySem.W.mg_of X G at_LETTERS⟩,
    xC_NoName := _, xh_NoName := PySem.W.mg_of X G xa_NoName, xq_NoName := xq_NoName, xk_NoName := xk_NoName, xb_NoName := xb_NoName, xt_NoName := xt_NoName,
    xC_NoRow := _, xh_NoRow := PySem.W.mg_of X G xa_NoRow, xq_NoRow := xq_NoRow, xk_NoRow := xk_NoRow, xb_NoRow := xb_NoRow, xt_NoRow := xt_NoRow,
    xC_NoText := _, xh_NoText := PySem.W.mg_of X G xa_NoText, xq_NoText := xq_NoText, xk_NoText := xk_NoText, xb_NoText := xb_NoText, xt_NoText := xt_NoText,
    xC_NoValue := _, xh_NoValue := PySem.W.mg_of X G xa_NoValue, xq_NoValue := xq_NoValue, xk_NoValue := xk_NoValue, xb_NoValue := xb_NoValue, xt_NoValue := xt_NoValue,
    xC_Twice := _, xh_Twice := PySem.W.mg_of X G xa_Twice, xq_Twice := xq_Twice, xk_Twice := xk_Twice, xb_Twice := xb_Twice, xt_Twice := xt_Twice,
    xe_NoName_NoName := PySem.W.exm_ref xb_NoName xd_NoName xt_NoName xs_NoName_NoName,
    xe_NoName_NoRow := PySem.W.exm_ref xb_NoRow xd_NoRow xt_NoRow xs_NoName_NoRow,
    xe_NoName_NoText := PySem.W.exm_ref xb_NoText xd_NoText xt_NoText xs_NoName_NoText,
    xe_NoName_NoValue := PySem.W.exm_ref xb_NoValue xd_NoValue xt_NoValue xs_NoName_NoValue,
    xe_NoName_Twice := PySem.W.exm_ref xb_Twice xd_Twice xt_Twice xs_NoName_Twice,
    xe_NoRow_NoName := PySem.W.exm_ref xb_NoName xd_NoName xt_NoName xs_NoRow_NoName,
    xe_NoRow_NoRow := PySem.W.exm_ref xb_NoRow xd_NoRow xt_NoRow xs_NoRow_NoRow,
    xe_NoRow_NoText := PySem.W.exm_ref xb_NoText xd_NoText xt_NoText xs_NoRow_NoText,
    xe_NoRow_NoValue := PySem.W.exm_ref xb_NoValue xd_NoValue xt_NoValue xs_NoRow_NoValue,
    xe_NoRow_Twice := PySem.W.exm_ref xb_Twice xd_Twice xt_Twice xs_NoRow_Twice,
    xe_NoText_NoName := PySem.W.exm_ref xb_NoName xd_NoName xt_NoName xs_NoText_NoName,
    xe_NoText_NoRow := PySem.W.exm_ref xb_NoRow xd_NoRow xt_NoRow xs_NoText_NoRow,
    xe_NoText_NoText := PySem.W.exm_ref xb_NoText xd_NoText xt_NoText xs_NoText_NoText,
    xe_NoText_NoValue := PySem.W.exm_ref xb_NoValue xd_NoValue xt_NoValue xs_NoText_NoValue,
    xe_NoText_Twice := PySem.W.exm_ref xb_Twice xd_Twice xt_Twice xs_NoText_Twice,
    xe_NoValue_NoName := PySem.W.exm_ref xb_NoName xd_NoName xt_NoName xs_NoValue_NoName,
    xe_NoValue_NoRow := PySem.W.exm_ref xb_NoRow xd_NoRow xt_NoRow xs_NoValue_NoRow,
    xe_NoValue_NoText := PySem.W.exm_ref xb_NoText xd_NoText xt_NoText xs_NoValue_NoText,
    xe_NoValue_NoValue := PySem.W.exm_ref xb_NoValue xd_NoValue xt_NoValue xs_NoValue_NoValue,
    xe_NoValue_Twice := PySem.W.exm_ref xb_Twice xd_Twice xt_Twice xs_NoValue_Twice,
    xe_Twice_NoName := PySem.W.exm_ref xb_NoName xd_NoName xt_NoName xs_Twice_NoName,
    xe_Twice_NoRow := PySem.W.exm_ref xb_NoRow xd_NoRow xt_NoRow xs_Twice_NoRow,
    xe_Twice_NoText := PySem.W.exm_ref xb_NoText xd_NoText xt_NoText xs_Twice_NoText,
    xe_Twice_NoValue := PySem.W.exm_ref xb_NoValue xd_NoValue xt_NoValue xs_Twice_NoValue,
    xe_Twice_Twice := PySem.W.exm_ref xb_Twice xd_Twice xt_Twice xs_Twice_Twice }
  exact ⟨_, fun s v => .of_eq rfl, fun base _ _ => law_ok (ok_law T) (law_math)⟩
end K53
def PySem.W.Fast.tw716079904002360642 : Unit := ()
def PySem.W.Fast.tw12781713184458394760 : Unit := ()
def PySem.W.Fast.tw733045411460967724 : Unit := ()
def PySem.W.Fast.tw7910447354035598956 : Unit := ()
def PySem.W.Fast.tw13200652681846447566 : Unit := ()
def PySem.W.Fast.tw12899194707476181583 : Unit := ()
def PySem.W.Fast.tw9152151389595130035 : Unit := ()
def PySem.W.Fast.tw13716888789047411637 : Unit := ()
def PySem.W.Fast.tw11688241864222639928 : Unit := ()
def PySem.W.Fast.tw8426113529820381369 : Unit := ()
def PySem.W.Fast.tw18291224663736535419 : Unit := ()
def PySem.W.Fast.tw16706505472526121086 : Unit := ()
open PySem PySem.W PyProof.Rows
set_option maxHeartbeats 0 in
set_option maxRecDepth 100000 in
theorem PySem.Challenge.cw_callwalk_k53_refused_programs_holds : PySem.Challenge.rw_callwalk_k53_refused_programs.Holds := by
  w_on; o_law; k_head; (case hw => w_witness2)
  k_fill
  refine L2.walk_of (l := PySem.Challenge.rw_callwalk_k53_refused_programs) (n := 63) (k := 7) (x := "_law_script") (CX := fun w => L2.CX (PySem.Challenge.rw_callwalk_k53_refused_programs).prog w) (sp := fun w => DL.spLaw) rfl (by decide) rfl ⟨rfl, by decide, by decide⟩ (fun w h Y => PySem.W.kIn_of Y) ?F (fun _ H a ns hl _ hS => DL.spLaw_start hl hS (DL.noList (by rfl) a)) (fun _ _ _ _ _ h => DL.cx_never h)
  case F =>
    intro w mg fa h KX G hmg
    refine' K53.all_mk KX G hmg ?a0 ?l0 ?c0 ?k0 ?a1 ?l1 ?c1 ?k1 ?a2 ?l2 ?c2 ?k2 ?a3 ?l3 ?c3 ?k3 ?a4 ?l4 ?c4 ?k4 ?a5 ?l5 ?c5 ?k5 ?a6 ?l6 ?c6 ?k6 ?a7 ?l7 ?c7 ?k7 ?a8 ?l8 ?c8 ?k8 ?a9 ?l9 ?c9 ?k9 ?a10 ?l10 ?c10 ?k10 ?a11 ?l11 ?c11 ?k11 ?a12 ?l12 ?c12 ?k12 ?a13 ?l13 ?c13 ?k13 ?a14 ?l14 ?c14 ?k14 ?a15 ?l15 ?c15 ?k15 ?a16 ?l16 ?c16 ?k16 ?a17 ?l17 ?c17 ?k17 ?a18 ?l18 ?c18 ?k18 ?a19 ?l19 ?c19 ?k19 ?a20 ?l20 ?c20 ?k20 ?a21 ?l21 ?c21 ?k21 ?a22 ?l22 ?c22 ?k22 ?a23 ?l23 ?c23 ?k23 ?a24 ?l24 ?c24 ?k24 ?a25 ?l25 ?c25 ?k25 ?a26 ?l26 ?c26 ?k26 ?a27 ?l27 ?c27 ?k27 ?a28 ?l28 ?c28 ?k28 ?a29 ?l29 ?c29 ?k29 ?a30 ?l30 ?c30 ?k30 ?a31 ?l31 ?c31 ?k31 ?z_all ?z_bool ?z_enumerate ?z_int ?z_isinstance ?z_len ?z_list ?z_min ?z_range ?z_set ?z_str ?z_tuple ?z_zip ?at_FIGURES ?at_LETTERS ?xa_NoName ?xq_NoName ?xk_NoName ?xb_NoName ?xt_NoName ?xa_NoRow ?xq_NoRow ?xk_NoRow ?xb_NoRow ?xt_NoRow ?xa_NoText ?xq_NoText ?xk_NoText ?xb_NoText ?xt_NoText ?xa_NoValue ?xq_NoValue ?xk_NoValue ?xb_NoValue ?xt_NoValue ?xa_Twice ?xq_Twice ?xk_Twice ?xb_Twice ?xt_Twice ?xd_NoName ?xd_NoRow ?xd_NoText ?xd_NoValue ?xd_Twice ?xs_NoName_NoName ?xs_NoName_NoRow ?xs_NoName_NoText ?xs_NoName_NoValue ?xs_NoName_Twice ?xs_NoRow_NoName ?xs_NoRow_NoRow ?xs_NoRow_NoText ?xs_NoRow_NoValue ?xs_NoRow_Twice ?xs_NoText_NoName ?xs_NoText_NoRow ?xs_NoText_NoText ?xs_NoText_NoValue ?xs_NoText_Twice ?xs_NoValue_NoName ?xs_NoValue_NoRow ?xs_NoValue_NoText ?xs_NoValue_NoValue ?xs_NoValue_Twice ?xs_Twice_NoName ?xs_Twice_NoRow ?xs_Twice_NoText ?xs_Twice_NoValue ?xs_Twice_Twice
    (case a0 => k_is); (case l0 => k_is); (case c0 => k_is); (case k0 => k_is); (case a1 => k_is); (case l1 => k_is); (case c1 => k_is); (case k1 => k_is); (case a2 => k_is); (case l2 => k_is); (case c2 => k_is); (case k2 => k_is); (case a3 => k_is); (case l3 => k_is); (case c3 => k_is); (case k3 => k_is); (case a4 => k_is); (case l4 => k_is); (case c4 => k_is); (case k4 => k_is); (case a5 => k_is); (case l5 => k_is); (case c5 => k_is); (case k5 => k_is); (case a6 => k_is); (case l6 => k_is); (case c6 => k_is); (case k6 => k_is); (case a7 => k_is); (case l7 => k_is); (case c7 => k_is); (case k7 => k_is); (case a8 => k_is); (case l8 => k_is); (case c8 => k_is); (case k8 => k_is); (case a9 => k_is); (case l9 => k_is); (case c9 => k_is); (case k9 => k_is); (case a10 => k_is); (case l10 => k_is); (case c10 => k_is); (case k10 => k_is); (case a11 => k_is); (case l11 => k_is); (case c11 => k_is); (case k11 => k_is); (case a12 => k_is); (case l12 => k_is); (case c12 => k_is); (case k12 => k_is); (case a13 => k_is); (case l13 => k_is); (case c13 => k_is); (case k13 => k_is); (case a14 => k_is); (case l14 => k_is); (case c14 => k_is); (case k14 => k_is); (case a15 => k_is); (case l15 => k_is); (case c15 => k_is); (case k15 => k_is); (case a16 => k_is); (case l16 => k_is); (case c16 => k_is); (case k16 => k_is); (case a17 => k_is); (case l17 => k_is); (case c17 => k_is); (case k17 => k_is); (case a18 => k_is); (case l18 => k_is); (case c18 => k_is); (case k18 => k_is); (case a19 => k_is); (case l19 => k_is); (case c19 => k_is); (case k19 => k_is); (case a20 => k_is); (case l20 => k_is); (case c20 => k_is); (case k20 => k_is); (case a21 => k_is); (case l21 => k_is); (case c21 => k_is); (case k21 => k_is); (case a22 => k_is); (case l22 => k_is); (case c22 => k_is); (case k22 => k_is); (case a23 => k_is); (case l23 => k_is); (case c23 => k_is); (case k23 => k_is); (case a24 => k_is); (case l24 => k_is); (case c24 => k_is); (case k24 => k_is); (case a25 => k_is); (case l25 => k_is); (case c25 => k_is); (case k25 => k_is); (case a26 => k_is); (case l26 => k_is); (case c26 => k_is); (case k26 => k_is); (case a27 => k_is); (case l27 => k_is); (case c27 => k_is); (case k27 => k_is); (case a28 => k_is); (case l28 => k_is); (case c28 => k_is); (case k28 => k_is); (case a29 => k_is); (case l29 => k_is); (case c29 => k_is); (case k29 => k_is); (case a30 => k_is); (case l30 => k_is); (case c30 => k_is); (case k30 => k_is); (case a31 => k_is); (case l31 => k_is); (case c31 => k_is); (case k31 => k_is); (case z_all => k_is); (case z_bool => k_is); (case z_enumerate => k_is); (case z_int => k_is); (case z_isinstance => k_is); (case z_len => k_is); (case z_list => k_is); (case z_min => k_is); (case z_range => k_is); (case z_set => k_is); (case z_str => k_is); (case z_tuple => k_is); (case z_zip => k_is); (case at_FIGURES => k_is); (case at_LETTERS => k_is); (case xa_NoName => k_is); (case xq_NoName => k_exc); (case xk_NoName => k_is); (case xb_NoName => k_is); (case xt_NoName => k_is); (case xa_NoRow => k_is); (case xq_NoRow => k_exc); (case xk_NoRow => k_is); (case xb_NoRow => k_is); (case xt_NoRow => k_is); (case xa_NoText => k_is); (case xq_NoText => k_exc); (case xk_NoText => k_is); (case xb_NoText => k_is); (case xt_NoText => k_is); (case xa_NoValue => k_is); (case xq_NoValue => k_exc); (case xk_NoValue => k_is); (case xb_NoValue => k_is); (case xt_NoValue => k_is); (case xa_Twice => k_is); (case xq_Twice => k_exc); (case xk_Twice => k_is); (case xb_Twice => k_is); (case xt_Twice => k_is); (case xd_NoName => k_is); (case xd_NoRow => k_is); (case xd_NoText => k_is); (case xd_NoValue => k_is); (case xd_Twice => k_is); (case xs_NoName_NoName => first | rfl | k_is); (case xs_NoName_NoRow => first | rfl | k_is); (case xs_NoName_NoText => first | rfl | k_is); (case xs_NoName_NoValue => first | rfl | k_is); (case xs_NoName_Twice => first | rfl | k_is); (case xs_NoRow_NoName => first | rfl | k_is); (case xs_NoRow_NoRow => first | rfl | k_is); (case xs_NoRow_NoText => first | rfl | k_is); (case xs_NoRow_NoValue => first | rfl | k_is); (case xs_NoRow_Twice => first | rfl | k_is); (case xs_NoText_NoName => first | rfl | k_is); (case xs_NoText_NoRow => first | rfl | k_is); (case xs_NoText_NoText => first | rfl | k_is); (case xs_NoText_NoValue => first | rfl | k_is); (case xs_NoText_Twice => first | rfl | k_is); (case xs_NoValue_NoName => first | rfl | k_is); (case xs_NoValue_NoRow => first | rfl | k_is); (case xs_NoValue_NoText => first | rfl | k_is); (case xs_NoValue_NoValue => first | rfl | k_is); (case xs_NoValue_Twice => first | rfl | k_is); (case xs_Twice_NoName => first | rfl | k_is); (case xs_Twice_NoRow => first | rfl | k_is); (case xs_Twice_NoText => first | rfl | k_is); (case xs_Twice_NoValue => first | rfl | k_is); (case xs_Twice_Twice => first | rfl | k_is)
