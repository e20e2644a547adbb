import PyProof.Rows.All
import Wide.All
import OpenK.AllK
import Wide.FinOn
import HandS.ForMost
import HandS.Exc
import HandS.ExcOwn
import HandS.Walk
import HandS.HeadHook2
import PyProof.P3Eq
import PyProof.ReprRoads
import PyProof.Rows.EqDataRows
import HandS.TupAny
import HandS.Text
import HandS.Dict
import HandS.Comp
import HandS.Property
import HandS.Style
import HandS.IsInst
import HandS.RaiseMore
import HandS.Wide
import KE.KEqNest
import KE.DataEq
import PyProof.EqKinds
import PyProof.FactsAll.dict_1
import HandS.More
import HandS.Star
import HandS.Iter
import HandS.Zip
import PyProof.EnumMake
import HandS.Small
import HandS.Defaults
import HandS.HeadEnd
import HandS.HeadHook1
import PyProof.ReprLen
import PyProof.FitsInt
import HandS.Codes
import HandS.Head0
import HandS.Head1
import HandS.Head2
import PySem.Challenge.RW_salesplit_k22_values_of_curves
set_option Elab.async false
set_option linter.all false
set_option maxRecDepth 100000
namespace Z
open PySem PySem.Spec L2
/-! ### plain data -/
inductive D where
  | non | bl (b : Bool) | int (i : Int) | str (x : Str)
  | tup (xs : List D) | lst (xs : List D)
  | dct (kvs : List (Key × D)) | dcT (kvs : List (List Key × D))
  | ins (C : Str) (fs : List (Str × D))
  deriving Inhabited
/-- what is read is not a lock -/
def nf : HO → Bool
  | .frz _ _ => false
  | _ => true
/-! ### a value denotes data -/
section
variable (K : PySem.W.Frag) (H : Hp)
mutual
def Rep : D → V → Prop
  | .non, v => v = .non
  | .bl b, v => v = .bl b
  | .int i, v => v = .int i
  | .str x, v => v = .str x
  | .tup ds, v => ∃ a vs, v = .ref a ∧ SqT K H a vs ∧ Reps ds vs
  | .lst ds, v => ∃ a vs, v = .ref a ∧ SqL K H a vs ∧ Reps ds vs
  | .dct kvs, v => ∃ a ws, v = .ref a ∧ Rd H a (.dK ws) ∧ RepK kvs ws
  | .dcT kvs, v => ∃ a ws, v = .ref a ∧ Rd H a (.dT ws) ∧ RepT kvs ws
  | .ins C fs, v => ∃ a dx ws, v = .ref a ∧ H a = some (.ins (He.ga K C) dx ws) ∧ RepF fs ws
def Reps : List D → List V → Prop
  | [], vs => vs = []
  | d :: ds, vs => ∃ v r, vs = v :: r ∧ Rep d v ∧ Reps ds r
def RepK : List (Key × D) → List (Key × V) → Prop
  | [], ws => ws = []
  | (k, d) :: ds, ws => ∃ v r, ws = (k, v) :: r ∧ Rep d v ∧ RepK ds r
def RepT : List (List Key × D) → List (List Key × V) → Prop
  | [], ws => ws = []
  | (k, d) :: ds, ws => ∃ v r, ws = (k, v) :: r ∧ Rep d v ∧ RepT ds r
def RepF : List (Str × D) → List (Str × V) → Prop
  | [], ws => ws = []
  | (k, d) :: ds, ws => ∃ v r, ws = (k, v) :: r ∧ Rep d v ∧ RepF ds r
end
end
/-- H' tells all that H tells (a lock may come or go) -/
structure Ext (H H' : Hp) : Prop where
  rd : ∀ b u, nf u = true → Rd H b u → Rd H' b u
  ins : ∀ b C dx fs, H b = some (.ins C dx fs) → H' b = some (.ins C dx fs)
theorem Ext.refl {H : Hp} : Ext H H := ⟨fun _ _ _ h => h, fun _ _ _ _ h => h⟩
theorem Ext.trans {H H1 H2 : Hp} (a : Ext H H1) (b : Ext H1 H2) : Ext H H2 := ⟨fun c u n h => b.rd c u n (a.rd c u n h), fun c C dx fs h => b.ins c C dx fs (a.ins c C dx fs h)⟩
theorem Ext.of {H H' : Hp} (h : ∀ b o, H b = some o → H' b = some o) : Ext H H' :=
  ⟨fun b u _ r => r.elim (fun e => .inl (h _ _ e)) fun ⟨o, e⟩ => .inr ⟨o, h _ _ e⟩, fun _ _ _ _ e => h _ _ e⟩
section
variable {K : PySem.W.Frag} {H H' : Hp}
theorem sqL_ext (x : Ext H H') {a : Addr} {vs : List V} (h : SqL K H a vs) : SqL K H' a vs := h.elim (fun r => .inl (x.rd _ _ rfl r)) .inr
theorem sqT_ext (x : Ext H H') {a : Addr} {vs : List V} (h : SqT K H a vs) : SqT K H' a vs := h.elim (fun r => .inl (x.rd _ _ rfl r)) .inr
mutual
theorem Rep.ext (x : Ext H H') : ∀ {d : D} {v : V}, Rep K H d v → Rep K H' d v
  | .non, _, h => h
  | .bl _, _, h => h
  | .int _, _, h => h
  | .str _, _, h => h
  | .tup ds, _, h => by
    simp only [Rep] at h ⊢
    obtain ⟨a, vs, e, s, r⟩ := h
    exact ⟨a, vs, e, sqT_ext x s, Reps.ext x r⟩
  | .lst ds, _, h => by
    simp only [Rep] at h ⊢
    obtain ⟨a, vs, e, s, r⟩ := h
    exact ⟨a, vs, e, sqL_ext x s, Reps.ext x r⟩
  | .dct kvs, _, h => by
    simp only [Rep] at h ⊢
    obtain ⟨a, vs, e, s, r⟩ := h
    exact ⟨a, vs, e, x.rd _ _ rfl s, RepK.ext x r⟩
  | .dcT kvs, _, h => by
    simp only [Rep] at h ⊢
    obtain ⟨a, vs, e, s, r⟩ := h
    exact ⟨a, vs, e, x.rd _ _ rfl s, RepT.ext x r⟩
  | .ins C fs, _, h => by
    simp only [Rep] at h ⊢
    obtain ⟨a, dx, ws, e, s, r⟩ := h
    exact ⟨a, dx, ws, e, x.ins _ _ _ _ s, RepF.ext x r⟩
theorem Reps.ext (x : Ext H H') : ∀ {ds : List D} {vs : List V}, Reps K H ds vs → Reps K H' ds vs
  | [], _, h => h
  | d :: ds, _, h => by
    simp only [Reps] at h ⊢
    obtain ⟨v, r, e, s, t⟩ := h
    exact ⟨v, r, e, Rep.ext x s, Reps.ext x t⟩
theorem RepK.ext (x : Ext H H') : ∀ {ds : List (Key × D)} {vs : List (Key × V)}, RepK K H ds vs → RepK K H' ds vs
  | [], _, h => h
  | (k, d) :: ds, _, h => by
    simp only [RepK] at h ⊢
    obtain ⟨v, r, e, s, t⟩ := h
    exact ⟨v, r, e, Rep.ext x s, RepK.ext x t⟩
theorem RepT.ext (x : Ext H H') : ∀ {ds : List (List Key × D)} {vs : List (List Key × V)}, RepT K H ds vs → RepT K H' ds vs
  | [], _, h => h
  | (k, d) :: ds, _, h => by
    simp only [RepT] at h ⊢
    obtain ⟨v, r, e, s, t⟩ := h
    exact ⟨v, r, e, Rep.ext x s, RepT.ext x t⟩
theorem RepF.ext (x : Ext H H') : ∀ {ds : List (Str × D)} {vs : List (Str × V)}, RepF K H ds vs → RepF K H' ds vs
  | [], _, h => h
  | (k, d) :: ds, _, h => by
    simp only [RepF] at h ⊢
    obtain ⟨v, r, e, s, t⟩ := h
    exact ⟨v, r, e, Rep.ext x s, RepF.ext x t⟩
end
theorem Reps.length : ∀ {ds : List D} {vs : List V}, Reps K H ds vs → ds.length = vs.length
  | [], _, h => by simp only [Reps] at h; subst h; rfl
  | d :: ds, _, h => by
    simp only [Reps] at h
    obtain ⟨v, r, rfl, _, t⟩ := h
    simp [t.length]
theorem RepK.length : ∀ {ds : List (Key × D)} {vs : List (Key × V)}, RepK K H ds vs → ds.length = vs.length
  | [], _, h => by simp only [RepK] at h; subst h; rfl
  | (k, d) :: ds, _, h => by
    simp only [RepK] at h
    obtain ⟨v, r, rfl, _, t⟩ := h
    simp [t.length]
theorem Reps.get : ∀ {ds : List D} {vs : List V} {i : Nat} {d : D}, Reps K H ds vs → ds[i]? = some d → ∃ v, vs[i]? = some v ∧ Rep K H d v
  | [], _, _, _, _, e => by simp at e
  | d :: ds, _, 0, _, h, e => by
    simp only [Reps] at h
    obtain ⟨v, r, rfl, s, _⟩ := h
    simp at e; subst e
    exact ⟨v, rfl, s⟩
  | d :: ds, _, i + 1, _, h, e => by
    simp only [Reps] at h
    obtain ⟨v, r, rfl, _, t⟩ := h
    simpa using Reps.get t (by simpa using e)
theorem Reps.getV : ∀ {ds : List D} {vs : List V} {i : Nat} {v : V}, Reps K H ds vs → vs[i]? = some v → ∃ d, ds[i]? = some d ∧ Rep K H d v
  | [], _, _, _, h, e => by simp only [Reps] at h; subst h; simp at e
  | d :: ds, _, 0, _, h, e => by
    simp only [Reps] at h
    obtain ⟨v, r, rfl, s, _⟩ := h
    simp at e; subst e
    exact ⟨d, rfl, s⟩
  | d :: ds, _, i + 1, _, h, e => by
    simp only [Reps] at h
    obtain ⟨v, r, rfl, _, t⟩ := h
    simpa using Reps.getV t (by simpa using e)
theorem Reps.append : ∀ {ds es : List D} {vs ws : List V}, Reps K H ds vs → Reps K H es ws → Reps K H (ds ++ es) (vs ++ ws)
  | [], _, _, _, h, g => by simp only [Reps] at h; subst h; simpa using g
  | d :: ds, _, _, _, h, g => by
    simp only [Reps] at h
    obtain ⟨v, r, rfl, s, t⟩ := h
    simp only [List.cons_append, Reps]
    exact ⟨v, _, rfl, s, Reps.append t g⟩
theorem Reps.set : ∀ {ds : List D} {vs : List V} (i : Nat) {d : D} {v : V}, Reps K H ds vs → Rep K H d v → Reps K H (ds.set i d) (vs.set i v)
  | [], _, _, _, _, h, _ => by simp only [Reps] at h; subst h; simp [Reps]
  | d :: ds, _, 0, _, _, h, g => by
    simp only [Reps] at h
    obtain ⟨v, r, rfl, s, t⟩ := h
    simp only [List.set_cons_zero, Reps]
    exact ⟨_, r, rfl, g, t⟩
  | d :: ds, _, i + 1, _, _, h, g => by
    simp only [Reps] at h
    obtain ⟨v, r, rfl, s, t⟩ := h
    simp only [List.set_cons_succ, Reps]
    exact ⟨v, _, rfl, s, Reps.set i t g⟩
theorem Reps.take : ∀ {ds : List D} {vs : List V} (n : Nat), Reps K H ds vs → Reps K H (ds.take n) (vs.take n)
  | _, _, 0, _ => by simp [Reps]
  | [], _, _ + 1, h => by simp only [Reps] at h; subst h; simp [Reps]
  | d :: ds, _, n + 1, h => by
    simp only [Reps] at h
    obtain ⟨v, r, rfl, s, t⟩ := h
    simp only [List.take_succ_cons, Reps]
    exact ⟨v, _, rfl, s, Reps.take n t⟩
theorem Reps.drop : ∀ {ds : List D} {vs : List V} (n : Nat), Reps K H ds vs → Reps K H (ds.drop n) (vs.drop n)
  | _, _, 0, h => by simpa using h
  | [], _, _ + 1, h => by simp only [Reps] at h; subst h; simp [Reps]
  | d :: ds, _, n + 1, h => by
    simp only [Reps] at h
    obtain ⟨v, r, rfl, s, t⟩ := h
    simp only [List.drop_succ_cons]
    exact Reps.drop n t
end
/-! ### what is hidden -/
open Classical in
/-- the heap without the addresses of O -/
noncomputable def vis (O : Addr → Prop) (H : Hp) : Hp := fun b => if O b then none else H b
theorem vis_some {O : Addr → Prop} {H : Hp} {b : Addr} {o : HO} (h : vis O H b = some o) : ¬ O b ∧ H b = some o := by
  unfold vis at h
  split at h
  · cases h
  · exact ⟨by assumption, h⟩
theorem vis_at {O : Addr → Prop} {H : Hp} {b : Addr} (h : ¬ O b) : vis O H b = H b := by
  unfold vis; rw [if_neg h]
/-- what a part saw, it sees behind changes of hidden things -/
theorem vis_ext {O O' : Addr → Prop} {H H' : Hp} (ho : ∀ b, O' b → H b ≠ none → O b) (k : ∀ b o, ¬ O b → H b = some o → H' b = some o) : Ext (vis O H) (vis O' H') :=
  .of fun b o e => by
    obtain ⟨n, e⟩ := vis_some e
    have n' : ¬ O' b := fun z => n (ho b z (by rw [e]; simp))
    rw [vis_at n']
    exact k b o n e
theorem vis_le {O : Addr → Prop} {H : Hp} : Ext (vis O H) H := .of fun b o e => (vis_some e).2
end Z

namespace Z
open PySem PySem.Spec L2
/-! ### the environment of a def: what each slot holds -/
inductive Sl where
  | non | val (d : D) | own (d : D) | io (d : D) | lkd (d : D)
  deriving Inhabited
def Sl.isOwn : Sl → Bool
  | .own _ => true | .io _ => true | .lkd _ => true | _ => false
def Sl.isWr : Sl → Bool
  | .own _ => true | .io _ => true | _ => false
abbrev Vn := List Sl
structure Exn where
  C : Str
  fs : List (Str × D)
inductive Res (α : Type) where
  | ok (a : α) (ρ : Vn)
  | exn (x : Exn) (ρ : Vn)
  | stuck
def Res.bind {α β : Type} (r : Res α) (f : α → Vn → Res β) : Res β := match r with
  | .ok a ρ => f a ρ
  | .exn x ρ => .exn x ρ
  | .stuck => .stuck
@[simp] theorem Res.bind_ok {α β : Type} {a : α} {ρ : Vn} {f : α → Vn → Res β} : (Res.ok a ρ).bind f = f a ρ := rfl
@[simp] theorem Res.bind_exn {α β : Type} {x : Exn} {ρ : Vn} {f : α → Vn → Res β} : (Res.exn x ρ : Res α).bind f = .exn x ρ := rfl
@[simp] theorem Res.bind_stuck {α β : Type} {f : α → Vn → Res β} : (Res.stuck : Res α).bind f = .stuck := rfl
/-- what a run promises -/
def Res.holds {α : Type} (r : Res α) (P : α → Vn → Prop) (E : Exn → Vn → Prop) : Prop := match r with
  | .ok a ρ => P a ρ
  | .exn x ρ => E x ρ
  | .stuck => False
theorem Res.holds_bind {α β : Type} {r : Res α} {f : α → Vn → Res β} {P : β → Vn → Prop} {E : Exn → Vn → Prop} (h : (r.bind f).holds P E) : r.holds (fun a ρ => (f a ρ).holds P E) E := by
  cases r <;> exact h
theorem Res.holds_mono {α : Type} {r : Res α} {P P' : α → Vn → Prop} {E E' : Exn → Vn → Prop} (h : r.holds P E) (hp : ∀ a ρ, P a ρ → P' a ρ) (he : ∀ x ρ, E x ρ → E' x ρ) : r.holds P' E' := by
  cases r with
  | ok a ρ => exact hp _ _ h
  | exn x ρ => exact he _ _ h
  | stuck => exact h
/-! ### a def by what it does to data -/
inductive FRes where
  | ok (d s : D) | exn (x : Exn) (s : D) | stuck
structure Fn where
  /-- the first argument is changed in place -/
  io : Bool
  /-- a new list, dict or object comes back -/
  fresh : Bool
  ar : Nat
  dfl : List D
  run : List D → FRes
/-! ### the state -/
section
variable (K : PySem.W.Frag)
/-- the addresses that the slots own -/
def OwnA (ρ : Vn) (σ : St) (b : Addr) : Prop := ∃ (i : Nat) (sl : Sl), ρ[i]? = some sl ∧ sl.isOwn = true ∧ σ[i]? = some (some (.ref b))
def WrA (ρ : Vn) (σ : St) (b : Addr) : Prop := ∃ (i : Nat) (sl : Sl), ρ[i]? = some sl ∧ sl.isWr = true ∧ σ[i]? = some (some (.ref b))
def Hid (O : Addr → Prop) (ρ : Vn) (σ : St) (b : Addr) : Prop := O b ∨ OwnA ρ σ b
/-- at a stands d itself, to be changed: its parts are seen in G -/
def Top (G H : Hp) (d : D) (a : Addr) : Prop := match d with
  | .lst ds => ∃ vs, H a = some (.lst vs) ∧ Reps K G ds vs
  | .dct kvs => ∃ ws, H a = some (.dK ws) ∧ RepK K G kvs ws
  | .dcT kvs => ∃ ws, H a = some (.dT ws) ∧ RepT K G kvs ws
  | .ins C fs => ∃ dx ws, H a = some (.ins (He.ga K C) dx ws) ∧ RepF K G fs ws
  | _ => False
/-- .. to be read, it may be locked -/
def TopR (G H : Hp) (d : D) (a : Addr) : Prop := match d with
  | .lst ds => ∃ vs, Rd H a (.lst vs) ∧ Reps K G ds vs
  | .dct kvs => ∃ ws, Rd H a (.dK ws) ∧ RepK K G kvs ws
  | .dcT kvs => ∃ ws, Rd H a (.dT ws) ∧ RepT K G kvs ws
  | .ins C fs => ∃ dx ws, H a = some (.ins (He.ga K C) dx ws) ∧ RepF K G fs ws
  | _ => False
structure EnvOk (O : Addr → Prop) (ρ : Vn) (σ : St) (H : Hp) : Prop where
  len : ρ.length = σ.length
  dom : ∀ b, O b → H b ≠ none
  val : ∀ (i : Nat) (d : D), ρ[i]? = some (.val d) → ∃ v, σ[i]? = some (some v) ∧ Rep K (vis (Hid O ρ σ) H) d v
  own : ∀ (i : Nat) (d : D), ρ[i]? = some (.own d) → ∃ a, σ[i]? = some (some (.ref a)) ∧ Top K (vis (Hid O ρ σ) H) H d a
  io : ∀ (i : Nat) (d : D), ρ[i]? = some (.io d) → ∃ a, σ[i]? = some (some (.ref a)) ∧ O a ∧ Top K (vis (Hid O ρ σ) H) H d a
  lkd : ∀ (i : Nat) (d : D), ρ[i]? = some (.lkd d) → ∃ a, σ[i]? = some (some (.ref a)) ∧ TopR K (vis (Hid O ρ σ) H) H d a
  inj : ∀ (i j : Nat) (a : Addr) (si sj : Sl), ρ[i]? = some si → ρ[j]? = some sj → si.isOwn = true → sj.isOwn = true → σ[i]? = some (some (.ref a)) → σ[j]? = some (some (.ref a)) → i = j
  sep : ∀ (i : Nat) (d : D) (a : Addr), ρ[i]? = some (.own d) → σ[i]? = some (some (.ref a)) → ¬ O a
def Kp (W : Addr → Prop) (H H' : Hp) : Prop := ∀ b o, ¬ W b → H b = some o → H' b = some o
end
section
variable {K : PySem.W.Frag} {O : Addr → Prop} {ρ ρ' : Vn} {σ : St} {H H' G G' : Hp} {d : D} {a : Addr} {v : V}
theorem Kp.refl {W : Addr → Prop} : Kp W H H := fun _ _ _ h => h
theorem Kp.mono {W W' : Addr → Prop} (h : Kp W H H') (x : ∀ b, W b → W' b) : Kp W' H H' := fun b o n e => h b o (fun z => n (x b z)) e
theorem Kp.trans {W : Addr → Prop} {H1 : Hp} (h : Kp W H H1) (h' : Kp W H1 H') : Kp W H H' := fun b o n e => h' b o n (h b o n e)
theorem WrA.own {b : Addr} (h : WrA ρ σ b) : OwnA ρ σ b := by
  obtain ⟨i, sl, e, w, s⟩ := h
  exact ⟨i, sl, e, by cases sl <;> simp_all [Sl.isWr, Sl.isOwn], s⟩
theorem Top.r (h : Top K G H d a) : TopR K G H d a := by
  cases d <;> simp only [Top, TopR] at h ⊢ <;> try exact h
  · obtain ⟨vs, e, r⟩ := h; exact ⟨vs, .inl e, r⟩
  · obtain ⟨vs, e, r⟩ := h; exact ⟨vs, .inl e, r⟩
  · obtain ⟨vs, e, r⟩ := h; exact ⟨vs, .inl e, r⟩
theorem Top.ext (h : Top K G H d a) (x : Ext G G') (k : ∀ o, H a = some o → H' a = some o) : Top K G' H' d a := by
  cases d <;> simp only [Top] at h ⊢ <;> try exact h
  · obtain ⟨vs, e, r⟩ := h; exact ⟨vs, k _ e, r.ext x⟩
  · obtain ⟨vs, e, r⟩ := h; exact ⟨vs, k _ e, r.ext x⟩
  · obtain ⟨vs, e, r⟩ := h; exact ⟨vs, k _ e, r.ext x⟩
  · obtain ⟨dx, ws, e, r⟩ := h; exact ⟨dx, ws, k _ e, r.ext x⟩
theorem TopR.ext (h : TopR K G H d a) (x : Ext G G') (k : ∀ o, H a = some o → H' a = some o) : TopR K G' H' d a := by
  have kr : ∀ u, Rd H a u → Rd H' a u := fun u r => r.elim (fun e => .inl (k _ e)) fun ⟨o, e⟩ => .inr ⟨o, k _ e⟩
  cases d <;> simp only [TopR] at h ⊢ <;> try exact h
  · obtain ⟨vs, e, r⟩ := h; exact ⟨vs, kr _ e, r.ext x⟩
  · obtain ⟨vs, e, r⟩ := h; exact ⟨vs, kr _ e, r.ext x⟩
  · obtain ⟨vs, e, r⟩ := h; exact ⟨vs, kr _ e, r.ext x⟩
  · obtain ⟨dx, ws, e, r⟩ := h; exact ⟨dx, ws, k _ e, r.ext x⟩
theorem Top.ne (h : Top K G H d a) : H a ≠ none := by
  cases d <;> simp only [Top] at h
  · obtain ⟨vs, e, _⟩ := h; rw [e]; simp
  · obtain ⟨vs, e, _⟩ := h; rw [e]; simp
  · obtain ⟨vs, e, _⟩ := h; rw [e]; simp
  · obtain ⟨_, vs, e, _⟩ := h; rw [e]; simp
theorem rd_ne {u : HO} (h : Rd H a u) : H a ≠ none := by
  rcases h with e | ⟨o, e⟩ <;> rw [e] <;> simp
theorem TopR.ne (h : TopR K G H d a) : H a ≠ none := by
  cases d <;> simp only [TopR] at h
  · obtain ⟨vs, e, _⟩ := h; exact rd_ne e
  · obtain ⟨vs, e, _⟩ := h; exact rd_ne e
  · obtain ⟨vs, e, _⟩ := h; exact rd_ne e
  · obtain ⟨_, vs, e, _⟩ := h; rw [e]; simp
/-- what the slots own stands in the heap -/
theorem EnvOk.domH (E : EnvOk K O ρ σ H) : ∀ b, Hid O ρ σ b → H b ≠ none := by
  rintro b (h | ⟨i, sl, e, w, s⟩)
  · exact E.dom b h
  · cases sl with
    | non => cases w
    | val d => cases w
    | own d =>
      obtain ⟨a, s', t⟩ := E.own i d e
      rw [s] at s'; cases s'
      exact t.ne
    | io d =>
      obtain ⟨a, s', _, t⟩ := E.io i d e
      rw [s] at s'; cases s'
      exact t.ne
    | lkd d =>
      obtain ⟨a, s', t⟩ := E.lkd i d e
      rw [s] at s'; cases s'
      exact t.ne
/-- a value that is seen whole: by hand, or owned -/
theorem Top.rep (h : Top K G H d a) (x : Ext G H') (k : ∀ o, H a = some o → H' a = some o) : Rep K H' d (.ref a) := by
  have z : Top K H' H' d a := h.ext x k
  cases d <;> simp only [Top, Rep] at z ⊢ <;> try exact z
  · obtain ⟨vs, e, r⟩ := z; exact ⟨a, vs, rfl, SqL.of e, r⟩
  · obtain ⟨vs, e, r⟩ := z; exact ⟨a, vs, rfl, .inl e, r⟩
  · obtain ⟨vs, e, r⟩ := z; exact ⟨a, vs, rfl, .inl e, r⟩
  · obtain ⟨dx, vs, e, r⟩ := z; exact ⟨a, dx, vs, rfl, e, r⟩
/-- to be read: seen in G, or a slot's own -/
def RdOk (K : PySem.W.Frag) (G H : Hp) (d : D) (v : V) : Prop := Rep K G d v ∨ ∃ a, v = .ref a ∧ TopR K G H d a
theorem RdOk.lst {ds : List D} (h : RdOk K G H (.lst ds) v) (x : Ext G H) : ∃ a vs, v = .ref a ∧ SqL K H a vs ∧ Reps K G ds vs := by
  rcases h with h | ⟨a, rfl, vs, r, rs⟩
  · simp only [Rep] at h
    obtain ⟨a, vs, e, s, r⟩ := h
    exact ⟨a, vs, e, sqL_ext x s, r⟩
  · exact ⟨a, vs, rfl, .inl r, rs⟩
theorem RdOk.dct {ds : List (Key × D)} (h : RdOk K G H (.dct ds) v) (x : Ext G H) : ∃ a vs, v = .ref a ∧ Rd H a (.dK vs) ∧ RepK K G ds vs := by
  rcases h with h | ⟨a, rfl, vs, r, rs⟩
  · simp only [Rep] at h
    obtain ⟨a, vs, e, s, r⟩ := h
    exact ⟨a, vs, e, x.rd _ _ rfl s, r⟩
  · exact ⟨a, vs, rfl, r, rs⟩
theorem RdOk.dcT {ds : List (List Key × D)} (h : RdOk K G H (.dcT ds) v) (x : Ext G H) : ∃ a vs, v = .ref a ∧ Rd H a (.dT vs) ∧ RepT K G ds vs := by
  rcases h with h | ⟨a, rfl, vs, r, rs⟩
  · simp only [Rep] at h
    obtain ⟨a, vs, e, s, r⟩ := h
    exact ⟨a, vs, e, x.rd _ _ rfl s, r⟩
  · exact ⟨a, vs, rfl, r, rs⟩
theorem RdOk.ins {C : Str} {fs : List (Str × D)} (h : RdOk K G H (.ins C fs) v) (x : Ext G H) : ∃ a dx ws, v = .ref a ∧ H a = some (.ins (He.ga K C) dx ws) ∧ RepF K G fs ws := by
  rcases h with h | ⟨a, rfl, dx, ws, e, rs⟩
  · simp only [Rep] at h
    obtain ⟨a, dx, ws, e, s, r⟩ := h
    exact ⟨a, dx, ws, e, x.ins _ _ _ _ s, r⟩
  · exact ⟨a, dx, ws, rfl, e, rs⟩
/-- the data of any kind: in the whole heap it is seen -/
theorem RdOk.rep (h : RdOk K G H d v) (x : Ext G H) : Rep K H d v := by
  cases d with
  | lst ds => obtain ⟨a, vs, e, s, r⟩ := h.lst x; simp only [Rep]; exact ⟨a, vs, e, s, r.ext x⟩
  | dct ds => obtain ⟨a, vs, e, s, r⟩ := h.dct x; simp only [Rep]; exact ⟨a, vs, e, s, r.ext x⟩
  | dcT ds => obtain ⟨a, vs, e, s, r⟩ := h.dcT x; simp only [Rep]; exact ⟨a, vs, e, s, r.ext x⟩
  | ins C fs => obtain ⟨a, dx, vs, e, s, r⟩ := h.ins x; simp only [Rep]; exact ⟨a, dx, vs, e, s, r.ext x⟩
  | _ =>
    rcases h with h | ⟨a, _, h⟩
    · exact h.ext x
    · cases h
theorem RdOk.ext (h : RdOk K G H d v) (x : Ext G G') (k : ∀ b o, H b = some o → H' b = some o) : RdOk K G' H' d v :=
  h.elim (fun r => .inl (r.ext x)) fun ⟨a, e, t⟩ => .inr ⟨a, e, t.ext x fun o => k a o⟩
end
/-! ### how an environment may go on within an expression -/
/-- slots stay, what is owned may be given away (val) or changed in place -/
def Sl.to : Sl → Sl → Prop
  | .non, s => s = .non
  | .val d, s => s = .val d
  | .own _, s => (∃ d', s = .own d') ∨ ∃ d', s = .val d'
  | .io _, s => ∃ d', s = .io d'
  | .lkd d, s => s = .lkd d
def EvTo (ρ ρ' : Vn) : Prop := ρ'.length = ρ.length ∧ ∀ (i : Nat) (s : Sl), ρ[i]? = some s → ∃ s' : Sl, ρ'[i]? = some s' ∧ s.to s'
theorem Sl.to_refl (s : Sl) : s.to s := by cases s <;> simp [Sl.to]
theorem Sl.to_trans {a b c : Sl} (h : a.to b) (g : b.to c) : a.to c := by
  cases a with
  | own d =>
    simp only [Sl.to] at h
    rcases h with ⟨d', rfl⟩ | ⟨d', rfl⟩
    · exact g
    · simp only [Sl.to] at g ⊢; exact .inr ⟨_, g⟩
  | io d => simp only [Sl.to] at h; obtain ⟨d', rfl⟩ := h; exact g
  | _ => simp only [Sl.to] at h; subst h; exact g
theorem EvTo.refl (ρ : Vn) : EvTo ρ ρ := ⟨rfl, fun i s e => ⟨s, e, s.to_refl⟩⟩
theorem EvTo.trans {a b c : Vn} (h : EvTo a b) (g : EvTo b c) : EvTo a c := ⟨g.1.trans h.1, fun i s e => by
  obtain ⟨s', e', t⟩ := h.2 i s e
  obtain ⟨s'', e'', t'⟩ := g.2 i s' e'
  exact ⟨s'', e'', Sl.to_trans t t'⟩⟩
theorem EvTo.back {a b : Vn} (h : EvTo a b) {i : Nat} {s' : Sl} (e : b[i]? = some s') : ∃ s, a[i]? = some s ∧ s.to s' := by
  have hi : i < a.length := by rw [← h.1]; exact (List.getElem?_eq_some_iff.mp e).1
  obtain ⟨s2, e2, t⟩ := h.2 i a[i] (by simp [hi])
  rw [e] at e2; cases e2
  exact ⟨_, by simp [hi], t⟩
theorem Sl.to_own {a b : Sl} (h : a.to b) (w : b.isOwn = true) : a.isOwn = true := by
  cases a with
  | own d => rfl
  | io d => rfl
  | lkd d => rfl
  | _ => simp only [Sl.to] at h; subst h; exact w
theorem Sl.to_wr {a b : Sl} (h : a.to b) (w : b.isWr = true) : a.isWr = true := by
  cases a with
  | own d => rfl
  | io d => rfl
  | _ => simp only [Sl.to] at h; subst h; exact w
theorem EvTo.own {a b : Vn} (h : EvTo a b) {σ : St} {x : Addr} (o : OwnA b σ x) : OwnA a σ x := by
  obtain ⟨i, s', e, w, q⟩ := o
  obtain ⟨s, e', t⟩ := h.back e
  exact ⟨i, s, e', Sl.to_own t w, q⟩
theorem EvTo.wr {a b : Vn} (h : EvTo a b) {σ : St} {x : Addr} (o : WrA b σ x) : WrA a σ x := by
  obtain ⟨i, s', e, w, q⟩ := o
  obtain ⟨s, e', t⟩ := h.back e
  exact ⟨i, s, e', Sl.to_wr t w, q⟩
theorem EvTo.hid {a b : Vn} (h : EvTo a b) {O : Addr → Prop} {σ : St} {x : Addr} (o : Hid O b σ x) : Hid O a σ x := o.elim .inl fun z => .inr (h.own z)
end Z

namespace Z
open PySem PySem.Spec L2
/-! ### the text of a body, its names as slots -/
inductive MT where
  | nm (i : Nat)
  | tp (is : List Nat)
  /-- a pattern within a pattern -/
  | tq (ts : List MT)
inductive ME where
  | var (i : Nat)
  /-- a name that is looked at, in a place where what it holds is not kept -/
  | rd (i : Nat)
  | cst (d : D)
  | tup (es : List ME) | lst (es : List ME)
  | bin (op : Operator) (a b : ME)
  | neg (a : ME) | not (a : ME)
  | and (a b : ME) | or (a b : ME)
  | cmp (op : CmpOp) (a b : ME)
  | chain (op op' : CmpOp) (a b c : ME)
  | ite (c a b : ME)
  | call (f : String) (es : List ME)
  | callio (f : String) (i : Nat) (es : List ME)
  | bi (f : String) (es : List ME)
  | isi (a : ME) (cs : List String)
  /-- isinstance of an own class: subs, the class and those under it -/
  | iso (a : ME) (subs : List Str)
  | ix (a b : ME)
  | slc (a : ME) (lo hi : Option ME)
  /-- {k: v, ..}: keys and values in turn -/
  | dsp (es : List ME)
  /-- [elt for tg in it if tst]; k: the kind of walk (0: the thing itself, 1: range, 2: zip, 3: enumerate, 4: items, 5: values) -/
  | lc (elt : ME) (vs : List Nat) (tg : MT) (k : Nat) (its : List ME) (tst : Option ME)
  /-- a in b, a not in b -/
  | mem (neg : Bool) (a b : ME)
  /-- a.get(k), a.get(k, d) -/
  | get (a k : ME) (d : Option ME)
  /-- a.f: a field, or a property -/
  | fld (a : ME) (f : Str)
  /-- a.m(..): a method of an own class -/
  | meth (a : ME) (m : Str) (es : List ME)
  /-- x.pop(), x.pop(p) -/
  | popio (i : Nat) (p : Option ME)
  /-- (*a, b), [*a, b]: fl tells where a star stands -/
  | stup (fl : List Bool) (es : List ME)
  | slst (fl : List Bool) (es : List ME)
  /-- {**a, k: v, ..} -/
  | dup (a : ME) (es : List ME)
  /-- {kx: vx for tg in it if tst} -/
  | dc (kx vx : ME) (vs : List Nat) (tg : MT) (k : Nat) (its : List ME) (tst : Option ME)
  /-- sorted({elt for tg in it}), of ints -/
  | sc (elt : ME) (vs : List Nat) (tg : MT) (k : Nat) (its : List ME)
  /-- [elt for tg in it for tg2 in it2] -/
  | lc2 (elt : ME) (vs : List Nat) (tg : MT) (k : Nat) (its : List ME) (tg2 : MT) (k2 : Nat) (its2 : List ME)
  /-- a.m(..): a method of a built-in type -/
  | bm (m : String) (a : ME) (es : List ME)
inductive MS where
  | set (tg : MT) (e : ME)
  /-- a, b = x, y -/
  | par (i j : Nat) (a b : ME)
  | setIx (i : Nat) (ix e : ME)
  | expr (e : ME)
  | app (i : Nat) (e : ME)
  | ins (i : Nat) (p e : ME)
  | ite (c : ME) (a b : List MS)
  | for (tg : MT) (k : Nat) (its : List ME) (body : List MS)
  | while (c : ME) (body : List MS)
  | ret (e : ME)
  | raise (C : Str)
  | brk
  | pass
  /-- a, b, c = x, y, z -/
  | tri (i j k : Nat) (a b c : ME)
  /-- x.f = e -/
  | setF (i : Nat) (f : Str) (e : ME)
  /-- x.m(..): the list or dict at x is changed -/
  | mut (i : Nat) (m : String) (es : List ME)
  /-- what no proof comes to -/
  | bad
def ME.isRd : ME → Bool
  | .rd _ => true
  | _ => false
/-! ### operators on data -/
/-- lists are short -/
def lim : Nat := 1000000
def mulOk (i j : Int) : Bool := decide (i.natAbs.log2 + j.natAbs.log2 < 100000000)
def powOk (i j : Int) : Bool := decide (0 ≤ j) && decide ((i.natAbs.log2 + 1) * j.toNat ≤ 100000000)
def divOk (j : Int) : Bool := decide (j ≠ 0) && decide (j.natAbs.log2 < 9000)
mutual
def D.py : D → Option PyData
  | .non => some .none
  | .bl b => some (.bool b)
  | .int i => some (.int i)
  | .str x => some (.str x)
  | .tup ds => match pyAll ds with
    | some ps => some (.tuple ps)
    | none => none
  | .lst ds => match pyAll ds with
    | some ps => some (.list ps)
    | none => none
  | _ => none
def pyAll : List D → Option (List PyData)
  | [] => some []
  | d :: ds => match d.py, pyAll ds with
    | some p, some ps => some (p :: ps)
    | _, _ => none
end
def eqP (x y : D) : Option Bool := match x.py, y.py with
  | some p, some q => if PySem.SeqAt.shaped p && PySem.SeqAt.shaped q then some (PyData.eqv p q) else none
  | _, _ => none
/-- kinds that are never equal to one another -/
def knd : D → Option Nat
  | .non => some 0 | .bl _ => some 1 | .int _ => some 1 | .str _ => some 2 | .tup _ => some 3 | .lst _ => some 4 | .dct _ => some 5 | _ => none
def zipAll (f : D → D → Option Bool) : List D → List D → Option Bool
  | x :: xs, y :: ys => match f x y, zipAll f xs ys with
    | some a, some b => some (a && b)
    | _, _ => none
  | _, _ => some true
def valD {κ α : Type} [DecidableEq κ] (kvs : List (κ × α)) (k : κ) : Option α := (kvs.find? fun kv => decide (kv.1 = k)).map (·.2)
def dctAll (f : D → D → Option Bool) (ys : List (Key × D)) : List (Key × D) → Option Bool
  | [] => some true
  | (k, x) :: xs => match dctAll f ys xs with
    | none => none
    | some b => match valD ys k with
      | none => some false
      | some y => match f x y with
        | none => none
        | some a => some (a && b)
def eqX : Nat → D → D → Option Bool
  | 0, _, _ => none
  | n + 1, x, y => match x, y with
    | .tup xs, .tup ys => (zipAll (eqX n) xs ys).map fun b => b && decide (xs.length = ys.length)
    | .lst xs, .lst ys => if xs.length = ys.length then zipAll (eqX n) xs ys else some false
    | .dct xs, .dct ys => (dctAll (eqX n) ys xs).map fun b => decide (xs.length = ys.length) && b
    | .non, .non => some true
    | .bl a, .bl b => some (a == b)
    | .int a, .int b => some (a == b)
    | .bl a, .int b => some ((if a then 1 else 0) == b)
    | .int a, .bl b => some (a == (if b then 1 else 0))
    | .str a, .str b => some (a == b)
    | x, y => match knd x, knd y with
      | some i, some j => if i = j then none else some false
      | _, _ => none
def eqD (x y : D) : Option Bool := match eqP x y with
  | some b => some b
  | none => eqX 40 x y
def neD (x y : D) : Option Bool := match eqP x y with
  | some b => some !b
  | none => match x, y with
    | .dct xs, .dct ys => (dctAll eqP ys xs).map fun b => !(decide (xs.length = ys.length) && b)
    | _, _ => none
def binD (op : Operator) (x y : D) : Option (Bool × D) := match op, x, y with
  | .Add, .int i, .int j => some (false, .int (i + j))
  | .Sub, .int i, .int j => some (false, .int (i - j))
  | .Mult, .int i, .int j => if mulOk i j then some (false, .int (i * j)) else none
  | .FloorDiv, .int i, .int j => if divOk j then some (false, .int (i.fdiv j)) else none
  | .Mod, .int i, .int j => if j = 0 then none else some (false, .int (i.fmod j))
  | .Pow, .int i, .int j => if powOk i j then some (false, .int (i ^ j.toNat)) else none
  | .Add, .lst a, .lst b => if a.length + b.length ≤ lim then some (true, .lst (a ++ b)) else none
  | .Add, .tup a, .tup b => if a.length + b.length ≤ lim then some (false, .tup (a ++ b)) else none
  | .Add, .str a, .str b => if a.length + b.length ≤ lim then some (false, .str (a ++ b)) else none
  | _, _, _ => none
def keyD : D → Option Key
  | .int i => some (.inl i)
  | .str x => some (.inr x)
  | _ => none
/-- x in y -/
def memD (x y : D) : Option Bool := match y with
  | .lst ys => match x.py, pyAll ys with
    | some p, some qs => if p.depth ≤ 60 then some (qs.any fun z => PyData.eqv z p) else none
    | _, _ => none
  | .tup ys => match x.py, pyAll ys with
    | some p, some qs => if p.depth ≤ 60 then some (qs.any fun z => PyData.eqv z p) else none
    | _, _ => none
  | .str s => match x with
    | .str c => if c.cps.size = 1 then some (decide (c.cps.getD 0 0 ∈ s.cps.toList)) else none
    | _ => none
  | .dct kvs => (keyD x).map fun k => (valD kvs k).isSome
  | _ => none
def isNonD : D → Bool
  | .non => true
  | _ => false
def cmpD (op : CmpOp) (x y : D) : Option Bool := match op, x, y with
  | .Lt, .int i, .int j => some (decide (i < j))
  | .LtE, .int i, .int j => some (decide (i ≤ j))
  | .Gt, .int i, .int j => some (decide (j < i))
  | .GtE, .int i, .int j => some (decide (j ≤ i))
  | .Lt, .str a, .str b => some (decide (a.cps.toList < b.cps.toList))
  | .Eq, .str a, .str b => some (decide (a = b))
  | .NotEq, .str a, .str b => some (!decide (a = b))
  | .Eq, x, y => eqD x y
  | .NotEq, x, y => neD x y
  | .Is, x, .non => some (isNonD x)
  | .IsNot, x, .non => some (!isNonD x)
  | .Is, .bl a, .bl b => some (decide (a = b))
  | .IsNot, .bl a, .bl b => some (!decide (a = b))
  | _, _, _ => none
def truD : D → Option Bool
  | .bl b => some b
  | _ => none
/-- the names of built-in classes -/
def isiD (x : D) (c : String) : Option Bool := match x with
  | .non => if c = "int" ∨ c = "bool" ∨ c = "str" ∨ c = "tuple" ∨ c = "list" ∨ c = "dict" then some false else none
  | .bl _ => if c = "int" ∨ c = "bool" then some true else if c = "str" ∨ c = "tuple" ∨ c = "list" ∨ c = "dict" then some false else none
  | .int _ => if c = "int" then some true else if c = "bool" ∨ c = "str" ∨ c = "tuple" ∨ c = "list" ∨ c = "dict" then some false else none
  | .str _ => if c = "str" then some true else if c = "bool" ∨ c = "int" ∨ c = "tuple" ∨ c = "list" ∨ c = "dict" then some false else none
  | .tup _ => if c = "tuple" then some true else if c = "bool" ∨ c = "int" ∨ c = "str" ∨ c = "list" ∨ c = "dict" then some false else none
  | .lst _ => if c = "list" then some true else if c = "bool" ∨ c = "int" ∨ c = "str" ∨ c = "tuple" ∨ c = "dict" then some false else none
  | .dct _ => if c = "dict" then some true else if c = "bool" ∨ c = "int" ∨ c = "str" ∨ c = "tuple" ∨ c = "list" then some false else none
  | _ => none
def ixD (x y : D) : Option D := match x, y with
  | .lst ds, .int i => if 0 ≤ i then ds[i.toNat]? else if -(ds.length : Int) ≤ i then ds[(ds.length + i).toNat]? else none
  | .tup ds, .int i => if 0 ≤ i then ds[i.toNat]? else if -(ds.length : Int) ≤ i then ds[(ds.length + i).toNat]? else none
  | .dct kvs, k => (keyD k).bind fun k => valD kvs k
  | _, _ => none
def blsD : List D → Option (List Bool)
  | [] => some []
  | .bl b :: ds => (blsD ds).map fun bs => b :: bs
  | _ => none
def intsD : List D → Option (List Int)
  | [] => some []
  | .int i :: ds => (intsD ds).map fun bs => i :: bs
  | _ => none
def strsD : List D → Option (List Str)
  | [] => some []
  | .str i :: ds => (strsD ds).map fun bs => i :: bs
  | _ => none
def leS (a b : Str) : Bool := !decide (b.cps.toList < a.cps.toList)
def insS (x : Str) : List Str → List Str
  | [] => [x]
  | y :: ys => if leS x y then x :: y :: ys else y :: insS x ys
/-- texts in order -/
def sortS : List Str → List Str
  | [] => []
  | x :: xs => insS x (sortS xs)
def insI (x : Int) : List Int → List Int
  | [] => [x]
  | y :: ys => if x ≤ y then x :: y :: ys else y :: insI x ys
def sortI : List Int → List Int
  | [] => []
  | x :: xs => insI x (sortI xs)
def kD : Key → D
  | .inl i => .int i
  | .inr x => .str x
def sortedD (ds : List D) : Option (Bool × D) := if ds.length < 64 then match strsD ds with
  | some xs => some (true, .lst ((sortS xs).map .str))
  | none => match intsD ds with
    | some ns => some (true, .lst ((sortI ns).map .int))
    | none => none
  else none
def maxI : List Int → Option Int
  | [] => none
  | x :: xs => match maxI xs with
    | none => some x
    | some y => some (if x < y then y else x)
def minI : List Int → Option Int
  | [] => none
  | x :: xs => match minI xs with
    | none => some x
    | some y => some (if y < x then y else x)
def biD (f : String) (ds : List D) : Option (Bool × D) := match f, ds with
  | "len", [.lst ds] => some (false, .int ds.length)
  | "len", [.tup ds] => some (false, .int ds.length)
  | "len", [.dct ds] => some (false, .int ds.length)
  | "len", [.str s] => if s.length ≤ lim then some (false, .int s.length) else none
  | "abs", [.int i] => some (false, .int i.natAbs)
  | "int", [.int i] => some (false, .int i)
  | "int", [.bl b] => some (false, .int (if b then 1 else 0))
  | "repr", [d] => match d.py with
    | some p => if PyData.showable p && !p.hasDict && decide (p.depth ≤ 60) && decide (p.shown.length ≤ lim) then some (false, .str p.shown) else none
    | none => none
  | "list", [.lst ds] => some (true, .lst ds)
  | "list", [.tup ds] => some (true, .lst ds)
  | "tuple", [.lst ds] => some (false, .tup ds)
  | "tuple", [.tup ds] => some (false, .tup ds)
  | "str", [.int i] => if i.natAbs.log2 < 1920 then some (false, .str (toString i)) else none
  | "all", [.lst ds] => (blsD ds).map fun bs => (false, .bl (bs.all id))
  | "any", [.lst ds] => (blsD ds).map fun bs => (false, .bl (bs.any id))
  | "sum", [.lst ds] => (intsD ds).map fun bs => (false, .int bs.sum)
  | "max", [.lst ds] => (intsD ds).bind fun bs => (maxI bs).map fun m => (false, .int m)
  | "min", [.lst ds] => (intsD ds).bind fun bs => (minI bs).map fun m => (false, .int m)
  | "max", [.int i, .int j] => some (false, .int (if i < j then j else i))
  | "min", [.int i, .int j] => some (false, .int (if j < i then j else i))
  | "sorted", [.lst ds] => sortedD ds
  | "sorted", [.dct kvs] => sortedD (kvs.map fun kv => kD kv.1)
  | "list", [.dct kvs] => some (true, .lst (kvs.map fun kv => kD kv.1))
  | "dict", [.dct kvs] => some (true, .dct kvs)
  | _, _ => none
/-- the items of a slice -/
def cutD {α : Type} (xs : List α) (lo hi : Option Int) : List α := (xs.drop (HT.sIx xs.length 0 lo)).take (HT.sIx xs.length xs.length hi - HT.sIx xs.length 0 lo)
def slcD (x : D) (lo hi : Option Int) : Option (Bool × D) := match x with
  | .lst ds => some (true, .lst (cutD ds lo hi))
  | .tup ds => some (false, .tup (cutD ds lo hi))
  | .str z => if z.length ≤ lim then some (false, .str (cutS z lo hi)) else none
  | _ => none
def putD {κ α : Type} [DecidableEq κ] (kvs : List (κ × α)) (k : κ) (d : α) : List (κ × α) :=
  if (kvs.any fun kv => decide (kv.1 = k)) = true then kvs.map (fun kv => if kv.1 = k then (kv.1, d) else kv) else kvs ++ [(k, d)]
def prsD : List D → Option (List (Key × D))
  | [] => some []
  | k :: v :: r => match keyD k, prsD r with
    | some k, some r => some ((k, v) :: r)
    | _, _ => none
  | _ => none
def dspD (ds : List D) : Option (Bool × D) := match prsD ds with
  | some kvs => if kvs.length ≤ 15 then some (true, .dct (kvs.foldl (fun acc kv => putD acc kv.1 kv.2) [])) else none
  | none => none
/-! ### slots -/
/-- a slot may be stored anew -/
def Sl.free : Sl → Bool
  | .io _ => false | .lkd _ => false | _ => true
def setS (ρ : Vn) (i : Nat) (s : Sl) : Option Vn := match ρ[i]? with
  | some t => if t.free then some (ρ.set i s) else none
  | none => none
def sets (ρ : Vn) : List Nat → List D → Option Vn
  | [], [] => some ρ
  | i :: is, d :: ds => match setS ρ i (.val d) with
    | some ρ' => sets ρ' is ds
    | none => none
  | _, _ => none
mutual
def asgT : MT → D → Vn → Option Vn
  | .nm i, d, ρ => setS ρ i (.val d)
  | .tp is, d, ρ => match d with
    | .tup ds => sets ρ is ds
    | _ => none
  | .tq ts, d, ρ => match d with
    | .tup ds => asgTs ts ds ρ
    | _ => none
def asgTs : List MT → List D → Vn → Option Vn
  | [], ds, ρ => match ds with
    | [] => some ρ
    | _ => none
  | t :: ts, ds, ρ => match ds with
    | d :: ds => match asgT t d ρ with
      | some ρ' => asgTs ts ds ρ'
      | none => none
    | [] => none
end
def wipeV (ρ : Vn) : List Nat → Vn
  | [] => ρ
  | v :: vs => (wipeV ρ vs).set v .non
def backV (ρ ρ0 : Vn) : List Nat → Vn
  | [] => ρ
  | v :: vs => (backV ρ ρ0 vs).set v (ρ0[v]?.getD .non)
/-- the locks of ρ0's owned slots go -/
def unlockV (ρ ρ0 : Vn) : List Nat → Vn
  | [] => ρ
  | i :: is => match ρ0[i]? with
    | some (.own d) => (unlockV ρ ρ0 is).set i (.own d)
    | some (.io d) => (unlockV ρ ρ0 is).set i (.io d)
    | _ => unlockV ρ ρ0 is
/-- the slots that a walk goes through -/
def rdIdx : List ME → List Nat
  | [] => []
  | .rd i :: es => i :: rdIdx es
  | _ :: es => rdIdx es
def lockV (ρ : Vn) : List Nat → Vn
  | [] => ρ
  | i :: is => match (lockV ρ is)[i]? with
    | some (.own d) => (lockV ρ is).set i (.lkd d)
    | some (.io d) => (lockV ρ is).set i (.lkd d)
    | _ => lockV ρ is
def ofOpt {α : Type} (o : Option α) (ρ : Vn) : Res α := match o with
  | some a => .ok a ρ
  | none => .stuck
@[simp] theorem ofOpt_some {α : Type} {a : α} {ρ : Vn} : ofOpt (some a) ρ = .ok a ρ := rfl
@[simp] theorem ofOpt_none {α : Type} {ρ : Vn} : ofOpt (none : Option α) ρ = .stuck := rfl
/-- what a walk goes through -/
def itD (k : Nat) (ds : List D) : Option (List D) := match k, ds with
  | 0, [.lst ds] => some ds
  | 0, [.tup ds] => some ds
  | 0, [.str s] => some (s.cps.toList.map fun c => .str ⟨#[c]⟩)
  | 4, [.dct kvs] => some (kvs.map fun kv => .tup [kD kv.1, kv.2])
  | 5, [.dct kvs] => some (kvs.map fun kv => kv.2)
  | 0, [.dct kvs] => some (kvs.map fun kv => kD kv.1)
  | 1, [.int n] => if decide (-(lim : Int) ≤ n) && decide (n ≤ lim) then some ((List.range n.toNat).map fun i => .int (i : Nat)) else none
  | 1, [.int a, .int b] => if decide (-(lim : Int) ≤ a) && decide (a ≤ lim) && decide (-(lim : Int) ≤ b) && decide (b ≤ lim) then some ((List.range (b - a).toNat).map fun i => .int (a + (i : Nat))) else none
  | 2, [.lst a, .lst b] => some ((a.zip b).map fun p => .tup [p.1, p.2])
  | 2, [.tup a, .tup b] => some ((a.zip b).map fun p => .tup [p.1, p.2])
  | 3, [.lst a] => some (a.zipIdx.map fun p => .tup [.int (p.2 : Nat), p.1])
  | 3, [.tup a] => some (a.zipIdx.map fun p => .tup [.int (p.2 : Nat), p.1])
  | _, _ => none
/-- a dict is walked: it is locked meanwhile -/
def dctSrc : List D → Bool
  | [.dct _] => true
  | _ => false
def Res.noX {α : Type} (r : Res α) : Res α := match r with
  | .ok a ρ => .ok a ρ
  | _ => .stuck
@[simp] theorem Res.noX_ok {α : Type} {a : α} {ρ : Vn} : (Res.ok a ρ).noX = .ok a ρ := rfl
def lcGo (vs : List Nat) (tg : MT) (body : Vn → Res (Option D)) : List D → Vn → Res (List D)
  | [], ρ => .ok [] ρ
  | d :: ds, ρ => (ofOpt (asgT tg d (wipeV ρ vs)) ρ).bind fun ρ1 _ => (body ρ1).bind fun r ρ2 => (lcGo vs tg body ds ρ2).bind fun rs ρ3 => .ok (r.toList ++ rs) ρ3
def Sl.data : Sl → Option D
  | .val d => some d | .own d => some d | .io d => some d | .lkd d => some d | .non => none
/-- what is walked is read when the walk begins -/
def fresh (ρ : Vn) : List ME → List D → List D
  | .rd i :: ms, d :: ds => ((ρ[i]?.bind Sl.data).getD .non) :: fresh ρ ms ds
  | _ :: ms, d :: ds => d :: fresh ρ ms ds
  | _, _ => []
def wrAt (ρ : Vn) (i : Nat) : Bool := match ρ[i]? with
  | some s => s.isWr
  | none => false
/-- what an own class gives under a name -/
inductive OwnM where
  | fld
  | prop (fn : Fn)
  | meth (fn : Fn)
/-- the defs, and what the own classes give -/
structure Tab where
  fn : String → Option Fn
  own : Str → Str → Option OwnM
instance : CoeFun Tab fun _ => String → Option Fn := ⟨Tab.fn⟩
section
variable (Φ : Tab)
def callF (f : String) (ds : List D) (ρ : Vn) : Res (Bool × D) := match Φ f with
  | some fn => if fn.io then .stuck else if ds.length ≤ fn.ar ∧ fn.ar ≤ ds.length + fn.dfl.length then
      match fn.run (ds ++ fn.dfl.drop (fn.dfl.length - (fn.ar - ds.length))) with
      | .ok d _ => .ok (fn.fresh, d) ρ
      | .exn x _ => .exn x ρ
      | .stuck => .stuck
    else .stuck
  | none => .stuck
def callIo (f : String) (i : Nat) (ds : List D) (ρ : Vn) : Res (Bool × D) := match Φ f, ρ[i]? with
  | some fn, some (.own d0) => if fn.io ∧ ds.length + 1 = fn.ar then
      match fn.run (d0 :: ds) with
      | .ok d s => .ok (fn.fresh, d) (ρ.set i (.own s))
      | .exn x s => .exn x (ρ.set i (.own s))
      | .stuck => .stuck
    else .stuck
  | some fn, some (.io d0) => if fn.io ∧ ds.length + 1 = fn.ar then
      match fn.run (d0 :: ds) with
      | .ok d s => .ok (fn.fresh, d) (ρ.set i (.io s))
      | .exn x s => .exn x (ρ.set i (.io s))
      | .stuck => .stuck
    else .stuck
  | _, _ => .stuck
/-- a def's result, as a value -/
def runF (fn : Fn) (ds : List D) (ρ : Vn) : Res (Bool × D) := match fn.run ds with
  | .ok d _ => .ok (fn.fresh, d) ρ
  | .exn x _ => .exn x ρ
  | .stuck => .stuck
def isInsD : D → Option Str
  | .ins C _ => some C
  | _ => none
def asBl (r : Res (Bool × D)) (neg : Bool) : Res Bool := r.bind fun x ρ => match x.2 with
  | .bl b => .ok (if neg then !b else b) ρ
  | _ => .stuck
/-- a comparison; == of an own class is a call -/
def cmpF (op : CmpOp) (x y : D) (ρ : Vn) : Res Bool := ofOpt (cmpD op x y) ρ
def memF (neg : Bool) (x y : D) (ρ : Vn) : Res Bool := (ofOpt (memD x y) ρ).bind fun b ρ => .ok (if neg then !b else b) ρ
def insLen : String → List D → Option Str
  | "len", [x] => isInsD x
  | _, _ => none
def biF (f : String) (ds : List D) (ρ : Vn) : Res (Bool × D) := ofOpt (biD f ds) ρ
def binF (op : Operator) (x y : D) (ρ : Vn) : Res (Bool × D) := ofOpt (binD op x y) ρ
def fldF (rd : Bool) (f : Str) (x : D) (ρ : Vn) : Res (Bool × D) := match x with
  | .ins C fs => match Φ.own C f with
    | some .fld => match fs.lookup f with
      | some d => .ok (false, d) ρ
      | none => .stuck
    | some (.prop fn) => if rd then .stuck else (runF fn [x] ρ).noX
    | _ => .stuck
  | _ => .stuck
/-- the def that x.m is -/
def methOf (m : Str) (x : D) : Option Fn := match x with
  | .ins C fs => match Φ.own C m with
    | some (.meth fn) => if fs.lookup m = none then some fn else none
    | _ => none
  | _ => none
def isoD (subs : List Str) : D → Option Bool
  | .ins C _ => some (subs.contains C)
  | .dcT _ => none
  | _ => some false
def getD1 (x k : D) (d : D) : Option D := match x with
  | .dct kvs => (keyD k).map fun k => (valD kvs k).getD d
  | _ => none
/-- what a star spreads -/
def seqD : D → Option (List D)
  | .lst xs => some xs
  | .tup xs => some xs
  | _ => none
def dupD (x : D) (ds : List D) : Option (Bool × D) := match x, prsD ds with
  | .dct kvs, some ps => if kvs.length + ps.length ≤ lim then some (true, .dct (ps.foldl (fun acc kv => putD acc kv.1 kv.2) kvs)) else none
  | _, _ => none
/-- what x.pop() gives and leaves -/
def popD (d : D) (p : Option D) : Option (D × D) := match d, p with
  | .lst ds, none => match ds[ds.length - 1]? with
    | some x => some (x, .lst ds.dropLast)
    | none => none
  | .lst ds, some (.int i) => if 0 ≤ i ∧ i < ds.length then (ds[i.toNat]?).map fun x => (x, .lst (ds.eraseIdx i.toNat)) else none
  | .dct kvs, some k => (keyD k).bind fun k => (valD kvs k).map fun x => (x, .dct (kvs.filter fun kv => decide (kv.1 ≠ k)))
  | _, _ => none
def popS (ρ : Vn) (i : Nat) (p : Option D) : Res (Bool × D) := match ρ[i]? with
  | some (.own d) => (ofOpt (popD d p) ρ).bind fun r ρ => .ok (false, r.1) (ρ.set i (.own r.2))
  | some (.io d) => (ofOpt (popD d p) ρ).bind fun r ρ => .ok (false, r.1) (ρ.set i (.io r.2))
  | _ => .stuck
/-- methods of built-in types -/
def bmD (m : String) (x : D) (ds : List D) : Option (Bool × D) := none
def dcGo (vs : List Nat) (tg : MT) (body : Vn → Res (Option (D × D))) : List D → Vn → Res (List (D × D))
  | [], ρ => .ok [] ρ
  | d :: ds, ρ => (ofOpt (asgT tg d (wipeV ρ vs)) ρ).bind fun ρ1 _ => (body ρ1).bind fun r ρ2 => (dcGo vs tg body ds ρ2).bind fun rs ρ3 => .ok (r.toList ++ rs) ρ3
def keysD : List (D × D) → Option (List (Key × D))
  | [] => some []
  | (k, v) :: r => match keyD k, keysD r with
    | some k, some r => some ((k, v) :: r)
    | _, _ => none
def mkDct (ps : List (D × D)) : Option (Bool × D) := (keysD ps).map fun kvs => (true, .dct (kvs.foldl (fun acc kv => putD acc kv.1 kv.2) []))
mutual
def evE : ME → Vn → Res (Bool × D)
  | .var i, ρ => match ρ[i]? with
    | some (.val d) => .ok (false, d) ρ
    | some (.own d) => .ok (false, d) (ρ.set i (.val d))
    | _ => .stuck
  | .rd i, ρ => match ρ[i]? with
    | some (.val d) => .ok (false, d) ρ
    | some (.own d) => .ok (false, d) ρ
    | some (.io d) => .ok (false, d) ρ
    | some (.lkd d) => .ok (false, d) ρ
    | _ => .stuck
  | .cst d, ρ => .ok (false, d) ρ
  | .tup es, ρ => (evL es ρ).bind fun ds ρ => .ok (false, .tup ds) ρ
  | .lst es, ρ => (evL es ρ).bind fun ds ρ => .ok (true, .lst ds) ρ
  | .bin op a b, ρ => (evE a ρ).bind fun x ρ => (evE b ρ).bind fun y ρ => binF op x.2 y.2 ρ
  | .neg a, ρ => (evE a ρ).bind fun x ρ => match x.2 with
    | .int i => .ok (false, .int (-i)) ρ
    | _ => .stuck
  | .not a, ρ => (evE a ρ).bind fun x ρ => (ofOpt (truD x.2) ρ).bind fun b ρ => .ok (false, .bl (!b)) ρ
  | .and a b, ρ => (evE a ρ).bind fun x ρ => (ofOpt (truD x.2) ρ).bind fun c ρ => if c then evE b ρ else .ok (false, .bl false) ρ
  | .or a b, ρ => (evE a ρ).bind fun x ρ => (ofOpt (truD x.2) ρ).bind fun c ρ => if c then .ok (false, .bl true) ρ else evE b ρ
  | .cmp op a b, ρ => (evE a ρ).bind fun x ρ => (evE b ρ).bind fun y ρ => (cmpF op x.2 y.2 ρ).bind fun b ρ => .ok (false, .bl b) ρ
  | .chain op op' a b c, ρ => (evE a ρ).bind fun x ρ => (evE b ρ).bind fun y ρ => (ofOpt (cmpD op x.2 y.2) ρ).bind fun k ρ =>
      if k then (evE c ρ).bind fun z ρ => (ofOpt (cmpD op' y.2 z.2) ρ).bind fun b ρ => .ok (false, .bl b) ρ else .ok (false, .bl false) ρ
  | .ite c a b, ρ => (evE c ρ).bind fun x ρ => (ofOpt (truD x.2) ρ).bind fun k ρ => if k then evE a ρ else evE b ρ
  | .call f es, ρ => (evL es ρ).bind fun ds ρ => callF Φ f ds ρ
  | .callio f i es, ρ => if wrAt ρ i then (evL es ρ).bind fun ds ρ => callIo Φ f i ds ρ else .stuck
  | .bi f es, ρ => (evL es ρ).bind fun ds ρ => biF f ds ρ
  | .isi a cs, ρ => (evE a ρ).bind fun x ρ => match cs with
    | [c] => (ofOpt (isiD x.2 c) ρ).bind fun b ρ => .ok (false, .bl b) ρ
    | _ => .stuck
  | .iso a subs, ρ => (evE a ρ).bind fun x ρ => (ofOpt (isoD subs x.2) ρ).bind fun b ρ => .ok (false, .bl b) ρ
  | .mem neg a b, ρ => (evE a ρ).bind fun x ρ => (evE b ρ).bind fun y ρ => (memF neg x.2 y.2 ρ).bind fun b ρ => .ok (false, .bl b) ρ
  | .get a k d, ρ => (evE a ρ).bind fun x ρ => (evE k ρ).bind fun y ρ => match d with
    | none => (ofOpt (getD1 x.2 y.2 .non) ρ).bind fun d ρ => .ok (false, d) ρ
    | some d => (evE d ρ).bind fun z ρ => (ofOpt (getD1 x.2 y.2 z.2) ρ).bind fun d ρ => .ok (false, d) ρ
  | .fld a f, ρ => (evE a ρ).bind fun x ρ => fldF Φ a.isRd f x.2 ρ
  | .meth a m es, ρ => (evE a ρ).bind fun x ρ => (ofOpt (methOf Φ m x.2) ρ).bind fun fn ρ => (evL es ρ).bind fun ds ρ => if ds.length + 1 = fn.ar then runF fn (x.2 :: ds) ρ else .stuck
  | .popio i p, ρ => if wrAt ρ i then (match p with
    | none => popS ρ i none
    | some p => (evE p ρ).bind fun x ρ => popS ρ i (some x.2)) else .stuck
  | .stup fl es, ρ => (evX fl es ρ).bind fun xs ρ => if xs.length ≤ lim then .ok (false, .tup xs) ρ else .stuck
  | .slst fl es, ρ => (evX fl es ρ).bind fun xs ρ => if xs.length ≤ lim then .ok (true, .lst xs) ρ else .stuck
  | .dup a es, ρ => (evE a ρ).bind fun x ρ => (evL es ρ).bind fun ds ρ => ofOpt (dupD x.2 ds) ρ
  | .dc kx vx vs tg k its tst, ρ0 => (evL its ρ0).bind fun ds ρ => (ofOpt (itD k (fresh ρ its ds)) ρ).bind fun xs ρ =>
      if xs.length ≤ lim ∧ (vs.all fun i => match ρ[i]? with
        | some s => !s.isOwn
        | none => false) then
        ((dcGo vs tg (fun ρ => match tst with
          | none => (evE kx ρ).bind fun x ρ => (evE vx ρ).bind fun y ρ => .ok (some (x.2, y.2)) ρ
          | some t => (evE t ρ).bind fun x ρ => (ofOpt (truD x.2) ρ).bind fun c ρ => if c then (evE kx ρ).bind fun x ρ => (evE vx ρ).bind fun y ρ => .ok (some (x.2, y.2)) ρ else .ok none ρ) xs (lockV ρ (rdIdx its))).noX).bind fun rs ρ' => (ofOpt (mkDct rs) ρ').bind fun r ρ' => .ok r (backV ρ' ρ (rdIdx its ++ vs))
      else .stuck
  | .sc _ _ _ _ _, _ => .stuck
  | .lc2 _ _ _ _ _ _ _ _, _ => .stuck
  | .bm m a es, ρ => (evE a ρ).bind fun x ρ => (evL es ρ).bind fun ds ρ => ofOpt (bmD m x.2 ds) ρ
  | .ix a b, ρ => (evE a ρ).bind fun x ρ => (evE b ρ).bind fun y ρ => (ofOpt (ixD x.2 y.2) ρ).bind fun d ρ => .ok (false, d) ρ
  | .slc a lo hi, ρ => (evE a ρ).bind fun x ρ => (evO lo ρ).bind fun l ρ => (evO hi ρ).bind fun h ρ => ofOpt (slcD x.2 l h) ρ
  | .dsp es, ρ => (evL es ρ).bind fun ds ρ => ofOpt (dspD ds) ρ
  | .lc elt vs tg k its tst, ρ0 => (evL its ρ0).bind fun ds ρ => (ofOpt (itD k (fresh ρ its ds)) ρ).bind fun xs ρ =>
      if xs.length ≤ lim ∧ (vs.all fun i => match ρ[i]? with
        | some s => !s.isOwn
        | none => false) then
        ((lcGo vs tg (fun ρ => match tst with
          | none => (evE elt ρ).bind fun x ρ => .ok (some x.2) ρ
          | some t => (evE t ρ).bind fun x ρ => (ofOpt (truD x.2) ρ).bind fun c ρ => if c then (evE elt ρ).bind fun x ρ => .ok (some x.2) ρ else .ok none ρ) xs (lockV ρ (rdIdx its))).noX).bind fun rs ρ' => .ok (true, .lst rs) (backV ρ' ρ (rdIdx its ++ vs))
      else .stuck
def evO : Option ME → Vn → Res (Option Int)
  | none, ρ => .ok none ρ
  | some m, ρ => (evE m ρ).bind fun x ρ => match x.2 with
    | .int i => .ok (some i) ρ
    | _ => .stuck
def evL : List ME → Vn → Res (List D)
  | [], ρ => .ok [] ρ
  | e :: es, ρ => (evE e ρ).bind fun x ρ => (evL es ρ).bind fun xs ρ => .ok (x.2 :: xs) ρ
/-- items, some of them spread -/
def evX : List Bool → List ME → Vn → Res (List D)
  | _, [], ρ => .ok [] ρ
  | fl, e :: es, ρ => (evE e ρ).bind fun x ρ => if fl.headD false then (ofOpt (seqD x.2) ρ).bind fun ys ρ => (evX fl.tail es ρ).bind fun xs ρ => .ok (ys ++ xs) ρ else (evX fl.tail es ρ).bind fun xs ρ => .ok (x.2 :: xs) ρ
end
/-! ### statements -/
inductive Out where
  | nx (ρ : Vn) | rt (fl : Bool) (d : D) (ρ : Vn) | bk (ρ : Vn) | ct (ρ : Vn) | exn (x : Exn) (ρ : Vn) | stuck
def Res.out {α : Type} (r : Res α) (f : α → Vn → Out) : Out := match r with
  | .ok a ρ => f a ρ
  | .exn x ρ => .exn x ρ
  | .stuck => .stuck
@[simp] theorem Res.out_ok {α : Type} {a : α} {ρ : Vn} {f : α → Vn → Out} : (Res.ok a ρ).out f = f a ρ := rfl
@[simp] theorem Res.out_exn {α : Type} {x : Exn} {ρ : Vn} {f : α → Vn → Out} : (Res.exn x ρ : Res α).out f = .exn x ρ := rfl
@[simp] theorem Res.out_stuck {α : Type} {f : α → Vn → Out} : (Res.stuck : Res α).out f = .stuck := rfl
def Out.noXif (o : Out) (b : Bool) : Out := match o with
  | .exn x ρ => if b then .stuck else .exn x ρ
  | o => o
/-- the locks go -/
def Out.back (o : Out) (ρ0 : Vn) (is : List Nat) : Out := match o with
  | .nx ρ => .nx (unlockV ρ ρ0 is)
  | .rt fl d ρ => .rt fl d (unlockV ρ ρ0 is)
  | .bk ρ => .bk (unlockV ρ ρ0 is)
  | .ct ρ => .ct (unlockV ρ ρ0 is)
  | .exn x ρ => .exn x (unlockV ρ ρ0 is)
  | .stuck => .stuck
def forGo (tg : MT) (body : Vn → Out) : List D → Vn → Out
  | [], ρ => .nx ρ
  | d :: ds, ρ => match asgT tg d ρ with
    | none => .stuck
    | some ρ1 => match body ρ1 with
      | .nx ρ2 => forGo tg body ds ρ2
      | .ct ρ2 => forGo tg body ds ρ2
      | .bk ρ2 => .nx ρ2
      | o => o
def whGo (c : Vn → Res (Bool × D)) (body : Vn → Out) : Nat → Vn → Out
  | 0, _ => .stuck
  | n + 1, ρ => (c ρ).out fun x ρ => (ofOpt (truD x.2) ρ).out fun b ρ => if b then match body ρ with
      | .nx ρ2 => whGo c body n ρ2
      | .ct ρ2 => whGo c body n ρ2
      | .bk ρ2 => .nx ρ2
      | o => o
    else .nx ρ
/-- an owned slot is taken, changed, put back -/
def updS (ρ : Vn) (i : Nat) (f : D → Option D) : Option Vn := match ρ[i]? with
  | some (.own d) => (f d).map fun d' => ρ.set i (.own d')
  | some (.io d) => (f d).map fun d' => ρ.set i (.io d')
  | _ => none
/-- a slot has a list of its own -/
def lstAt (ρ : Vn) (i : Nat) : Bool := match ρ[i]? with
  | some (.own (.lst _)) => true
  | some (.io (.lst _)) => true
  | _ => false
/-- .. or a dict -/
def setAt (ρ : Vn) (i : Nat) : Bool := match ρ[i]? with
  | some (.own (.lst _)) => true
  | some (.io (.lst _)) => true
  | some (.own (.dct _)) => true
  | some (.io (.dct _)) => true
  | _ => false
def setD (d k x : D) : Option D := match d, k with
  | .lst ds, .int j => if 0 ≤ j ∧ j < ds.length then some (.lst (ds.set j.toNat x)) else none
  | .dct kvs, k => if kvs.length < lim then (keyD k).map fun k => .dct (putD kvs k x) else none
  | _, _ => none
/-- x.m(..) -/
def mutD (m : String) (d : D) (es : List D) : Option D := none
def putF' (f : Str) (x : D) : List (Str × D) → List (Str × D)
  | [] => [(f, x)]
  | (g, y) :: r => if g = f then (g, x) :: r else (g, y) :: putF' f x r
def setFD (f : Str) (x d : D) : Option D := match d with
  | .ins C fs => match Φ.own C f with
    | some .fld => if fs.length < 900 then some (.ins C (putF' f x fs)) else none
    | _ => none
  | _ => none
mutual
def exS (n : Nat) : MS → Vn → Out
  | .set tg e, ρ => (evE Φ e ρ).out fun x ρ => match tg with
    | .nm i => (ofOpt (setS ρ i (if x.1 then .own x.2 else .val x.2)) ρ).out fun ρ _ => .nx ρ
    | tg => (ofOpt (asgT tg x.2 ρ) ρ).out fun ρ _ => .nx ρ
  | .tri i j k a b c, ρ => (evE Φ a ρ).out fun x ρ => (evE Φ b ρ).out fun y ρ => (evE Φ c ρ).out fun z ρ => (ofOpt (setS ρ k (if z.1 then .own z.2 else .val z.2)) ρ).out fun ρ _ => (ofOpt (setS ρ i (.val x.2)) ρ).out fun ρ _ => (ofOpt (setS ρ j (.val y.2)) ρ).out fun ρ _ => .nx ρ
  | .setF i f e, ρ => (evE Φ e ρ).out fun x ρ => (ofOpt (updS ρ i (setFD Φ f x.2)) ρ).out fun ρ _ => .nx ρ
  | .mut i m es, ρ => if setAt ρ i then (evL Φ es ρ).out fun ds ρ => (ofOpt (updS ρ i fun d => mutD m d ds) ρ).out fun ρ _ => .nx ρ else .stuck
  | .par i j a b, ρ => (evE Φ a ρ).out fun x ρ => (evE Φ b ρ).out fun y ρ => (ofOpt (setS ρ i (.val x.2)) ρ).out fun ρ _ => (ofOpt (setS ρ j (.val y.2)) ρ).out fun ρ _ => .nx ρ
  | .setIx i ix e, ρ => (evE Φ e ρ).out fun x ρ => if setAt ρ i then (evE Φ ix ρ).out fun k ρ => (ofOpt (updS ρ i fun d => setD d k.2 x.2) ρ).out fun ρ _ => .nx ρ else .stuck
  | .expr e, ρ => (evE Φ e ρ).out fun _ ρ => .nx ρ
  | .app i e, ρ => if lstAt ρ i then (evE Φ e ρ).out fun x ρ => (ofOpt (updS ρ i fun d => match d with
      | .lst ds => if ds.length ≤ lim then some (.lst (ds ++ [x.2])) else none
      | _ => none) ρ).out fun ρ _ => .nx ρ else .stuck
  | .ins i p e, ρ => .stuck
  | .ite c a b, ρ => (evE Φ c ρ).out fun x ρ => (ofOpt (truD x.2) ρ).out fun k ρ => if k then exB n a ρ else exB n b ρ
  | .for tg k its body, ρ => (evL Φ its ρ).out fun ds ρ => (ofOpt (itD k (fresh ρ its ds)) ρ).out fun xs ρ => ((forGo tg (exB n body) xs (lockV ρ (rdIdx its))).noXif (dctSrc (fresh ρ its ds))).back ρ (rdIdx its)
  | .while c body, ρ => whGo (evE Φ c) (exB n body) n ρ
  | .ret e, ρ => match e with
    | .var i => match ρ[i]? with
      | some (.own d) => .rt true d (ρ.set i .non)
      | some (.val d) => .rt false d ρ
      | _ => .stuck
    | e => (evE Φ e ρ).out fun x ρ => .rt x.1 x.2 ρ
  | .raise C, ρ => .exn ⟨C, []⟩ ρ
  | .brk, ρ => .bk ρ
  | .pass, ρ => .nx ρ
  | .bad, _ => .stuck
def exB (n : Nat) : List MS → Vn → Out
  | [], ρ => .nx ρ
  | s :: ss, ρ => match exS n s ρ with
    | .nx ρ => exB n ss ρ
    | o => o
end
end
end Z

namespace Z
open PySem PySem.Spec L2
open PyProof.Rows hiding St
/-! ### a def's promise, its run -/
def addO (O : Addr → Prop) (p : Addr) : Addr → Prop := fun b => O b ∨ b = p
def ExnRep (K : PySem.W.Frag) (G H : Hp) (x : Exn) (od : Option Addr) : Prop := match x.fs with
  | [] => od = none
  | fs => ∃ d ws, od = some d ∧ H d = some (.xd ws) ∧ RepF K G fs ws
/-- the hidden things behind a call: a new object that the caller is to own is hidden too -/
def newO (fl : Bool) (O : Addr → Prop) (v : V) : Addr → Prop := fun b => O b ∨ (fl = true ∧ v = .ref b)
/-- what a result is -/
def ResOk (K : PySem.W.Frag) (fl : Bool) (O : Addr → Prop) (H H' : Hp) (d : D) (v : V) : Prop :=
  if fl = true then ∃ p, v = .ref p ∧ H p = none ∧ Top K (vis (newO fl O v) H') H' d p else Rep K (vis O H') d v
def spF (K : PySem.W.Frag) (fn : Fn) : Sp := fun vs H Q E => ∃ (ds : List D) (O : Addr → Prop) (a : Addr), vs.length = fn.ar ∧ (∀ b, O b → H b ≠ none) ∧
  (if fn.io = true then ∃ r d0 dr, vs = .ref a :: r ∧ ds = d0 :: dr ∧ O a ∧ Top K (vis O H) H d0 a ∧ Reps K (vis O H) dr r else Reps K (vis O H) ds vs) ∧
  match fn.run ds with
  | .ok d s => ∀ v H', Kp (fun b => fn.io = true ∧ b = a) H H' → ResOk K fn.fresh O H H' d v → (fn.io = true → Top K (vis (newO fn.fresh O v) H') H' s a) → Q v H'
  | .exn x s => ∀ od H', Kp (fun b => fn.io = true ∧ b = a) H H' → (fn.io = true → Top K (vis O H') H' s a) → ExnRep K (vis O H') H' x od → E (.ref (He.ga K x.C)) od H'
  | .stuck => False
/-- as FnOk, no repr under way -/
structure FnG (P : Program) (w : World) (K : PySem.W.Frag) (mg : Str → Option Value) (base : Heap) (k : Nat) (f : Addr) (fd : FuncData) (ps : List Str) (sp : Sp) : Prop where
  len : ∀ vs H Q E, sp vs H Q E → vs.length = ps.length
  run : ∀ (A : Around) (outer : List Env) (s : Shared) (H : Hp) (args : Args) (us : List Value) (vs : List V) (Q : VK) (E : XK), Room k A → A.guards = some [] → Env0 P w K mg base A outer s H → BindsTo s fd args (ps.zip us) → Vals vs us → sp vs H Q E →
    codeAny (model P w) A (.call (.ref f) args) (CR (L2.CX P w) outer P w H s Q E) s
theorem FnG.mono {P : Program} {w : World} {K : PySem.W.Frag} {mg : Str → Option Value} {base : Heap} {j k : Nat} {f : Addr} {fd : FuncData} {ps : List Str} {sp : Sp} (F : FnG P w K mg base j f fd ps sp) (h : j ≤ k) : FnG P w K mg base k f fd ps sp :=
  ⟨F.len, fun A outer s H args us vs Q E hr => F.run A outer s H args us vs Q E (hr.mono h)⟩
theorem FnG.imp {P : Program} {w : World} {K : PySem.W.Frag} {mg : Str → Option Value} {base : Heap} {k : Nat} {f : Addr} {fd : FuncData} {ps : List Str} {sp sp' : Sp} (F : FnG P w K mg base k f fd ps sp)
    (h : ∀ vs H Q E, sp' vs H Q E → sp vs H Q E) : FnG P w K mg base k f fd ps sp' :=
  ⟨fun vs H Q E q => F.len vs H Q E (h _ _ _ _ q), fun A outer s H args us vs Q E hr hg he hb hv hs => F.run A outer s H args us vs Q E hr hg he hb hv (h _ _ _ _ hs)⟩
theorem deeper_guards {A : Around} {env : Env} : (A.deeper env).guards = A.guards := by first | rfl | simp [Around.deeper]
/-- a def of the text keeps a promise that its body keeps -/
theorem fnG_of {P : Program} {w : World} {K : PySem.W.Frag} {mg : Str → Option Value} {base : Heap} {k : Nat} {x qual : Str} {params : Arguments} {body : List Stmt} {scope : Scope} {dvs : List V} {kws : List (Str × V)} {f : Addr} {fd : FuncData} {N ps : List Str} {sp : Sp}
    (F : FunD K x qual params body scope dvs kws f fd) (S : FnScope N ps scope) (len : ∀ vs H Q E, sp vs H Q E → vs.length = ps.length)
    (hb : ∀ (cdv : Value) (A : Around) (outer : List Env) (s : Shared) (H : Hp) (vs : List V) (Q : VK) (E : XK), Room k (A.deeper (envOfC qual scope s.heap.objs.size f cdv)) → (A.deeper (envOfC qual scope s.heap.objs.size f cdv)).guards = some [] → sp vs H Q E →
      ∃ t, PSs (cxOf (L2.CX P w) P w K mg base N qual scope f cdv A outer s H E) body t ∧ t { nx := fun _ H' => Q .non H', rt := Q } (start N vs) H) : FnG P w K mg base (k + 1) f fd ps sp := by
  obtain ⟨oc, od, dV, kV, doc, pm, an, cdv, ct, osl, rfl, lk, hcd, _, _⟩ := F.ex
  constructor
  · exact len
  · intro A outer s H args us vs Q E hr hgd e0 hbd rv hsp
    have hin : K.In s.heap := e0.mod.kin.keeps (fun b o e => (e0.bs b o e).1)
    have hlim : s.heap.NoLimit := e0.mod.nolimit.keeps (fun b o e => (e0.bs b o e).1)
    apply codeAny_call_function hr.depth (hin _ _ lk) rfl S.co S.gen rfl (PySem.W.codeRec_of hin hcd)
    apply hbd
    refine wpAny_newFunctionEnv_cells S.kind ?_ ?_
    · intro y hy
      have hp := S.par y.1 (List.of_mem_zip (show (y.1, y.2) ∈ ps.zip us from hy)).1
      rcases hp with q | q
      · exact Or.inl q
      · exact Or.inr ⟨q, PySem.W.cellsFrom_some _ _ _ (Or.inl q)⟩
    · intro env he s1 xc
      subst he
      refine ⟨hlim.keeps xc.toInCall.keep, codeAny_func ?_⟩
      have hsp' := hsp
      obtain ⟨t, ht, hq⟩ := hb cdv A outer s H vs Q E (hr.deeper _) (deeper_guards.trans hgd) hsp
      have J := inv_start (CX := L2.CX P w) (qual := qual) (f := f) (cd := cdv) (E := E) S hr.hd e0 (len _ _ _ _ hsp') rv xc
      apply wpAny_mono (ht.run [] s1 (start N vs) H _ J hq)
      · intro fl s' hs
        cases fl with
        | ret u =>
          obtain ⟨v, σ', H', J', r', q'⟩ := hs
          exact ⟨v, H', J'.os, J'.bare, J'.base, J'.hok, r', q'⟩
        | next =>
          obtain ⟨σ', H', J', q'⟩ := hs
          exact ⟨V.non, H', J'.os, J'.bare, J'.base, J'.hok, rfl, q'⟩
        | brk => exact hs.elim fun _ z => z.elim fun _ z => z.2.elim
        | cont => exact hs.elim fun _ z => z.elim fun _ z => z.2.elim
      · intro e s' hs
        exact hs
/-! ### what is run, by itself -/
section
variable (X : Cx)
def WE (e : Expr) : TE := fun σ H Q => ∀ pins s, Inv X pins σ H s → wpAny (model X.prog X.w) X.A (eval e X.env) (EP X pins σ Q) X.xe s
def WT (e : Expr) : TT := fun σ H Q => ∀ pins s, Inv X pins σ H s → wpAny (model X.prog X.w) X.A (isTrue e X.env (eval e X.env)) (TP X pins σ Q) X.xe s
def WA (es : List Expr) : TA := fun σ H Q => ∀ pos pins s, Inv X pins σ H s → wpAny (model X.prog X.w) X.A (spliced (backTo pos (starEach es X.env))) (AP X pins σ Q) X.xe s
def WS (st : Stmt) : TS := fun D σ H => ∀ pins s, Inv X pins σ H s → wpAny (model X.prog X.w) X.A (exec st X.env) (SP X pins D) X.xe s
def WB (st : List Stmt) : TS := fun D σ H => ∀ pins s, Inv X pins σ H s → wpAny (model X.prog X.w) X.A (execs st X.env) (SP X pins D) X.xe s
end
section
variable {X : Cx}
theorem pe_w {e : Expr} : PE X e (WE X e) := ⟨fun pins s σ H Q I h => h pins s I⟩
theorem pt_w {e : Expr} : PT X e (WT X e) := ⟨fun pins s σ H Q I h => h pins s I⟩
theorem pa_w {es : List Expr} : PA X es (WA X es) := ⟨fun pos pins s σ H Q I h => h pos pins s I⟩
theorem ps_w {st : Stmt} : PS X st (WS X st) := ⟨fun pins s σ H D I h => h pins s I⟩
theorem pss_w {st : List Stmt} : PSs X st (WB X st) := ⟨fun pins s σ H D I h => h pins s I⟩
theorem WE.by {e : Expr} {t : TE} (h : PE X e t) {σ : L2.St} {H : Hp} {Q : VK} (q : t σ H Q) : WE X e σ H Q := fun pins s I => h.run pins s σ H Q I q
theorem WT.by {e : Expr} {t : TT} (h : PT X e t) {σ : L2.St} {H : Hp} {Q : Bool → Hp → Prop} (q : t σ H Q) : WT X e σ H Q := fun pins s I => h.run pins s σ H Q I q
theorem WA.by {es : List Expr} {t : TA} (h : PA X es t) {σ : L2.St} {H : Hp} {Q : List V → Hp → Prop} (q : t σ H Q) : WA X es σ H Q := fun pos pins s I => h.run pos pins s σ H Q I q
theorem WS.by {e : Stmt} {t : TS} (h : PS X e t) {σ : L2.St} {H : Hp} {D : Ends} (q : t D σ H) : WS X e D σ H := fun pins s I => h.run pins s σ H D I q
theorem WB.by {e : List Stmt} {t : TS} (h : PSs X e t) {σ : L2.St} {H : Hp} {D : Ends} (q : t D σ H) : WB X e D σ H := fun pins s I => h.run pins s σ H D I q
/-! ### calls -/
def PassG (X : Cx) (σ : L2.St) (E : XK) : Prop := ∀ (pins : List (Addr × Obj)) (H : Hp) (s : Shared) (e : Value) (s' : Shared), Inv X pins σ H s → L2.CX X.prog X.w X.stack H s E e s' → X.xe e s'
theorem passG {W : WX} (tk : Takes X W) (σ : L2.St) : PassG X σ (fun c d H => W c d σ H) := fun _ _ _ e s' I c => tk e s' (XE.of_call I (fun _ _ _ h => h) c)
def tCallG (sp : Sp) (dvs : List V) (E : L2.St → XK) (t : TA) : TE := fun σ H Q => t σ H fun vs H1 => sp (vs ++ dvs) H1 Q (E σ)
variable {k : Nat} {f : Addr} {fd : FuncData} {ps : List Str} {sp : Sp} {dvs : List V} {ds : List Value} {E : L2.St → XK} {x : Str} {p pos : Pos} {e : Expr} {es : List Expr} {t : TA}
theorem run_fnG {pins : List (Addr × Obj)} {σ : L2.St} {H : Hp} {s : Shared} {Q : VK} {us : List Value} {vs : List V} {E : XK} (F : FnG X.prog X.w X.K X.mg X.base k f fd ps sp) (hr : Room k X.A) (hgd : X.A.guards = some []) (hb : Binds X.K fd ps ds) (hd : Vals dvs ds) (hx : PassG X σ E)
    (I : Inv X pins σ H s) (r : Vals vs us) (h : sp (vs ++ dvs) H Q E) : wpAny (model X.prog X.w) X.A (call (.ref f) us) (EP X pins σ Q) X.xe s := by
  have r2 := Vals.append r hd
  have hbd := hb s us I.kIn (r2.length.symm.trans (F.len _ _ _ _ h))
  apply wpAny_call
  apply codeAny_mono (F.run X.A X.stack s H ⟨us, []⟩ (us ++ ds) (vs ++ dvs) Q E hr hgd I.env0 hbd r2 h)
  rintro (e | fl) s' hq
  · exact hx pins H s e s' I hq
  · cases fl with
    | ret u => exact I.after hq
    | _ => exact hq.elim
theorem pe_callG (F : FnG X.prog X.w X.K X.mg X.base k f fd ps sp) (hr : Room k X.A) (hgd : X.A.guards = some []) (hg : Gl X x) (hm : X.mg x = some (.ref f)) (hk : PySem.W.keepIn X.K (.ref f) = true) (hb : Binds X.K fd ps ds) (hd : Vals dvs ds) (hx : ∀ σ, PassG X σ (E σ))
    (ha : PA X (e :: es) t) (hdb : (x == ("__debug__" : Str)) = false) (he : starEach (e :: es) X.env = (false, eval e X.env) :: starEach es X.env) (hpl : (backTo pos (starEach es X.env)).any (·.1) = false) :
    PE X (.Call (.Name x p) (e :: es) [] pos) (tCallG sp dvs E t) := by
  constructor
  intro pins s σ H Q I h
  apply wpAny_Call_Name_kw
  refine ld_glob I hg hm ?_ hdb
  refine PySem.W.callWith_K (h₀ := X.base) I.ok.mod.kin hk (thn (ha.run pos pins s σ H _ I h) ?_) he hpl
  rintro us s1 ⟨vs, H1, I1, r, q⟩
  exact ⟨I1.kIn, run_fnG F hr hgd hb hd (hx σ) I1 r q⟩
theorem pe_callG0 (F : FnG X.prog X.w X.K X.mg X.base k f fd ps sp) (hr : Room k X.A) (hgd : X.A.guards = some []) (hg : Gl X x) (hm : X.mg x = some (.ref f)) (hk : PySem.W.keepIn X.K (.ref f) = true) (hb : Binds X.K fd ps ds) (hd : Vals dvs ds) (hx : ∀ σ, PassG X σ (E σ))
    (hdb : (x == ("__debug__" : Str)) = false) : PE X (.Call (.Name x p) [] [] pos) (tCallG sp dvs E tNil) := by
  constructor
  intro pins s σ H Q I h
  apply wpAny_Call_Name_kw
  refine ld_glob I hg hm ?_ hdb
  exact PySem.W.callWith_K0 I.kIn hk (run_fnG (us := []) F hr hgd hb hd (hx σ) I .nil h)
/-- f may be called, by anyone with room: its promise -/
def CallAt (P : Program) (w : World) (K : PySem.W.Frag) (mg : Str → Option Value) (base : Heap) (L : Nat) (f : Addr) (sp : Sp) : Prop := ∀ X : Cx, X.prog = P → X.w = w → X.K = K → X.mg = mg → X.base = base → Room L X.A → X.A.guards = some [] →
  ∀ (pins : List (Addr × Obj)) (σ : L2.St) (H : Hp) (s : Shared) (Q : VK) (us : List Value) (vs : List V) (E : XK), PassG X σ E → Inv X pins σ H s → Vals vs us → sp vs H Q E → wpAny (model X.prog X.w) X.A (call (.ref f) us) (EP X pins σ Q) X.xe s
theorem FnG.callAt {P : Program} {w : World} {K : PySem.W.Frag} {mg : Str → Option Value} {base : Heap} {k : Nat} {f : Addr} {fd : FuncData} {ps : List Str} {sp : Sp} {dvs : List V} {ds : List Value} (F : FnG P w K mg base k f fd ps sp) (hb : Binds K fd ps ds) (hd : Vals dvs ds) :
    CallAt P w K mg base k f (fun vs H Q E => sp (vs ++ dvs) H Q E) := by
  intro X e1 e2 e3 e4 e5 hr hg pins σ H s Q us vs E hx I r h
  subst e1 e2 e3 e4 e5
  exact run_fnG F hr hg hb hd hx I r h
theorem CallAt.mono {P : Program} {w : World} {K : PySem.W.Frag} {mg : Str → Option Value} {base : Heap} {j k : Nat} {f : Addr} {sp : Sp} (c : CallAt P w K mg base j f sp) (h : j ≤ k) : CallAt P w K mg base k f sp :=
  fun X e1 e2 e3 e4 e5 hr => c X e1 e2 e3 e4 e5 (hr.mono h)
theorem pe_callA (F : CallAt X.prog X.w X.K X.mg X.base k f sp) (hr : Room k X.A) (hgd : X.A.guards = some []) (hg : Gl X x) (hm : X.mg x = some (.ref f)) (hk : PySem.W.keepIn X.K (.ref f) = true) (hx : ∀ σ, PassG X σ (E σ))
    (ha : PA X (e :: es) t) (hdb : (x == ("__debug__" : Str)) = false) (he : starEach (e :: es) X.env = (false, eval e X.env) :: starEach es X.env) (hpl : (backTo pos (starEach es X.env)).any (·.1) = false) :
    PE X (.Call (.Name x p) (e :: es) [] pos) (fun σ H Q => t σ H fun vs H1 => sp vs H1 Q (E σ)) := by
  constructor
  intro pins s σ H Q I h
  apply wpAny_Call_Name_kw
  refine ld_glob I hg hm ?_ hdb
  refine PySem.W.callWith_K (h₀ := X.base) I.ok.mod.kin hk (thn (ha.run pos pins s σ H _ I h) ?_) he hpl
  rintro us s1 ⟨vs, H1, I1, r, q⟩
  exact ⟨I1.kIn, F X rfl rfl rfl rfl rfl hr hgd pins σ H1 s1 Q us vs (E σ) (hx σ) I1 r q⟩
theorem pe_callA0 (F : CallAt X.prog X.w X.K X.mg X.base k f sp) (hr : Room k X.A) (hgd : X.A.guards = some []) (hg : Gl X x) (hm : X.mg x = some (.ref f)) (hk : PySem.W.keepIn X.K (.ref f) = true) (hx : ∀ σ, PassG X σ (E σ))
    (hdb : (x == ("__debug__" : Str)) = false) : PE X (.Call (.Name x p) [] [] pos) (fun σ H Q => sp [] H Q (E σ)) := by
  constructor
  intro pins s σ H Q I h
  apply wpAny_Call_Name_kw
  refine ld_glob I hg hm ?_ hdb
  exact PySem.W.callWith_K0 I.kIn hk (F X rfl rfl rfl rfl rfl hr hgd pins σ H s Q [] [] (E σ) (hx σ) I .nil h)
end
end Z

namespace Z
open PySem PySem.Spec L2
open PyProof.Rows hiding St
/-! ### from the text to what is run -/
structure Cfg where
  N : List Str
  fns : List (Str × String × Bool)
  cst : List (Str × D)
  free : List Str
  excs : List Str
  /-- methods of own classes -/
  meths : List Str
  /-- the body of an __init__ -/
  ini : Bool
def fuelT : Nat := 60
mutual
/-- nothing that stands is changed -/
def ME.still : ME → Bool
  | .var _ => true | .rd _ => true | .cst _ => true
  | .tup es => stillL es | .lst es => stillL es
  | .bin _ a b => a.still && b.still
  | .neg a => a.still | .not a => a.still
  | .and a b => a.still && b.still | .or a b => a.still && b.still
  | .cmp _ a b => a.still && b.still
  | .chain _ _ a b c => a.still && b.still && c.still
  | .ite c a b => c.still && a.still && b.still
  | .call _ es => stillL es
  | .callio _ _ _ => false
  | .bi _ es => stillL es
  | .isi a _ => a.still
  | .ix a b => a.still && b.still
  | .slc a lo hi => a.still && stillO lo && stillO hi
  | .dsp es => stillL es
  | .lc _ _ _ _ _ _ => false
  | .iso a _ => a.still
  | .mem _ a b => a.still && b.still
  | .get a k d => a.still && k.still && stillO d
  | .fld a _ => a.still
  | .meth a _ es => a.still && stillL es
  | .popio _ _ => false
  | .stup _ es => stillL es
  | .slst _ es => stillL es
  | .dup a es => a.still && stillL es
  | .dc _ _ _ _ _ _ _ => false
  | .sc _ _ _ _ _ => false
  | .lc2 _ _ _ _ _ _ _ _ => false
  | .bm _ a es => a.still && stillL es
def stillO : Option ME → Bool
  | none => true
  | some m => m.still
def stillL : List ME → Bool
  | [] => true
  | e :: es => e.still && stillL es
end
def slotOf (c : Cfg) (x : Str) : Option Nat := c.N.findIdx? fun y => decide (y = x)
def isVis (sc : Scope) (x : Str) : Bool := match sc.names.lookup x with
  | some .local => true | some .cell => true | some .free => true | _ => false
def isLoc (sc : Scope) (x : Str) : Bool := match sc.names.lookup x with
  | some .local => true | some .cell => true | _ => false
def isGl (sc : Scope) (x : Str) : Bool := match sc.names.lookup x with
  | some .globalImplicit => true | _ => false
def okName (x : Str) : Bool := !(x == ("__debug__" : Str)) && !(x == ("__classdict__" : Str)) && decide (x ≠ "__name__")
def biNames : List (Str × String) := [("len", "len"), ("abs", "abs"), ("int", "int"), ("repr", "repr"), ("str", "str"), ("list", "list"), ("tuple", "tuple"), ("all", "all"), ("any", "any"), ("sum", "sum"), ("max", "max"), ("min", "min"), ("sorted", "sorted"), ("dict", "dict")]
def notStar : Expr → Bool
  | .Starred _ _ => false
  | _ => true
def isComp : Expr → Bool
  | .ListComp _ _ _ _ => true | .SetComp _ _ _ _ => true | .DictComp _ _ _ _ _ => true | _ => false
def notSet : Expr → Bool
  | .Set _ _ _ => false
  | _ => true
/-- what may stand ahead of a dot -/
def dotBase : Expr → Bool
  | .Name _ _ => true
  | .Attribute _ _ _ => true
  | .Subscript _ _ _ => true
  | _ => false
def starFl : Expr → Bool
  | .Starred _ _ => true
  | _ => false
def starIn : Expr → Expr
  | .Starred e _ => e
  | e => e
def isTup : Expr → Bool
  | .Tuple _ _ _ => true
  | _ => false
/-- may be asked for its truth -/
def okT : Expr → Bool
  | .NamedExpr _ _ _ => false
  | .IfExp _ _ _ _ => false
  | _ => true
/-- the first operand may be looked at, if the others leave all as it is -/
def rdIf (a : ME) (b : ME) (r : Option ME) : Option ME := if a.isRd && !b.still then none else r
def isLocal (sc : Scope) (x : Str) : Bool := match sc.names.lookup x with
  | some .local => true | _ => false
def ownOf (c : Cfg) (scope : Scope) : List (Str × Nat) := scope.names.filterMap fun y => match y.2 with
  | .local => (slotOf c y.1).map fun i => (y.1, i)
  | .cell => (slotOf c y.1).map fun i => (y.1, i)
  | _ => none
mutual
def MT.slots : MT → List Nat
  | .nm i => [i]
  | .tp is => is
  | .tq ts => slotsL ts
def slotsL : List MT → List Nat
  | [] => []
  | t :: ts => t.slots ++ slotsL ts
end
/-- a name as a target -/
def trGn (c : Cfg) (all : Bool) (sc : Scope) : Expr → Option Nat
  | .Name x _ => if okName x && (if all then isLoc sc x else isLocal sc x) then slotOf c x else none
  | _ => none
def trGs (c : Cfg) (all : Bool) (sc : Scope) : List Expr → Option (List Nat)
  | [] => some []
  | e :: es => match trGn c all sc e, trGs c all sc es with
    | some i, some is => some (i :: is)
    | _, _ => none
mutual
def trQ (c : Cfg) (all : Bool) (sc : Scope) : Nat → Expr → Option MT
  | 0, e => (trGn c all sc e).map .nm
  | n + 1, e => match e with
    | .Tuple es _ _ => (trQs c all sc n es).map .tq
    | e => (trGn c all sc e).map .nm
def trQs (c : Cfg) (all : Bool) (sc : Scope) : Nat → List Expr → Option (List MT)
  | 0, _ => none
  | n + 1, es => match es with
    | [] => some []
    | e :: es => match trQ c all sc n e, trQs c all sc n es with
      | some t, some ts => some (t :: ts)
      | _, _ => none
end
def trG (c : Cfg) (all : Bool) (sc : Scope) (e : Expr) : Option MT := match e with
  | .Tuple es _ _ => match trGs c all sc es with
    | some is => some (.tp is)
    | none => trQ c all sc 12 e
  | e => (trGn c all sc e).map .nm
def MT.isNm : MT → Bool
  | .nm _ => true
  | _ => false
def isName : Expr → Bool
  | .Name _ _ => true
  | _ => false
def isiOk (C : Str) : Option String := if C = "int" then some "int" else if C = "bool" then some "bool" else if C = "str" then some "str" else if C = "tuple" then some "tuple" else if C = "list" then some "list" else if C = "dict" then some "dict" else none
def plainIxB : Expr → Bool
  | .Slice _ _ _ _ => false
  | .Tuple _ _ _ => false
  | _ => true
mutual
def trE (c : Cfg) : Nat → Scope → Bool → Expr → Option ME
  | 0, _, _, _ => none
  | n + 1, sc, rd, e => match e with
    | .Constant k _ _ => (match k with
      | .int i => some (.cst (.int i))
      | .str x => some (.cst (.str x))
      | .bool b => some (.cst (.bl b))
      | .none => some (.cst .non)
      | _ => none)
    | .Name x _ => if !okName x then none else if isVis sc x then (slotOf c x).map (if rd then .rd else .var) else if isGl sc x then (c.cst.lookup x).map .cst else none
    | .Tuple es _ _ => if es.any starFl then (trX c n sc es).map (.stup (es.map starFl)) else if es.length ≤ 1000 then (trL c n sc es).map .tup else none
    | .List es _ => if es.any starFl then (trX c n sc es).map (.slst (es.map starFl)) else if es.length ≤ 1000 then (trL c n sc es).map .lst else none
    | .Attribute a f _ => if dotBase a then (trE c n sc (c.ini && isName a) a).map fun m => .fld m f else none
    | .Dict ks vs _ => if ks.length ≤ 15 then (trD c n sc ks vs).map .dsp else none
    | .BinOp a op b _ => (match trE c n sc true a, trE c n sc true b with
      | some a', some b' => if a'.isRd && !b'.still then (match trE c n sc false a with
          | some a2 => if a2.isRd then none else some (.bin op a2 b')
          | none => none) else some (.bin op a' b')
      | _, _ => none)
    | .UnaryOp op a _ => (match op with
      | .USub => (trE c n sc false a).map .neg
      | .Not => if okT a then (trE c n sc false a).map .not else none
      | _ => none)
    | .BoolOp op es _ => (match es with
      | _ :: _ :: _ => trB c n sc op es
      | _ => none)
    | .Compare a ops bs _ => (match ops, bs with
      | [op], [b] => if op = .In ∨ op = .NotIn then (if notSet b then (match trE c n sc true a, trE c n sc true b with
        | some a', some b' => rdIf a' b' (some (.mem (decide (op = .NotIn)) a' b'))
        | _, _ => none) else none) else (match trE c n sc true a, trE c n sc true b with
        | some a', some b' => rdIf a' b' (some (.cmp op a' b'))
        | _, _ => none)
      | [op, op'], [b, d] => if op' = .In ∨ op' = .NotIn then none else (match trE c n sc false a, trE c n sc false b, trE c n sc false d with
        | some a', some b', some d' => some (.chain op op' a' b' d')
        | _, _, _ => none)
      | _, _ => none)
    | .IfExp t a b _ => if okT t then (match trE c n sc false t, trE c n sc false a, trE c n sc false b with
      | some t', some a', some b' => some (.ite t' a' b')
      | _, _, _ => none) else none
    | .Call fe args kws cp => (match fe, kws with
      | .Name f _, [] => if !okName f || !isGl sc f then none else (match c.fns.lookup f with
        | some (key, true) => (match args with
          | .Name x _ :: rest => if okName x && isVis sc x then (match slotOf c x, trL c n sc rest with
              | some i, some es => some (.callio key i es)
              | _, _ => none) else none
          | _ => none)
        | some (key, false) => (trL c n sc args).map (.call key)
        | none => if !(c.free.contains f) then none else (match args with
          | [a] => if notStar a then (match biNames.lookup f with
            | some b => (trE c n sc true a).map fun m => .bi b [m]
            | none => none) else none
          | [a, C] => if f = "max" ∨ f = "min" then (trL c n sc [a, C]).map fun ms => .bi (if f = "max" then "max" else "min") ms else if notStar a && decide (f = "isinstance") then (match C with
            | .Name C _ => if okName C && isGl sc C && c.free.contains C then (match isiOk C, trE c n sc true a with
              | some b, some m => some (.isi m [b])
              | _, _ => none) else none
            | _ => none) else none
          | _ => none))
      | .Attribute o m ap, [] => if dotBase o && c.meths.contains m && (decide (args.length < 30) && (ap.endLine == cp.line)) then (match trE c n sc false o, trL c n sc args with
        | some mo, some ms => some (.meth mo m ms)
        | _, _ => none) else none
      | _, _ => none)
    | .Subscript a b _ => (match b with
      | .Slice lo hi st _ => if st.isSome then none else (match trE c n sc true a, trO c n sc lo, trO c n sc hi with
        | some a', some l', some h' => if a'.isRd && !(stillO l' && stillO h') then (match trE c n sc false a with
            | some a2 => if a2.isRd then none else some (.slc a2 l' h')
            | none => none) else some (.slc a' l' h')
        | _, _, _ => none)
      | .Tuple _ _ _ => none
      | b => (match trE c n sc true a, trE c n sc false b with
        | some a', some b' => if a'.isRd && !b'.still then (match trE c n sc false a with
            | some a2 => if a2.isRd then none else some (.ix a2 b')
            | none => none) else some (.ix a' b')
        | _, _ => none))
    | .ListComp elt gs scope _ => (match gs with
      | [g] => if g.is_async = 0 then trC c n sc elt g.target g.iter g.ifs scope else none
      | _ => none)
    | _ => none
def trO (c : Cfg) : Nat → Scope → Option Expr → Option (Option ME)
  | 0, _, _ => none
  | n + 1, sc, e => match e with
    | none => some none
    | some e => (trE c n sc true e).map some
def trD (c : Cfg) : Nat → Scope → List (Option Expr) → List Expr → Option (List ME)
  | 0, _, _, _ => none
  | n + 1, sc, ks, vs => match ks, vs with
    | [], [] => some []
    | some k :: ks, v :: vs => (match trE c n sc false k, trE c n sc false v, trD c n sc ks vs with
      | some k, some v, some ms => some (k :: v :: ms)
      | _, _, _ => none)
    | _, _ => none
def trL (c : Cfg) : Nat → Scope → List Expr → Option (List ME)
  | 0, _, _ => none
  | n + 1, sc, es => match es with
    | [] => some []
    | e :: es => if !notStar e then none else match trE c n sc false e, trL c n sc es with
      | some m, some ms => some (m :: ms)
      | _, _ => none
/-- items, some with a star -/
def trX (c : Cfg) : Nat → Scope → List Expr → Option (List ME)
  | 0, _, _ => none
  | n + 1, sc, es => match es with
    | [] => some []
    | e :: es => match trE c n sc (starFl e) (starIn e), trX c n sc es with
      | some m, some ms => some (m :: ms)
      | _, _ => none
def trB (c : Cfg) : Nat → Scope → BoolOp → List Expr → Option ME
  | 0, _, _, _ => none
  | n + 1, sc, op, es => match es with
    | [] => none
    | [e] => if okT e then trE c n sc false e else none
    | e :: e2 :: es => if okT e then (match trE c n sc false e, trB c n sc op (e2 :: es) with
      | some a, some b => some (match op with
        | .And => .and a b
        | .Or => .or a b)
      | _, _ => none) else none
def trC (c : Cfg) : Nat → Scope → Expr → Expr → Expr → List Expr → Scope → Option ME
  | 0, _, _, _, _, _, _ => none
  | n + 1, sc, elt, tgE, iter, ifs, scope =>
    if blkC c.N sc scope (ownOf c scope) then
      match trG c false (relS scope sc) tgE, trI c n sc tgE iter, trE c n (relS scope sc) false elt with
      | some tg, some (k, ms), some me =>
        if (tg.slots.all fun i => decide (i ∈ (ownOf c scope).map (·.2))) then
          (match ifs with
          | [] => some (.lc me ((ownOf c scope).map (·.2)) tg k ms none)
          | [t] => if okT t then (trE c n (relS scope sc) false t).map fun mt => .lc me ((ownOf c scope).map (·.2)) tg k ms (some mt) else none
          | _ => none)
        else none
      | _, _, _ => none
    else none
def trI (c : Cfg) : Nat → Scope → Expr → Expr → Option (Nat × List ME)
  | 0, _, _, _ => none
  | n + 1, sc, tgE, iter => match iter with
    | .Call (.Name f p) args [] pos => if okName f && isGl sc f && c.free.contains f then
        (if f = "range" then (match args with
          | [_] => (trL c n sc args).map fun ms => (1, ms)
          | [_, _] => (trL c n sc args).map fun ms => (1, ms)
          | _ => none)
        else if f = "enumerate" ∧ isTup tgE = true then (match args with
          | [a] => if notStar a then (trE c n sc true a).map fun m => (3, [m]) else none
          | _ => none)
        else if f = "zip" ∧ isTup tgE = true then (match args with
          | [a, b] => if notStar a && notStar b then (match trE c n sc true a, trE c n sc true b with
            | some a, some b => some (2, [a, b])
            | _, _ => none) else none
          | _ => none)
        else if notSet iter then (trE c n sc true iter).map fun m => (0, [m]) else none)
      else if notSet iter then (trE c n sc true iter).map fun m => (0, [m]) else none
    | .Call (.Attribute e m ap) [] [] cp => if dotBase e && (ap.endLine == cp.line) then
        (if m = "items" ∧ isTup tgE = true then (trE c n sc true e).map fun m => (4, [m])
        else if m = "values" then (trE c n sc true e).map fun m => (5, [m])
        else if notSet iter then (trE c n sc true iter).map fun m => (0, [m]) else none)
      else if notSet iter then (trE c n sc true iter).map fun m => (0, [m]) else none
    | _ => if notSet iter then (trE c n sc true iter).map fun m => (0, [m]) else none
end
/-! ### statements -/
/-- a, b = x, y: stored from the right -/
def swPair (sc : Scope) (ts vs : List Expr) : Bool := match ts, vs with
  | [.Name x px, .Name y py], [a, b] => isLocal sc x && isLocal sc y && decide (x ≠ y) && (py.line == px.line) && notStar a && notStar b && !(vs.all (foldedForSure 8)) && !(vs.all (constantsAlone 8))
  | _, _ => false
def swTri (sc : Scope) (ts vs : List Expr) : Bool := match ts, vs with
  | [.Name x px, .Name y py, .Name z pz], [a, b, d] => isLocal sc x && isLocal sc y && isLocal sc z && decide (x ≠ y) && decide (x ≠ z) && decide (y ≠ z) && (py.line == px.line) && (pz.line == px.line) && notStar a && notStar b && notStar d && !(vs.all (foldedForSure 8)) && !(vs.all (constantsAlone 8))
  | _, _ => false
def trySlot (c : Cfg) (sc : Scope) (x : Str) : Option Nat := if okName x && isLoc sc x then slotOf c x else none
mutual
def trS (c : Cfg) : Nat → Scope → Stmt → Option MS
  | 0, _, _ => none
  | n + 1, sc, st => match st with
    | .Pass _ => some .pass
    | .Break _ => some .brk
    | .Expr e _ => (match e with
      | .Constant k _ _ => (match k with
        | .str _ => some .pass
        | _ => none)
      | .Call fe args kws cp => (match fe, args, kws with
        | .Attribute o m ap, [a], [] => if m = "append" ∧ (ap.endLine == cp.line) = true ∧ notStar a = true then (match o with
          | .Name x _ => if okName x && isVis sc x then (match slotOf c x, trE c fuelT sc false a with
            | some i, some ma => some (.app i ma)
            | _, _ => none) else none
          | _ => none) else none
        | _, _, _ => (trE c fuelT sc false e).map .expr)
      | e => if isComp e then none else (trE c fuelT sc false e).map .expr)
    | .Return e _ => (match e with
      | none => some (.ret (.cst .non))
      | some e => (trE c fuelT sc false e).map .ret)
    | .If t a b _ => if okT t then (trE c fuelT sc false t).map fun mt => .ite mt (trSs c n sc a) (trSs c n sc b) else none
    | .While t b orl _ => (match orl with
      | [] => if okT t then (trE c fuelT sc false t).map fun mt => .while mt (trSs c n sc b) else none
      | _ => none)
    | .For tgE iter b orl _ => (match orl with
      | [] => (match trG c true sc tgE, trI c fuelT sc tgE iter with
        | some tg, some (k, ms) => if notSet iter then some (.for tg k ms (trSs c n sc b)) else none
        | _, _ => none)
      | _ => none)
    | .Raise e cause _ => (match e, cause with
      | some (.Call fe args kws _), none => (match fe, args, kws with
        | .Name C _, [.Constant (.str _) _ _], [] => if okName C && isGl sc C && c.excs.contains C then some (.raise C) else none
        | _, _, _ => none)
      | _, _ => none)
    | .Assign tgs e _ => (match tgs with
      | [tgE] => (match tgE with
        | .Name x px => (match trySlot c sc x with
          | some i => (match e with
            | .ListComp elt gs scope lp => (match gs with
              | [g] => if g.is_async = 0 ∧ isLocal sc x = true ∧ (px.line == lp.line) = true ∧ (scope.names.any fun (n, k) => n == x && (k == .local || k == .cell)) = false then (trC c fuelT sc elt g.target g.iter g.ifs scope).map (.set (.nm i)) else none
              | _ => none)
            | e => if isComp e then none else (trE c fuelT sc false e).map (.set (.nm i)))
          | none => none)
        | .Tuple ts _ _ => (match e with
          | .Tuple vs _ _ => if swPair sc ts vs then (match ts, vs with
              | [.Name x _, .Name y _], [a, b] => (match trySlot c sc x, trySlot c sc y, trE c fuelT sc false a, trE c fuelT sc false b with
                | some i, some j, some ma, some mb => some (.par i j ma mb)
                | _, _, _, _ => none)
              | _, _ => none)
            else if swTri sc ts vs then (match ts, vs with
              | [.Name x _, .Name y _, .Name z _], [a, b, d] => (match trySlot c sc x, trySlot c sc y, trySlot c sc z with
                | some i, some j, some k => (match trE c fuelT sc false a, trE c fuelT sc false b, trE c fuelT sc false d with
                  | some ma, some mb, some md => some (.tri i j k ma mb md)
                  | _, _, _ => none)
                | _, _, _ => none)
              | _, _ => none)
            else if vs.all (foldedForSure 8) || decide (ts.length > 3) then (match trG c true sc tgE, trE c fuelT sc false e with
              | some tg, some m => if tg.isNm then none else some (.set tg m)
              | _, _ => none) else none
          | e => if isComp e then none else (match trG c true sc tgE, trE c fuelT sc false e with
              | some tg, some m => if tg.isNm then none else some (.set tg m)
              | _, _ => none))
        | .Attribute o f _ => if isComp e then none else (match o with
          | .Name x _ => if okName x && isVis sc x then (match slotOf c x, trE c fuelT sc false e with
            | some i, some me => some (.setF i f me)
            | _, _ => none) else none
          | _ => none)
        | .Subscript o ix _ => if plainIxB ix then (match o with
          | .Name x _ => if okName x && isVis sc x then (match slotOf c x, trE c fuelT sc true ix, trE c fuelT sc false e with
            | some i, some mi, some me => some (.setIx i mi me)
            | _, _, _ => none) else none
          | _ => none) else none
        | _ => none)
      | _ => none)
    | _ => none
def trSs (c : Cfg) : Nat → Scope → List Stmt → List MS
  | 0, _, _ => [.bad]
  | n + 1, sc, ss => match ss with
    | [] => []
    | s :: ss => (trS c n sc s).getD .bad :: trSs c n sc ss
end
end Z

namespace Z
open PySem PySem.Spec L2
open PyProof.Rows hiding St
variable {K : PySem.W.Frag} {O O' : Addr → Prop} {ρ ρ' ρ1 ρ2 : Vn} {σ : St} {H H' H1 H2 G G' : Hp} {d : D} {a : Addr} {v : V} {fl : Bool}
/-! ### the environment goes on -/
theorem EnvOk.grow (E : EnvOk K O ρ σ H) (k : ∀ b o, H b = some o → H' b = some o) (ho : ∀ b, O b → O' b) (hn : ∀ b, O' b → O b ∨ H b = none) (dm : ∀ b, O' b → H' b ≠ none) : EnvOk K O' ρ σ H' := by
  have x : Ext (vis (Hid O ρ σ) H) (vis (Hid O' ρ σ) H') := vis_ext (fun b h n => h.elim (fun z => (hn b z).elim .inl fun q => absurd q n) .inr) fun b o _ e => k b o e
  refine ⟨E.len, dm, fun i d e => ?_, fun i d e => ?_, fun i d e => ?_, fun i d e => ?_, E.inj, fun i d a e s z => ?_⟩
  · obtain ⟨v, s, r⟩ := E.val i d e
    exact ⟨v, s, r.ext x⟩
  · obtain ⟨a, s, t⟩ := E.own i d e
    exact ⟨a, s, t.ext x fun o => k a o⟩
  · obtain ⟨a, s, z, t⟩ := E.io i d e
    exact ⟨a, s, ho a z, t.ext x fun o => k a o⟩
  · obtain ⟨a, s, t⟩ := E.lkd i d e
    exact ⟨a, s, t.ext x fun o => k a o⟩
  · obtain ⟨a', s', t⟩ := E.own i d e
    rw [s] at s'; cases s'
    rcases hn a z with q | q
    · exact E.sep i d a e s q
    · exact t.ne q
theorem EnvOk.kept (E : EnvOk K O ρ σ H) (k : ∀ b o, H b = some o → H' b = some o) : EnvOk K O ρ σ H' :=
  E.grow k (fun _ h => h) (fun _ h => .inl h) fun b h => by
    have := E.dom b h
    cases q : H b with
    | none => exact absurd q this
    | some o => rw [k b o q]; simp
theorem upd_kp {p : Addr} {o : HO} (hp : H p = none) : ∀ b u, H b = some u → upd H p o b = some u := fun b u e => by
  rw [upd_ne (ne_of_none e hp)]; exact e
/-- a new object is laid, and hidden -/
theorem EnvOk.laid (E : EnvOk K O ρ σ H) {p : Addr} {o : HO} (hp : H p = none) : EnvOk K (newO true O (.ref p)) ρ σ (upd H p o) :=
  E.grow (upd_kp hp) (fun _ h => .inl h) (fun b h => h.elim .inl fun ⟨_, e⟩ => by cases e; exact .inr hp) fun b h => by
    rcases h with h | ⟨_, e⟩
    · have := E.dom b h
      cases q : H b with
      | none => exact absurd q this
      | some o => rw [upd_kp hp b o q]; simp
    · cases e; rw [upd_same]; simp
theorem newO_false {v : V} : newO false O v = O := by
  funext b
  simp [newO]
/-- the slots' addresses are fresh things' no more -/
theorem Hid.mono (h : ∀ b, O b → O' b) {b : Addr} (x : Hid O ρ σ b) : Hid O' ρ σ b := x.elim (fun z => .inl (h b z)) .inr
/-- fewer things hidden -/
theorem EnvOk.less (E : EnvOk K O' ρ σ H) (ho : ∀ b, O b → O' b) (hio : ∀ (i : Nat) (d : D) (a : Addr), ρ[i]? = some (.io d) → σ[i]? = some (some (.ref a)) → O a) : EnvOk K O ρ σ H := by
  have x : Ext (vis (Hid O' ρ σ) H) (vis (Hid O ρ σ) H) := vis_ext (fun b h _ => h.mono ho) fun b o _ e => e
  refine ⟨E.len, fun b z => E.dom b (ho b z), fun i d e => ?_, fun i d e => ?_, fun i d e => ?_, fun i d e => ?_, E.inj, fun i d a e s z => E.sep i d a e s (ho a z)⟩
  · obtain ⟨v, s, r⟩ := E.val i d e
    exact ⟨v, s, r.ext x⟩
  · obtain ⟨a, s, t⟩ := E.own i d e
    exact ⟨a, s, t.ext x fun o e => e⟩
  · obtain ⟨a, s, z, t⟩ := E.io i d e
    exact ⟨a, s, hio i d a e s, t.ext x fun o e => e⟩
  · obtain ⟨a, s, t⟩ := E.lkd i d e
    exact ⟨a, s, t.ext x fun o e => e⟩
/-- what is shared: fl's object is let go -/
theorem EnvOk.share (E0 : EnvOk K O ρ σ H) (to : EvTo ρ ρ') (E : EnvOk K (newO fl O v) ρ' σ H') : EnvOk K O ρ' σ H' :=
  E.less (fun _ h => .inl h) fun i d a e s => by
    obtain ⟨s0, e0, t⟩ := to.back e
    cases s0 with
    | io d0 =>
      obtain ⟨a', s', z, _⟩ := E0.io i d0 e0
      rw [s] at s'; cases s'; exact z
    | own d0 => simp only [Sl.to] at t; rcases t with ⟨_, t⟩ | ⟨_, t⟩ <;> cases t
    | _ => simp only [Sl.to] at t; cases t
/-! ### what an expression leaves -/
structure PostS (K : PySem.W.Frag) (O : Addr → Prop) (ρ : Vn) (σ : St) (H : Hp) (m : ME) (d : D) (ρ' : Vn) (v : V) (H' : Hp) : Prop where
  env : EnvOk K O ρ' σ H'
  kp : Kp (fun b => m.still = false ∧ WrA ρ σ b) H H'
  dm : ∀ b, H b ≠ none → H' b ≠ none
  to : EvTo ρ ρ'
  rd : RdOk K (vis (Hid O ρ' σ) H') H' d v
  rep : m.isRd = false → Rep K (vis (Hid O ρ' σ) H') d v
structure PostE (K : PySem.W.Frag) (O : Addr → Prop) (ρ : Vn) (σ : St) (H : Hp) (m : ME) (fl : Bool) (d : D) (ρ' : Vn) (v : V) (H' : Hp) : Prop where
  env : EnvOk K (newO fl O v) ρ' σ H'
  kp : Kp (fun b => m.still = false ∧ WrA ρ σ b) H H'
  dm : ∀ b, H b ≠ none → H' b ≠ none
  to : EvTo ρ ρ'
  new : fl = true → ∃ p, v = .ref p ∧ H p = none ∧ Top K (vis (Hid (newO fl O v) ρ' σ) H') H' d p
  rd : fl = false → RdOk K (vis (Hid O ρ' σ) H') H' d v
  rep : fl = false → m.isRd = false → Rep K (vis (Hid O ρ' σ) H') d v
theorem PostE.share {m : ME} (E0 : EnvOk K O ρ σ H) (p : PostE K O ρ σ H m fl d ρ' v H') : PostS K O ρ σ H m d ρ' v H' := by
  have E := E0.share p.to p.env
  cases fl with
  | false => exact ⟨E, p.kp, p.dm, p.to, p.rd rfl, p.rep rfl⟩
  | true =>
    obtain ⟨q, rfl, hq, t⟩ := p.new rfl
    have hO : ¬ Hid O ρ' σ q := fun z => by
      have : H q ≠ none := E0.domH q (p.to.hid z)
      exact this hq
    have r : Rep K (vis (Hid O ρ' σ) H') d (.ref q) := t.rep (vis_ext (fun b z _ => z.mono fun _ h => .inl h) fun b o _ e => e) fun o e => by rw [vis_at hO]; exact e
    exact ⟨E, p.kp, p.dm, p.to, .inl r, fun _ => r⟩
/-- an exception's -/
structure PostX (K : PySem.W.Frag) (O : Addr → Prop) (ρ : Vn) (σ : St) (H : Hp) (x : Exn) (ρ' : Vn) (od : Option Addr) (H' : Hp) : Prop where
  env : EnvOk K O ρ' σ H'
  kp : Kp (WrA ρ σ) H H'
  dm : ∀ b, H b ≠ none → H' b ≠ none
  to : EvTo ρ ρ'
  rep : ExnRep K (vis (Hid O ρ' σ) H') H' x od
/-! ### what the context must be -/
def vOf : D → V
  | .bl b => .bl b
  | .int i => .int i
  | .str x => .str x
  | _ => .non
def scalD : D → Bool
  | .non => true | .bl _ => true | .int _ => true | .str _ => true | _ => false
theorem rep_vOf (h : scalD d = true) : Rep K H d (vOf d) := by cases d <;> first | rfl | cases h
structure FnAt (P : Program) (w : World) (K : PySem.W.Frag) (mg : Str → Option Value) (base : Heap) (L : Nat) (x : Str) (fn : Fn) : Prop where
  dfl : ∀ d ∈ fn.dfl, scalD d = true
  gl : mg x = some (.ref (He.ga K x))
  kp : PySem.W.keepIn K (.ref (He.ga K x)) = true
  call : ∀ j, j ≤ fn.dfl.length → CallAt P w K mg base L (He.ga K x) (fun vs H Q E => spF K fn (vs ++ (fn.dfl.drop j).map vOf) H Q E)
theorem FnAt.mono {P : Program} {w : World} {mg : Str → Option Value} {base : Heap} {L L' : Nat} {x : Str} {fn : Fn} (h : FnAt P w K mg base L x fn) (le : L ≤ L') : FnAt P w K mg base L' x fn :=
  ⟨h.dfl, h.gl, h.kp, fun j hj => (h.call j hj).mono le⟩
theorem fnAt_fn {P : Program} {w : World} {K : PySem.W.Frag} {mg : Str → Option Value} {base : Heap} {L : Nat} {x : Str} {fn : Fn} (hd : ∀ d ∈ fn.dfl, scalD d = true) (gl : mg x = some (.ref (He.ga K x))) (kp : PySem.W.keepIn K (.ref (He.ga K x)) = true)
    (h : ∃ fd ps, ps.length = fn.ar ∧ FnG P w K mg base L (He.ga K x) fd ps (spF K fn) ∧ ∀ j, j ≤ fn.dfl.length → ∃ ds, Vals ((fn.dfl.drop j).map vOf) ds ∧ Binds K fd ps ds) : FnAt P w K mg base L x fn :=
  ⟨hd, gl, kp, fun j hj => let ⟨_, _, _, F, b⟩ := h; let ⟨_, v, bb⟩ := b j hj; F.callAt bb v⟩
/-- what an own class gives -/
def OwnAt (P : Program) (w : World) (K : PySem.W.Frag) (mg : Str → Option Value) (base : Heap) (L : Nat) (C m : Str) (o : OwnM) : Prop := Cls K (He.ga K C) ∧ match o with
  | .fld => NoAttr K (He.ga K C) m
  | .meth fn => fn.io = false ∧ ∃ f, Meth K (He.ga K C) m f ∧ CallAt P w K mg base L f (spF K fn)
  | .prop fn => fn.io = false ∧ fn.ar = 1 ∧ ∃ p g fd ps j, j + 1 ≤ L ∧ PropOf K (He.ga K C) m p g ∧ ps.length = 1 ∧ FnG P w K mg base j g fd ps (spF K fn) ∧ Binds K fd ps []
theorem OwnAt.mono {P : Program} {w : World} {K : PySem.W.Frag} {mg : Str → Option Value} {base : Heap} {L L' : Nat} {C m : Str} {o : OwnM} (h : OwnAt P w K mg base L C m o) (le : L ≤ L') : OwnAt P w K mg base L' C m o := by
  obtain ⟨c, h⟩ := h
  refine ⟨c, ?_⟩
  cases o with
  | fld => exact h
  | meth fn => obtain ⟨a, f, b, d⟩ := h; exact ⟨a, f, b, d.mono le⟩
  | prop fn => obtain ⟨a, b, p, g, fd, ps, j, hj, r⟩ := h; exact ⟨a, b, p, g, fd, ps, j, by omega, r⟩
structure Good (c : Cfg) (Φ : Tab) (L : Nat) (X : Cx) (sc : Scope) : Prop where
  sc : X.env.scope = sc
  N : X.N = c.N
  nd : c.N.Nodup
  calm : X.calm = true
  free : ∀ x, c.free.contains x = true → X.mg x = none
  cst : ∀ x d, c.cst.lookup x = some d → scalD d = true ∧ ∃ u, X.mg x = some u ∧ RelV (vOf d) u
  fns : ∀ x key io, c.fns.lookup x = some (key, io) → ∃ fn, Φ key = some fn ∧ fn.io = io ∧ FnAt X.prog X.w X.K X.mg X.base L x fn
  room : Room L X.A
  gd : X.A.guards = some []
  own : ∀ C m o, Φ.own C m = some o → OwnAt X.prog X.w X.K X.mg X.base L C m o
/-- what is shown of an expression -/
def SndE (Φ : Tab) (X : Cx) (W : WX) (e : Expr) (m : ME) : Prop := ∀ (O : Addr → Prop) (ρ : Vn) (σ : St) (H : Hp) (Q : VK), EnvOk X.K O ρ σ H →
  (evE Φ m ρ).holds (fun a ρ' => ∀ v H', PostE X.K O ρ σ H m a.1 a.2 ρ' v H' → Q v H') (fun x ρ' => ∀ od H', PostX X.K O ρ σ H x ρ' od H' → W (.ref (He.ga X.K x.C)) od σ H') → WE X e σ H Q
/-- an expression, then more -/
theorem SndE.sh {Φ : Tab} {X : Cx} {W : WX} {e : Expr} {m : ME} (h : SndE Φ X W e m) {O : Addr → Prop} {ρ : Vn} {σ : St} {H : Hp} {Q : VK} (E : EnvOk X.K O ρ σ H)
    (q : (evE Φ m ρ).holds (fun a ρ' => ∀ v H', PostS X.K O ρ σ H m a.2 ρ' v H' → Q v H') (fun x ρ' => ∀ od H', PostX X.K O ρ σ H x ρ' od H' → W (.ref (He.ga X.K x.C)) od σ H')) : WE X e σ H Q :=
  h O ρ σ H Q E (Res.holds_mono q (fun a ρ' z v H' p => z v H' (p.share E)) fun x ρ' z => z)
end Z

namespace Z
open PySem PySem.Spec L2
open PyProof.Rows hiding St
/-! ### operators on values, by themselves -/
section
variable (X : Cx)
def WOp (f : Value → Value → Sem Value) : R2 := fun x y H Q => ∀ (pins : List (Addr × Obj)) (s : Shared) (σ : St) (v u : Value), Inv X pins σ H s → RelV x v → RelV y u → wpAny (model X.prog X.w) X.A (f v u) (EP X pins σ Q) X.xe s
def WUn (f : Value → Sem Value) : V → Hp → VK → Prop := fun x H Q => ∀ (pins : List (Addr × Obj)) (s : Shared) (σ : St) (v : Value), Inv X pins σ H s → RelV x v → wpAny (model X.prog X.w) X.A (f v) (EP X pins σ Q) X.xe s
def WCall (f : Value) : List V → Hp → VK → Prop := fun xs H Q => ∀ (pins : List (Addr × Obj)) (s : Shared) (σ : St) (us : List Value), Inv X pins σ H s → Vals xs us → wpAny (model X.prog X.w) X.A (call f us) (EP X pins σ Q) X.xe s
end
section
variable {X : Cx}
theorem op_w {f : Value → Value → Sem Value} : OpR X f (WOp X f) := fun pins s σ H x y v u Q I rx ry h => h pins s σ v u I rx ry
theorem un_w {f : Value → Sem Value} : UnR X f (WUn X f) := fun pins s σ H x v Q I rx h => h pins s σ v I rx
theorem call_w {f : Value} : CallR X f (WCall X f) := fun pins s σ H xs us Q I r h => h pins s σ us I r
theorem WOp.by {f : Value → Value → Sem Value} {r : R2} (h : OpR X f r) {x y : V} {H : Hp} {Q : VK} (q : r x y H Q) : WOp X f x y H Q := fun pins s σ v u I rx ry => h pins s σ H x y v u Q I rx ry q
theorem WUn.by {f : Value → Sem Value} {r : V → Hp → VK → Prop} (h : UnR X f r) {x : V} {H : Hp} {Q : VK} (q : r x H Q) : WUn X f x H Q := fun pins s σ v I rx => h pins s σ H x v Q I rx q
theorem WCall.by {f : Value} {r : List V → Hp → VK → Prop} (h : CallR X f r) {xs : List V} {H : Hp} {Q : VK} (q : r xs H Q) : WCall X f xs H Q := fun pins s σ us I rs => h pins s σ H xs us Q I rs q
/-! ### data of the library's kind -/
mutual
theorem Rep.dp {K : PySem.W.Frag} {H : Hp} : ∀ {d : D} {v : V} {p : PyData}, Rep K H d v → d.py = some p → Dp K H v p
  | .non, _, _, h, e => by simp only [Rep] at h; subst h; simp only [D.py] at e; cases e; exact .non
  | .bl b, _, _, h, e => by simp only [Rep] at h; subst h; simp only [D.py] at e; cases e; exact .bl b
  | .int b, _, _, h, e => by simp only [Rep] at h; subst h; simp only [D.py] at e; cases e; exact .int b
  | .str b, _, _, h, e => by simp only [Rep] at h; subst h; simp only [D.py] at e; cases e; exact .str b
  | .tup ds, _, _, h, e => by
    simp only [Rep] at h
    obtain ⟨a, vs, rfl, s, r⟩ := h
    simp only [D.py] at e
    cases q : pyAll ds with
    | none => rw [q] at e; cases e
    | some ps => rw [q] at e; cases e; exact .tup s (Reps.dp r q)
  | .lst ds, _, _, h, e => by
    simp only [Rep] at h
    obtain ⟨a, vs, rfl, s, r⟩ := h
    simp only [D.py] at e
    cases q : pyAll ds with
    | none => rw [q] at e; cases e
    | some ps => rw [q] at e; cases e; exact .lst s (Reps.dp r q)
  | .dct _, _, _, _, e => by simp [D.py] at e
  | .dcT _, _, _, _, e => by simp [D.py] at e
  | .ins _ _, _, _, _, e => by simp [D.py] at e
theorem Reps.dp {K : PySem.W.Frag} {H : Hp} : ∀ {ds : List D} {vs : List V} {ps : List PyData}, Reps K H ds vs → pyAll ds = some ps → DpAll K H vs ps
  | [], _, _, h, e => by simp only [Reps] at h; subst h; simp only [pyAll] at e; cases e; exact .nil
  | d :: ds, _, _, h, e => by
    simp only [Reps] at h
    obtain ⟨v, r, rfl, s, t⟩ := h
    simp only [pyAll] at e
    cases q : d.py with
    | none => rw [q] at e; cases e
    | some p =>
      cases q2 : pyAll ds with
      | none => rw [q, q2] at e; cases e
      | some ps => rw [q, q2] at e; cases e; exact .cons (Rep.dp s q) (Reps.dp t q2)
end
/-! ### rules of any size -/
theorem op_mulB : OpR X (binaryOp .Mult) (rI (fun i j => mulOk i j = true) fun i j => .int (i * j)) := opI fun i j _ _ _ _ _ hc q => by
  refine mul_int q ?_
  have h := of_decide_eq_true hc
  have b : ∀ x : Int, Builtin.Int.intBits x ≤ x.natAbs.log2 + 1 := fun x => by
    unfold Builtin.Int.intBits
    split <;> omega
  have b1 := b i
  have b2 := b j
  unfold IntMulOk
  intro z
  rw [Bool.and_eq_true] at z
  have z2 := z.2
  unfold Builtin.Int.intTooBig at z2
  have z3 := of_decide_eq_true z2
  rw [show bitsLine = 134217728 by decide] at z3
  omega
theorem op_powB : OpR X (binaryOp .Pow) (rI (fun i j => powOk i j = true) fun i j => .int (i ^ j.toNat)) := opI fun i j _ _ _ _ _ hc q => by
  unfold powOk at hc
  rw [Bool.and_eq_true] at hc
  have h0 := of_decide_eq_true hc.1
  have h1 := of_decide_eq_true hc.2
  refine PyProof.Rows.pow_int h0 ?_ q
  have b : Builtin.Int.intBits i ≤ i.natAbs.log2 + 1 := by
    unfold Builtin.Int.intBits
    split <;> omega
  have e : (j.toNat : Int) = j := Int.toNat_of_nonneg h0
  have : (Builtin.Int.intBits i) * j.toNat ≤ (i.natAbs.log2 + 1) * j.toNat := Nat.mul_le_mul_right _ b
  have h2 : (((Builtin.Int.intBits i) * j.toNat : Nat) : Int) ≤ 100000000 := by omega
  rw [Int.natCast_mul, e] at h2
  omega
theorem op_fdivB : OpR X (binaryOp .FloorDiv) (rI (fun _ j => divOk j = true) fun i j => .int (i.fdiv j)) := by
  intro pins s σ H x y v u Q I rx ry h
  obtain ⟨i, j, rfl, rfl, hc, q⟩ := h
  obtain ⟨t, rfl⟩ := rx
  obtain ⟨t', rfl⟩ := ry
  unfold divOk at hc
  rw [Bool.and_eq_true] at hc
  exact PyProof.Rows.floordiv_int (of_decide_eq_true hc.1) ⟨.int _, H, I.tok _, ⟨_, rfl⟩, q⟩ (.inl (PyProof.noPylong_of_log2 (of_decide_eq_true hc.2)))
theorem op_catS : OpR X (binaryOp .Add) (fun x y H Q => ∃ l b xs zs, x = .ref l ∧ y = .ref b ∧ SqL X.K H l xs ∧ SqL X.K H b zs ∧ xs.length + zs.length ≤ sizeLine ∧ ∀ p, H p = none → Q (.ref p) (upd H p (.lst (xs ++ zs)))) := by
  intro pins s σ H x y v u Q I rx ry h
  obtain ⟨l, b, xs, zs, rfl, rfl, hl, hb, hz, q⟩ := h
  cases (show v = Value.ref l from rx)
  cases (show u = Value.ref b from ry)
  obtain ⟨its, r1, ⟨⟨c1, d1, t1, s1⟩, n1, g1, k1, m1, e1⟩, _⟩ := I.list hl
  obtain ⟨its2, r2, ⟨⟨c2, d2, t2, s2⟩, n2, g2, k2, m2, e2⟩, _⟩ := I.list hb
  simp only at k1 m1 e1 k2 m2 e2
  subst k1 m1 e1 k2 m2 e2
  have hs : its.toArray.size + its2.toArray.size ≤ sizeLine := by
    rw [List.size_toArray, List.size_toArray, ← r1.length, ← r2.length]; exact hz
  refine PySem.concat_meets ⟨_, g1, rfl⟩ ⟨_, g2, rfl⟩ noFill_list_add seq_list_add PySem.F.slot_list_add PySem.F.entry_list_add (PySem.F.args_list_add_2 _ _) (list_addW l b its.toArray its2.toArray n1 n2 none none s1 s2 hs) ⟨g1, g2, ?_⟩
  rw [show its.toArray ++ its2.toArray = (its ++ its2).toArray by simp]
  exact ⟨.ref _, _, I.lnew (t' := s.toks) (Vals.append r1 r2) (by rw [List.length_append]; omega), rfl, q _ I.fresh⟩
/-- repr of data -/
theorem call_reprD (hg : X.A.guards = some []) (hu : X.A.units + 64 < cLine) : CallR X (.builtin "repr") (fun xs H Q => ∃ x p, xs = [x] ∧ Dp X.K H x p ∧ p.showable = true ∧ p.hasDict = false ∧ p.depth ≤ 60 ∧ p.shown.length ≤ sizeLine ∧ Q (.str p.shown) H) := by
  intro pins s σ H xs us Q I r h
  obtain ⟨x, p, rfl, hd, h1, h2, h3, h4, q⟩ := h
  cases r with
  | cons rx rn =>
    rename_i u us
    cases rn
    obtain ⟨as, rd⟩ := Dp.reads I p x u hd rx
    cases rd with
    | none => exact PySem.P.repr_of_none ⟨.str _, H, I.tok _, ⟨_, rfl⟩, q⟩
    | bool b => exact PySem.P.repr_of_bool ⟨.str _, H, I.tok _, ⟨_, rfl⟩, q⟩
    | int i t => exact PySem.P.repr_of_int (of_decide_eq_true h1) ⟨.str _, H, I.tok _, ⟨_, rfl⟩, q⟩
    | str y t => exact PySem.P.repr_of_str ⟨.str _, H, I.tok _, ⟨_, rfl⟩, q⟩ h4
    | list a b c d =>
      refine PySem.repr_of_reads' (Reads.list a b c d) h1 (PySem.PyData.noDict_hsm h2) hg (by omega) (fun _ _ e => e) (fun h' u tk k => ?_) h4
      exact ⟨.str _, H, I.kept k, ⟨_, rfl⟩, q⟩
    | tuple a b c d =>
      refine PySem.repr_of_reads' (Reads.tuple a b c d) h1 (PySem.PyData.noDict_hsm h2) hg (by omega) (fun _ _ e => e) (fun h' u tk k => ?_) h4
      exact ⟨.str _, H, I.kept k, ⟨_, rfl⟩, q⟩
    | dict a b c d e => cases h2
end
end Z

namespace ZEq
open PySem PySem.SeqAt PySem.MeetsSeq
open PySem.AutoSeq1 (wpAny_loadPart')
/-- at l stands a dict -/
def IsD (h : Heap) (l : Addr) : Prop := ∃ o, h.get? l = some o ∧ o.cls = .type "dict" ∧ ∃ es n, o.data = .dict es n
theorem dict_eq_declines_none (l : Addr) (es : Array DictEntry) (n : Nat) (dd : Option Addr) (sl : Array (Option Value))  :
    Meets (Builtin.«dict.__eq__» ⟨[.ref l, .none], []⟩) (fun _ R s => s.heap.get? l = some { cls := .type "dict", dict := dd, data := .dict es n, slots := sl } ∧ R (.ok (.ret .notImplemented)) s) :=
  .of_wp fun prog w A R s h => by obtain ⟨hp, g, d, tk, os⟩ := s; obtain ⟨hl, h⟩ := h; have f1 := F.sub_NoneType_dict; wp_walk using wpAny_loadPart' hl; exact ⟨_, rfl, h⟩
theorem dict_eq_declines_bool (l : Addr) (es : Array DictEntry) (n : Nat) (dd : Option Addr) (sl : Array (Option Value)) (b : Bool) :
    Meets (Builtin.«dict.__eq__» ⟨[.ref l, .bool b], []⟩) (fun _ R s => s.heap.get? l = some { cls := .type "dict", dict := dd, data := .dict es n, slots := sl } ∧ R (.ok (.ret .notImplemented)) s) :=
  .of_wp fun prog w A R s h => by obtain ⟨hp, g, d, tk, os⟩ := s; obtain ⟨hl, h⟩ := h; have f1 := F.sub_bool_dict; wp_walk using wpAny_loadPart' hl; exact ⟨_, rfl, h⟩
theorem int_eq_declines_dict_bool (b : Bool) (l : Addr) (es : Array DictEntry) (n : Nat) (dd : Option Addr) (sl : Array (Option Value)) :
    Meets (Builtin.«int.__eq__» ⟨[.bool b, .ref l], []⟩) (fun _ R s => s.heap.get? l = some { cls := .type "dict", dict := dd, data := .dict es n, slots := sl } ∧ R (.ok (.ret .notImplemented)) s) :=
  .of_wp fun prog w A R s h => by obtain ⟨hp, g, d, tk, os⟩ := s; obtain ⟨hl, h⟩ := h; wp_walk using wpAny_loadPart' hl, wpAny_load hl; exact ⟨_, rfl, h⟩
theorem dict_eq_declines_int (l : Addr) (es : Array DictEntry) (n : Nat) (dd : Option Addr) (sl : Array (Option Value)) (b : Int) (u : Tok) :
    Meets (Builtin.«dict.__eq__» ⟨[.ref l, .int b u], []⟩) (fun _ R s => s.heap.get? l = some { cls := .type "dict", dict := dd, data := .dict es n, slots := sl } ∧ R (.ok (.ret .notImplemented)) s) :=
  .of_wp fun prog w A R s h => by obtain ⟨hp, g, d, tk, os⟩ := s; obtain ⟨hl, h⟩ := h; have f1 := F.sub_int_dict; wp_walk using wpAny_loadPart' hl; exact ⟨_, rfl, h⟩
theorem int_eq_declines_dict_int (b : Int) (u : Tok) (l : Addr) (es : Array DictEntry) (n : Nat) (dd : Option Addr) (sl : Array (Option Value)) :
    Meets (Builtin.«int.__eq__» ⟨[.int b u, .ref l], []⟩) (fun _ R s => s.heap.get? l = some { cls := .type "dict", dict := dd, data := .dict es n, slots := sl } ∧ R (.ok (.ret .notImplemented)) s) :=
  .of_wp fun prog w A R s h => by obtain ⟨hp, g, d, tk, os⟩ := s; obtain ⟨hl, h⟩ := h; wp_walk using wpAny_loadPart' hl, wpAny_load hl; exact ⟨_, rfl, h⟩
theorem dict_eq_declines_str (l : Addr) (es : Array DictEntry) (n : Nat) (dd : Option Addr) (sl : Array (Option Value)) (b : Str) (u : Tok) :
    Meets (Builtin.«dict.__eq__» ⟨[.ref l, .str b u], []⟩) (fun _ R s => s.heap.get? l = some { cls := .type "dict", dict := dd, data := .dict es n, slots := sl } ∧ R (.ok (.ret .notImplemented)) s) :=
  .of_wp fun prog w A R s h => by obtain ⟨hp, g, d, tk, os⟩ := s; obtain ⟨hl, h⟩ := h; have f1 := F.sub_str_dict; wp_walk using wpAny_loadPart' hl; exact ⟨_, rfl, h⟩
theorem str_eq_declines_dict_str (b : Str) (u : Tok) (l : Addr) (es : Array DictEntry) (n : Nat) (dd : Option Addr) (sl : Array (Option Value)) :
    Meets (Builtin.«str.__eq__» ⟨[.str b u, .ref l], []⟩) (fun _ R s => s.heap.get? l = some { cls := .type "dict", dict := dd, data := .dict es n, slots := sl } ∧ R (.ok (.ret .notImplemented)) s) :=
  .of_wp fun prog w A R s h => by obtain ⟨hp, g, d, tk, os⟩ := s; obtain ⟨hl, h⟩ := h; wp_walk using wpAny_loadPart' hl, wpAny_load hl; exact ⟨_, rfl, h⟩
theorem dict_eq_declines_list (l b : Addr) (es : Array DictEntry) (items2 : Array Value) (n n2 : Nat) (dd dd2 : Option Addr) (sl sl2 : Array (Option Value)) :
    Meets (Builtin.«dict.__eq__» ⟨[.ref l, .ref b], []⟩) (fun _ R s => s.heap.get? l = some { cls := .type "dict", dict := dd, data := .dict es n, slots := sl } ∧ s.heap.get? b = some { cls := .type "list", dict := dd2, data := .seq items2 n2, slots := sl2 } ∧ R (.ok (.ret .notImplemented)) s) :=
  .of_wp fun prog w A R s h => by obtain ⟨hp, g, d, tk, os⟩ := s; obtain ⟨hl, hb, h⟩ := h; have f1 := F.sub_list_dict; wp_walk using wpAny_loadPart' hl, wpAny_loadPart' hb, wpAny_load hb; exact ⟨_, rfl, h⟩
theorem list_eq_declines_dict (l b : Addr) (es : Array DictEntry) (items2 : Array Value) (n n2 : Nat) (dd dd2 : Option Addr) (sl sl2 : Array (Option Value)) :
    Meets (Builtin.«list.__eq__» ⟨[.ref b, .ref l], []⟩) (fun _ R s => s.heap.get? l = some { cls := .type "dict", dict := dd, data := .dict es n, slots := sl } ∧ s.heap.get? b = some { cls := .type "list", dict := dd2, data := .seq items2 n2, slots := sl2 } ∧ R (.ok (.ret .notImplemented)) s) :=
  .of_wp fun prog w A R s h => by obtain ⟨hp, g, d, tk, os⟩ := s; obtain ⟨hl, hb, h⟩ := h; have f1 := F.sub_dict_list; wp_walk using wpAny_loadPart' hb, wpAny_loadPart' hl, wpAny_load hl; exact ⟨_, rfl, h⟩
theorem dict_eq_declines_tuple (l b : Addr) (es : Array DictEntry) (items2 : Array Value) (n n2 : Nat) (dd dd2 : Option Addr) (sl sl2 : Array (Option Value)) :
    Meets (Builtin.«dict.__eq__» ⟨[.ref l, .ref b], []⟩) (fun _ R s => s.heap.get? l = some { cls := .type "dict", dict := dd, data := .dict es n, slots := sl } ∧ s.heap.get? b = some { cls := .type "tuple", dict := dd2, data := .seq items2 n2, slots := sl2 } ∧ R (.ok (.ret .notImplemented)) s) :=
  .of_wp fun prog w A R s h => by obtain ⟨hp, g, d, tk, os⟩ := s; obtain ⟨hl, hb, h⟩ := h; have f1 := F.sub_tuple_dict; wp_walk using wpAny_loadPart' hl, wpAny_loadPart' hb, wpAny_load hb; exact ⟨_, rfl, h⟩
theorem tuple_eq_declines_dict (l b : Addr) (es : Array DictEntry) (items2 : Array Value) (n n2 : Nat) (dd dd2 : Option Addr) (sl sl2 : Array (Option Value)) :
    Meets (Builtin.«tuple.__eq__» ⟨[.ref b, .ref l], []⟩) (fun _ R s => s.heap.get? l = some { cls := .type "dict", dict := dd, data := .dict es n, slots := sl } ∧ s.heap.get? b = some { cls := .type "tuple", dict := dd2, data := .seq items2 n2, slots := sl2 } ∧ R (.ok (.ret .notImplemented)) s) :=
  .of_wp fun prog w A R s h => by obtain ⟨hp, g, d, tk, os⟩ := s; obtain ⟨hl, hb, h⟩ := h; have f1 := F.sub_dict_tuple; wp_walk using wpAny_loadPart' hb, wpAny_loadPart' hl, wpAny_load hl; exact ⟨_, rfl, h⟩
section
variable {A : Around} {s : Shared}
theorem RcAt.none_dict  {l : Addr} (hl : IsD s.heap l) (hu : A.units < cLine) : RcAt A s (.none) (.ref l) false := fun prog w E Q h => by
  obtain ⟨⟨cls, dd, data, sl⟩, ho, hc, es, n, hd⟩ := id hl
  simp only at hc hd
  subst hc hd
  exact rc_eq_decline_or (k := false) rfl ⟨_, ho, rfl⟩ (by decide) F.sub_dict_NoneType F.slot_NoneType_eq F.slot_dict_eq_refl
    (fun _ hq => call_gives F.slot_NoneType_eq rfl F.entry_NoneType_eq (F.args_NoneType_eq_2 _ _) (NoneType___eq___none_ref_0 l) hq)
    (fun _ hq => call_meets F.slot_dict_eq_refl ⟨_, ho, rfl⟩ F.entry_dict_eq (F.args_dict_eq_2 _ _) (dict_eq_declines_none l es n dd sl ) ⟨ho, hq⟩)
    (fun _ hq => wpAny_of_eq (rfl : isSame (.none) (.ref l) = pure false) hq) (.inr hu) h
theorem EqAt.none_dict  {l : Addr} (hl : IsD s.heap l) (hu : A.units < cLine) : EqAt A s (.none) (.ref l) false := fun prog w E Q h => by
  unfold eqBool
  refine wpAny_holding ?_
  refine wpAny_ite_split (fun hab => absurd (eq_of_beq hab) nofun) (fun _ => ?_)
  exact wpAny_bind (RcAt.none_dict  hl hu prog w E _ (wpAny_truthy_bool h))
theorem RcAt.dict_none  {l : Addr} (hl : IsD s.heap l) (hu : A.units < cLine) : RcAt A s (.ref l) (.none) false := fun prog w E Q h => by
  obtain ⟨⟨cls, dd, data, sl⟩, ho, hc, es, n, hd⟩ := id hl
  simp only at hc hd
  subst hc hd
  exact rc_eq_decline_or (k := false) ⟨_, ho, rfl⟩ rfl (by decide) F.sub_NoneType_dict F.slot_dict_eq F.slot_NoneType_eq_refl
    (fun _ hq => call_meets F.slot_dict_eq ⟨_, ho, rfl⟩ F.entry_dict_eq (F.args_dict_eq_2 _ _) (dict_eq_declines_none l es n dd sl ) ⟨ho, hq⟩)
    (fun _ hq => call_gives F.slot_NoneType_eq_refl rfl F.entry_NoneType_eq (F.args_NoneType_eq_2 _ _) (NoneType___eq___none_ref_0 l) hq)
    (fun _ hq => wpAny_of_eq (rfl : isSame (.ref l) (.none) = pure false) hq) (.inr hu) h
theorem EqAt.dict_none  {l : Addr} (hl : IsD s.heap l) (hu : A.units < cLine) : EqAt A s (.ref l) (.none) false := fun prog w E Q h => by
  unfold eqBool
  refine wpAny_holding ?_
  refine wpAny_ite_split (fun hab => absurd (eq_of_beq hab) nofun) (fun _ => ?_)
  exact wpAny_bind (RcAt.dict_none  hl hu prog w E _ (wpAny_truthy_bool h))
theorem RcAt.bool_dict (b : Bool) {l : Addr} (hl : IsD s.heap l) (hu : A.units < cLine) : RcAt A s (.bool b) (.ref l) false := fun prog w E Q h => by
  obtain ⟨⟨cls, dd, data, sl⟩, ho, hc, es, n, hd⟩ := id hl
  simp only at hc hd
  subst hc hd
  exact rc_eq_decline_or (k := false) rfl ⟨_, ho, rfl⟩ (by decide) F.sub_dict_bool F.slot_bool_eq F.slot_dict_eq_refl
    (fun _ hq => call_meets F.slot_bool_eq rfl F.entry_int_eq (F.args_int_eq_2 _ _) (int_eq_declines_dict_bool b l es n dd sl) ⟨ho, hq⟩)
    (fun _ hq => call_meets F.slot_dict_eq_refl ⟨_, ho, rfl⟩ F.entry_dict_eq (F.args_dict_eq_2 _ _) (dict_eq_declines_bool l es n dd sl b) ⟨ho, hq⟩)
    (fun _ hq => wpAny_of_eq (rfl : isSame (.bool b) (.ref l) = pure false) hq) (.inr hu) h
theorem EqAt.bool_dict (b : Bool) {l : Addr} (hl : IsD s.heap l) (hu : A.units < cLine) : EqAt A s (.bool b) (.ref l) false := fun prog w E Q h => by
  unfold eqBool
  refine wpAny_holding ?_
  refine wpAny_ite_split (fun hab => absurd (eq_of_beq hab) nofun) (fun _ => ?_)
  exact wpAny_bind (RcAt.bool_dict b hl hu prog w E _ (wpAny_truthy_bool h))
theorem RcAt.dict_bool (b : Bool) {l : Addr} (hl : IsD s.heap l) (hu : A.units < cLine) : RcAt A s (.ref l) (.bool b) false := fun prog w E Q h => by
  obtain ⟨⟨cls, dd, data, sl⟩, ho, hc, es, n, hd⟩ := id hl
  simp only at hc hd
  subst hc hd
  exact rc_eq_decline_or (k := false) ⟨_, ho, rfl⟩ rfl (by decide) F.sub_bool_dict F.slot_dict_eq F.slot_bool_eq_refl
    (fun _ hq => call_meets F.slot_dict_eq ⟨_, ho, rfl⟩ F.entry_dict_eq (F.args_dict_eq_2 _ _) (dict_eq_declines_bool l es n dd sl b) ⟨ho, hq⟩)
    (fun _ hq => call_meets F.slot_bool_eq_refl rfl F.entry_int_eq (F.args_int_eq_2 _ _) (int_eq_declines_dict_bool b l es n dd sl) ⟨ho, hq⟩)
    (fun _ hq => wpAny_of_eq (rfl : isSame (.ref l) (.bool b) = pure false) hq) (.inr hu) h
theorem EqAt.dict_bool (b : Bool) {l : Addr} (hl : IsD s.heap l) (hu : A.units < cLine) : EqAt A s (.ref l) (.bool b) false := fun prog w E Q h => by
  unfold eqBool
  refine wpAny_holding ?_
  refine wpAny_ite_split (fun hab => absurd (eq_of_beq hab) nofun) (fun _ => ?_)
  exact wpAny_bind (RcAt.dict_bool b hl hu prog w E _ (wpAny_truthy_bool h))
theorem RcAt.int_dict (b : Int) (u : Tok) {l : Addr} (hl : IsD s.heap l) (hu : A.units < cLine) : RcAt A s (.int b u) (.ref l) false := fun prog w E Q h => by
  obtain ⟨⟨cls, dd, data, sl⟩, ho, hc, es, n, hd⟩ := id hl
  simp only at hc hd
  subst hc hd
  exact rc_eq_decline_or (k := false) (typeIs_int s b u) ⟨_, ho, rfl⟩ (by decide) F.sub_dict_int F.slot_int_eq F.slot_dict_eq_refl
    (fun _ hq => call_meets F.slot_int_eq (typeIs_int s b u) F.entry_int_eq (F.args_int_eq_2 _ _) (int_eq_declines_dict_int b u l es n dd sl) ⟨ho, hq⟩)
    (fun _ hq => call_meets F.slot_dict_eq_refl ⟨_, ho, rfl⟩ F.entry_dict_eq (F.args_dict_eq_2 _ _) (dict_eq_declines_int l es n dd sl b u) ⟨ho, hq⟩)
    (fun _ hq => wpAny_of_eq (rfl : isSame (.int b u) (.ref l) = pure false) hq) (.inr hu) h
theorem EqAt.int_dict (b : Int) (u : Tok) {l : Addr} (hl : IsD s.heap l) (hu : A.units < cLine) : EqAt A s (.int b u) (.ref l) false := fun prog w E Q h => by
  unfold eqBool
  refine wpAny_holding ?_
  refine wpAny_ite_split (fun hab => absurd (eq_of_beq hab) nofun) (fun _ => ?_)
  exact wpAny_bind (RcAt.int_dict b u hl hu prog w E _ (wpAny_truthy_bool h))
theorem RcAt.dict_int (b : Int) (u : Tok) {l : Addr} (hl : IsD s.heap l) (hu : A.units < cLine) : RcAt A s (.ref l) (.int b u) false := fun prog w E Q h => by
  obtain ⟨⟨cls, dd, data, sl⟩, ho, hc, es, n, hd⟩ := id hl
  simp only at hc hd
  subst hc hd
  exact rc_eq_decline_or (k := false) ⟨_, ho, rfl⟩ (typeIs_int s b u) (by decide) F.sub_int_dict F.slot_dict_eq F.slot_int_eq_refl
    (fun _ hq => call_meets F.slot_dict_eq ⟨_, ho, rfl⟩ F.entry_dict_eq (F.args_dict_eq_2 _ _) (dict_eq_declines_int l es n dd sl b u) ⟨ho, hq⟩)
    (fun _ hq => call_meets F.slot_int_eq_refl (typeIs_int s b u) F.entry_int_eq (F.args_int_eq_2 _ _) (int_eq_declines_dict_int b u l es n dd sl) ⟨ho, hq⟩)
    (fun _ hq => wpAny_of_eq (rfl : isSame (.ref l) (.int b u) = pure false) hq) (.inr hu) h
theorem EqAt.dict_int (b : Int) (u : Tok) {l : Addr} (hl : IsD s.heap l) (hu : A.units < cLine) : EqAt A s (.ref l) (.int b u) false := fun prog w E Q h => by
  unfold eqBool
  refine wpAny_holding ?_
  refine wpAny_ite_split (fun hab => absurd (eq_of_beq hab) nofun) (fun _ => ?_)
  exact wpAny_bind (RcAt.dict_int b u hl hu prog w E _ (wpAny_truthy_bool h))
theorem RcAt.str_dict (b : Str) (u : Tok) {l : Addr} (hl : IsD s.heap l) (hu : A.units < cLine) : RcAt A s (.str b u) (.ref l) false := fun prog w E Q h => by
  obtain ⟨⟨cls, dd, data, sl⟩, ho, hc, es, n, hd⟩ := id hl
  simp only at hc hd
  subst hc hd
  exact rc_eq_decline_or (k := false) (typeIs_str s b u) ⟨_, ho, rfl⟩ (by decide) F.sub_dict_str F.slot_str_eq F.slot_dict_eq_refl
    (fun _ hq => call_meets F.slot_str_eq (typeIs_str s b u) F.entry_str_eq (F.args_str_eq_2 _ _) (str_eq_declines_dict_str b u l es n dd sl) ⟨ho, hq⟩)
    (fun _ hq => call_meets F.slot_dict_eq_refl ⟨_, ho, rfl⟩ F.entry_dict_eq (F.args_dict_eq_2 _ _) (dict_eq_declines_str l es n dd sl b u) ⟨ho, hq⟩)
    (fun _ hq => wpAny_of_eq (rfl : isSame (.str b u) (.ref l) = pure false) hq) (.inr hu) h
theorem EqAt.str_dict (b : Str) (u : Tok) {l : Addr} (hl : IsD s.heap l) (hu : A.units < cLine) : EqAt A s (.str b u) (.ref l) false := fun prog w E Q h => by
  unfold eqBool
  refine wpAny_holding ?_
  refine wpAny_ite_split (fun hab => absurd (eq_of_beq hab) nofun) (fun _ => ?_)
  exact wpAny_bind (RcAt.str_dict b u hl hu prog w E _ (wpAny_truthy_bool h))
theorem RcAt.dict_str (b : Str) (u : Tok) {l : Addr} (hl : IsD s.heap l) (hu : A.units < cLine) : RcAt A s (.ref l) (.str b u) false := fun prog w E Q h => by
  obtain ⟨⟨cls, dd, data, sl⟩, ho, hc, es, n, hd⟩ := id hl
  simp only at hc hd
  subst hc hd
  exact rc_eq_decline_or (k := false) ⟨_, ho, rfl⟩ (typeIs_str s b u) (by decide) F.sub_str_dict F.slot_dict_eq F.slot_str_eq_refl
    (fun _ hq => call_meets F.slot_dict_eq ⟨_, ho, rfl⟩ F.entry_dict_eq (F.args_dict_eq_2 _ _) (dict_eq_declines_str l es n dd sl b u) ⟨ho, hq⟩)
    (fun _ hq => call_meets F.slot_str_eq_refl (typeIs_str s b u) F.entry_str_eq (F.args_str_eq_2 _ _) (str_eq_declines_dict_str b u l es n dd sl) ⟨ho, hq⟩)
    (fun _ hq => wpAny_of_eq (rfl : isSame (.ref l) (.str b u) = pure false) hq) (.inr hu) h
theorem EqAt.dict_str (b : Str) (u : Tok) {l : Addr} (hl : IsD s.heap l) (hu : A.units < cLine) : EqAt A s (.ref l) (.str b u) false := fun prog w E Q h => by
  unfold eqBool
  refine wpAny_holding ?_
  refine wpAny_ite_split (fun hab => absurd (eq_of_beq hab) nofun) (fun _ => ?_)
  exact wpAny_bind (RcAt.dict_str b u hl hu prog w E _ (wpAny_truthy_bool h))
theorem ne_dict_list {l b : Addr} {items2 : Array Value} (hl : IsD s.heap l) (hb : s.heap.IsList b items2) : l ≠ b := fun e => by
  subst e
  obtain ⟨o, ho, hc, _⟩ := hl
  obtain ⟨o2, ho2, hc2, _⟩ := hb
  rw [ho] at ho2; cases ho2
  rw [hc] at hc2; exact absurd (Value.type.inj hc2) (by decide)
theorem RcAt.dict_list {l b : Addr} {items2 : Array Value} (hl : IsD s.heap l) (hb : s.heap.IsList b items2) (hu : A.units < cLine) : RcAt A s (.ref l) (.ref b) false := fun prog w E Q h => by
  have hne := ne_dict_list hl hb
  obtain ⟨⟨cls, dd, data, sl⟩, ho, hc, es, n, hd⟩ := id hl
  obtain ⟨⟨cls2, dd2, data2, sl2⟩, ho2, hc2, n2, hd2⟩ := id hb
  simp only at hc hd hc2 hd2
  subst hc hd hc2 hd2
  exact (rc_eq_decline_or (k := false) ⟨_, ho, rfl⟩ ⟨_, ho2, rfl⟩ (by decide) F.sub_list_dict F.slot_dict_eq F.slot_list_eq_refl
    (fun _ hq => call_meets F.slot_dict_eq ⟨_, ho, rfl⟩ F.entry_dict_eq (F.args_dict_eq_2 _ _) (dict_eq_declines_list l b es items2 n n2 dd dd2 sl sl2) ⟨ho, ho2, hq⟩)
    (fun _ hq => call_meets F.slot_list_eq_refl ⟨_, ho2, rfl⟩ F.entry_list_eq (F.args_list_eq_2 _ _) (list_eq_declines_dict l b es items2 n n2 dd dd2 sl sl2) ⟨ho, ho2, hq⟩)
    (fun _ hq => wpAny_isSame_ref_other hne ho ho2 (by simp) hq) (.inr hu) h)
theorem RcAt.list_dict {l b : Addr} {items2 : Array Value} (hl : IsD s.heap l) (hb : s.heap.IsList b items2) (hu : A.units < cLine) : RcAt A s (.ref b) (.ref l) false := fun prog w E Q h => by
  have hne := (ne_dict_list hl hb).symm
  obtain ⟨⟨cls, dd, data, sl⟩, ho, hc, es, n, hd⟩ := id hl
  obtain ⟨⟨cls2, dd2, data2, sl2⟩, ho2, hc2, n2, hd2⟩ := id hb
  simp only at hc hd hc2 hd2
  subst hc hd hc2 hd2
  exact (rc_eq_decline_or (k := false) ⟨_, ho2, rfl⟩ ⟨_, ho, rfl⟩ (by decide) F.sub_dict_list F.slot_list_eq F.slot_dict_eq_refl
    (fun _ hq => call_meets F.slot_list_eq ⟨_, ho2, rfl⟩ F.entry_list_eq (F.args_list_eq_2 _ _) (list_eq_declines_dict l b es items2 n n2 dd dd2 sl sl2) ⟨ho, ho2, hq⟩)
    (fun _ hq => call_meets F.slot_dict_eq_refl ⟨_, ho, rfl⟩ F.entry_dict_eq (F.args_dict_eq_2 _ _) (dict_eq_declines_list l b es items2 n n2 dd dd2 sl sl2) ⟨ho, ho2, hq⟩)
    (fun _ hq => wpAny_isSame_ref_other' hne ho2 ho (by simp) hq) (.inr hu) h)
theorem EqAt.dict_list {l b : Addr} {items2 : Array Value} (hl : IsD s.heap l) (hb : s.heap.IsList b items2) (hu : A.units < cLine) : EqAt A s (.ref l) (.ref b) false := SeqAt.EqAt.of_refs (ne_dict_list hl hb) (RcAt.dict_list hl hb hu)
theorem EqAt.list_dict {l b : Addr} {items2 : Array Value} (hl : IsD s.heap l) (hb : s.heap.IsList b items2) (hu : A.units < cLine) : EqAt A s (.ref b) (.ref l) false := SeqAt.EqAt.of_refs (ne_dict_list hl hb).symm (RcAt.list_dict hl hb hu)
theorem ne_dict_tuple {l b : Addr} {items2 : Array Value} (hl : IsD s.heap l) (hb : s.heap.IsTuple b items2) : l ≠ b := fun e => by
  subst e
  obtain ⟨o, ho, hc, _⟩ := hl
  obtain ⟨o2, ho2, hc2, _⟩ := hb
  rw [ho] at ho2; cases ho2
  rw [hc] at hc2; exact absurd (Value.type.inj hc2) (by decide)
theorem RcAt.dict_tuple {l b : Addr} {items2 : Array Value} (hl : IsD s.heap l) (hb : s.heap.IsTuple b items2) (hu : A.units < cLine) : RcAt A s (.ref l) (.ref b) false := fun prog w E Q h => by
  have hne := ne_dict_tuple hl hb
  obtain ⟨⟨cls, dd, data, sl⟩, ho, hc, es, n, hd⟩ := id hl
  obtain ⟨⟨cls2, dd2, data2, sl2⟩, ho2, hc2, n2, hd2⟩ := id hb
  simp only at hc hd hc2 hd2
  subst hc hd hc2 hd2
  exact (rc_eq_decline_or (k := false) ⟨_, ho, rfl⟩ ⟨_, ho2, rfl⟩ (by decide) F.sub_tuple_dict F.slot_dict_eq F.slot_tuple_eq_refl
    (fun _ hq => call_meets F.slot_dict_eq ⟨_, ho, rfl⟩ F.entry_dict_eq (F.args_dict_eq_2 _ _) (dict_eq_declines_tuple l b es items2 n n2 dd dd2 sl sl2) ⟨ho, ho2, hq⟩)
    (fun _ hq => call_meets F.slot_tuple_eq_refl ⟨_, ho2, rfl⟩ F.entry_tuple_eq (F.args_tuple_eq_2 _ _) (tuple_eq_declines_dict l b es items2 n n2 dd dd2 sl sl2) ⟨ho, ho2, hq⟩)
    (fun _ hq => wpAny_isSame_ref_other hne ho ho2 (by simp) hq) (.inr hu) h)
theorem RcAt.tuple_dict {l b : Addr} {items2 : Array Value} (hl : IsD s.heap l) (hb : s.heap.IsTuple b items2) (hu : A.units < cLine) : RcAt A s (.ref b) (.ref l) false := fun prog w E Q h => by
  have hne := (ne_dict_tuple hl hb).symm
  obtain ⟨⟨cls, dd, data, sl⟩, ho, hc, es, n, hd⟩ := id hl
  obtain ⟨⟨cls2, dd2, data2, sl2⟩, ho2, hc2, n2, hd2⟩ := id hb
  simp only at hc hd hc2 hd2
  subst hc hd hc2 hd2
  exact (rc_eq_decline_or (k := false) ⟨_, ho2, rfl⟩ ⟨_, ho, rfl⟩ (by decide) F.sub_dict_tuple F.slot_tuple_eq F.slot_dict_eq_refl
    (fun _ hq => call_meets F.slot_tuple_eq ⟨_, ho2, rfl⟩ F.entry_tuple_eq (F.args_tuple_eq_2 _ _) (tuple_eq_declines_dict l b es items2 n n2 dd dd2 sl sl2) ⟨ho, ho2, hq⟩)
    (fun _ hq => call_meets F.slot_dict_eq_refl ⟨_, ho, rfl⟩ F.entry_dict_eq (F.args_dict_eq_2 _ _) (dict_eq_declines_tuple l b es items2 n n2 dd dd2 sl sl2) ⟨ho, ho2, hq⟩)
    (fun _ hq => wpAny_isSame_ref_other' hne ho2 ho (by simp) hq) (.inr hu) h)
theorem EqAt.dict_tuple {l b : Addr} {items2 : Array Value} (hl : IsD s.heap l) (hb : s.heap.IsTuple b items2) (hu : A.units < cLine) : EqAt A s (.ref l) (.ref b) false := SeqAt.EqAt.of_refs (ne_dict_tuple hl hb) (RcAt.dict_tuple hl hb hu)
theorem EqAt.tuple_dict {l b : Addr} {items2 : Array Value} (hl : IsD s.heap l) (hb : s.heap.IsTuple b items2) (hu : A.units < cLine) : EqAt A s (.ref b) (.ref l) false := SeqAt.EqAt.of_refs (ne_dict_tuple hl hb).symm (RcAt.tuple_dict hl hb hu)
end
end ZEq

namespace Z
open PySem PySem.Spec L2
open PyProof.Rows hiding St
open PySem.SeqAt (EqAt)
/-! ### == of data -/
section
variable {α β : Type}
theorem zipAll_nil {f : D → D → Option Bool} {ys : List D} : zipAll f [] ys = some true := by cases ys <;> rfl
theorem zipAll_ok {f : D → D → Option Bool} : ∀ {xs ys : List D} {b : Bool}, zipAll f xs ys = some b → ∃ e : Nat → Bool, b = (List.range (min xs.length ys.length)).all e ∧ ∀ j x y, xs[j]? = some x → ys[j]? = some y → f x y = some (e j)
  | [], ys, b, h => by
    rw [zipAll_nil] at h; cases h
    exact ⟨fun _ => true, by simp, fun j x y e => by simp at e⟩
  | x :: xs, [], b, h => by
    simp only [zipAll] at h; cases h
    exact ⟨fun _ => true, by simp, fun j x y _ e => by simp at e⟩
  | x :: xs, y :: ys, b, h => by
    simp only [zipAll] at h
    cases h1 : f x y with
    | none => rw [h1] at h; cases h
    | some c =>
      cases h2 : zipAll f xs ys with
      | none => rw [h1, h2] at h; cases h
      | some d =>
        rw [h1, h2] at h; cases h
        obtain ⟨e, rfl, he⟩ := zipAll_ok h2
        refine ⟨fun j => match j with
          | 0 => c
          | j + 1 => e j, ?_, fun j x' y' ex ey => ?_⟩
        · rw [List.length_cons, List.length_cons, Nat.succ_min_succ, List.range_succ_eq_map, List.all_cons, List.all_map]
          rfl
        · cases j with
          | zero => simp at ex ey; subst ex ey; exact h1
          | succ j => exact he j x' y' (by simpa using ex) (by simpa using ey)
theorem valD_cons {κ : Type} [DecidableEq κ] {k k' : κ} {x : α} {r : List (κ × α)} : valD ((k', x) :: r) k = if k' = k then some x else valD r k := by
  unfold valD
  rw [List.find?_cons]
  by_cases h : k' = k
  · simp [h]
  · simp [h]
theorem valD_mem {κ : Type} [DecidableEq κ] : ∀ {r : List (κ × α)} {k : κ} {x : α}, (r.map (·.1)).Nodup → (k, x) ∈ r → valD r k = some x
  | [], _, _, _, h => by cases h
  | (k', x') :: r, k, x, nd, h => by
    rw [List.map_cons, List.nodup_cons] at nd
    rw [valD_cons]
    rcases List.mem_cons.mp h with h | h
    · cases h; rw [if_pos rfl]
    · have : k' ≠ k := fun e => nd.1 (by subst e; exact List.mem_map.mpr ⟨_, h, rfl⟩)
      rw [if_neg this]
      exact valD_mem nd.2 h
theorem dctAll_ok {f : D → D → Option Bool} {ys : List (Key × D)} : ∀ {xs : List (Key × D)} {b : Bool}, dctAll f ys xs = some b → (∀ k x, (k, x) ∈ xs → ∀ y, valD ys k = some y → ∃ c, f x y = some c) ∧ b = xs.all fun p => match valD ys p.1 with
    | none => false
    | some y => (f p.2 y).getD false
  | [], b, h => by
    simp only [dctAll] at h; cases h
    exact ⟨fun k x h => absurd h (by simp), rfl⟩
  | (k, x) :: xs, b, h => by
    simp only [dctAll] at h
    cases h2 : dctAll f ys xs with
    | none => rw [h2] at h; cases h
    | some c =>
      rw [h2] at h
      obtain ⟨i1, i2⟩ := dctAll_ok h2
      cases h3 : valD ys k with
      | none =>
        rw [h3] at h; cases h
        refine ⟨fun k' x' hm y hy => ?_, by simp [h3]⟩
        rcases List.mem_cons.mp hm with e | hm
        · cases e; rw [h3] at hy; cases hy
        · exact i1 k' x' hm y hy
      | some y =>
        rw [h3] at h
        cases h4 : f x y with
        | none => simp only [h4] at h; cases h
        | some a =>
          simp only [h4] at h; cases h
          refine ⟨fun k' x' hm y' hy => ?_, by simp only [List.all_cons, h3, h4, Option.getD_some, i2]⟩
          rcases List.mem_cons.mp hm with e | hm
          · cases e; rw [h3] at hy; cases hy; exact ⟨a, h4⟩
          · exact i1 k' x' hm y' hy
end
section
variable {K : PySem.W.Frag} {H : Hp}
theorem rd_dk_inj {a : Addr} {ws ws' : List (Key × V)} (h : Rd H a (.dK ws)) (h' : Rd H a (.dK ws')) : ws = ws' := by
  rcases h with h | ⟨o, h⟩ <;> rcases h' with h' | ⟨o', h'⟩ <;> rw [h] at h' <;> cases h' <;> rfl
theorem repK_val : ∀ {xs : List (Key × D)} {ws : List (Key × V)} {k : Key}, RepK K H xs ws → (valD xs k = none ∧ valV ws k = none) ∨ ∃ x v, valD xs k = some x ∧ valV ws k = some v ∧ Rep K H x v
  | [], _, _, h => by simp only [RepK] at h; subst h; exact .inl ⟨rfl, rfl⟩
  | (k', x) :: xs, _, k, h => by
    simp only [RepK] at h
    obtain ⟨v, r, rfl, s, t⟩ := h
    rw [valD_cons]
    by_cases e : k' = k
    · rw [if_pos e, valV_pos e]
      exact .inr ⟨x, v, rfl, rfl, s⟩
    · rw [if_neg e, valV_neg e]
      exact repK_val t
theorem repK_keys : ∀ {xs : List (Key × D)} {ws : List (Key × V)}, RepK K H xs ws → xs.map (·.1) = ws.map (·.1)
  | [], _, h => by simp only [RepK] at h; subst h; rfl
  | (k', x) :: xs, _, h => by
    simp only [RepK] at h
    obtain ⟨v, r, rfl, s, t⟩ := h
    simp [repK_keys t]
theorem repK_len {xs : List (Key × D)} {ws : List (Key × V)} (h : RepK K H xs ws) : xs.length = ws.length := by
  have := congrArg List.length (repK_keys h)
  simpa using this
end
section
variable {X : Cx} {pins : List (Addr × Obj)} {σ : L2.St} {H : Hp} {s : Shared}
theorem dkD (I : Inv X pins σ H s) {a : Addr} {ws : List (Key × V)} (h : Rd H a (.dK ws)) : (a == sysModules) = false ∧ ∃ vs, KV ws vs ∧ s.heap.DictOf (mixKind X.prog X.w) a vs := let ⟨_, y, v, r, d⟩ := dk_rd I.hok h; ⟨y, v, r, d⟩
theorem isD_of (I : Inv X pins σ H s) {a : Addr} {ws : List (Key × V)} (h : Rd H a (.dK ws)) : ZEq.IsD s.heap a := by
  obtain ⟨_, vs, _, o, es, ep, e, hc, hd, _⟩ := dkD I h
  exact ⟨o, e, hc.1, es, ep, hd⟩
theorem isL_of (I : Inv X pins σ H s) {a : Addr} {ws : List V} (h : SqL X.K H a ws) : ∃ its : List Value, Vals ws its ∧ s.heap.IsList a its.toArray := by
  obtain ⟨its, r, ⟨o, n, e, c, _, d⟩, _⟩ := I.list h
  exact ⟨its, r, o, e, c, n, d⟩
theorem isT_of (I : Inv X pins σ H s) {a : Addr} {ws : List V} (h : SqT X.K H a ws) : ∃ its : List Value, Vals ws its ∧ s.heap.IsTuple a its.toArray := by
  obtain ⟨its, r, ⟨o, e, c, n, d⟩, _⟩ := I.tuple h
  exact ⟨its, r, o, e, c, n, d⟩
/-- one address: the answer is yes -/
theorem eqX_same (I : Inv X pins σ H s) : ∀ (n : Nat) {x y : D} {v : V} {b : Bool}, Rep X.K H x v → Rep X.K H y v → eqX n x y = some b → b = true
  | 0, _, _, _, _, _, _, h => by simp [eqX] at h
  | n + 1, x, y, v, b, rx, ry, h => by
    have ih := fun {x y : D} {v : V} {b : Bool} => eqX_same I n (x := x) (y := y) (v := v) (b := b)
    have za : ∀ {xs ys : List D} {vs : List V} {b : Bool}, Reps X.K H xs vs → Reps X.K H ys vs → zipAll (eqX n) xs ys = some b → b = true := by
      intro xs
      induction xs with
      | nil => intro ys vs b _ _ h; rw [zipAll_nil] at h; cases h; rfl
      | cons x xs ihx =>
        intro ys vs b h1 h2 h
        cases ys with
        | nil => simp only [zipAll] at h; cases h; rfl
        | cons y ys =>
          simp only [Reps] at h1 h2
          obtain ⟨v, r, rfl, s1, t1⟩ := h1
          obtain ⟨v', r', e, s2, t2⟩ := h2
          cases e
          simp only [zipAll] at h
          cases e1 : eqX n x y with
          | none => rw [e1] at h; cases h
          | some c =>
            cases e2 : zipAll (eqX n) xs ys with
            | none => rw [e1, e2] at h; cases h
            | some d =>
              rw [e1, e2] at h; cases h
              rw [ih s1 s2 e1, ihx t1 t2 e2]; rfl
    have noLT : ∀ {a : Addr} {vs ws : List V}, SqL X.K H a vs → SqT X.K H a ws → False := fun {a vs ws} h1 h2 => by
      obtain ⟨_, _, o, e, c, _⟩ := isL_of I h1
      obtain ⟨_, _, o', e', c', _⟩ := isT_of I h2
      rw [e] at e'; cases e'
      rw [c] at c'; exact absurd (Value.type.inj c') (by decide)
    have noLD : ∀ {a : Addr} {vs : List V} {ws : List (Key × V)}, SqL X.K H a vs → Rd H a (.dK ws) → False := fun {a vs ws} h1 h2 => by
      obtain ⟨_, _, o, e, c, _⟩ := isL_of I h1
      obtain ⟨o', e', c', _⟩ := isD_of I h2
      rw [e] at e'; cases e'
      rw [c] at c'; exact absurd (Value.type.inj c') (by decide)
    have noTD : ∀ {a : Addr} {vs : List V} {ws : List (Key × V)}, SqT X.K H a vs → Rd H a (.dK ws) → False := fun {a vs ws} h1 h2 => by
      obtain ⟨_, _, o, e, c, _⟩ := isT_of I h1
      obtain ⟨o', e', c', _⟩ := isD_of I h2
      rw [e] at e'; cases e'
      rw [c] at c'; exact absurd (Value.type.inj c') (by decide)
    cases x with
    | non => cases y <;> simp only [Rep] at rx ry <;> subst rx <;> first | (simp only [eqX] at h; cases h; rfl) | (obtain ⟨_, _, e, _⟩ := ry; cases e; done) | (obtain ⟨_, _, _, e, _⟩ := ry; cases e; done) | cases ry
    | bl p => cases y <;> simp only [Rep] at rx ry <;> subst rx <;> first | (cases ry; simp only [eqX, beq_self_eq_true] at h; cases h; rfl; done) | (obtain ⟨_, _, e, _⟩ := ry; cases e; done) | (obtain ⟨_, _, _, e, _⟩ := ry; cases e; done) | cases ry
    | int p => cases y <;> simp only [Rep] at rx ry <;> subst rx <;> first | (cases ry; simp only [eqX, beq_self_eq_true] at h; cases h; rfl; done) | (obtain ⟨_, _, e, _⟩ := ry; cases e; done) | (obtain ⟨_, _, _, e, _⟩ := ry; cases e; done) | cases ry
    | str p => cases y <;> simp only [Rep] at rx ry <;> subst rx <;> first | (cases ry; simp only [eqX, beq_self_eq_true] at h; cases h; rfl; done) | (obtain ⟨_, _, e, _⟩ := ry; cases e; done) | (obtain ⟨_, _, _, e, _⟩ := ry; cases e; done) | cases ry
    | tup xs =>
      simp only [Rep] at rx
      obtain ⟨a, vs, rfl, s1, r1⟩ := rx
      cases y with
      | tup ys =>
        simp only [Rep] at ry
        obtain ⟨a', ws, e, s2, r2⟩ := ry
        cases e
        have := I.tuple_inj s1 s2
        subst this
        simp only [eqX] at h
        cases z : zipAll (eqX n) xs ys with
        | none => rw [z] at h; cases h
        | some c =>
          rw [z] at h; cases h
          rw [za r1 r2 z, decide_eq_true (show xs.length = ys.length by rw [r1.length, r2.length])]; rfl
      | lst ys => simp only [Rep] at ry; obtain ⟨a', ws, e, s2, r2⟩ := ry; cases e; exact (noLT s2 s1).elim
      | dct ys => simp only [Rep] at ry; obtain ⟨a', ws, e, s2, r2⟩ := ry; cases e; exact (noTD s1 s2).elim
      | dcT ys => simp [eqX, knd] at h
      | ins C ys => simp [eqX, knd] at h
      | _ => simp only [Rep] at ry; cases ry
    | lst xs =>
      simp only [Rep] at rx
      obtain ⟨a, vs, rfl, s1, r1⟩ := rx
      cases y with
      | lst ys =>
        simp only [Rep] at ry
        obtain ⟨a', ws, e, s2, r2⟩ := ry
        cases e
        have := I.list_inj s1 s2
        subst this
        simp only [eqX] at h
        rw [if_pos (by rw [r1.length, r2.length])] at h
        exact za r1 r2 h
      | tup ys => simp only [Rep] at ry; obtain ⟨a', ws, e, s2, r2⟩ := ry; cases e; exact (noLT s1 s2).elim
      | dct ys => simp only [Rep] at ry; obtain ⟨a', ws, e, s2, r2⟩ := ry; cases e; exact (noLD s1 s2).elim
      | dcT ys => simp [eqX, knd] at h
      | ins C ys => simp [eqX, knd] at h
      | _ => simp only [Rep] at ry; cases ry
    | dct xs =>
      simp only [Rep] at rx
      obtain ⟨a, vs, rfl, s1, r1⟩ := rx
      cases y with
      | dct ys =>
        simp only [Rep] at ry
        obtain ⟨a', ws, e, s2, r2⟩ := ry
        cases e
        have := rd_dk_inj s1 s2
        subst this
        obtain ⟨_, us, kv, o, es, ep, _, _, _, _, _, nd⟩ := dkD I s1
        have kx := repK_keys r1
        have ky := repK_keys r2
        have ku := kv.keys
        have ndx : (xs.map (·.1)).Nodup := by rw [kx, ku]; exact nd
        simp only [eqX] at h
        cases z : dctAll (eqX n) ys xs with
        | none => rw [z] at h; cases h
        | some c =>
          rw [z] at h; cases h
          obtain ⟨h1, h2⟩ := dctAll_ok z
          have hl : xs.length = ys.length := by rw [repK_len r1, repK_len r2]
          rw [decide_eq_true hl]
          show (true && c) = true
          rw [Bool.true_and, h2, List.all_eq_true]
          rintro ⟨k, x⟩ hm
          have hx := valD_mem ndx hm
          rcases repK_val (k := k) r1 with ⟨e, _⟩ | ⟨x', v, e1, e2, rx⟩
          · rw [e] at hx; cases hx
          · rw [e1] at hx; cases hx
            rcases repK_val (k := k) r2 with ⟨e, e3⟩ | ⟨y', v', e3, e4, ry⟩
            · rw [e2] at e3; cases e3
            · rw [e2] at e4; cases e4
              obtain ⟨c', hc⟩ := h1 k x hm y' e3
              simp only [e3, hc, Option.getD_some]
              exact ih rx ry hc
      | tup ys => simp only [Rep] at ry; obtain ⟨a', ws, e, s2, r2⟩ := ry; cases e; exact (noTD s2 s1).elim
      | lst ys => simp only [Rep] at ry; obtain ⟨a', ws, e, s2, r2⟩ := ry; cases e; exact (noLD s2 s1).elim
      | dcT ys => simp [eqX, knd] at h
      | ins C ys => simp [eqX, knd] at h
      | _ => simp only [Rep] at ry; cases ry
    | dcT xs => cases y <;> simp [eqX, knd] at h
    | ins C xs => cases y <;> simp [eqX, knd] at h
/-- what a value is, for == -/
inductive Kn (h : Heap) : D → Value → Prop
  | non : Kn h .non .none
  | bl {b : Bool} : Kn h (.bl b) (.bool b)
  | int {i : Int} {t : Tok} : Kn h (.int i) (.int i t)
  | str {x : Str} {t : Tok} : Kn h (.str x) (.str x t)
  | tup {ds : List D} {a : Addr} {its : Array Value} (e : h.IsTuple a its) : Kn h (.tup ds) (.ref a)
  | lst {ds : List D} {a : Addr} {its : Array Value} (e : h.IsList a its) : Kn h (.lst ds) (.ref a)
  | dct {ds : List (Key × D)} {a : Addr} (e : ZEq.IsD h a) : Kn h (.dct ds) (.ref a)
theorem kn_of (I : Inv X pins σ H s) {x : D} {v : V} {u : Value} (rx : Rep X.K H x v) (r : RelV v u) (hk : knd x ≠ none) : Kn s.heap x u := by
  cases x with
  | non => simp only [Rep] at rx; subst rx; cases (show u = Value.none from r); exact .non
  | bl b => simp only [Rep] at rx; subst rx; cases (show u = Value.bool b from r); exact .bl
  | int b => simp only [Rep] at rx; subst rx; obtain ⟨t, rfl⟩ := r; exact .int
  | str b => simp only [Rep] at rx; subst rx; obtain ⟨t, rfl⟩ := r; exact .str
  | tup ds =>
    simp only [Rep] at rx
    obtain ⟨a, vs, rfl, s1, _⟩ := rx
    cases (show u = Value.ref a from r)
    obtain ⟨its, _, e⟩ := isT_of I s1
    exact .tup e
  | lst ds =>
    simp only [Rep] at rx
    obtain ⟨a, vs, rfl, s1, _⟩ := rx
    cases (show u = Value.ref a from r)
    obtain ⟨its, _, e⟩ := isL_of I s1
    exact .lst e
  | dct ds =>
    simp only [Rep] at rx
    obtain ⟨a, vs, rfl, s1, _⟩ := rx
    cases (show u = Value.ref a from r)
    exact .dct (isD_of I s1)
  | dcT _ => exact absurd rfl hk
  | ins _ _ => exact absurd rfl hk
/-- other kinds are not equal -/
theorem eqAt_mis {A : Around} {s : Shared} {x y : D} {u v : Value} (hx : Kn s.heap x u) (hy : Kn s.heap y v) (hne : knd x ≠ knd y) (hu : A.units < cLine) : EqAt A s u v false := by
  cases hx with
  | non =>
    cases hy with
    | non => exact absurd rfl hne
    | bl => exact PySem.SeqAt.EqAt.none_bool _ 
    | int => exact PySem.SeqAt.EqAt.none_int _ _ 
    | str => exact PySem.SeqAt.EqAt.none_str _ _ 
    | tup e2 => exact PySem.SeqAt.EqAt.none_tuple e2 hu
    | lst e2 => exact PySem.SeqAt.EqAt.none_list e2 hu
    | dct e2 => exact ZEq.EqAt.none_dict e2 hu
  | bl =>
    cases hy with
    | non => exact PySem.SeqAt.EqAt.bool_none _ 
    | bl => exact absurd rfl hne
    | int => exact absurd rfl hne
    | str => exact PySem.SeqAt.EqAt.bool_str _ _ _ 
    | tup e2 => exact PySem.SeqAt.EqAt.bool_tuple _ e2 hu
    | lst e2 => exact PySem.SeqAt.EqAt.bool_list _ e2 hu
    | dct e2 => exact ZEq.EqAt.bool_dict _ e2 hu
  | int =>
    cases hy with
    | non => exact PySem.SeqAt.EqAt.int_none _ _ 
    | bl => exact absurd rfl hne
    | int => exact absurd rfl hne
    | str => exact PySem.SeqAt.EqAt.int_str _ _ _ _ 
    | tup e2 => exact PySem.SeqAt.EqAt.int_tuple _ _ e2 hu
    | lst e2 => exact PySem.SeqAt.EqAt.int_list _ _ e2 hu
    | dct e2 => exact ZEq.EqAt.int_dict _ _ e2 hu
  | str =>
    cases hy with
    | non => exact PySem.SeqAt.EqAt.str_none _ _ 
    | bl => exact PySem.SeqAt.EqAt.str_bool _ _ _ 
    | int => exact PySem.SeqAt.EqAt.str_int _ _ _ _ 
    | str => exact absurd rfl hne
    | tup e2 => exact PySem.SeqAt.EqAt.str_tuple _ _ e2 hu
    | lst e2 => exact PySem.SeqAt.EqAt.str_list _ _ e2 hu
    | dct e2 => exact ZEq.EqAt.str_dict _ _ e2 hu
  | tup e =>
    cases hy with
    | non => exact PySem.SeqAt.EqAt.tuple_none e hu
    | bl => exact PySem.SeqAt.EqAt.tuple_bool _ e hu
    | int => exact PySem.SeqAt.EqAt.tuple_int _ _ e hu
    | str => exact PySem.SeqAt.EqAt.tuple_str _ _ e hu
    | tup e2 => exact absurd rfl hne
    | lst e2 => exact PySem.SeqAt.EqAt.tuple_list e e2 hu
    | dct e2 => exact ZEq.EqAt.tuple_dict e2 e hu
  | lst e =>
    cases hy with
    | non => exact PySem.SeqAt.EqAt.list_none e hu
    | bl => exact PySem.SeqAt.EqAt.list_bool _ e hu
    | int => exact PySem.SeqAt.EqAt.list_int _ _ e hu
    | str => exact PySem.SeqAt.EqAt.list_str _ _ e hu
    | tup e2 => exact PySem.SeqAt.EqAt.list_tuple e e2 hu
    | lst e2 => exact absurd rfl hne
    | dct e2 => exact ZEq.EqAt.list_dict e2 e hu
  | dct e =>
    cases hy with
    | non => exact ZEq.EqAt.dict_none e hu
    | bl => exact ZEq.EqAt.dict_bool _ e hu
    | int => exact ZEq.EqAt.dict_int _ _ e hu
    | str => exact ZEq.EqAt.dict_str _ _ e hu
    | tup e2 => exact ZEq.EqAt.dict_tuple e e2 hu
    | lst e2 => exact ZEq.EqAt.dict_list e e2 hu
    | dct e2 => exact absurd rfl hne
/-- .. as a comparison -/
theorem rcAt_mis {A : Around} {s : Shared} {x y : D} {u v : Value} (hx : Kn s.heap x u) (hy : Kn s.heap y v) (hne : knd x ≠ knd y) (hu : A.units < cLine) : SeqAt.RcAt A s u v false := by
  cases hx with
  | non =>
    cases hy with
    | non => exact absurd rfl hne
    | bl => exact PySem.SeqAt.RcAt.none_bool _ 
    | int => exact PySem.SeqAt.RcAt.none_int _ _ 
    | str => exact PySem.SeqAt.RcAt.none_str _ _ 
    | tup e2 => exact PySem.SeqAt.RcAt.none_tuple e2 hu
    | lst e2 => exact PySem.SeqAt.RcAt.none_list e2 hu
    | dct e2 => exact ZEq.RcAt.none_dict e2 hu
  | bl =>
    cases hy with
    | non => exact PySem.SeqAt.RcAt.bool_none _ 
    | bl => exact absurd rfl hne
    | int => exact absurd rfl hne
    | str => exact PySem.SeqAt.RcAt.bool_str _ _ _ 
    | tup e2 => exact PySem.SeqAt.RcAt.bool_tuple _ e2 hu
    | lst e2 => exact PySem.SeqAt.RcAt.bool_list _ e2 hu
    | dct e2 => exact ZEq.RcAt.bool_dict _ e2 hu
  | int =>
    cases hy with
    | non => exact PySem.SeqAt.RcAt.int_none _ _ 
    | bl => exact absurd rfl hne
    | int => exact absurd rfl hne
    | str => exact PySem.SeqAt.RcAt.int_str _ _ _ _ 
    | tup e2 => exact PySem.SeqAt.RcAt.int_tuple _ _ e2 hu
    | lst e2 => exact PySem.SeqAt.RcAt.int_list _ _ e2 hu
    | dct e2 => exact ZEq.RcAt.int_dict _ _ e2 hu
  | str =>
    cases hy with
    | non => exact PySem.SeqAt.RcAt.str_none _ _ 
    | bl => exact PySem.SeqAt.RcAt.str_bool _ _ _ 
    | int => exact PySem.SeqAt.RcAt.str_int _ _ _ _ 
    | str => exact absurd rfl hne
    | tup e2 => exact PySem.SeqAt.RcAt.str_tuple _ _ e2 hu
    | lst e2 => exact PySem.SeqAt.RcAt.str_list _ _ e2 hu
    | dct e2 => exact ZEq.RcAt.str_dict _ _ e2 hu
  | tup e =>
    cases hy with
    | non => exact PySem.SeqAt.RcAt.tuple_none e hu
    | bl => exact PySem.SeqAt.RcAt.tuple_bool _ e hu
    | int => exact PySem.SeqAt.RcAt.tuple_int _ _ e hu
    | str => exact PySem.SeqAt.RcAt.tuple_str _ _ e hu
    | tup e2 => exact absurd rfl hne
    | lst e2 => exact PySem.SeqAt.RcAt.tuple_list e e2 hu
    | dct e2 => exact ZEq.RcAt.tuple_dict e2 e hu
  | lst e =>
    cases hy with
    | non => exact PySem.SeqAt.RcAt.list_none e hu
    | bl => exact PySem.SeqAt.RcAt.list_bool _ e hu
    | int => exact PySem.SeqAt.RcAt.list_int _ _ e hu
    | str => exact PySem.SeqAt.RcAt.list_str _ _ e hu
    | tup e2 => exact PySem.SeqAt.RcAt.list_tuple e e2 hu
    | lst e2 => exact absurd rfl hne
    | dct e2 => exact ZEq.RcAt.list_dict e2 e hu
  | dct e =>
    cases hy with
    | non => exact ZEq.RcAt.dict_none e hu
    | bl => exact ZEq.RcAt.dict_bool _ e hu
    | int => exact ZEq.RcAt.dict_int _ _ e hu
    | str => exact ZEq.RcAt.dict_str _ _ e hu
    | tup e2 => exact ZEq.RcAt.dict_tuple e e2 hu
    | lst e2 => exact ZEq.RcAt.dict_list e e2 hu
    | dct e2 => exact absurd rfl hne
theorem reps_at {K : PySem.W.Frag} {G : Hp} {xs : List D} {vs : List V} {its : List Value} (r : Reps K G xs vs) (rv : Vals vs its) {j : Nat} (h : j < its.length) : ∃ x v, xs[j]? = some x ∧ Rep K G x v ∧ RelV v its[j] := by
  have hl : j < vs.length := by rw [rv.length]; exact h
  have ev : vs[j]? = some vs[j] := by simp [hl]
  obtain ⟨x, ex, rx⟩ := r.getV ev
  obtain ⟨u, eu, ru⟩ := rv.get ev
  have : its[j]? = some its[j] := by simp [h]
  rw [this] at eu; cases eu
  exact ⟨x, _, ex, rx, ru⟩
theorem kv_look {K : PySem.W.Frag} {G : Hp} : ∀ {xs : List (Key × D)} {ws : List (Key × V)} {us : List (Key × Value)} {k : Key} {u : Value}, RepK K G xs ws → KV ws us → (k, u) ∈ us → ∃ x v, (k, x) ∈ xs ∧ Rep K G x v ∧ RelV v u
  | [], _, _, _, _, r, kv, h => by simp only [RepK] at r; subst r; cases kv; cases h
  | (k0, x0) :: xs, _, _, k, u, r, kv, h => by
    simp only [RepK] at r
    obtain ⟨v0, r', rfl, rx0, r1⟩ := r
    cases kv with
    | @cons _ pu _ us' hp kv1 =>
      obtain ⟨ku, uu⟩ := pu
      obtain ⟨e1, e2⟩ := hp
      have e1 : k0 = ku := e1
      subst e1
      rcases List.mem_cons.mp h with h | h
      · cases h; exact ⟨x0, v0, List.mem_cons_self .., rx0, e2⟩
      · obtain ⟨x, v, hx, q⟩ := kv_look r1 kv1 h
        exact ⟨x, v, List.mem_cons_of_mem _ hx, q⟩
/-- what a dict's comparison asks of its values -/
theorem dct_kids {n : Nat} {xs ys : List (Key × D)} {vs ws : List (Key × V)} {us us2 : List (Key × Value)} {c : Bool} (ih : ∀ {x y : D} {v v' : V} {u u' : Value} {b : Bool}, Rep X.K H x v → Rep X.K H y v' → RelV v u → RelV v' u' → eqX n x y = some b → PySem.W.EqTree X.prog X.w s n u u' b)
    (r1 : RepK X.K H xs vs) (r2 : RepK X.K H ys ws) (kv1 : KV vs us) (kv2 : KV ws us2) (ndx : (xs.map (·.1)).Nodup) (z : dctAll (eqX n) ys xs = some c) :
    ∃ e : Key → Bool, (∀ k u u2, (k, u) ∈ us → PySem.valueAt us2 k = some u2 → PySem.W.EqTree X.prog X.w s n u u2 (e k)) ∧ (us.length == us2.length && us.all fun p => (PySem.valueAt us2 p.1).isSome && e p.1) = (decide (xs.length = ys.length) && c) := by
  obtain ⟨h1, h2⟩ := dctAll_ok z
  have look := fun k u => kv_look r1 kv1 (k := k) (u := u)
  obtain ⟨e, hE⟩ : ∃ e : Key → Bool, ∀ k x y, valD xs k = some x → valD ys k = some y → e k = (eqX n x y).getD false := ⟨fun k => match valD xs k, valD ys k with
    | some x, some y => (eqX n x y).getD false
    | _, _ => false, fun k x y h1 h2 => by simp only [h1, h2]⟩
  refine ⟨e, fun k u u2 hm hv => ?_, ?_⟩
  · obtain ⟨x, v, hx, q1, q2⟩ := look k u hm
    have hy := kv2.val k
    rw [hv] at hy
    rcases repK_val (k := k) r2 with ⟨_, e3⟩ | ⟨y, v2, e3, e4, q3⟩
    · rw [e3] at hy; exact hy.elim
    · rw [e4] at hy
      obtain ⟨c', hc⟩ := h1 k x hx y e3
      have : e k = c' := by rw [hE k x y (valD_mem ndx hx) e3, hc]; rfl
      rw [this]
      exact ih q1 q3 q2 hy hc
  · have l1 : us.length = xs.length := by rw [← kv1.length, repK_len r1]
    have l2 : us2.length = ys.length := by rw [← kv2.length, repK_len r2]
    rw [l1, l2, h2]
    have e0 : (xs.length == ys.length) = decide (xs.length = ys.length) := by
      by_cases hl : xs.length = ys.length <;> simp [hl]
    rw [e0]
    refine congrArg (fun z => decide (xs.length = ys.length) && z) ?_
    · have g : ∀ k : Key, (PySem.valueAt us2 k).isSome = (valD ys k).isSome := fun k => by
        have q := kv2.val k
        rcases repK_val (k := k) r2 with ⟨e3, e4⟩ | ⟨y, v2, e3, e4, _⟩
        · rw [e4] at q; rw [e3]
          cases w : PySem.valueAt us2 k with
          | none => rfl
          | some _ => rw [w] at q; exact q.elim
        · rw [e4] at q; rw [e3]
          cases w : PySem.valueAt us2 k with
          | none => rw [w] at q; exact q.elim
          | some _ => rfl
      have ek : us.map (·.1) = xs.map (·.1) := by rw [repK_keys r1, kv1.keys]
      have a1 : (us.all fun p => (PySem.valueAt us2 p.1).isSome && e p.1) = (us.map (·.1)).all fun k => (valD ys k).isSome && e k := by
        rw [List.all_map]
        congr 1
        funext p
        simp only [Function.comp, g]
      have a2 : (xs.all fun p => match valD ys p.1 with
          | none => false
          | some y => (eqX n p.2 y).getD false) = xs.all fun p => (valD ys p.1).isSome && e p.1 := by
        rw [Bool.eq_iff_iff, List.all_eq_true, List.all_eq_true]
        refine ⟨fun h p hp => ?_, fun h p hp => ?_⟩
        · have := h p hp
          have hx := valD_mem ndx (show (p.1, p.2) ∈ xs from hp)
          cases w : valD ys p.1 with
          | none => rw [w] at this; cases this
          | some y => rw [w] at this; rw [hE _ _ _ hx w]; simpa using this
        · have := h p hp
          have hx := valD_mem ndx (show (p.1, p.2) ∈ xs from hp)
          cases w : valD ys p.1 with
          | none => rw [w] at this; cases this
          | some y => rw [w, hE _ _ _ hx w] at this; simpa using this
      rw [a1, a2, ek, List.all_map]
      rfl
/-- the whole comparison -/
theorem eqX_tree (I : Inv X pins σ H s) : ∀ (n : Nat) {x y : D} {v v' : V} {u u' : Value} {b : Bool}, Rep X.K H x v → Rep X.K H y v' → RelV v u → RelV v' u' → eqX n x y = some b → PySem.W.EqTree X.prog X.w s n u u' b
  | 0, _, _, _, _, _, _, _, _, _, _, _, h => by simp [eqX] at h
  | n + 1, x, y, v, v', u, u', b, rx, ry, ru, ru', h => by
    have ih := fun {x y : D} {v v' : V} {u u' : Value} {b : Bool} => eqX_tree I n (x := x) (y := y) (v := v) (v' := v') (u := u) (u' := u') (b := b)
    have sm := eqX_same I (n + 1) (x := x) (y := y) (v := v) (b := b) rx
    by_cases hk : knd x = none ∨ knd y = none
    · exfalso
      rcases hk with hk | hk
      · cases x <;> first | (cases hk; done) | (cases y <;> simp [eqX, knd] at h)
      · cases y <;> first | (cases hk; done) | (cases x <;> simp [eqX, knd] at h)
    · have hkx : knd x ≠ none := fun z => hk (.inl z)
      have hky : knd y ≠ none := fun z => hk (.inr z)
      have kx := kn_of I rx ru hkx
      have ky := kn_of I ry ru' hky
      by_cases hne : knd x = knd y
      · cases x with
        | non =>
          cases y with
          | non => cases kx; cases ky; simp only [eqX] at h; cases h; exact .same
          | _ => exfalso; revert hne; simp [knd]
        | bl p => cases y <;> first | (exfalso; revert hne; simp [knd]; done) | skip
                  · cases kx; cases ky; simp only [eqX] at h; cases h; exact .leaf fun A _ => SeqAt.EqAt.bool_bool _ _
                  · cases kx; cases ky; simp only [eqX] at h; cases h; exact .leaf fun A _ => SeqAt.EqAt.bool_int _ _ _
        | int p => cases y <;> first | (exfalso; revert hne; simp [knd]; done) | skip
                   · cases kx; cases ky; simp only [eqX] at h; cases h; exact .leaf fun A _ => SeqAt.EqAt.int_bool _ _ _
                   · cases kx; cases ky; simp only [eqX] at h; cases h; exact .leaf fun A _ => SeqAt.EqAt.int_int _ _ _ _
        | str p => cases y <;> first | (exfalso; revert hne; simp [knd]; done) | skip
                   · cases kx; cases ky; simp only [eqX] at h; cases h; exact .leaf fun A _ => SeqAt.EqAt.str_str _ _ _ _
        | tup xs =>
          cases y with
          | tup ys =>
            simp only [Rep] at rx ry
            obtain ⟨a, vs, rfl, s1, r1⟩ := rx
            obtain ⟨a', ws, rfl, s2, r2⟩ := ry
            cases (show u = Value.ref a from ru)
            cases (show u' = Value.ref a' from ru')
            by_cases ha : a = a'
            · subst ha
              rw [sm (by simp only [Rep]; exact ⟨a, ws, rfl, s2, r2⟩) h]
              exact .same
            · simp only [eqX] at h
              cases z : zipAll (eqX n) xs ys with
              | none => rw [z] at h; cases h
              | some c =>
                rw [z] at h; cases h
                obtain ⟨e, rfl, he⟩ := zipAll_ok z
                obtain ⟨its, rv, t1⟩ := isT_of I s1
                obtain ⟨jts, rw', t2⟩ := isT_of I s2
                have l1 : its.toArray.size = xs.length := by rw [List.size_toArray, ← rv.length, r1.length]
                have l2 : jts.toArray.size = ys.length := by rw [List.size_toArray, ← rw'.length, r2.length]
                have key := PySem.W.EqTree.tuples (prog := X.prog) (w := X.w) (n := n) (e := e) ha t1 t2 fun j h1 h2 => by
                  obtain ⟨x, v1, ex, q1, q2⟩ := reps_at r1 rv (j := j) (by simpa using h1)
                  obtain ⟨y, v2, ey, q3, q4⟩ := reps_at r2 rw' (j := j) (by simpa using h2)
                  have := ih q1 q3 q2 q4 (he j x y ex ey)
                  simpa using this
                rw [l1, l2] at key
                have e2 : (xs.length == ys.length) = decide (xs.length = ys.length) := by
                  by_cases hl : xs.length = ys.length <;> simp [hl]
                rw [e2] at key
                exact key
          | _ => exfalso; revert hne; simp [knd]
        | lst xs =>
          cases y with
          | lst ys =>
            simp only [Rep] at rx ry
            obtain ⟨a, vs, rfl, s1, r1⟩ := rx
            obtain ⟨a', ws, rfl, s2, r2⟩ := ry
            cases (show u = Value.ref a from ru)
            cases (show u' = Value.ref a' from ru')
            by_cases ha : a = a'
            · subst ha
              rw [sm (by simp only [Rep]; exact ⟨a, ws, rfl, s2, r2⟩) h]
              exact .same
            · obtain ⟨its, rv, t1⟩ := isL_of I s1
              obtain ⟨jts, rw', t2⟩ := isL_of I s2
              have l1 : its.toArray.size = xs.length := by rw [List.size_toArray, ← rv.length, r1.length]
              have l2 : jts.toArray.size = ys.length := by rw [List.size_toArray, ← rw'.length, r2.length]
              simp only [eqX] at h
              split at h
              · rename_i hl
                obtain ⟨e, rfl, he⟩ := zipAll_ok h
                have key := PySem.W.EqTree.lists (prog := X.prog) (w := X.w) (n := n) (e := e) ha t1 t2 (by omega) fun j h1 h2 => by
                  obtain ⟨x, v1, ex, q1, q2⟩ := reps_at r1 rv (j := j) (by simpa using h1)
                  obtain ⟨y, v2, ey, q3, q4⟩ := reps_at r2 rw' (j := j) (by simpa using h2)
                  have := ih q1 q3 q2 q4 (he j x y ex ey)
                  simpa using this
                rw [l1] at key
                rw [hl, Nat.min_self]
                rw [hl] at key
                exact key
              · rename_i hl
                cases h
                exact .listsLen ha t1 t2 (by simp only [bne_iff_ne]; omega)
          | _ => exfalso; revert hne; simp [knd]
        | dct xs =>
          cases y with
          | dct ys =>
            simp only [Rep] at rx ry
            obtain ⟨a, vs, rfl, s1, r1⟩ := rx
            obtain ⟨a', ws, rfl, s2, r2⟩ := ry
            cases (show u = Value.ref a from ru)
            cases (show u' = Value.ref a' from ru')
            by_cases ha : a = a'
            · subst ha
              rw [sm (by simp only [Rep]; exact ⟨a, ws, rfl, s2, r2⟩) h]
              exact .same
            · obtain ⟨y1, us, kv1, d1⟩ := dkD I s1
              obtain ⟨y2, us2, kv2, d2⟩ := dkD I s2
              obtain ⟨o, es, ep, _, _, _, _, _, nd⟩ := id d1
              have ndx : (xs.map (·.1)).Nodup := by rw [repK_keys r1, kv1.keys]; exact nd
              simp only [eqX] at h
              cases z : dctAll (eqX n) ys xs with
              | none => rw [z] at h; cases h
              | some c =>
                rw [z] at h; cases h
                obtain ⟨e, kids, eb⟩ := dct_kids ih r1 r2 kv1 kv2 ndx z
                have key := PySem.W.EqTree.dicts (prog := X.prog) (w := X.w) (n := n) (e := e) ha y1 y2 d1 d2 kids
                rw [eb] at key
                exact key
          | _ => exfalso; revert hne; simp [knd]
        | _ => exact absurd rfl hkx
      · have hf : b = false := by
          have : eqX (n + 1) x y = some false := by
            cases x <;> cases y <;> first | exact absurd rfl hne | exact absurd rfl hkx | exact absurd rfl hky | rfl
          rw [this] at h; cases h; rfl
        subst hf
        exact .leaf fun A hu => eqAt_mis kx ky hne (by omega)
/-- .. as the operator -/
theorem eqX_rc (I : Inv X pins σ H s) {n : Nat} {x y : D} {v v' : V} {u u' : Value} {b : Bool} (rx : Rep X.K H x v) (ry : Rep X.K H y v') (ru : RelV v u) (ru' : RelV v' u') (h : eqX (n + 1) x y = some b) {A : Around} (hu : A.units + (n + 1) < cLine) {Q : Value → Shared → Prop} {E : Value → Shared → Prop} (q : Q (.bool b) s) :
    wpAny (model X.prog X.w) A (compareOp .Eq u u') Q E s := by
  have ih := fun {x y : D} {v v' : V} {u u' : Value} {b : Bool} => eqX_tree I n (x := x) (y := y) (v := v) (v' := v') (u := u) (u' := u') (b := b)
  have rc : ∀ {b : Bool}, SeqAt.RcAt A s u u' b → Q (.bool b) s → wpAny (model X.prog X.w) A (compareOp .Eq u u') Q E s := fun r q => r _ _ _ _ q
  by_cases hk : knd x = none ∨ knd y = none
  · exfalso
    rcases hk with hk | hk
    · cases x <;> first | (cases hk; done) | (cases y <;> simp [eqX, knd] at h)
    · cases y <;> first | (cases hk; done) | (cases x <;> simp [eqX, knd] at h)
  · have hkx : knd x ≠ none := fun z => hk (.inl z)
    have hky : knd y ≠ none := fun z => hk (.inr z)
    have kx := kn_of I rx ru hkx
    have ky := kn_of I ry ru' hky
    by_cases hne : knd x = knd y
    · cases x with
      | non =>
        cases y with
        | non => cases kx; cases ky; simp only [eqX] at h; cases h; exact rc SeqAt.RcAt.none_none q
        | _ => exfalso; revert hne; simp [knd]
      | bl p => cases y <;> first | (exfalso; revert hne; simp [knd]; done) | skip
                · cases kx; cases ky; simp only [eqX] at h; cases h; exact rc (SeqAt.RcAt.bool_bool _ _) q
                · cases kx; cases ky; simp only [eqX] at h; cases h; exact rc (SeqAt.RcAt.bool_int _ _ _) q
      | int p => cases y <;> first | (exfalso; revert hne; simp [knd]; done) | skip
                 · cases kx; cases ky; simp only [eqX] at h; cases h; exact rc (SeqAt.RcAt.int_bool _ _ _) q
                 · cases kx; cases ky; simp only [eqX] at h; cases h; exact rc (SeqAt.RcAt.int_int _ _ _ _) q
      | str p => cases y <;> first | (exfalso; revert hne; simp [knd]; done) | skip
                 · cases kx; cases ky; simp only [eqX] at h; cases h; exact rc (SeqAt.RcAt.str_str _ _ _ _) q
      | tup xs =>
        cases y with
        | tup ys =>
          simp only [Rep] at rx ry
          obtain ⟨a, vs, rfl, s1, r1⟩ := rx
          obtain ⟨a', ws, rfl, s2, r2⟩ := ry
          cases (show u = Value.ref a from ru)
          cases (show u' = Value.ref a' from ru')
          simp only [eqX] at h
          cases z : zipAll (eqX n) xs ys with
          | none => rw [z] at h; cases h
          | some c =>
            rw [z] at h; cases h
            obtain ⟨e, rfl, he⟩ := zipAll_ok z
            obtain ⟨its, rv, t1⟩ := isT_of I s1
            obtain ⟨jts, rw', t2⟩ := isT_of I s2
            have l1 : its.toArray.size = xs.length := by rw [List.size_toArray, ← rv.length, r1.length]
            have l2 : jts.toArray.size = ys.length := by rw [List.size_toArray, ← rw'.length, r2.length]
            refine PySem.W.eq_tuplesT (n := n) (e := e) t1 t2 (fun j h1 h2 => ?_) hu ?_
            · obtain ⟨x, v1, ex, q1, q2⟩ := reps_at r1 rv (j := j) (by simpa using h1)
              obtain ⟨y, v2, ey, q3, q4⟩ := reps_at r2 rw' (j := j) (by simpa using h2)
              have := ih q1 q3 q2 q4 (he j x y ex ey)
              simpa using this
            · have e2 : (xs.length == ys.length) = decide (xs.length = ys.length) := by
                by_cases hl : xs.length = ys.length <;> simp [hl]
              rw [l1, l2, e2]
              exact q
        | _ => exfalso; revert hne; simp [knd]
      | lst xs =>
        cases y with
        | lst ys =>
          simp only [Rep] at rx ry
          obtain ⟨a, vs, rfl, s1, r1⟩ := rx
          obtain ⟨a', ws, rfl, s2, r2⟩ := ry
          cases (show u = Value.ref a from ru)
          cases (show u' = Value.ref a' from ru')
          obtain ⟨its, rv, t1⟩ := isL_of I s1
          obtain ⟨jts, rw', t2⟩ := isL_of I s2
          have l1 : its.toArray.size = xs.length := by rw [List.size_toArray, ← rv.length, r1.length]
          have l2 : jts.toArray.size = ys.length := by rw [List.size_toArray, ← rw'.length, r2.length]
          simp only [eqX] at h
          split at h
          · rename_i hl
            obtain ⟨e, rfl, he⟩ := zipAll_ok h
            refine PySem.W.eq_listsT (n := n) (e := e) t1 t2 (by omega) (fun j h1 h2 => ?_) hu ?_
            · obtain ⟨x, v1, ex, q1, q2⟩ := reps_at r1 rv (j := j) (by simpa using h1)
              obtain ⟨y, v2, ey, q3, q4⟩ := reps_at r2 rw' (j := j) (by simpa using h2)
              have := ih q1 q3 q2 q4 (he j x y ex ey)
              simpa using this
            · rw [l1]
              rw [hl, Nat.min_self] at q
              rw [hl]
              exact q
          · rename_i hl
            cases h
            exact rc (SeqAt.RcAt.lists_lengths t1 t2 (by simp only [bne_iff_ne]; omega) (by omega)) q
        | _ => exfalso; revert hne; simp [knd]
      | dct xs =>
        cases y with
        | dct ys =>
          simp only [Rep] at rx ry
          obtain ⟨a, vs, rfl, s1, r1⟩ := rx
          obtain ⟨a', ws, rfl, s2, r2⟩ := ry
          cases (show u = Value.ref a from ru)
          cases (show u' = Value.ref a' from ru')
          obtain ⟨y1, us, kv1, d1⟩ := dkD I s1
          obtain ⟨y2, us2, kv2, d2⟩ := dkD I s2
          obtain ⟨o, es, ep, _, _, _, _, _, nd⟩ := id d1
          have ndx : (xs.map (·.1)).Nodup := by rw [repK_keys r1, kv1.keys]; exact nd
          simp only [eqX] at h
          cases z : dctAll (eqX n) ys xs with
          | none => rw [z] at h; cases h
          | some c =>
            rw [z] at h; cases h
            obtain ⟨e, kids, eb⟩ := dct_kids ih r1 r2 kv1 kv2 ndx z
            refine PySem.W.eq_dictsT (n := n) (e := e) y1 y2 d1 d2 kids hu ?_
            rw [eb]; exact q
        | _ => exfalso; revert hne; simp [knd]
      | _ => exact absurd rfl hkx
    · have hf : b = false := by
        have : eqX (n + 1) x y = some false := by
          cases x <;> cases y <;> first | exact absurd rfl hne | exact absurd rfl hkx | exact absurd rfl hky | rfl
        rw [this] at h; cases h; rfl
      subst hf
      exact rc (rcAt_mis kx ky hne (by omega)) q
end
section
variable {X : Cx}
theorem op_eqX (hu : X.A.units + 80 < cLine) : OpR X (compareOp .Eq) (fun x y H Q => ∃ d e b, Rep X.K H d x ∧ Rep X.K H e y ∧ eqX 40 d e = some b ∧ Q (.bl b) H) := by
  intro pins s σ H x y v u Q I rx ry h
  obtain ⟨d, e, b, rd, re, hb, q⟩ := h
  exact eqX_rc I rd re rx ry hb (by omega) ⟨.bl _, H, I, rfl, q⟩
theorem ne_hits {pins : List (Addr × Obj)} {σ : L2.St} {H : Hp} {s : Shared} (I : Inv X pins σ H s) (hu : X.A.units + 65 < cLine) {ys : List (Key × D)} {ws : List (Key × V)} {us2 : List (Key × Value)} (r2 : RepK X.K H ys ws) (kv2 : KV ws us2) :
    ∀ {xs : List (Key × D)} {vs : List (Key × V)} {us : List (Key × Value)} {b : Bool}, RepK X.K H xs vs → KV vs us → dctAll eqP ys xs = some b → PySem.W.KeqHits X.A.in1 s us2 us b
  | [], _, _, b, r1, kv1, hb => by
    simp only [RepK] at r1; subst r1; cases kv1
    simp only [dctAll] at hb; cases hb
    exact .nil
  | (k, x) :: xs, _, _, b, r1, kv1, hb => by
    simp only [RepK] at r1
    obtain ⟨v0, r', rfl, rx0, r1⟩ := r1
    cases kv1 with
    | @cons _ pu _ us' hp kv1 =>
      obtain ⟨ku, uu⟩ := pu
      obtain ⟨e1, e2⟩ := hp
      have e1 : k = ku := e1
      subst e1
      simp only [dctAll] at hb
      cases z : dctAll eqP ys xs with
      | none => rw [z] at hb; cases hb
      | some c =>
        rw [z] at hb
        have hv := kv2.val k
        rcases repK_val (k := k) r2 with ⟨e3, e4⟩ | ⟨y, v2, e3, e4, ry0⟩
        · simp only [e3] at hb; cases hb
          rw [e4] at hv
          cases w : PySem.valueAt us2 k with
          | none => exact .miss w
          | some _ => rw [w] at hv; exact hv.elim
        · rw [e4] at hv
          simp only [e3] at hb
          cases w : PySem.valueAt us2 k with
          | none => rw [w] at hv; exact hv.elim
          | some u2 =>
            rw [w] at hv
            cases z2 : eqP x y with
            | none => rw [z2] at hb; cases hb
            | some a0 =>
              rw [z2] at hb; cases hb
              refine .hit w ?_ (ne_hits I hu r2 kv2 r1 kv1 z)
              unfold eqP at z2
              split at z2
              · rename_i p1 p2 h1 h2
                split at z2
                · rename_i h3
                  rw [Bool.and_eq_true] at h3
                  cases z2
                  obtain ⟨as, q1⟩ := Dp.reads I p1 _ uu (rx0.dp h1) e2
                  obtain ⟨bs, q2⟩ := Dp.reads I p2 _ u2 (ry0.dp h2) hv
                  refine SeqAt.eqAt_plain p1 p2 _ s _ _ _ _ q1 q2 (PyData.plain_of_canLay0 _ (SeqAt.canLay_of_shaped h3.1)) (PyData.plain_of_canLay0 _ (SeqAt.canLay_of_shaped h3.2)) ?_
                  have := SeqAt.depth_of_shaped h3.1
                  show X.A.units + 1 + min _ _ < cLine
                  have hm : min p1.depth p2.depth ≤ 64 := Nat.le_trans (Nat.min_le_left _ _) this
                  omega
                · cases z2
              · cases z2
/-- != of dicts -/
theorem op_neDct (hu : X.A.units + 80 < cLine) : OpR X (compareOp .NotEq) (fun x y H Q => ∃ xs ys b, Rep X.K H (.dct xs) x ∧ Rep X.K H (.dct ys) y ∧ dctAll eqP ys xs = some b ∧ Q (.bl (!(decide (xs.length = ys.length) && b))) H) := by
  intro pins s σ H x y v u Q I rx ry h
  obtain ⟨xs, ys, b, r1, r2, hb, q⟩ := h
  simp only [Rep] at r1 r2
  obtain ⟨a, vs, rfl, s1, r1⟩ := r1
  obtain ⟨a', ws, rfl, s2, r2⟩ := r2
  cases (show v = Value.ref a from rx)
  cases (show u = Value.ref a' from ry)
  obtain ⟨y1, us, kv1, d1⟩ := dkD I s1
  obtain ⟨y2, us2, kv2, d2⟩ := dkD I s2
  obtain ⟨o, es, ep, _, _, _, _, _, nd⟩ := id d1
  have ndx : (xs.map (·.1)).Nodup := by rw [repK_keys r1, kv1.keys]; exact nd
  have l1 : us.length = xs.length := by rw [← kv1.length, repK_len r1]
  have l2 : us2.length = ys.length := by rw [← kv2.length, repK_len r2]
  have hits := ne_hits I (by omega) r2 kv2 r1 kv1 hb
  refine PySem.W.keq_ne y1 y2 d1 d2 (by omega) (fun _ => hits) ⟨.bl _, H, I, ?_, q⟩
  rw [l1, l2]
  have e0 : (xs.length == ys.length) = decide (xs.length = ys.length) := by
    by_cases hl : xs.length = ys.length <;> simp [hl]
  rw [e0]
  rfl
end
end Z

namespace Z
open PySem PySem.Spec L2
open PyProof.Rows hiding St
/-! ### runs one behind another -/
structure PostC (K : PySem.W.Frag) (O : Addr → Prop) (ρ : Vn) (σ : L2.St) (H : Hp) (st : Bool) (ρ' : Vn) (H' : Hp) : Prop where
  env : EnvOk K O ρ' σ H'
  kp : Kp (fun b => st = false ∧ WrA ρ σ b) H H'
  dm : ∀ b, H b ≠ none → H' b ≠ none
  to : EvTo ρ ρ'
section
variable {K : PySem.W.Frag} {O : Addr → Prop} {ρ ρ1 ρ2 ρ' : Vn} {σ : L2.St} {H H1 H2 H' : Hp} {m m1 m2 : ME} {d d1 d2 : D} {v v1 v2 : V} {s1 s2 st : Bool}
theorem PostS.c (p : PostS K O ρ σ H m d ρ' v H') : PostC K O ρ σ H m.still ρ' H' := ⟨p.env, p.kp, p.dm, p.to⟩
theorem PostC.refl (E : EnvOk K O ρ σ H) : PostC K O ρ σ H st ρ H := ⟨E, Kp.refl, fun _ h => h, EvTo.refl _⟩
theorem PostC.trans (a : PostC K O ρ σ H s1 ρ1 H1) (b : PostC K O ρ1 σ H1 s2 ρ2 H2) : PostC K O ρ σ H (s1 && s2) ρ2 H2 := by
  refine ⟨b.env, (a.kp.mono fun c z => ⟨?_, z.2⟩).trans (b.kp.mono fun c z => ⟨?_, a.to.wr z.2⟩), fun c h => b.dm c (a.dm c h), a.to.trans b.to⟩
  · rw [z.1]; simp
  · rw [z.1]; simp
theorem PostC.weak (a : PostC K O ρ σ H s1 ρ1 H1) (h : s2 = true → s1 = true) : PostC K O ρ σ H s2 ρ1 H1 := by
  refine ⟨a.env, a.kp.mono fun c z => ⟨?_, z.2⟩, a.dm, a.to⟩
  cases q : s2 with
  | false => rfl
  | true =>
    have e := h q
    rw [z.1] at e
    cases e
theorem PostC.gone (a : PostC K O ρ σ H s1 ρ1 H1) {b : Addr} (h : H1 b = none) : H b = none := by
  cases q : H b with
  | none => rfl
  | some o => exact absurd h (a.dm b (by rw [q]; simp))
theorem PostC.ext (b : PostC K O ρ1 σ H1 st ρ2 H2) : Ext (vis (Hid O ρ1 σ) H1) (vis (Hid O ρ2 σ) H2) :=
  vis_ext (fun c h _ => b.to.hid h) fun c o h e => b.kp c o (fun z => h (.inr z.2.own)) e
theorem PostC.all (b : PostC K O ρ1 σ H1 true ρ2 H2) : ∀ c o, H1 c = some o → H2 c = some o := fun c o e => b.kp c o (fun z => by cases z.1) e
theorem PostX.fromC {x : Exn} {od : Option Addr} (p : PostC K O ρ σ H st ρ1 H1) (q : PostX K O ρ1 σ H1 x ρ' od H') : PostX K O ρ σ H x ρ' od H' :=
  ⟨q.env, (p.kp.mono fun b z => z.2).trans (q.kp.mono fun b z => p.to.wr z), fun b h => q.dm b (p.dm b h), p.to.trans q.to, q.rep⟩
/-- what was looked at ahead -/
theorem PostS.carry (p : PostS K O ρ σ H m d ρ1 v H1) (b : PostC K O ρ1 σ H1 st ρ2 H2) (h : m.isRd = true → st = true) : RdOk K (vis (Hid O ρ2 σ) H2) H2 d v := by
  cases q : m.isRd with
  | false => exact .inl ((p.rep q).ext b.ext)
  | true =>
    have e := h q
    subst e
    exact p.rd.ext b.ext b.all
theorem PostC.scal (c : PostC K O ρ σ H m.still ρ' H') (hs : scalD d = true) : PostE K O ρ σ H m false d ρ' (vOf d) H' :=
  { env := newO_false.symm ▸ c.env, kp := c.kp, dm := c.dm, to := c.to, new := fun z => Bool.noConfusion z, rd := fun _ => .inl (rep_vOf hs), rep := fun _ _ => rep_vOf hs }
theorem RdOk.scal {G : Hp} (h : RdOk K G H d v) (hs : scalD d = true) : v = vOf d := by
  rcases h with h | ⟨a, _, h⟩
  · cases d <;> first | exact h | cases hs
  · cases d <;> first | exact h.elim | cases hs
theorem upd_dm {p b : Addr} {o : HO} (h : H b ≠ none) : upd H p o b ≠ none := by
  unfold upd
  split
  · simp
  · exact h
theorem vis_new {p : Addr} {o : HO} (hp : H p = none) : Ext (vis (Hid O ρ σ) H) (vis (Hid (newO true O (.ref p)) ρ σ) (upd H p o)) := by
  refine vis_ext (fun b z n => ?_) fun b o _ z => upd_kp hp b o z
  rcases z with (z | ⟨_, z⟩) | z
  · exact .inl z
  · cases z; exact absurd hp n
  · exact .inr z
/-- a new object comes -/
theorem PostC.new (c : PostC K O ρ σ H m.still ρ' H') {p : Addr} {o : HO} (hp : H' p = none) (t : Top K (vis (Hid (newO true O (.ref p)) ρ' σ) (upd H' p o)) (upd H' p o) d p) : PostE K O ρ σ H m true d ρ' (.ref p) (upd H' p o) :=
  { env := c.env.laid hp, kp := fun b u n e => upd_kp hp b u (c.kp b u n e), dm := fun b h => upd_dm (c.dm b h), to := c.to, new := fun _ => ⟨p, rfl, c.gone hp, t⟩, rd := fun z => Bool.noConfusion z, rep := fun z => Bool.noConfusion z }
end
/-- a result that is made of what is seen in G -/
inductive Made' (K : PySem.W.Frag) (G H : Hp) : Bool → D → V → Hp → Prop
  | same {d : D} {v : V} (r : Rep K G d v) : Made' K G H false d v H
  | tup {ds : List D} {vs : List V} {p : Addr} (hp : H p = none) (r : Reps K G ds vs) : Made' K G H false (.tup ds) (.ref p) (upd H p (.tup vs))
  | lst {ds : List D} {vs : List V} {p : Addr} (hp : H p = none) (r : Reps K G ds vs) : Made' K G H true (.lst ds) (.ref p) (upd H p (.lst vs))
  | dct {ds : List (Key × D)} {vs : List (Key × V)} {p : Addr} (hp : H p = none) (r : RepK K G ds vs) : Made' K G H true (.dct ds) (.ref p) (upd H p (.dK vs))
theorem PostC.made {K : PySem.W.Frag} {O : Addr → Prop} {ρ ρ' : Vn} {σ : L2.St} {H H' H2 : Hp} {m : ME} {fl : Bool} {d : D} {v : V} (c : PostC K O ρ σ H m.still ρ' H') (h : Made' K (vis (Hid O ρ' σ) H') H' fl d v H2) : PostE K O ρ σ H m fl d ρ' v H2 := by
  cases h with
  | same r => exact { env := newO_false.symm ▸ c.env, kp := c.kp, dm := c.dm, to := c.to, new := fun z => Bool.noConfusion z, rd := fun _ => .inl r, rep := fun _ _ => r }
  | @tup ds vs p hp r =>
    have r2 : Rep K (vis (Hid O ρ' σ) (upd H' p (.tup vs))) (.tup ds) (.ref p) := by
      simp only [Rep]
      have np : ¬ Hid O ρ' σ p := fun z => c.env.domH p z hp
      exact ⟨p, vs, rfl, SqT.of (by rw [vis_at np, upd_same]), r.ext (vis_ext (fun _ z _ => z) fun b o _ z => upd_kp hp b o z)⟩
    exact { env := newO_false.symm ▸ c.env.kept (upd_kp hp), kp := fun b u n e => upd_kp hp b u (c.kp b u n e), dm := fun b h => upd_dm (c.dm b h), to := c.to, new := fun z => Bool.noConfusion z, rd := fun _ => .inl r2, rep := fun _ _ => r2 }
  | lst hp r => exact c.new hp ⟨_, upd_same, r.ext (vis_new hp)⟩
  | dct hp r => exact c.new hp ⟨_, upd_same, r.ext (vis_new hp)⟩
theorem Made'.scal {K : PySem.W.Frag} {G H : Hp} {d : D} (hs : scalD d = true) : Made' K G H false d (vOf d) H := .same (rep_vOf hs)
section
variable {Φ : Tab} {X : Cx} {W : WX}
abbrev HoldE (Φ : Tab) (X : Cx) (W : WX) (O : Addr → Prop) (ρ : Vn) (σ : L2.St) (H : Hp) (m : ME) (P : Bool × D → Vn → Prop) : Prop :=
  (evE Φ m ρ).holds P (fun x ρ' => ∀ od H', PostX X.K O ρ σ H x ρ' od H' → W (.ref (He.ga X.K x.C)) od σ H')
/-- a first expression, then the rest of the run -/
theorem SndE.bd {e : Expr} {m : ME} (h : SndE Φ X W e m) {O : Addr → Prop} {ρ0 ρ : Vn} {σ : L2.St} {H0 H : Hp} {st : Bool} {Q : VK} (c : PostC X.K O ρ0 σ H0 st ρ H) {β : Type} {f : Bool × D → Vn → Res β} {P : β → Vn → Prop}
    (q : ((evE Φ m ρ).bind f).holds P (fun x ρ' => ∀ od H', PostX X.K O ρ0 σ H0 x ρ' od H' → W (.ref (He.ga X.K x.C)) od σ H'))
    (k : ∀ a ρ' v H', PostS X.K O ρ σ H m a.2 ρ' v H' → (f a ρ').holds P (fun x ρ' => ∀ od H', PostX X.K O ρ0 σ H0 x ρ' od H' → W (.ref (He.ga X.K x.C)) od σ H') → Q v H') : WE X e σ H Q :=
  h.sh c.env (Res.holds_mono (Res.holds_bind q) (fun a ρ' z v H' p => k a ρ' v H' p z) fun x ρ' z od H' p => z od H' (p.fromC c))
theorem holds_of {α : Type} {o : Option α} {ρ : Vn} {β : Type} {f : α → Vn → Res β} {P : β → Vn → Prop} {E : Exn → Vn → Prop} (h : ((ofOpt o ρ).bind f).holds P E) : ∃ a, o = some a ∧ (f a ρ).holds P E := by
  cases o with
  | none => exact h.elim
  | some a => exact ⟨a, rfl, h⟩
theorem holds_opt {α : Type} {o : Option α} {ρ : Vn} {P : α → Vn → Prop} {E : Exn → Vn → Prop} (h : (ofOpt o ρ).holds P E) : ∃ a, o = some a ∧ P a ρ := by
  cases o with
  | none => exact h.elim
  | some a => exact ⟨a, rfl, h⟩
theorem snd_cst {e : Expr} {d : D} (h : PE X e (tC (vOf d))) (hs : scalD d = true) : SndE Φ X W e (.cst d) := by
  intro O ρ σ H Q E q
  exact WE.by h (q _ _ ((PostC.refl E).scal (m := .cst d) hs))
theorem binD_ok {G H : Hp} (x : Ext G H) {op : Operator} {d1 d2 : D} {v1 v2 : V} (h1 : RdOk X.K G H d1 v1) (h2 : RdOk X.K G H d2 v2) {fl : Bool} {d : D} (e : binD op d1 d2 = some (fl, d)) {Q : VK}
    (q : ∀ v H', Made' X.K G H fl d v H' → Q v H') : WOp X (binaryOp op) v1 v2 H Q := by
  have lz : lim ≤ sizeLine := by rw [PySem.sizeLine_eq]; decide
  have sc : ∀ {d : D}, scalD d = true → (∀ v H', Made' X.K G H false d v H' → Q v H') → Q (vOf d) H := fun hs q => q _ _ (.scal hs)
  unfold binD at e
  split at e
  · cases e
    cases h1.scal rfl
    cases h2.scal rfl
    exact WOp.by op_add ⟨_, _, rfl, rfl, sc rfl q⟩
  · cases e
    cases h1.scal rfl
    cases h2.scal rfl
    exact WOp.by op_sub ⟨_, _, rfl, rfl, sc rfl q⟩
  · split at e
    · rename_i hc
      cases e
      cases h1.scal rfl
      cases h2.scal rfl
      exact WOp.by op_mulB ⟨_, _, rfl, rfl, hc, sc rfl q⟩
    · cases e
  · split at e
    · rename_i hc
      cases e
      cases h1.scal rfl
      cases h2.scal rfl
      exact WOp.by op_fdivB ⟨_, _, rfl, rfl, hc, sc rfl q⟩
    · cases e
  · split at e
    · cases e
    · rename_i hc
      cases e
      cases h1.scal rfl
      cases h2.scal rfl
      exact WOp.by op_modN ⟨_, _, rfl, rfl, hc, sc rfl q⟩
  · split at e
    · rename_i hc
      cases e
      cases h1.scal rfl
      cases h2.scal rfl
      exact WOp.by op_powB ⟨_, _, rfl, rfl, hc, sc rfl q⟩
    · cases e
  · split at e
    · rename_i hc
      cases e
      obtain ⟨a, vs, rfl, s1, r1⟩ := h1.lst x
      obtain ⟨b, ws, rfl, s2, r2⟩ := h2.lst x
      refine WOp.by op_catS ⟨a, b, vs, ws, rfl, rfl, s1, s2, ?_, fun p hp => q _ _ (.lst hp (r1.append r2))⟩
      rw [← r1.length, ← r2.length]; omega
    · cases e
  · split at e
    · rename_i hc
      cases e
      rcases h1 with h1 | ⟨_, _, h1⟩
      · rcases h2 with h2 | ⟨_, _, h2⟩
        · have g1 := h1
          have g2 := h2
          simp only [Rep] at h1 h2
          obtain ⟨a, vs, rfl, s1, r1⟩ := h1
          obtain ⟨b, ws, rfl, s2, r2⟩ := h2
          refine WOp.by op_catA ⟨a, b, vs, ws, rfl, rfl, sqT_ext x s1, sqT_ext x s2, ?_, fun z => ?_, fun _ z => ?_, fun _ _ p hp => q _ _ (.tup hp (r1.append r2))⟩
          · rw [← r1.length, ← r2.length]; omega
          · subst z
            have := r1.length
            rw [List.length_nil, List.length_eq_zero_iff] at this
            subst this
            exact q _ _ (.same g2)
          · subst z
            have := r2.length
            rw [List.length_nil, List.length_eq_zero_iff] at this
            subst this
            rw [List.append_nil] at q
            exact q _ _ (.same g1)
        · exact h2.elim
      · exact h1.elim
    · cases e
  · split at e
    · rename_i hc
      cases e
      cases h1.scal rfl
      cases h2.scal rfl
      exact WOp.by op_add_str ⟨_, _, rfl, rfl, by omega, sc rfl q⟩
    · cases e
  · cases e
theorem snd_bin {a b : Expr} {op : Operator} {pos : Pos} {ma mb : ME} (ha : SndE Φ X W a ma) (hb : SndE Φ X W b mb) (hr : ma.isRd = true → mb.still = true) : SndE Φ X W (.BinOp a op b pos) (.bin op ma mb) := by
  intro O ρ σ H Q E q
  simp only [evE] at q
  refine WE.by (pe_op op_w pe_w pe_w) ?_
  refine ha.bd (PostC.refl (st := true) E) q fun x ρ1 v1 H1 p1 q => ?_
  refine hb.bd (p1.c) q fun y ρ2 v2 H2 p2 q => ?_
  obtain ⟨⟨fl, d⟩, e, q⟩ := holds_opt (show (ofOpt (binD op x.2 y.2) ρ2).holds _ _ from q)
  have c : PostC X.K O ρ σ H (ME.bin op ma mb).still ρ2 H2 := by simpa only [ME.still] using p1.c.trans p2.c
  exact binD_ok vis_le (p1.carry p2.c hr) p2.rd e fun v H' h => q _ _ (c.made h)
end
end Z

namespace Z
open PySem PySem.Spec L2
open PyProof.Rows hiding St
section
variable {Φ : Tab} {X : Cx} {W : WX}
theorem fn_nr {m : ME} (h : m.isRd = false) : m.isRd = true → false = true := fun z => by rw [h] at z; cases z
/-! ### names -/
theorem snd_rd {x : Str} {i : Nat} {pos : Pos} (h : PE X (.Name x pos) (tVar i)) : SndE Φ X W (.Name x pos) (.rd i) := by
  intro O ρ σ H Q E q
  refine WE.by h ?_
  have fin : ∀ {d : D} {v : V}, σ[i]? = some (some v) → RdOk X.K (vis (Hid O ρ σ) H) H d v → (∀ v H', PostE X.K O ρ σ H (.rd i) false d ρ v H' → Q v H') → tVar i σ H Q := fun e r k =>
    ⟨_, e, k _ _ { env := newO_false.symm ▸ E, kp := Kp.refl, dm := fun _ h => h, to := EvTo.refl _, new := fun z => Bool.noConfusion z, rd := fun _ => r, rep := fun _ z => Bool.noConfusion z }⟩
  simp only [evE] at q
  split at q
  · obtain ⟨v, e, r⟩ := E.val i _ (by assumption)
    exact fin e (.inl r) q
  · obtain ⟨a, e, r⟩ := E.own i _ (by assumption)
    exact fin e (.inr ⟨a, rfl, r.r⟩) q
  · obtain ⟨a, e, _, r⟩ := E.io i _ (by assumption)
    exact fin e (.inr ⟨a, rfl, r.r⟩) q
  · obtain ⟨a, e, r⟩ := E.lkd i _ (by assumption)
    exact fin e (.inr ⟨a, rfl, r⟩) q
  · exact q.elim
theorem getElem?_set_of {ρ : Vn} {i j : Nat} {s t : Sl} (h : (ρ.set i s)[j]? = some t) : (j = i ∧ t = s ∧ i < ρ.length) ∨ (j ≠ i ∧ ρ[j]? = some t) := by
  by_cases e : j = i
  · subst e
    by_cases l : j < ρ.length
    · rw [List.getElem?_set_self l] at h; cases h; exact .inl ⟨rfl, rfl, l⟩
    · rw [List.getElem?_eq_none (by simpa using l)] at h; cases h
  · rw [List.getElem?_set_ne (Ne.symm e)] at h; exact .inr ⟨e, h⟩
/-- an owned slot is given away -/
theorem EnvOk.give {K : PySem.W.Frag} {O : Addr → Prop} {ρ : Vn} {σ : L2.St} {H : Hp} {i : Nat} {d : D} (E : EnvOk K O ρ σ H) (e : ρ[i]? = some (.own d)) :
    EnvOk K O (ρ.set i (.val d)) σ H ∧ EvTo ρ (ρ.set i (.val d)) ∧ ∃ a, σ[i]? = some (some (.ref a)) ∧ Rep K (vis (Hid O (ρ.set i (.val d)) σ) H) d (.ref a) := by
  obtain ⟨a, s, t⟩ := E.own i d e
  have hl : i < ρ.length := (List.getElem?_eq_some_iff.mp e).1
  have to : EvTo ρ (ρ.set i (.val d)) := ⟨by simp, fun j sj ej => by
    by_cases h : j = i
    · subst h
      rw [e] at ej; cases ej
      exact ⟨_, List.getElem?_set_self hl, .inr ⟨d, rfl⟩⟩
    · exact ⟨sj, by rw [List.getElem?_set_ne (Ne.symm h)]; exact ej, sj.to_refl⟩⟩
  have x : Ext (vis (Hid O ρ σ) H) (vis (Hid O (ρ.set i (.val d)) σ) H) := vis_ext (fun b z _ => to.hid z) fun _ _ _ z => z
  have na : ¬ Hid O (ρ.set i (.val d)) σ a := by
    rintro (z | ⟨j, sj, ej, w, sa⟩)
    · exact E.sep i d a e s z
    · rcases getElem?_set_of ej with ⟨rfl, rfl, _⟩ | ⟨ne, ej⟩
      · cases w
      · exact ne (E.inj j i a sj _ ej e w rfl sa s)
  have r : Rep K (vis (Hid O (ρ.set i (.val d)) σ) H) d (.ref a) := t.rep x fun o h => by rw [vis_at na]; exact h
  refine ⟨⟨by simpa using E.len, E.dom, fun j dj ej => ?_, fun j dj ej => ?_, fun j dj ej => ?_, fun j dj ej => ?_, fun j k b sj sk ej ek wj wk aj ak => ?_, fun j dj b ej aj => ?_⟩, to, a, s, r⟩
  · rcases getElem?_set_of ej with ⟨rfl, h, _⟩ | ⟨ne, ej⟩
    · cases h; exact ⟨_, s, r⟩
    · obtain ⟨v, h, g⟩ := E.val j dj ej; exact ⟨v, h, g.ext x⟩
  · rcases getElem?_set_of ej with ⟨_, h, _⟩ | ⟨ne, ej⟩
    · cases h
    · obtain ⟨v, h, g⟩ := E.own j dj ej; exact ⟨v, h, g.ext x fun _ z => z⟩
  · rcases getElem?_set_of ej with ⟨_, h, _⟩ | ⟨ne, ej⟩
    · cases h
    · obtain ⟨v, h, o, g⟩ := E.io j dj ej; exact ⟨v, h, o, g.ext x fun _ z => z⟩
  · rcases getElem?_set_of ej with ⟨_, h, _⟩ | ⟨ne, ej⟩
    · cases h
    · obtain ⟨v, h, g⟩ := E.lkd j dj ej; exact ⟨v, h, g.ext x fun _ z => z⟩
  · rcases getElem?_set_of ej with ⟨_, rfl, _⟩ | ⟨_, ej⟩
    · cases wj
    · rcases getElem?_set_of ek with ⟨_, rfl, _⟩ | ⟨_, ek⟩
      · cases wk
      · exact E.inj j k b sj sk ej ek wj wk aj ak
  · rcases getElem?_set_of ej with ⟨_, h, _⟩ | ⟨_, ej⟩
    · cases h
    · exact E.sep j dj b ej aj
theorem snd_var {x : Str} {i : Nat} {pos : Pos} (h : PE X (.Name x pos) (tVar i)) : SndE Φ X W (.Name x pos) (.var i) := by
  intro O ρ σ H Q E q
  refine WE.by h ?_
  simp only [evE] at q
  split at q
  · obtain ⟨v, e, r⟩ := E.val i _ (by assumption)
    exact ⟨v, e, q _ _ { env := newO_false.symm ▸ E, kp := Kp.refl, dm := fun _ h => h, to := EvTo.refl _, new := fun z => Bool.noConfusion z, rd := fun _ => .inl r, rep := fun _ _ => r }⟩
  · obtain ⟨E2, to, a, s, r⟩ := E.give (by assumption)
    exact ⟨_, s, q _ _ { env := newO_false.symm ▸ E2, kp := Kp.refl, dm := fun _ h => h, to := to, new := fun z => Bool.noConfusion z, rd := fun _ => .inl r, rep := fun _ _ => r }⟩
  · exact q.elim
/-! ### truth -/
def SndT (Φ : Tab) (X : Cx) (W : WX) (e : Expr) (m : ME) : Prop := ∀ (O : Addr → Prop) (ρ : Vn) (σ : L2.St) (H : Hp) (Q : Bool → Hp → Prop), EnvOk X.K O ρ σ H →
  ((evE Φ m ρ).bind fun x ρ => ofOpt (truD x.2) ρ).holds (fun b ρ' => ∀ H', PostC X.K O ρ σ H m.still ρ' H' → Q b H') (fun x ρ' => ∀ od H', PostX X.K O ρ σ H x ρ' od H' → W (.ref (He.ga X.K x.C)) od σ H') → WT X e σ H Q
def isPlainT : Expr → Bool
  | .BoolOp _ _ _ => false
  | .Compare _ _ _ _ => false
  | .UnaryOp .Not _ _ => false
  | .NamedExpr _ _ _ => false
  | .IfExp _ _ _ _ => false
  | _ => true
theorem plainT {e : Expr} (h : isPlainT e = true) {env : PySem.Env} : ∀ whole, isTrue e env whole = (do let v ← whole; standAt e.pos; holding [v] (truthy v)) := by
  intro whole
  cases e with
  | UnaryOp op a p => cases op <;> first | rfl | cases h
  | BoolOp _ _ _ => cases h
  | Compare _ _ _ _ => cases h
  | NamedExpr _ _ _ => cases h
  | IfExp _ _ _ _ => cases h
  | _ => rfl
theorem truD_some {d : D} {b : Bool} (h : truD d = some b) : d = .bl b := by
  unfold truD at h
  split at h
  · cases h; rfl
  · cases h
theorem snd_tv {e : Expr} {m : ME} (h : SndE Φ X W e m) (hp : isPlainT e = true) : SndT Φ X W e m := by
  intro O ρ σ H Q E q
  refine WT.by (pt_val pe_w (plainT hp)) ?_
  refine h.bd (PostC.refl (st := true) E) q fun x ρ1 v1 H1 p1 q => ?_
  obtain ⟨b, e1, q⟩ := holds_opt q
  have r := p1.rd
  rw [truD_some e1] at r
  exact ⟨b, r.scal rfl, q _ p1.c⟩
theorem SndT.bd {e : Expr} {m : ME} (h : SndT Φ X W e m) {O : Addr → Prop} {ρ0 ρ : Vn} {σ : L2.St} {H0 H : Hp} {st : Bool} {Q : Bool → Hp → Prop} (c : PostC X.K O ρ0 σ H0 st ρ H) {β : Type} {f : Bool → Vn → Res β} {P : β → Vn → Prop}
    (q : ((evE Φ m ρ).bind fun x ρ => (ofOpt (truD x.2) ρ).bind f).holds P (fun x ρ' => ∀ od H', PostX X.K O ρ0 σ H0 x ρ' od H' → W (.ref (He.ga X.K x.C)) od σ H'))
    (k : ∀ b ρ' H', PostC X.K O ρ σ H m.still ρ' H' → (f b ρ').holds P (fun x ρ' => ∀ od H', PostX X.K O ρ0 σ H0 x ρ' od H' → W (.ref (He.ga X.K x.C)) od σ H') → Q b H') : WT X e σ H Q := by
  refine h O ρ σ H Q c.env ?_
  cases z : evE Φ m ρ with
  | ok a ρ' =>
    rw [z] at q
    simp only [Res.bind_ok] at q ⊢
    obtain ⟨b, e, q⟩ := holds_of q
    rw [e]
    exact fun H' p => k b ρ' H' p q
  | exn x ρ' =>
    rw [z] at q
    exact fun od H' p => q od H' (p.fromC c)
  | stuck => rw [z] at q; exact q
/-! ### not, and, or, if -/
theorem snd_not {a : Expr} {pos : Pos} {ma : ME} (ha : SndE Φ X W a ma) : SndE Φ X W (.UnaryOp .Not a pos) (.not ma) := by
  intro O ρ σ H Q E q
  simp only [evE] at q
  refine WE.by (pe_not pe_w) ?_
  refine ha.bd (PostC.refl (st := true) E) q fun x ρ1 v1 H1 p1 q => ?_
  obtain ⟨b, e1, q⟩ := holds_of q
  have r := p1.rd
  rw [truD_some e1] at r
  exact ⟨b, r.scal rfl, q _ _ (PostC.scal (m := .not ma) (by simpa only [ME.still] using p1.c) rfl)⟩
theorem PostE.fromC {K : PySem.W.Frag} {O : Addr → Prop} {ρ0 ρ ρ' : Vn} {σ : L2.St} {H0 H H' : Hp} {st fl : Bool} {m M : ME} {d : D} {v : V} (c : PostC K O ρ0 σ H0 st ρ H) (p : PostE K O ρ σ H m fl d ρ' v H') (hr : m.isRd = false) (hs : M.still = true → st = true ∧ m.still = true) :
    PostE K O ρ0 σ H0 M fl d ρ' v H' where
  env := p.env
  kp := by
    refine (c.kp.mono fun b z => ⟨?_, z.2⟩).trans (p.kp.mono fun b z => ⟨?_, c.to.wr z.2⟩)
    all_goals
      cases q : M.still with
      | false => rfl
      | true =>
        obtain ⟨h1, h2⟩ := hs q
        simp_all
  dm := fun b h => p.dm b (c.dm b h)
  to := c.to.trans p.to
  new := fun z => by
    obtain ⟨q, e, hq, t⟩ := p.new z
    exact ⟨q, e, c.gone hq, t⟩
  rd := p.rd
  rep := fun z _ => p.rep z hr
/-- the last expression of a run -/
theorem SndE.tl {e : Expr} {m M : ME} (h : SndE Φ X W e m) {O : Addr → Prop} {ρ0 ρ : Vn} {σ : L2.St} {H0 H : Hp} {st : Bool} {Q : VK} (c : PostC X.K O ρ0 σ H0 st ρ H) (hr : m.isRd = false) (hs : M.still = true → st = true ∧ m.still = true)
    (q : (evE Φ m ρ).holds (fun a ρ' => ∀ v H', PostE X.K O ρ0 σ H0 M a.1 a.2 ρ' v H' → Q v H') (fun x ρ' => ∀ od H', PostX X.K O ρ0 σ H0 x ρ' od H' → W (.ref (He.ga X.K x.C)) od σ H')) : WE X e σ H Q :=
  h O ρ σ H Q c.env (Res.holds_mono q (fun a ρ' z v H' p => z v H' (p.fromC c hr hs)) fun x ρ' z od H' p => z od H' (p.fromC c))
theorem still_and {a b : ME} (h : (ME.and a b).still = true) : a.still = true ∧ b.still = true := by simpa [ME.still] using h
theorem still_or {a b : ME} (h : (ME.or a b).still = true) : a.still = true ∧ b.still = true := by simpa [ME.still] using h
theorem snd_and {a b : Expr} {rest : List Expr} {pos : Pos} {ma mb : ME} (ha : SndE Φ X W a ma) (hb : SndE Φ X W (.BoolOp .And (b :: rest) pos) mb) (hr : mb.isRd = false) : SndE Φ X W (.BoolOp .And (a :: b :: rest) pos) (.and ma mb) := by
  intro O ρ σ H Q E q
  simp only [evE] at q
  refine WE.by (pe_and pe_w pe_w) ?_
  refine ha.bd (PostC.refl (st := true) E) q fun x ρ1 v1 H1 p1 q => ?_
  obtain ⟨c, e1, q⟩ := holds_of q
  have r := p1.rd
  rw [truD_some e1] at r
  refine ⟨c, r.scal rfl, ?_⟩
  cases c with
  | true => exact hb.tl p1.c hr still_and q
  | false => exact q _ _ (PostC.scal (m := .and ma mb) (p1.c.weak fun z => (still_and z).1) rfl)
theorem snd_or {a b : Expr} {rest : List Expr} {pos : Pos} {ma mb : ME} (ha : SndE Φ X W a ma) (hb : SndE Φ X W (.BoolOp .Or (b :: rest) pos) mb) (hr : mb.isRd = false) : SndE Φ X W (.BoolOp .Or (a :: b :: rest) pos) (.or ma mb) := by
  intro O ρ σ H Q E q
  simp only [evE] at q
  refine WE.by (pe_or pe_w pe_w) ?_
  refine ha.bd (PostC.refl (st := true) E) q fun x ρ1 v1 H1 p1 q => ?_
  obtain ⟨c, e1, q⟩ := holds_of q
  have r := p1.rd
  rw [truD_some e1] at r
  refine ⟨c, r.scal rfl, ?_⟩
  cases c with
  | false => exact hb.tl p1.c hr still_or q
  | true => exact q _ _ (PostC.scal (m := .or ma mb) (p1.c.weak fun z => (still_or z).1) rfl)
theorem snd_ite {t a b : Expr} {pos : Pos} {mt ma mb : ME} (ht : SndT Φ X W t mt) (ha : SndE Φ X W a ma) (hb : SndE Φ X W b mb) (hra : ma.isRd = false) (hrb : mb.isRd = false) : SndE Φ X W (.IfExp t a b pos) (.ite mt ma mb) := by
  intro O ρ σ H Q E q
  simp only [evE] at q
  refine WE.by (pe_ifExp pt_w pe_w pe_w) ?_
  refine ht.bd (PostC.refl (st := true) E) q fun c ρ1 H1 p1 q => ?_
  cases c with
  | true =>
    refine ha.tl p1 hra (fun z => ?_) q
    simp only [ME.still, Bool.and_eq_true] at z
    exact ⟨z.1.1, z.1.2⟩
  | false =>
    refine hb.tl p1 hrb (fun z => ?_) q
    simp only [ME.still, Bool.and_eq_true] at z
    exact ⟨z.1.1, z.2⟩
/-! ### tests of these forms -/
abbrev HT (Φ : Tab) (m : ME) (ρ : Vn) : Res Bool := (evE Φ m ρ).bind fun x ρ => ofOpt (truD x.2) ρ
theorem ht_not {m : ME} {ρ : Vn} : HT Φ (.not m) ρ = (HT Φ m ρ).bind fun b ρ => .ok (!b) ρ := by
  unfold HT
  simp only [evE]
  cases evE Φ m ρ with
  | ok x ρ' =>
    simp only [Res.bind_ok]
    cases truD x.2 <;> rfl
  | _ => rfl
theorem ht_and {a b : ME} {ρ : Vn} : HT Φ (.and a b) ρ = (HT Φ a ρ).bind fun c ρ => if c = true then HT Φ b ρ else .ok false ρ := by
  unfold HT
  simp only [evE]
  cases evE Φ a ρ with
  | ok x ρ' =>
    simp only [Res.bind_ok]
    cases truD x.2 with
    | none => rfl
    | some c => cases c <;> rfl
  | _ => rfl
theorem ht_or {a b : ME} {ρ : Vn} : HT Φ (.or a b) ρ = (HT Φ a ρ).bind fun c ρ => if c = true then .ok true ρ else HT Φ b ρ := by
  unfold HT
  simp only [evE]
  cases evE Φ a ρ with
  | ok x ρ' =>
    simp only [Res.bind_ok]
    cases truD x.2 with
    | none => rfl
    | some c => cases c <;> rfl
  | _ => rfl
/-- a test, then more -/
theorem SndT.run {e : Expr} {m : ME} (h : SndT Φ X W e m) {O : Addr → Prop} {ρ0 ρ : Vn} {σ : L2.St} {H0 H : Hp} {st : Bool} {Q : Bool → Hp → Prop} (c : PostC X.K O ρ0 σ H0 st ρ H) {β : Type} {f : Bool → Vn → Res β} {P : β → Vn → Prop}
    (q : ((HT Φ m ρ).bind f).holds P (fun x ρ' => ∀ od H', PostX X.K O ρ0 σ H0 x ρ' od H' → W (.ref (He.ga X.K x.C)) od σ H'))
    (k : ∀ b ρ' H', PostC X.K O ρ σ H m.still ρ' H' → (f b ρ').holds P (fun x ρ' => ∀ od H', PostX X.K O ρ0 σ H0 x ρ' od H' → W (.ref (He.ga X.K x.C)) od σ H') → Q b H') : WT X e σ H Q :=
  h O ρ σ H Q c.env (Res.holds_mono (Res.holds_bind q) (fun a ρ' z H' p => k a ρ' H' p z) fun x ρ' z od H' p => z od H' (p.fromC c))
theorem sndT_not {a : Expr} {pos : Pos} {ma : ME} (ha : SndT Φ X W a ma) : SndT Φ X W (.UnaryOp .Not a pos) (.not ma) := by
  intro O ρ σ H Q E q
  rw [show ((evE Φ (.not ma) ρ).bind fun x ρ => ofOpt (truD x.2) ρ) = HT Φ (.not ma) ρ from rfl, ht_not] at q
  refine WT.by (pt_not pt_w) ?_
  refine ha.run (PostC.refl (st := true) E) q fun b ρ1 H1 p1 q => ?_
  exact q _ (by simpa only [ME.still] using p1)
/-- .. whatever its whole is -/
def SndW (Φ : Tab) (X : Cx) (W : WX) (e : Expr) (m : ME) : Prop := ∀ (O : Addr → Prop) (ρ : Vn) (σ : L2.St) (H : Hp) (Q : Bool → Hp → Prop), EnvOk X.K O ρ σ H →
  (HT Φ m ρ).holds (fun b ρ' => ∀ H', PostC X.K O ρ σ H m.still ρ' H' → Q b H') (fun x ρ' => ∀ od H', PostX X.K O ρ σ H x ρ' od H' → W (.ref (He.ga X.K x.C)) od σ H') →
  ∀ (whole : Sem Value) pins s, Inv X pins σ H s → wpAny (model X.prog X.w) X.A (isTrue e X.env whole) (TP X pins σ Q) X.xe s
def WW (X : Cx) (e : Expr) : TT := fun σ H Q => ∀ (whole : Sem Value) pins s, Inv X pins σ H s → wpAny (model X.prog X.w) X.A (isTrue e X.env whole) (TP X pins σ Q) X.xe s
theorem pw_w {e : Expr} : PW X e (WW X e) := ⟨fun wh pins s σ H Q I h => h wh pins s I⟩
theorem WW.by {e : Expr} {t : TT} (h : PW X e t) {σ : L2.St} {H : Hp} {Q : Bool → Hp → Prop} (q : t σ H Q) : WW X e σ H Q := fun wh pins s I => h.run wh pins s σ H Q I q
theorem SndW.t {e : Expr} {m : ME} (h : SndW Φ X W e m) : SndT Φ X W e m := fun O ρ σ H Q E q => WT.by (PW.pt pw_w) (h O ρ σ H Q E q)
theorem SndW.tl {e : Expr} {m M : ME} (h : SndW Φ X W e m) {O : Addr → Prop} {ρ0 ρ : Vn} {σ : L2.St} {H0 H : Hp} {st : Bool} {Q : Bool → Hp → Prop} (c : PostC X.K O ρ0 σ H0 st ρ H) (hs : M.still = true → st = true ∧ m.still = true)
    (q : (HT Φ m ρ).holds (fun a ρ' => ∀ H', PostC X.K O ρ0 σ H0 M.still ρ' H' → Q a H') (fun x ρ' => ∀ od H', PostX X.K O ρ0 σ H0 x ρ' od H' → W (.ref (He.ga X.K x.C)) od σ H')) : WW X e σ H Q :=
  h O ρ σ H Q c.env (Res.holds_mono q (fun a ρ' z H' p => z H' ((c.trans p).weak fun z => by rw [(hs z).1, (hs z).2]; rfl)) fun x ρ' z od H' p => z od H' (p.fromC c))
theorem sndW_one {op : BoolOp} {a : Expr} {pos : Pos} {ma : ME} (ha : SndT Φ X W a ma) : SndW Φ X W (.BoolOp op [a] pos) ma := by
  intro O ρ σ H Q E q
  cases op with
  | And => exact WW.by (pw_and1 pt_w) (ha O ρ σ H Q E q)
  | Or => exact WW.by (pw_or1 pt_w) (ha O ρ σ H Q E q)
theorem sndW_and {a b : Expr} {rest : List Expr} {pos : Pos} {ma mb : ME} (ha : SndT Φ X W a ma) (hb : SndW Φ X W (.BoolOp .And (b :: rest) pos) mb) : SndW Φ X W (.BoolOp .And (a :: b :: rest) pos) (.and ma mb) := by
  intro O ρ σ H Q E q
  rw [ht_and] at q
  refine WW.by (pw_and pt_w pw_w) ?_
  refine ha.run (PostC.refl (st := true) E) q fun c ρ1 H1 p1 q => ?_
  cases c with
  | true => exact hb.tl p1 still_and q
  | false => exact q _ (p1.weak fun z => (still_and z).1)
theorem sndW_or {a b : Expr} {rest : List Expr} {pos : Pos} {ma mb : ME} (ha : SndT Φ X W a ma) (hb : SndW Φ X W (.BoolOp .Or (b :: rest) pos) mb) : SndW Φ X W (.BoolOp .Or (a :: b :: rest) pos) (.or ma mb) := by
  intro O ρ σ H Q E q
  rw [ht_or] at q
  refine WW.by (pw_or pt_w pw_w) ?_
  refine ha.run (PostC.refl (st := true) E) q fun c ρ1 H1 p1 q => ?_
  cases c with
  | false => exact hb.tl p1 still_or q
  | true => exact q _ (p1.weak fun z => (still_or z).1)
theorem snd_one {op : BoolOp} {a : Expr} {pos : Pos} {ma : ME} (ha : SndE Φ X W a ma) : SndE Φ X W (.BoolOp op [a] pos) ma := by
  intro O ρ σ H Q E q
  exact WE.by (pe_one pe_w) (ha O ρ σ H Q E q)
end
end Z

namespace Z
open PySem PySem.Spec L2
open PyProof.Rows hiding St
section
variable {Φ : Tab} {X : Cx} {W : WX}
/-! ### comparisons -/
theorem RdOk.isNon {K : PySem.W.Frag} {G H : Hp} {d : D} {v : V} (h : RdOk K G H d v) : decide (v = .non) = isNonD d := by
  cases d with
  | non => cases h.scal rfl; rfl
  | bl b => cases h.scal rfl; rfl
  | int b => cases h.scal rfl; rfl
  | str b => cases h.scal rfl; rfl
  | tup ds =>
    rcases h with h | ⟨a, _, h⟩
    · simp only [Rep] at h; obtain ⟨a, _, rfl, _⟩ := h; rfl
    · exact h.elim
  | lst ds =>
    rcases h with h | ⟨a, rfl, h⟩
    · simp only [Rep] at h; obtain ⟨a, _, rfl, _⟩ := h; rfl
    · rfl
  | dct ds =>
    rcases h with h | ⟨a, rfl, h⟩
    · simp only [Rep] at h; obtain ⟨a, _, rfl, _⟩ := h; rfl
    · rfl
  | dcT ds =>
    rcases h with h | ⟨a, rfl, h⟩
    · simp only [Rep] at h; obtain ⟨a, _, rfl, _⟩ := h; rfl
    · rfl
  | ins C ds =>
    rcases h with h | ⟨a, rfl, h⟩
    · simp only [Rep] at h; obtain ⟨a, _, _, rfl, _⟩ := h; rfl
    · rfl
theorem eqP_some {x y : D} {b : Bool} (h : eqP x y = some b) : ∃ p q, x.py = some p ∧ y.py = some q ∧ SeqAt.shaped p = true ∧ SeqAt.shaped q = true ∧ b = PyData.eqv p q := by
  unfold eqP at h
  split at h
  · rename_i p q h1 h2
    split at h
    · rename_i h3
      rw [Bool.and_eq_true] at h3
      cases h
      exact ⟨p, q, h1, h2, h3.1, h3.2, rfl⟩
    · cases h
  · cases h
theorem cmpD_ok (hu : X.A.units + 80 < cLine) {G H : Hp} (x : Ext G H) {op : CmpOp} {d1 d2 : D} {v1 v2 : V} (h1 : RdOk X.K G H d1 v1) (h2 : RdOk X.K G H d2 v2) {b : Bool} (e : cmpD op d1 d2 = some b) {Q : VK} (q : Q (.bl b) H) : WOp X (compareOp op) v1 v2 H Q := by
  unfold cmpD at e
  split at e
  · cases e; cases h1.scal rfl; cases h2.scal rfl; exact WOp.by op_lt ⟨_, _, rfl, rfl, q⟩
  · cases e; cases h1.scal rfl; cases h2.scal rfl; exact WOp.by op_le ⟨_, _, rfl, rfl, q⟩
  · cases e; cases h1.scal rfl; cases h2.scal rfl; exact WOp.by op_gt ⟨_, _, rfl, rfl, q⟩
  · cases e; cases h1.scal rfl; cases h2.scal rfl; exact WOp.by op_ge ⟨_, _, rfl, rfl, q⟩
  · cases e; cases h1.scal rfl; cases h2.scal rfl; exact WOp.by op_lt_str ⟨_, _, rfl, rfl, q⟩
  · rename_i a b
    cases e; cases h1.scal rfl; cases h2.scal rfl
    exact WOp.by op_eq ⟨rfl, by rw [show decide (vOf (.str a) = vOf (.str b)) = decide (a = b) from dec_str]; exact q⟩
  · rename_i a b
    cases e; cases h1.scal rfl; cases h2.scal rfl
    exact WOp.by op_ne ⟨rfl, by rw [show decide (vOf (.str a) = vOf (.str b)) = decide (a = b) from dec_str]; exact q⟩
  · unfold eqD at e
    cases z : eqP d1 d2 with
    | some c =>
      rw [z] at e; cases e
      obtain ⟨p1, p2, e1, e2, s1, s2, rfl⟩ := eqP_some z
      exact WOp.by (op_eqD (by omega)) ⟨p1, p2, (h1.rep x).dp e1, (h2.rep x).dp e2, s1, s2, q⟩
    | none =>
      rw [z] at e
      exact WOp.by (op_eqX (by omega)) ⟨d1, d2, b, h1.rep x, h2.rep x, e, q⟩
  · unfold neD at e
    cases z : eqP d1 d2 with
    | some c =>
      rw [z] at e; cases e
      obtain ⟨p1, p2, e1, e2, s1, s2, rfl⟩ := eqP_some z
      exact WOp.by (op_neD (by omega)) ⟨p1, p2, (h1.rep x).dp e1, (h2.rep x).dp e2, s1, s2, q⟩
    | none =>
      rw [z] at e
      cases d1 with
      | dct xs =>
        cases d2 with
        | dct ys =>
          simp only at e
          cases z2 : dctAll eqP ys xs with
          | none => rw [z2] at e; cases e
          | some c =>
            rw [z2] at e; cases e
            exact WOp.by (op_neDct (by omega)) ⟨xs, ys, c, h1.rep x, h2.rep x, z2, q⟩
        | _ => cases e
      | _ => cases e
  · cases e
    refine WOp.by op_isN ⟨h2.scal rfl, ?_⟩
    rw [h1.isNon]; exact q
  · cases e
    refine WOp.by op_notN ⟨h2.scal rfl, ?_⟩
    rw [h1.isNon]; exact q
  · cases e; cases h1.scal rfl; cases h2.scal rfl; exact WOp.by op_isBl ⟨_, _, rfl, rfl, q⟩
  · cases e; cases h1.scal rfl; cases h2.scal rfl; exact WOp.by op_notBl ⟨_, _, rfl, rfl, q⟩
  · cases e
theorem opOk (op : CmpOp) (h : op ≠ .In ∧ op ≠ .NotIn) (b : Expr) : behindInMarks op b = false := nobehind b h.1 h.2
theorem cmp_still {op : CmpOp} {a b : ME} : (ME.cmp op a b).still = (a.still && b.still) := by simp only [ME.still]
theorem snd_cmp {a b : Expr} {op : CmpOp} {pos : Pos} {ma mb : ME} (hu : X.A.units + 80 < cLine) (hop : op ≠ .In ∧ op ≠ .NotIn) (ha : SndE Φ X W a ma) (hb : SndE Φ X W b mb) (hr : ma.isRd = true → mb.still = true) : SndE Φ X W (.Compare a [op] [b] pos) (.cmp op ma mb) := by
  intro O ρ σ H Q E q
  simp only [evE] at q
  refine WE.by (pe_cmpR op_w pe_w pe_w (opOk op hop b)) ?_
  refine ha.bd (PostC.refl (st := true) E) q fun x ρ1 v1 H1 p1 q => ?_
  refine hb.bd (p1.c) q fun y ρ2 v2 H2 p2 q => ?_
  obtain ⟨k, e, q⟩ := holds_of q
  have c : PostC X.K O ρ σ H (ME.cmp op ma mb).still ρ2 H2 := by rw [cmp_still]; exact p1.c.trans p2.c
  exact cmpD_ok hu vis_le (p1.carry p2.c hr) p2.rd e (q _ _ (c.scal (m := .cmp op ma mb) rfl))
theorem sndT_cmp {a b : Expr} {op : CmpOp} {pos : Pos} {ma mb : ME} (hu : X.A.units + 80 < cLine) (hop : op ≠ .In ∧ op ≠ .NotIn) (ha : SndE Φ X W a ma) (hb : SndE Φ X W b mb) (hr : ma.isRd = true → mb.still = true) : SndT Φ X W (.Compare a [op] [b] pos) (.cmp op ma mb) := by
  intro O ρ σ H Q E q
  simp only [evE] at q
  have q := Res.holds_bind q
  refine WT.by (pt_cmpR op_w pe_w pe_w (opOk op hop b)) ?_
  refine ha.bd (PostC.refl (st := true) E) q fun x ρ1 v1 H1 p1 q => ?_
  refine hb.bd (p1.c) q fun y ρ2 v2 H2 p2 q => ?_
  obtain ⟨k, e, q⟩ := holds_of q
  have c : PostC X.K O ρ σ H (ME.cmp op ma mb).still ρ2 H2 := by rw [cmp_still]; exact p1.c.trans p2.c
  exact cmpD_ok hu vis_le (p1.carry p2.c hr) p2.rd e ⟨k, rfl, q _ c⟩
theorem snd_chain {a b d : Expr} {op op' : CmpOp} {pos : Pos} {ma mb md : ME} (hu : X.A.units + 80 < cLine) (hop : op' ≠ .In ∧ op' ≠ .NotIn) (ha : SndE Φ X W a ma) (hb : SndE Φ X W b mb) (hd : SndE Φ X W d md) (hra : ma.isRd = false) (hrb : mb.isRd = false) : SndE Φ X W (.Compare a [op, op'] [b, d] pos) (.chain op op' ma mb md) := by
  intro O ρ σ H Q E q
  simp only [evE] at q
  refine WE.by (pe_chain op_w op_w pe_w pe_w pe_w (hm := opOk op' hop d)) ?_
  refine ha.bd (PostC.refl (st := true) E) q fun x ρ1 v1 H1 p1 q => ?_
  refine hb.bd (p1.c) q fun y ρ2 v2 H2 p2 q => ?_
  obtain ⟨k, e, q⟩ := holds_of q
  have c := p1.c.trans p2.c
  have hst : (ME.chain op op' ma mb md).still = (ma.still && mb.still && md.still) := by simp only [ME.still]
  refine cmpD_ok hu vis_le (p1.carry p2.c (fun z => by rw [hra] at z; cases z)) p2.rd e ⟨k, rfl, ?_⟩
  cases k with
  | true =>
    refine hd.bd c q fun z ρ3 v3 H3 p3 q => ?_
    obtain ⟨k, e, q⟩ := holds_of q
    have c3 : PostC X.K O ρ σ H (ME.chain op op' ma mb md).still ρ3 H3 := by rw [hst]; exact c.trans p3.c
    exact cmpD_ok hu vis_le (p2.carry p3.c (fun z => by rw [hrb] at z; cases z)) p3.rd e (q _ _ (c3.scal (m := .chain op op' ma mb md) rfl))
  | false =>
    refine q _ _ (PostC.scal (m := .chain op op' ma mb md) (c.weak fun z => ?_) rfl)
    rw [hst] at z
    simp at z
    simp [z.1.1, z.1.2]
theorem sndT_chain {a b d : Expr} {op op' : CmpOp} {pos : Pos} {ma mb md : ME} (hu : X.A.units + 80 < cLine) (hop : op' ≠ .In ∧ op' ≠ .NotIn) (ha : SndE Φ X W a ma) (hb : SndE Φ X W b mb) (hd : SndE Φ X W d md) (hra : ma.isRd = false) (hrb : mb.isRd = false) : SndT Φ X W (.Compare a [op, op'] [b, d] pos) (.chain op op' ma mb md) := by
  intro O ρ σ H Q E q
  simp only [evE] at q
  have q := Res.holds_bind q
  refine WT.by (pt_chain op_w op_w pe_w pe_w pe_w (hm := opOk op' hop d)) ?_
  refine ha.bd (PostC.refl (st := true) E) q fun x ρ1 v1 H1 p1 q => ?_
  refine hb.bd (p1.c) q fun y ρ2 v2 H2 p2 q => ?_
  obtain ⟨k, e, q⟩ := holds_of q
  have c := p1.c.trans p2.c
  have hst : (ME.chain op op' ma mb md).still = (ma.still && mb.still && md.still) := by simp only [ME.still]
  refine cmpD_ok hu vis_le (p1.carry p2.c (fun z => by rw [hra] at z; cases z)) p2.rd e ⟨k, rfl, ?_⟩
  cases k with
  | true =>
    refine hd.bd c q fun z ρ3 v3 H3 p3 q => ?_
    obtain ⟨k, e, q⟩ := holds_of q
    have c3 : PostC X.K O ρ σ H (ME.chain op op' ma mb md).still ρ3 H3 := by rw [hst]; exact c.trans p3.c
    exact cmpD_ok hu vis_le (p2.carry p3.c (fun z => by rw [hrb] at z; cases z)) p3.rd e ⟨_, rfl, q _ c3⟩
  | false =>
    refine ⟨_, rfl, q _ (c.weak fun z => ?_)⟩
    rw [hst] at z
    simp at z
    simp [z.1.1, z.1.2]
/-! ### rows of expressions -/
def SndL (Φ : Tab) (X : Cx) (W : WX) (es : List Expr) (ms : List ME) : Prop := ∀ (O : Addr → Prop) (ρ : Vn) (σ : L2.St) (H : Hp) (Q : List V → Hp → Prop), EnvOk X.K O ρ σ H →
  (evL Φ ms ρ).holds (fun ds ρ' => ∀ vs H', PostC X.K O ρ σ H (stillL ms) ρ' H' → Reps X.K (vis (Hid O ρ' σ) H') ds vs → Q vs H') (fun x ρ' => ∀ od H', PostX X.K O ρ σ H x ρ' od H' → W (.ref (He.ga X.K x.C)) od σ H') → WA X es σ H Q
theorem starAt {e : Expr} {es : List Expr} (h : notStar e = true) (env : PySem.Env) : starEach (e :: es) env = (false, eval e env) :: starEach es env := by
  cases e <;> first | rfl | cases h
theorem SndL.bd {es : List Expr} {ms : List ME} (h : SndL Φ X W es ms) {O : Addr → Prop} {ρ0 ρ : Vn} {σ : L2.St} {H0 H : Hp} {st : Bool} {Q : List V → Hp → Prop} (c : PostC X.K O ρ0 σ H0 st ρ H) {β : Type} {f : List D → Vn → Res β} {P : β → Vn → Prop}
    (q : ((evL Φ ms ρ).bind f).holds P (fun x ρ' => ∀ od H', PostX X.K O ρ0 σ H0 x ρ' od H' → W (.ref (He.ga X.K x.C)) od σ H'))
    (k : ∀ ds ρ' vs H', PostC X.K O ρ σ H (stillL ms) ρ' H' → Reps X.K (vis (Hid O ρ' σ) H') ds vs → (f ds ρ').holds P (fun x ρ' => ∀ od H', PostX X.K O ρ0 σ H0 x ρ' od H' → W (.ref (He.ga X.K x.C)) od σ H') → Q vs H') : WA X es σ H Q :=
  h O ρ σ H Q c.env (Res.holds_mono (Res.holds_bind q) (fun a ρ' z vs H' p r => k a ρ' vs H' p r z) fun x ρ' z od H' p => z od H' (p.fromC c))
theorem sndL_nil : SndL Φ X W [] [] := by
  intro O ρ σ H Q E q
  refine WA.by pa_nil (q [] H (PostC.refl E) ?_)
  simp only [Reps]
theorem stillL_cons {m : ME} {ms : List ME} : stillL (m :: ms) = (m.still && stillL ms) := by simp only [stillL]
theorem sndL_cons {e : Expr} {es : List Expr} {m : ME} {ms : List ME} (hs : notStar e = true) (he : SndE Φ X W e m) (hes : SndL Φ X W es ms) (hr : m.isRd = false) : SndL Φ X W (e :: es) (m :: ms) := by
  intro O ρ σ H Q E q
  simp only [evL] at q
  refine WA.by (pa_cons pe_w pa_w (starAt hs _)) ?_
  refine he.bd (PostC.refl (st := true) E) q fun x ρ1 v1 H1 p1 q => ?_
  refine hes.bd p1.c q fun ds ρ2 vs H2 c r q => ?_
  refine q (v1 :: vs) H2 (by rw [stillL_cons]; exact p1.c.trans c) ?_
  simp only [Reps]
  exact ⟨v1, vs, rfl, (p1.rep hr).ext c.ext, r⟩
theorem sndL_len : ∀ {ms : List ME} {ρ : Vn} {P : List D → Vn → Prop} {F : Exn → Vn → Prop}, (evL Φ ms ρ).holds P F → (evL Φ ms ρ).holds (fun ds ρ' => ds.length = ms.length ∧ P ds ρ') F := by
  intro ms
  induction ms with
  | nil => intro ρ P F h; exact ⟨rfl, h⟩
  | cons m ms ih =>
    intro ρ P F h
    simp only [evL] at h ⊢
    cases z : evE Φ m ρ with
    | ok x ρ1 =>
      rw [z] at h
      simp only [Res.bind_ok] at h ⊢
      have h2 := ih (Res.holds_bind h)
      cases z2 : evL Φ ms ρ1 with
      | ok xs ρ2 =>
        rw [z2] at h2
        exact ⟨by simp [h2.1], h2.2⟩
      | exn x ρ2 => rw [z2] at h2; exact h2
      | stuck => rw [z2] at h2; exact h2.elim
    | exn x ρ1 => rw [z] at h; exact h
    | stuck => rw [z] at h; exact h.elim
theorem snd_tup {es : List Expr} {ms : List ME} {k : Nat} {pos : Pos} (h : SndL Φ X W es ms) (hl : ms.length ≤ 1000) : SndE Φ X W (.Tuple es k pos) (.tup ms) := by
  intro O ρ σ H Q E q
  simp only [evE] at q
  refine WE.by (pe_tup pa_w) ?_
  have lz : 1000 ≤ sizeLine := by rw [PySem.sizeLine_eq]; decide
  have q2 := sndL_len (Res.holds_bind q)
  refine h O ρ σ H _ E (Res.holds_mono q2 (fun ds ρ' z vs H' c r => ?_) fun x ρ' z => z)
  obtain ⟨zl, z⟩ := z
  refine ⟨by rw [← r.length]; omega, fun p hp => ?_⟩
  have c2 : PostC X.K O ρ σ H (ME.tup ms).still ρ' (upd H' p (.tup vs)) := by
    have e : (ME.tup ms).still = stillL ms := by simp only [ME.still]
    rw [e]
    exact ⟨c.env.kept (upd_kp hp), fun b u n e => upd_kp hp b u (c.kp b u n e), fun b h => upd_dm (c.dm b h), c.to⟩
  have r2 : Rep X.K (vis (Hid O ρ' σ) (upd H' p (.tup vs))) (.tup ds) (.ref p) := by
    simp only [Rep]
    have np : ¬ Hid O ρ' σ p := fun z => c.env.domH p z hp
    exact ⟨p, vs, rfl, SqT.of (by rw [vis_at np, upd_same]), r.ext (vis_ext (fun _ z _ => z) fun b o _ z => upd_kp hp b o z)⟩
  exact z _ _ { env := newO_false.symm ▸ c2.env, kp := c2.kp, dm := c2.dm, to := c2.to, new := fun z => Bool.noConfusion z, rd := fun _ => .inl r2, rep := fun _ _ => r2 }
theorem snd_lst {es : List Expr} {ms : List ME} {pos : Pos} (h : SndL Φ X W es ms) (hl : ms.length ≤ 1000) : SndE Φ X W (.List es pos) (.lst ms) := by
  intro O ρ σ H Q E q
  simp only [evE] at q
  refine WE.by (pe_lst pa_w) ?_
  have lz : 1000 ≤ sizeLine := by rw [PySem.sizeLine_eq]; decide
  have q2 := sndL_len (Res.holds_bind q)
  refine h O ρ σ H _ E (Res.holds_mono q2 (fun ds ρ' z vs H' c r => ?_) fun x ρ' z => z)
  obtain ⟨zl, z⟩ := z
  refine ⟨by rw [← r.length]; omega, fun p hp => ?_⟩
  have c2 : PostC X.K O ρ σ H (ME.lst ms).still ρ' H' := by
    have e : (ME.lst ms).still = stillL ms := by simp only [ME.still]
    rw [e]; exact c
  exact z _ _ (c2.new (m := .lst ms) hp ⟨vs, upd_same, r.ext (vis_new hp)⟩)
/-! ### places -/
abbrev plainIx := plainIxB
theorem plainIx_ok {b : Expr} (h : plainIx b = true) : PlainIx b := by
  intro o i
  cases b <;> first | rfl | cases h
theorem atI_of {K : PySem.W.Frag} {G : Hp} {ds : List D} {vs : List V} {i : Int} {d : D} (r : Reps K G ds vs) (e : (if 0 ≤ i then ds[i.toNat]? else if -(ds.length : Int) ≤ i then ds[((ds.length : Int) + i).toNat]? else none) = some d) :
    ∃ v, atI vs i = some v ∧ Rep K G d v := by
  have hl := r.length
  unfold atI ixN
  by_cases h0 : 0 ≤ i
  · rw [if_pos h0] at e ⊢
    obtain ⟨v, e1, q⟩ := r.get e
    have hi : i.toNat < vs.length := (List.getElem?_eq_some_iff.mp e1).1
    rw [if_pos (by omega)]
    exact ⟨v, e1, q⟩
  · rw [if_neg h0] at e ⊢
    by_cases h1 : -(ds.length : Int) ≤ i
    · rw [if_pos h1] at e
      rw [if_pos (by omega)]
      obtain ⟨v, e1, q⟩ := r.get e
      refine ⟨v, ?_, q⟩
      rw [show (i + (vs.length : Int)).toNat = ((ds.length : Int) + i).toNat by omega]
      exact e1
    · rw [if_neg h1] at e; cases e
theorem ix_dct (hu : X.A.units + 1 < cLine) : IxR X (fun x y H Q => ∃ a v, x = .ref a ∧ DGet H a y (some v) ∧ Q v H) := by
  intro value slice pins s σ H x y v u Q I rx ry h hs
  obtain ⟨a, w, rfl, g, q⟩ := h
  cases (show v = Value.ref a from rx)
  have hT := dict_typeIs I g
  unfold subscriptTail
  refine wpAny_bind ?_
  rw [getitemInPython_of_ne hT.not_modules]
  refine wpAny_bind (wpAny_specialOf hT PySem.F.slot_dict_getitem.lookup ?_)
  have fin : wpAny (model X.prog X.w) X.A (subscripted slice false (.ref a) u) (fun r s₃ => wpAny (model X.prog X.w) X.A (letTemporaryGo value (.ref a) r >>= fun _ => pure r) (EP X pins σ Q) X.xe s₃) X.xe s := by
    rw [hs]
    exact wpAny_operating (wpAny_mono (d_getItem hu I g ry fun w' s3 I3 rw' => ⟨w, H, I3, rw', q⟩) (fun r s₃ h₃ => wpAny_bind (wpAny_letTemporaryGo (wpAny_pure h₃))) fun _ _ x => x)
  first
    | exact wpAny_pure (wpAny_bind fin)
    | exact wpAny_bind (wpAny_pure (wpAny_bind fin))
    | exact wpAny_bind fin
theorem keyD_of {K : PySem.W.Frag} {G : Hp} {d : D} {v : V} {k : Key} (h : keyD d = some k) (r : Rep K G d v) : v = kV k := by
  cases d with
  | int i => cases h; simp only [Rep] at r; exact r
  | str i => cases h; simp only [Rep] at r; exact r
  | _ => cases h
theorem snd_ix {a b : Expr} {pos : Pos} {ma mb : ME} (hu : X.A.units + 80 < cLine) (ha : SndE Φ X W a ma) (hb : SndE Φ X W b mb) (hp : plainIx b = true) (hr : ma.isRd = true → mb.still = true) : SndE Φ X W (.Subscript a b pos) (.ix ma mb) := by
  intro O ρ σ H Q E q
  simp only [evE] at q
  refine WE.by (pe_ix ((IxR.or ix_list ix_tup).or (ix_dct (by omega))) pe_w pe_w (plainIx_ok hp)) ?_
  refine ha.bd (PostC.refl (st := true) E) q fun x ρ1 v1 H1 p1 q => ?_
  refine hb.bd (p1.c) q fun y ρ2 v2 H2 p2 q => ?_
  obtain ⟨d, e, q⟩ := holds_of q
  have c : PostC X.K O ρ σ H (ME.ix ma mb).still ρ2 H2 := by simpa only [ME.still] using p1.c.trans p2.c
  have r1 := p1.carry p2.c hr
  have r2 := p2.rd
  have fin : ∀ {v : V}, Rep X.K (vis (Hid O ρ2 σ) H2) d v → Q v H2 := fun {v} r => q _ _ { env := newO_false.symm ▸ c.env, kp := c.kp, dm := c.dm, to := c.to, new := fun z => Bool.noConfusion z, rd := fun _ => .inl r, rep := fun _ _ => r }
  unfold ixD at e
  split at e
  · rename_i ds i e1 e2
    rw [e1] at r1
    rw [e2] at r2
    cases r2.scal rfl
    obtain ⟨a, vs, rfl, s, rs⟩ := r1.lst vis_le
    obtain ⟨v, h1, h2⟩ := atI_of rs e
    exact .inl (.inl ⟨a, vs, i, v, rfl, rfl, s, h1, fin h2⟩)
  · rename_i ds i e1 e2
    rw [e1] at r1
    rw [e2] at r2
    cases r2.scal rfl
    rcases r1 with r1 | ⟨_, _, r1⟩
    · simp only [Rep] at r1
      obtain ⟨a, vs, rfl, s, rs⟩ := r1
      obtain ⟨v, h1, h2⟩ := atI_of rs e
      exact .inl (.inr ⟨a, vs, i, v, rfl, rfl, sqT_ext vis_le s, h1, fin h2⟩)
    · exact r1.elim
  · rename_i kvs e1
    rw [e1] at r1
    cases hk : keyD y.2 with
    | none => rw [hk] at e; cases e
    | some k =>
      rw [hk] at e
      have e : valD kvs k = some d := e
      obtain ⟨a, ws, rfl, s, rs⟩ := r1.dct vis_le
      have hv := keyD_of hk (r2.rep vis_le)
      subst hv
      rcases repK_val (k := k) rs with ⟨e3, _⟩ | ⟨x', v, e3, e4, rx⟩
      · rw [e] at e3; cases e3
      · rw [e] at e3; cases e3
        exact .inr ⟨a, v, rfl, .inl ⟨ws, k, s, rfl, e4.symm⟩, fin rx⟩
  · cases e
theorem snd_neg {a : Expr} {pos : Pos} {ma : ME} (ha : SndE Φ X W a ma) : SndE Φ X W (.UnaryOp .USub a pos) (.neg ma) := by
  intro O ρ σ H Q E q
  simp only [evE] at q
  refine WE.by (pe_un un_neg pe_w) ?_
  refine ha.bd (PostC.refl (st := true) E) q fun x ρ1 v1 H1 p1 q => ?_
  have r := p1.rd
  split at q
  · rename_i i e
    rw [e] at r
    exact ⟨i, r.scal rfl, q _ _ (PostC.scal (m := .neg ma) (by simpa only [ME.still] using p1.c) rfl)⟩
  · exact q.elim
end
end Z

namespace Z
open PySem PySem.Spec L2
open PyProof.Rows hiding St
/-! ### a in b -/
mutual
theorem py_plain : ∀ {d : D} {p : PyData}, d.py = some p → p.plain = true
  | .non, _, e => by simp only [D.py] at e; cases e; rfl
  | .bl b, _, e => by simp only [D.py] at e; cases e; rfl
  | .int b, _, e => by simp only [D.py] at e; cases e; rfl
  | .str b, _, e => by simp only [D.py] at e; cases e; rfl
  | .tup ds, _, e => by
    simp only [D.py] at e
    cases q : pyAll ds with
    | none => rw [q] at e; cases e
    | some ps => rw [q] at e; cases e; simp only [PyData.plain]; exact pyAll_plain q
  | .lst ds, _, e => by
    simp only [D.py] at e
    cases q : pyAll ds with
    | none => rw [q] at e; cases e
    | some ps => rw [q] at e; cases e; simp only [PyData.plain]; exact pyAll_plain q
  | .dct _, _, e => by simp [D.py] at e
  | .dcT _, _, e => by simp [D.py] at e
  | .ins _ _, _, e => by simp [D.py] at e
theorem pyAll_plain : ∀ {ds : List D} {ps : List PyData}, pyAll ds = some ps → PyData.plainAll ps = true
  | [], _, e => by simp only [pyAll] at e; cases e; rfl
  | d :: ds, _, e => by
    simp only [pyAll] at e
    cases q : d.py with
    | none => rw [q] at e; cases e
    | some p =>
      cases q2 : pyAll ds with
      | none => rw [q, q2] at e; cases e
      | some ps => rw [q, q2] at e; cases e; simp only [PyData.plainAll, py_plain q, pyAll_plain q2, Bool.and_self]
end
section
variable {Φ : Tab} {X : Cx} {W : WX}
def inOp (neg : Bool) : CmpOp := if neg then .NotIn else .In
theorem memD_ok (hu : X.A.units + 80 < cLine) {G H : Hp} (x : Ext G H) {d1 d2 : D} {v1 v2 : V} (h1 : RdOk X.K G H d1 v1) (h2 : RdOk X.K G H d2 v2) {b : Bool} (neg : Bool) (e : memD d1 d2 = some b) {Q : VK} (q : Q (.bl (if neg then !b else b)) H) : WOp X (compareOp (inOp neg)) v1 v2 H Q := by
  have r1 := h1.rep x
  have r2 := h2.rep x
  intro pins s σ v u I rx ry
  unfold memD at e
  split at e
  · rename_i ys
    split at e
    · rename_i p qs e1 e2
      split at e
      · rename_i hd
        cases e
        obtain ⟨as, q1⟩ := Dp.reads I p v1 v (r1.dp e1) rx
        obtain ⟨bs, q2⟩ := Dp.reads I (.list qs) v2 u (r2.dp (by simp only [D.py, e2])) ry
        have hm : X.A.units + 1 + min (PyData.depthAll qs) p.depth < cLine := by
          have : min (PyData.depthAll qs) p.depth ≤ p.depth := Nat.min_le_right _ _
          omega
        cases neg with
        | false => exact SeqAt.in_list_data q2 q1 (pyAll_plain e2) (py_plain e1) hm ⟨.bl _, H, I, rfl, q⟩
        | true => exact SeqAt.notIn_list_data q2 q1 (pyAll_plain e2) (py_plain e1) hm ⟨.bl _, H, I, rfl, q⟩
      · cases e
    · cases e
  · rename_i ys
    split at e
    · rename_i p qs e1 e2
      split at e
      · rename_i hd
        cases e
        obtain ⟨as, q1⟩ := Dp.reads I p v1 v (r1.dp e1) rx
        obtain ⟨bs, q2⟩ := Dp.reads I (.tuple qs) v2 u (r2.dp (by simp only [D.py, e2])) ry
        have hm : X.A.units + 1 + min (PyData.depthAll qs) p.depth < cLine := by
          have : min (PyData.depthAll qs) p.depth ≤ p.depth := Nat.min_le_right _ _
          omega
        cases neg with
        | false => exact SeqAt.in_tuple_data q2 q1 (pyAll_plain e2) (py_plain e1) hm ⟨.bl _, H, I, rfl, q⟩
        | true => exact SeqAt.notIn_tuple_data q2 q1 (pyAll_plain e2) (py_plain e1) hm ⟨.bl _, H, I, rfl, q⟩
      · cases e
    · cases e
  · rename_i z
    split at e
    · rename_i c
      split at e
      · rename_i hc
        cases e
        simp only [Rep] at r1 r2
        subst r1 r2
        have ec : c = ⟨#[c.cps.getD 0 0]⟩ := by
          obtain ⟨⟨l⟩⟩ := c
          match l, hc with
          | [y], _ => rfl
        have e2 : (V.str c) = V.str ⟨#[c.cps.getD 0 0]⟩ := congrArg V.str ec
        cases neg with
        | false => exact op_in_sign pins s σ H _ _ v u Q I rx ry ⟨_, z, e2, rfl, q⟩
        | true => exact op_notIn_sign pins s σ H _ _ v u Q I rx ry ⟨_, z, e2, rfl, q⟩
      · cases e
    · cases e
  · rename_i kvs
    cases hk : keyD d1 with
    | none => rw [hk] at e; cases e
    | some k =>
      rw [hk] at e; cases e
      have hv := keyD_of hk r1
      subst hv
      simp only [Rep] at r2
      obtain ⟨a, ws, rfl, s2, rs⟩ := r2
      cases (show u = Value.ref a from ry)
      have g : DGet H a (kV k) (valV ws k) := .inl ⟨ws, k, s2, rfl, rfl⟩
      have eo : (valV ws k).isSome = (valD kvs k).isSome := by
        rcases repK_val (k := k) rs with ⟨e3, e4⟩ | ⟨x', v, e3, e4, _⟩ <;> rw [e3, e4] <;> rfl
      cases neg with
      | false => exact d_in (by omega) I g rx fun s' I' => ⟨.bl _, H, I', rfl, by rw [eo]; exact q⟩
      | true => exact d_notIn (by omega) I g rx fun s' I' => ⟨.bl _, H, I', rfl, by rw [eo]; exact q⟩
  · cases e
theorem mem_still {neg : Bool} {a b : ME} : (ME.mem neg a b).still = (a.still && b.still) := by simp only [ME.still]
theorem inMark {neg : Bool} {b : Expr} (h : notSet b = true) : behindInMarks (inOp neg) b = false := by
  cases b <;> first | rfl | cases h
theorem snd_mem {a b : Expr} {neg : Bool} {pos : Pos} {ma mb : ME} (hu : X.A.units + 80 < cLine) (hs : notSet b = true) (ha : SndE Φ X W a ma) (hb : SndE Φ X W b mb) (hr : ma.isRd = true → mb.still = true) : SndE Φ X W (.Compare a [inOp neg] [b] pos) (.mem neg ma mb) := by
  intro O ρ σ H Q E q
  simp only [evE] at q
  refine WE.by (pe_cmpR op_w pe_w pe_w (inMark hs)) ?_
  refine ha.bd (PostC.refl (st := true) E) q fun x ρ1 v1 H1 p1 q => ?_
  refine hb.bd (p1.c) q fun y ρ2 v2 H2 p2 q => ?_
  unfold memF at q
  cases z : memD x.2 y.2 with
  | none => rw [z] at q; exact q.elim
  | some k =>
    rw [z] at q
    have c : PostC X.K O ρ σ H (ME.mem neg ma mb).still ρ2 H2 := by rw [mem_still]; exact p1.c.trans p2.c
    exact memD_ok hu vis_le (p1.carry p2.c hr) p2.rd neg z (q _ _ (c.scal (m := .mem neg ma mb) rfl))
theorem sndT_mem {a b : Expr} {neg : Bool} {pos : Pos} {ma mb : ME} (hu : X.A.units + 80 < cLine) (hs : notSet b = true) (ha : SndE Φ X W a ma) (hb : SndE Φ X W b mb) (hr : ma.isRd = true → mb.still = true) : SndT Φ X W (.Compare a [inOp neg] [b] pos) (.mem neg ma mb) := by
  intro O ρ σ H Q E q
  simp only [evE] at q
  have q := Res.holds_bind q
  refine WT.by (pt_cmpR op_w pe_w pe_w (inMark hs)) ?_
  refine ha.bd (PostC.refl (st := true) E) q fun x ρ1 v1 H1 p1 q => ?_
  refine hb.bd (p1.c) q fun y ρ2 v2 H2 p2 q => ?_
  unfold memF at q
  cases z : memD x.2 y.2 with
  | none => rw [z] at q; exact q.elim
  | some k =>
    rw [z] at q
    have c : PostC X.K O ρ σ H (ME.mem neg ma mb).still ρ2 H2 := by rw [mem_still]; exact p1.c.trans p2.c
    exact memD_ok hu vis_le (p1.carry p2.c hr) p2.rd neg z ⟨_, rfl, q _ c⟩
end
end Z

namespace Z
open PySem PySem.Spec L2
open PyProof.Rows hiding St
section
variable {Φ : Tab} {X : Cx} {W : WX}
/-! ### calls of defs -/
theorem backAny {es : List Expr} (h : ∀ e ∈ es, notStar e = true) (env : PySem.Env) (pos : Pos) : (backTo pos (starEach es env)).any (·.1) = false := by
  have h1 : ∀ es : List Expr, (∀ e ∈ es, notStar e = true) → (starEach es env).any (·.1) = false := by
    intro es
    induction es with
    | nil => intro _; rfl
    | cons e es ih =>
      intro h
      rw [starAt (h e (List.mem_cons_self ..))]
      simp only [List.any_cons, Bool.false_or]
      exact ih fun x hx => h x (List.mem_cons_of_mem _ hx)
  have h2 : ∀ l : List (Bool × Sem Value), (backTo pos l).any (·.1) = l.any (·.1) := by
    intro l
    unfold backTo
    induction l with
    | nil => rfl
    | cons x l ih => first | (simp only [List.map_cons, List.any_cons, ih]) | (cases l <;> simp_all)
  rw [h2]; exact h1 es h
theorem reps_dfl {K : PySem.W.Frag} {G : Hp} : ∀ {ds : List D}, (∀ d ∈ ds, scalD d = true) → Reps K G ds (ds.map vOf)
  | [], _ => by simp [Reps]
  | d :: ds, h => by
    simp only [Reps, List.map_cons]
    exact ⟨_, _, rfl, rep_vOf (h d (List.mem_cons_self ..)), reps_dfl fun x hx => h x (List.mem_cons_of_mem _ hx)⟩
theorem newO_hid {O : Addr → Prop} {ρ : Vn} {σ : L2.St} {fl : Bool} {v : V} : newO fl (Hid O ρ σ) v = Hid (newO fl O v) ρ σ := by
  funext b
  simp only [newO, Hid]
  apply propext
  constructor
  · rintro ((h | h) | h)
    · exact .inl (.inl h)
    · exact .inr h
    · exact .inl (.inr h)
  · rintro ((h | h) | h)
    · exact .inl (.inl h)
    · exact .inr h
    · exact .inl (.inr h)
theorem snd_call {x : Str} {p pos : Pos} {key : String} {es : List Expr} {ms : List ME} {fn : Fn} {L : Nat} (hΦ : Φ key = some fn) (hio : fn.io = false) (F : FnAt X.prog X.w X.K X.mg X.base L x fn) (hr : Room L X.A) (hgd : X.A.guards = some []) (tk : Takes X W)
    (hg : Gl X x) (hdb : (x == ("__debug__" : Str)) = false) (hst : ∀ e ∈ es, notStar e = true) (h : SndL Φ X W es ms) (hlen : es.length = ms.length) : SndE Φ X W (.Call (.Name x p) es [] pos) (.call key ms) := by
  intro O ρ σ H Q E q
  simp only [evE] at q
  -- the reading, whatever the number of arguments
  have core : ∀ vs ds (H1 : Hp) ρ1 (dv : List V), dv = (fn.dfl.drop (fn.dfl.length - (fn.ar - ms.length))).map vOf → ds.length = ms.length → PostC X.K O ρ σ H (stillL ms) ρ1 H1 → Reps X.K (vis (Hid O ρ1 σ) H1) ds vs →
      (callF Φ key ds ρ1).holds (fun a ρ' => ∀ v H', PostE X.K O ρ σ H (.call key ms) a.1 a.2 ρ' v H' → Q v H') (fun x ρ' => ∀ od H', PostX X.K O ρ σ H x ρ' od H' → W (.ref (He.ga X.K x.C)) od σ H') →
      spF X.K fn (vs ++ dv) H1 Q (fun c d H => W c d σ H) := by
    intro vs ds H1 ρ1 dv hdv hl c r q
    unfold callF at q
    rw [hΦ] at q
    simp only [hio, Bool.false_eq_true, if_false] at q
    split at q
    · rename_i hn
      rw [← hl] at hdv
      have rr := r.append (reps_dfl (K := X.K) (G := vis (Hid O ρ1 σ) H1) (ds := fn.dfl.drop (fn.dfl.length - (fn.ar - ds.length))) fun d hd => F.dfl d (List.mem_of_mem_drop hd))
      rw [← hdv] at rr
      refine ⟨ds ++ fn.dfl.drop (fn.dfl.length - (fn.ar - ds.length)), Hid O ρ1 σ, 0, ?_, c.env.domH, ?_, ?_⟩
      · rw [← rr.length, List.length_append, List.length_drop]; omega
      · rw [hio]; simpa using rr
      · split at q
        · rename_i d s e
          try rw [e]
          intro v H' k res _
          have k0 : ∀ b o, H1 b = some o → H' b = some o := fun b o z => k b o (fun z2 => by rw [hio] at z2; cases z2.1) z
          have dm0 : ∀ b, H1 b ≠ none → H' b ≠ none := fun b z => by
            cases y : H1 b with
            | none => exact absurd y z
            | some o => rw [k0 b o y]; simp
          have E' : EnvOk X.K (newO fn.fresh O v) ρ1 σ H' := by
            cases hf : fn.fresh with
            | false => rw [newO_false]; exact c.env.kept k0
            | true =>
              unfold ResOk at res
              rw [hf, if_pos rfl] at res
              obtain ⟨p, rfl, hp, t⟩ := res
              refine c.env.grow k0 (fun b z => .inl z) (fun b z => z.elim .inl fun ⟨_, z⟩ => by cases z; exact .inr hp) fun b z => ?_
              rcases z with z | ⟨_, z⟩
              · exact dm0 b (c.env.dom b z)
              · cases z; exact t.ne
          refine q v H' { env := E', kp := fun b o n e => k0 b o (c.kp b o (fun z => n ⟨by simpa only [ME.still] using z.1, z.2⟩) e), dm := fun b z => dm0 b (c.dm b z), to := c.to, new := fun z => ?_, rd := fun z => ?_, rep := fun z _ => ?_ }
          · have z : fn.fresh = true := z
            unfold ResOk at res
            rw [z, if_pos rfl] at res
            obtain ⟨p, e1, hp, t⟩ := res
            refine ⟨p, e1, c.gone hp, ?_⟩
            have t2 := t
            rw [newO_hid] at t2
            show Top X.K (vis (Hid (newO fn.fresh O v) ρ1 σ) H') H' d p
            rw [z]; exact t2
          · have z : fn.fresh = false := z
            unfold ResOk at res
            rw [z, if_neg (by decide)] at res
            exact .inl res
          · have z : fn.fresh = false := z
            unfold ResOk at res
            rw [z, if_neg (by decide)] at res
            exact res
        · rename_i x s e
          try rw [e]
          intro od H' k _ xr
          have k0 : ∀ b o, H1 b = some o → H' b = some o := fun b o z => k b o (fun z2 => by rw [hio] at z2; cases z2.1) z
          refine q od H' ⟨c.env.kept k0, fun b o n e => k0 b o (c.kp b o (fun z => n z.2) e), fun b z => ?_, c.to, xr⟩
          have z := c.dm b z
          cases y : H1 b with
          | none => exact absurd y z
          | some o => rw [k0 b o y]; simp
        · exact q.elim
    · exact q.elim
  have q2 := sndL_len (Res.holds_bind q)
  have FG := F.call (fn.dfl.length - (fn.ar - ms.length)) (Nat.sub_le _ _)
  cases es with
  | nil =>
    refine WE.by (pe_callA0 FG hr hgd hg F.gl F.kp (fun σ => passG tk σ) hdb) ?_
    have hm : ms = [] := by cases ms with
      | nil => rfl
      | cons => cases hlen
    subst hm
    simp only [evL] at q
    exact core [] [] H ρ _ rfl rfl (PostC.refl E) (by simp only [Reps]) q
  | cons e es =>
    refine WE.by (pe_callA FG hr hgd hg F.gl F.kp (fun σ => passG tk σ) pa_w hdb (starAt (hst e (List.mem_cons_self ..)) _) (backAny (fun y hy => hst y (List.mem_cons_of_mem _ hy)) _ _)) ?_
    exact h O ρ σ H _ E (Res.holds_mono q2 (fun ds ρ' z vs H' c r => core vs ds H' ρ' _ rfl z.1 c r z.2) fun x ρ' z => z)
/-! ### calls that change their first argument -/
theorem own_iff {ρ : Vn} {σ : L2.St} {i : Nat} {s0 s1 : Sl} (e : ρ[i]? = some s0) (h0 : s0.isOwn = true) (h1 : s1.isOwn = true) {b : Addr} : OwnA (ρ.set i s1) σ b ↔ OwnA ρ σ b := by
  have hl : i < ρ.length := (List.getElem?_eq_some_iff.mp e).1
  constructor
  · rintro ⟨j, s, ej, w, a⟩
    rcases getElem?_set_of ej with ⟨rfl, rfl, _⟩ | ⟨_, ej⟩
    · exact ⟨j, s0, e, h0, a⟩
    · exact ⟨j, s, ej, w, a⟩
  · rintro ⟨j, s, ej, w, a⟩
    by_cases h : j = i
    · subst h
      exact ⟨j, s1, List.getElem?_set_self hl, h1, a⟩
    · exact ⟨j, s, by rw [List.getElem?_set_ne (Ne.symm h)]; exact ej, w, a⟩
theorem hid_iff {O : Addr → Prop} {ρ : Vn} {σ : L2.St} {i : Nat} {s0 s1 : Sl} (e : ρ[i]? = some s0) (h0 : s0.isOwn = true) (h1 : s1.isOwn = true) : Hid O (ρ.set i s1) σ = Hid O ρ σ := by
  funext b
  simp only [Hid, own_iff e h0 h1]
/-- slot i is changed in place: s0 (own, io) becomes s1 of the same kind -/
theorem EnvOk.chg {K : PySem.W.Frag} {O O' : Addr → Prop} {ρ : Vn} {σ : L2.St} {H H' : Hp} {i : Nat} {d0 d1 : D} {a : Addr} {s0 s1 : Sl} (E : EnvOk K O ρ σ H) (e : ρ[i]? = some s0) (hs : (s0 = .own d0 ∧ s1 = .own d1) ∨ (s0 = .io d0 ∧ s1 = .io d1)) (ea : σ[i]? = some (some (.ref a)))
    (k : ∀ b o, b ≠ a → H b = some o → H' b = some o) (ho : ∀ b, O b → O' b) (hn : ∀ b, O' b → O b ∨ H b = none) (dm : ∀ b, O' b → H' b ≠ none) (t : Top K (vis (Hid O' ρ σ) H') H' d1 a) : EnvOk K O' (ρ.set i s1) σ H' ∧ EvTo ρ (ρ.set i s1) := by
  have hl : i < ρ.length := (List.getElem?_eq_some_iff.mp e).1
  have h0 : s0.isOwn = true := by rcases hs with ⟨rfl, _⟩ | ⟨rfl, _⟩ <;> rfl
  have h1 : s1.isOwn = true := by rcases hs with ⟨_, rfl⟩ | ⟨_, rfl⟩ <;> rfl
  have ha : Hid O ρ σ a := .inr ⟨i, s0, e, h0, ea⟩
  have x : Ext (vis (Hid O ρ σ) H) (vis (Hid O' ρ σ) H') := vis_ext (fun b h n => h.elim (fun z => (hn b z).elim .inl fun q => absurd q n) .inr) fun b o n z => k b o (fun y => n (y ▸ ha)) z
  have oth : ∀ {j : Nat} {sj : Sl} {b : Addr}, j ≠ i → ρ[j]? = some sj → sj.isOwn = true → σ[j]? = some (some (.ref b)) → b ≠ a := fun {j sj b} ne ej wj aj z => by
    subst z
    exact ne (E.inj j i b sj s0 ej e wj h0 aj ea)
  refine ⟨⟨by simpa using E.len, dm, fun j dj ej => ?_, fun j dj ej => ?_, fun j dj ej => ?_, fun j dj ej => ?_, fun j l b sj sl ej el wj wl aj al => ?_, fun j dj b ej aj => ?_⟩, by simp, fun j sj ej => ?_⟩
  · rw [hid_iff e h0 h1]
    rcases getElem?_set_of ej with ⟨rfl, h, _⟩ | ⟨ne, ej⟩
    · rcases hs with ⟨_, rfl⟩ | ⟨_, rfl⟩ <;> cases h
    · obtain ⟨v, h, g⟩ := E.val j dj ej; exact ⟨v, h, g.ext x⟩
  · rw [hid_iff e h0 h1]
    rcases getElem?_set_of ej with ⟨rfl, h, _⟩ | ⟨ne, ej⟩
    · rcases hs with ⟨rfl, rfl⟩ | ⟨_, rfl⟩
      · cases h; exact ⟨a, ea, t⟩
      · cases h
    · obtain ⟨v, h, g⟩ := E.own j dj ej; exact ⟨v, h, g.ext x fun o z => k v o (oth ne ej rfl h) z⟩
  · rw [hid_iff e h0 h1]
    rcases getElem?_set_of ej with ⟨rfl, h, _⟩ | ⟨ne, ej⟩
    · rcases hs with ⟨_, rfl⟩ | ⟨rfl, rfl⟩
      · cases h
      · cases h
        obtain ⟨b, h, o, _⟩ := E.io j d0 e
        rw [ea] at h; cases h
        exact ⟨a, ea, ho a o, t⟩
    · obtain ⟨v, h, o, g⟩ := E.io j dj ej; exact ⟨v, h, ho v o, g.ext x fun o z => k v o (oth ne ej rfl h) z⟩
  · rw [hid_iff e h0 h1]
    rcases getElem?_set_of ej with ⟨rfl, h, _⟩ | ⟨ne, ej⟩
    · rcases hs with ⟨_, rfl⟩ | ⟨_, rfl⟩ <;> cases h
    · obtain ⟨v, h, g⟩ := E.lkd j dj ej; exact ⟨v, h, g.ext x fun o z => k v o (oth ne ej rfl h) z⟩
  · have back : ∀ {j : Nat} {sj : Sl}, (ρ.set i s1)[j]? = some sj → ∃ sj', ρ[j]? = some sj' ∧ (sj.isOwn = true → sj'.isOwn = true) := fun {j sj} z => by
      rcases getElem?_set_of z with ⟨rfl, rfl, _⟩ | ⟨_, z⟩
      · exact ⟨s0, e, fun _ => h0⟩
      · exact ⟨sj, z, id⟩
    obtain ⟨sj', ej', tj⟩ := back ej
    obtain ⟨sl', el', tl⟩ := back el
    exact E.inj j l b sj' sl' ej' el' (tj wj) (tl wl) aj al
  · intro z
    rcases getElem?_set_of ej with ⟨rfl, h, _⟩ | ⟨ne, ej⟩
    · rcases hs with ⟨rfl, rfl⟩ | ⟨_, rfl⟩
      · cases h
        rw [ea] at aj; cases aj
        rcases hn a z with z | z
        · exact E.sep j d0 a e ea z
        · exact E.domH a ha z
      · cases h
    · rcases hn b z with z | z
      · exact E.sep j dj b ej aj z
      · exact E.domH b (.inr ⟨j, _, ej, rfl, aj⟩) z
  · by_cases h : j = i
    · subst h
      rw [e] at ej; cases ej
      refine ⟨s1, List.getElem?_set_self hl, ?_⟩
      rcases hs with ⟨rfl, rfl⟩ | ⟨rfl, rfl⟩
      · exact .inl ⟨d1, rfl⟩
      · exact ⟨d1, rfl⟩
    · exact ⟨sj, by rw [List.getElem?_set_ne (Ne.symm h)]; exact ej, sj.to_refl⟩
end
end Z

namespace Z
open PySem PySem.Spec L2
open PyProof.Rows hiding St
/-! ### own classes -/
theorem in1_guards {A : Around} : A.in1.guards = A.guards := by first | rfl | simp [Around.in1]
theorem make_guards {A : Around} {C : Addr} {us : List Value} {kw : List (Str × Value)} : (A.under (.builtin "type.__call__" ⟨.ref C :: us, kw⟩)).guards = A.guards := by
  first | rfl | simp [Around.under, Code.weight, Code.isCreation, Code.isGuard, Code.isCaller, Code.frames, Code.isFrame, guardIds]
section
variable {X : Cx} {k : Nat} {C f : Addr} {fd : FuncData} {ps : List Str} {sp : Sp} {E : XK}
theorem run_makeG {pins : List (Addr × Obj)} {σ : L2.St} {H : Hp} {s : Shared} {Q : VK} {us : List Value} {vs : List V} (M : Mk X.K C f) (F : FnG X.prog X.w X.K X.mg X.base k f fd ps sp) (hr : Room (k + 1) X.A) (hg : X.A.guards = some []) (hb : Binds X.K fd ps [])
    (hx : PassG X σ E) (I : Inv X pins σ H s) (r : Vals vs us)
    (h : ∀ x dx, H x = none → H dx = none → dx ≠ x → sp (.ref x :: vs) (upd (upd H dx (.own x)) x (.ins C dx [])) (fun v H2 => v = .non ∧ Q (.ref x) H2) E) :
    wpAny (model X.prog X.w) X.A (call (.ref C) us) (EP X pins σ Q) X.xe s := by
  have hq := h (s.heap.objs.size + 1) s.heap.objs.size (I.hok.fresh (Nat.le_succ _)) (I.hok.fresh (Nat.le_refl _)) (Nat.ne_of_lt (Nat.lt_succ_self _))
  have I2 := Inv.made (C := C) I
  have r2 : Vals (V.ref (s.heap.objs.size + 1) :: vs) (Value.ref (s.heap.objs.size + 1) :: us) := .cons rfl r
  have hl : (Value.ref (s.heap.objs.size + 1) :: us).length = ps.length := by
    have e := r2.length
    rw [F.len _ _ _ _ hq] at e
    exact e.symm
  have hbd := hb _ (Value.ref (s.heap.objs.size + 1) :: us) I2.kIn (by simpa using hl)
  rw [List.append_nil] at hbd
  refine wpAny_call (make_map (f := f) I.kIn M.makes M.init (beq_iff_eq.mp M.fn) (codeAny_mono (F.run _ X.stack _ _ ⟨Value.ref (s.heap.objs.size + 1) :: us, []⟩ (Value.ref (s.heap.objs.size + 1) :: us) _ _ E (hr.make C us []) (make_guards.trans hg)
    (I2.env0.make C us []) hbd r2 hq) fun r s' hq' => ?_))
  cases r with
  | error e => exact hx pins _ _ e s' I2 hq'
  | ok fl =>
    cases fl with
    | ret u =>
      obtain ⟨v, H', I3, rv, ev, q3⟩ := I2.after hq'
      subst ev
      exact ⟨rv, ⟨V.ref (s.heap.objs.size + 1), H', I3, rfl, q3⟩⟩
    | next => exact False.elim hq'
    | brk => exact False.elim hq'
    | cont => exact False.elim hq'
end
/-! ### objects are made -/
/-- the class as a def -/
def ctorFn (C : Str) (init : Fn) : Fn := ⟨false, false, init.ar - 1, [], fun ds => match init.run (.ins C [] :: ds) with
  | .ok d s => match d with
    | .non => .ok s .non
    | _ => .stuck
  | .exn x _ => .exn x .non
  | .stuck => .stuck⟩
theorem ctor_callAt {P : Program} {w : World} {K : PySem.W.Frag} {mg : Str → Option Value} {base : Heap} {j : Nat} {C : Str} {f : Addr} {fd : FuncData} {ps : List Str} {init : Fn} (M : Mk K (He.ga K C) f) (F : FnG P w K mg base j f fd ps (spF K init)) (hio : init.io = true) (har : init.ar ≠ 0) (hfr : init.fresh = false) (hb : Binds K fd ps []) :
    CallAt P w K mg base (j + 1) (He.ga K C) (spF K (ctorFn C init)) := by
  intro X e1 e2 e3 e4 e5 hr hg pins σ H s Q us vs E hx I r h
  subst e1 e2 e3 e4 e5
  refine run_makeG M F hr hg hb hx I r fun x dx hxn hdn ne => ?_
  obtain ⟨ds, O, a, hl, hdom, hrep, hrun⟩ := h
  have hrep : Reps X.K (vis O H) ds vs := by simpa [ctorFn] using hrep
  have hl : vs.length = init.ar - 1 := hl
  -- the heap behind the object's birth
  have nx : (upd (upd H dx (.own x)) x (.ins (He.ga X.K C) dx [])) x = some (.ins (He.ga X.K C) dx []) := upd_same
  have kp : ∀ b o, H b = some o → (upd (upd H dx (.own x)) x (.ins (He.ga X.K C) dx [])) b = some o := fun b o e => by
    rw [upd_ne (ne_of_none e hxn), upd_ne (ne_of_none e hdn)]; exact e
  have nO : ¬ O x := fun z => hdom x z hxn
  have ext : Ext (vis O H) (vis (addO O x) (upd (upd H dx (.own x)) x (.ins (He.ga X.K C) dx []))) := vis_ext (fun b z n => by
    rcases z with z | z
    · exact z
    · subst z; exact absurd hxn n) fun b o _ e => kp b o e
  refine ⟨.ins C [] :: ds, addO O x, x, by simp [hl]; omega, fun b z => ?_, ?_, ?_⟩
  · rcases z with z | z
    · cases q : H b with
      | none => exact absurd q (hdom b z)
      | some o => rw [kp b o q]; simp
    · subst z; rw [nx]; simp
  · rw [hio, if_pos rfl]
    refine ⟨vs, _, ds, rfl, rfl, .inr rfl, ⟨dx, [], nx, by simp [RepF]⟩, hrep.ext ext⟩
  · have hrun : (match (ctorFn C init).run ds with
      | .ok d s => ∀ v H', Kp (fun b => (ctorFn C init).io = true ∧ b = a) H H' → ResOk X.K (ctorFn C init).fresh O H H' d v → ((ctorFn C init).io = true → Top X.K (vis (newO (ctorFn C init).fresh O v) H') H' s a) → Q v H'
      | .exn x s => ∀ od H', Kp (fun b => (ctorFn C init).io = true ∧ b = a) H H' → ((ctorFn C init).io = true → Top X.K (vis O H') H' s a) → ExnRep X.K (vis O H') H' x od → E (.ref (He.ga X.K x.C)) od H'
      | .stuck => False) := hrun
    unfold ctorFn at hrun
    dsimp only at hrun
    have back : ∀ {H' : Hp}, Kp (fun b => init.io = true ∧ b = x) (upd (upd H dx (.own x)) x (.ins (He.ga X.K C) dx [])) H' → ∀ b o, H b = some o → H' b = some o := fun {H'} k b o e => k b o (fun z => by
      obtain ⟨_, z⟩ := z
      subst z
      rw [hxn] at e; cases e) (kp b o e)
    have ext2 : ∀ {H' : Hp}, Ext (vis (addO O x) H') (vis O H') := fun {H'} => vis_ext (fun b z _ => .inl z) fun _ _ _ e => e
    cases z : init.run (.ins C [] :: ds) with
    | stuck => rw [z] at hrun; exact hrun
    | exn xx s' =>
      rw [z] at hrun
      intro od H' k _ er
      refine hrun od H' (fun b o _ e => back k b o e) (fun z => by cases z) ?_
      unfold ExnRep at er ⊢
      split
      · rename_i e; rw [e] at er; exact er
      · rename_i fs e
        split at er
        · rename_i e2; exact absurd e2 e
        · obtain ⟨d, ws, a1, b1, c1⟩ := er
          exact ⟨d, ws, a1, b1, c1.ext ext2⟩
    | ok d s' =>
      rw [z] at hrun
      dsimp only at hrun
      intro v H' k res t
      have res : Rep X.K (vis (addO O x) H') d v := by
        unfold ResOk at res
        rw [hfr, if_neg (by decide)] at res
        exact res
      cases d with
      | non =>
        have hv : v = .non := by simpa only [Rep] using res
        refine ⟨hv, hrun (.ref x) H' (fun b o _ e => back k b o e) ?_ fun z => by cases z⟩
        unfold ResOk
        rw [if_neg (by simp [ctorFn])]
        have t := t hio
        rw [hfr, newO_false] at t
        exact t.rep ext2 fun o e => by rw [vis_at nO]; exact e
      | _ => exact hrun.elim
theorem ctor_at {P : Program} {w : World} {K : PySem.W.Frag} {mg : Str → Option Value} {base : Heap} {j : Nat} {C : Str} {f : Addr} {fd : FuncData} {ps : List Str} {init : Fn} (M : Mk K (He.ga K C) f) (gl : mg C = some (.ref (He.ga K C))) (F : FnG P w K mg base j f fd ps (spF K init)) (hio : init.io = true) (har : init.ar ≠ 0) (hfr : init.fresh = false) (hb : Binds K fd ps []) :
    FnAt P w K mg base (j + 1) C (ctorFn C init) :=
  ⟨fun d z => (by cases z), gl, M.kp, fun i hi => (by
    have c := ctor_callAt M F hio har hfr hb
    rw [show (ctorFn C init).dfl = [] from rfl, List.drop_nil, List.map_nil]
    simpa only [List.append_nil] using c)⟩
/-! ### what an object gives -/
/-- e.f: a value of its own, or a property -/
def tAttr (X : Cx) (k : Nat) (f : Str) (ta : TE) : TE := fun σ H Q => ta σ H fun x H1 => ∃ a C dx fs, x = .ref a ∧ H1 a = some (.ins C dx fs) ∧ Cls X.K C ∧ ((NoAttr X.K C f ∧ ∃ v, fs.lookup f = some v ∧ Q v H1) ∨
  ∃ p g fd ps sp j, j + 1 ≤ k ∧ PropOf X.K C f p g ∧ ps.length = 1 ∧ FnG X.prog X.w X.K X.mg X.base j g fd ps sp ∧ Binds X.K fd ps [] ∧ sp [.ref a] H1 Q fun _ _ _ => False)
theorem getpropG {X : Cx} {j : Nat} {C a dx p g : Addr} {fs : List (Str × V)} {f : Str} {fd : FuncData} {ps : List Str} {sp : Sp} {pins : List (Addr × Obj)} {σ : L2.St} {H : Hp} {s : Shared} {Q : VK} {b : Bool} {E' : Value → Shared → Prop} (I : Inv X pins σ H s) (ea : H a = some (.ins C dx fs)) (c : Cls X.K C) (hp : PropOf X.K C f p g)
    (F : FnG X.prog X.w X.K X.mg X.base j g fd ps sp) (hr : Room (j + 1) X.A) (hg : X.A.guards = some []) (hps : ps.length = 1) (hb : Binds X.K fd ps []) (h : sp [.ref a] H Q fun _ _ _ => False) :
    wpAny (model X.prog X.w) X.A (getAttr (.ref a) f b) (EP X pins σ Q) E' s := by
  obtain ⟨mA, O, _, _, _, _⟩ := ins_get I.hok ea
  obtain ⟨od, J, _⟩ := O.look
  obtain ⟨rest, hrec⟩ := hp.rec_
  have I1 := I.tok (s.toks + 1)
  have hc : (PySem.W.clsIn X.K C).isSome = true := by
    obtain ⟨cd, hc, _⟩ := PySem.W.any_some c.hd
    rw [hc]
    rfl
  refine PySem.W.get_bind I.kIn J (PySem.W.plainGet_of (c.get f)).1 (PySem.W.findObj_data hc hp.at_ hp.get hp.tak) (PySem.W.plainGet_of (c.get f)).2 (wpAny_call (PySem.W.prop_get (s := { s with toks := s.toks + 1 }) I.kIn hrec ?_))
  have hbd := hb { s with toks := s.toks + 1 } [.ref a] I1.kIn (by simp [hps])
  rw [List.append_nil] at hbd
  refine codeAny_mono (F.run X.A.in1 X.stack { s with toks := s.toks + 1 } H ⟨[.ref a], []⟩ [.ref a] [.ref a] Q (fun _ _ _ => False) hr.in1 (in1_guards.trans hg) I1.env0.in1 hbd (.cons rfl .nil) h) fun r s' hq => ?_
  cases r with
  | error er =>
    obtain ⟨_, _, _, _, _, _, _, _, _, _, _, _, no⟩ := hq
    exact no.elim
  | ok fl =>
    cases fl with
    | ret u =>
      obtain ⟨v, H', I3, rv, q3⟩ := I1.after hq
      show wpAny _ _ (handedOut u) _ _ _
      rw [PySem.W.handedOut_of (handed_of rv)]
      exact wpAny_pure ⟨v, H', I3, rv, q3⟩
    | next => exact False.elim hq
    | brk => exact False.elim hq
    | cont => exact False.elim hq
theorem pe_attr {X : Cx} {k : Nat} {e : Expr} {f : Str} {pos : Pos} {ta : TE} (hr : Room k X.A) (hg : X.A.guards = some []) (he : PE X e ta) (hab : attributeBase e f X.env (eval e X.env) = eval e X.env) : PE X (.Attribute e f pos) (tAttr X k f ta) := by
  refine ⟨fun pins s σ H Q I h => ?_⟩
  refine attr_of hab (thn (he.run pins s σ H _ I h) fun u s1 ⟨x, H1, I1, rx, a, C, dx, fs, ex, ea, c, q⟩ => ?_)
  subst ex
  obtain rfl : u = Value.ref a := rx
  rcases q with ⟨n, v, l, q⟩ | ⟨p, g, fd, ps, sp, j, hj, hp, hps, F, hb, q⟩
  · exact getattr_ok I1 ea c n l fun u' s2 I2 ru => ⟨v, H1, I2, ru, q⟩
  · exact getpropG I1 ea c hp F (hr.mono hj) hg hps hb q
/-- o.m(e, ..), whatever o is -/
def tMethA (X : Cx) (k : Nat) (m : Str) (E : L2.St → XK) (ta : TE) (t : TA) : TE := fun σ H Q => ta σ H fun x H1 => ∃ a C dx fs f sp, x = .ref a ∧ H1 a = some (.ins C dx fs) ∧ Cls X.K C ∧ Meth X.K C m f ∧ fs.lookup m = none ∧ CallAt X.prog X.w X.K X.mg X.base k f sp ∧ t σ H1 fun vs H2 => sp (.ref a :: vs) H2 Q (E σ)
theorem pe_methA {X : Cx} {k : Nat} {o e : Expr} {es : List Expr} {m : Str} {apos pos : Pos} {ta : TE} {t : TA} {E : L2.St → XK} {pl : Sem Bool} (hr : Room k X.A) (hg : X.A.guards = some []) (he : PE X o ta) (hx : ∀ σ, PassG X σ (E σ)) (ha : PA X (e :: es) t)
    (hst : starEach (e :: es) X.env = (false, eval e X.env) :: starEach es X.env) (hpl : (backTo pos (starEach es X.env)).any (·.1) = false)
    (ht : eval (.Call (.Attribute o m apos) (e :: es) [] pos) X.env = (do
      let ov ← eval o X.env
      standAt apos.atName
      let (f, first) ← holding [ov] (getMethod ov m pl)
      callWith pos f first (backTo pos (starEach (e :: es) X.env)) (backToKw pos (keywordEach [] X.env)))) : PE X (.Call (.Attribute o m apos) (e :: es) [] pos) (tMethA X k m E ta t) := by
  refine ⟨fun pins s σ H Q I h => ?_⟩
  refine PySem.W.methodCall_KW (pl := pl) (thn (he.run pins s σ H _ I h) fun u s1 ⟨x, H1, I1, rx, a, C, dx, fs, f, sp, ex, ea, c, hm, l, F, q⟩ => ?_) ht
  subst ex
  obtain rfl : u = Value.ref a := rx
  refine getmeth_ok I1 ea c hm l ?_
  refine PySem.W.callWith_K (first := [.ref a]) (h₀ := X.base) I.ok.mod.kin hm.kp (thn (ha.run pos pins s1 σ H1 _ I1 q) fun us s2 ⟨vs, H2, I2, r, q2⟩ => ⟨I2.kIn, ?_⟩) hst hpl
  exact F X rfl rfl rfl rfl rfl hr hg pins σ H2 s2 Q (.ref a :: us) (.ref a :: vs) (E σ) (hx σ) I2 (.cons rfl r) q2
theorem pe_methA0 {X : Cx} {k : Nat} {o : Expr} {m : Str} {apos pos : Pos} {ta : TE} {E : L2.St → XK} {pl : Sem Bool} (hr : Room k X.A) (hg : X.A.guards = some []) (he : PE X o ta) (hx : ∀ σ, PassG X σ (E σ))
    (ht : eval (.Call (.Attribute o m apos) [] [] pos) X.env = (do
      let ov ← eval o X.env
      standAt apos.atName
      let (f, first) ← holding [ov] (getMethod ov m pl)
      callWith pos f first (backTo pos (starEach [] X.env)) (backToKw pos (keywordEach [] X.env)))) : PE X (.Call (.Attribute o m apos) [] [] pos) (tMethA X k m E ta tNil) := by
  refine ⟨fun pins s σ H Q I h => ?_⟩
  refine PySem.W.methodCall_KW (pl := pl) (thn (he.run pins s σ H _ I h) fun u s1 ⟨x, H1, I1, rx, a, C, dx, fs, f, sp, ex, ea, c, hm, l, F, q⟩ => ?_) ht
  subst ex
  obtain rfl : u = Value.ref a := rx
  refine getmeth_ok I1 ea c hm l ?_
  exact PySem.W.callWith_K0 (first := [.ref a]) I1.kIn hm.kp (F X rfl rfl rfl rfl rfl hr hg pins σ H1 s1 Q [.ref a] [.ref a] (E σ) (hx σ) I1 (.cons rfl .nil) q)
end Z

namespace Z
open PySem PySem.Spec L2
open PyProof.Rows hiding St
/-! ### texts and ints in order -/
theorem leS_iff {a b : Str} : leS a b = true ↔ ¬ b.cps.toList < a.cps.toList := by simp [leS]
theorem leS_total (a b : Str) : leS a b = true ∨ leS b a = true := by
  rw [leS_iff, leS_iff]
  rcases List.le_total a.cps.toList b.cps.toList with h | h
  · exact .inl (List.not_lt.mpr h)
  · exact .inr (List.not_lt.mpr h)
theorem leS_trans {a b c : Str} (h1 : leS a b = true) (h2 : leS b c = true) : leS a c = true := by
  rw [leS_iff] at *
  exact List.not_lt.mpr (List.le_trans (List.not_lt.mp h1) (List.not_lt.mp h2))
theorem str_ext {a b : Str} (h : a.cps.toList = b.cps.toList) : a = b := by
  obtain ⟨⟨x⟩⟩ := a
  obtain ⟨⟨y⟩⟩ := b
  have : x = y := h
  subst this; rfl
theorem leS_anti {a b : Str} (h1 : leS a b = true) (h2 : leS b a = true) : a = b := by
  rw [leS_iff] at *
  exact str_ext (List.le_antisymm (List.not_lt.mp h1) (List.not_lt.mp h2))
/-- one order, one arrangement -/
theorem perm_sorted_eq {α : Type} {r : α → α → Prop} (anti : ∀ a b, r a b → r b a → a = b) : ∀ {xs ys : List α}, xs.Perm ys → xs.Pairwise r → ys.Pairwise r → xs = ys
  | [], ys, p, _, _ => by rw [List.Perm.eq_nil p.symm]
  | x :: xs, [], p, _, _ => absurd p.length_eq (by simp)
  | x :: xs, y :: ys, p, h1, h2 => by
    rw [List.pairwise_cons] at h1 h2
    have e : x = y := by
      have hx : x ∈ y :: ys := p.subset (List.mem_cons_self ..)
      have hy : y ∈ x :: xs := p.symm.subset (List.mem_cons_self ..)
      rcases List.mem_cons.mp hx with rfl | hx
      · rfl
      · rcases List.mem_cons.mp hy with e | hy
        · exact e.symm
        · exact anti _ _ (h1.1 y hy) (h2.1 x hx)
    subst e
    rw [perm_sorted_eq anti (List.Perm.cons_inv p) h1.2 h2.2]
theorem insS_perm (x : Str) : ∀ ys : List Str, (insS x ys).Perm (x :: ys)
  | [] => List.Perm.refl _
  | y :: ys => by
    unfold insS
    split
    · exact List.Perm.refl _
    · exact ((insS_perm x ys).cons y).trans (List.Perm.swap ..)
theorem sortS_perm : ∀ xs : List Str, (sortS xs).Perm xs
  | [] => List.Perm.refl _
  | x :: xs => (insS_perm x _).trans ((sortS_perm xs).cons x)
theorem insS_sorted (x : Str) : ∀ ys : List Str, ys.Pairwise (fun a b => leS a b = true) → (insS x ys).Pairwise (fun a b => leS a b = true)
  | [], _ => by simp [insS]
  | y :: ys, h => by
    rw [List.pairwise_cons] at h
    unfold insS
    split
    · rename_i hl
      refine List.pairwise_cons.mpr ⟨fun z hz => ?_, List.pairwise_cons.mpr h⟩
      rcases List.mem_cons.mp hz with rfl | hz
      · exact hl
      · exact leS_trans hl (h.1 z hz)
    · rename_i hl
      have hyx : leS y x = true := (leS_total x y).resolve_left hl
      refine List.pairwise_cons.mpr ⟨fun z hz => ?_, insS_sorted x ys h.2⟩
      rcases List.mem_cons.mp ((insS_perm x ys).subset hz) with rfl | hz
      · exact hyx
      · exact h.1 z hz
theorem sortS_sorted : ∀ xs : List Str, (sortS xs).Pairwise (fun a b => leS a b = true)
  | [] => List.Pairwise.nil
  | x :: xs => insS_sorted x _ (sortS_sorted xs)
theorem insI_perm (x : Int) : ∀ ys : List Int, (insI x ys).Perm (x :: ys)
  | [] => List.Perm.refl _
  | y :: ys => by
    unfold insI
    split
    · exact List.Perm.refl _
    · exact ((insI_perm x ys).cons y).trans (List.Perm.swap ..)
theorem sortI_perm : ∀ xs : List Int, (sortI xs).Perm xs
  | [] => List.Perm.refl _
  | x :: xs => (insI_perm x _).trans ((sortI_perm xs).cons x)
theorem insI_sorted (x : Int) : ∀ ys : List Int, ys.Pairwise (· ≤ ·) → (insI x ys).Pairwise (· ≤ ·)
  | [], _ => by simp [insI]
  | y :: ys, h => by
    rw [List.pairwise_cons] at h
    unfold insI
    split
    · rename_i hl
      refine List.pairwise_cons.mpr ⟨fun z hz => ?_, List.pairwise_cons.mpr h⟩
      rcases List.mem_cons.mp hz with rfl | hz
      · exact hl
      · exact Int.le_trans hl (h.1 z hz)
    · rename_i hl
      refine List.pairwise_cons.mpr ⟨fun z hz => ?_, insI_sorted x ys h.2⟩
      rcases List.mem_cons.mp ((insI_perm x ys).subset hz) with rfl | hz
      · show y ≤ z
        omega
      · exact h.1 z hz
theorem sortI_sorted : ∀ xs : List Int, (sortI xs).Pairwise (· ≤ ·)
  | [] => List.Pairwise.nil
  | x :: xs => insI_sorted x _ (sortI_sorted xs)
theorem sortedS_pw : ∀ {xs : List Str}, sortedS xs = true → xs.Pairwise (fun a b => leS a b = true)
  | [], _ => .nil
  | [x], _ => by simp
  | x :: y :: r, h => by
    have h2 : leS x y = true ∧ sortedS (y :: r) = true := by
      have h : (!ltCps y.cps.toList x.cps.toList && risingS y r) = true := h
      rw [Bool.and_eq_true] at h
      refine ⟨?_, h.2⟩
      rw [leS_iff]
      have h1 := h.1
      rw [ltCps_eq] at h1
      simpa using h1
    have ih := sortedS_pw h2.2
    rw [List.pairwise_cons] at ih ⊢
    refine ⟨fun z hz => ?_, List.pairwise_cons.mpr ih⟩
    rcases List.mem_cons.mp hz with rfl | hz
    · exact h2.1
    · exact leS_trans h2.1 (ih.1 z hz)
theorem sortS_eq {xs ys : List Str} (p : ys.Perm xs) (h : sortedS ys = true) : ys = sortS xs := perm_sorted_eq (fun _ _ => leS_anti) (p.trans (sortS_perm xs).symm) (sortedS_pw h) (sortS_sorted xs)
theorem sortI_eq {xs ys : List Int} (p : ys.Perm xs) (h : ys.Pairwise (· ≤ ·)) : ys = sortI xs := perm_sorted_eq (fun _ _ => Int.le_antisymm) (p.trans (sortI_perm xs).symm) h (sortI_sorted xs)
theorem maxI_ok : ∀ {xs : List Int} {m : Int}, maxI xs = some m → m ∈ xs ∧ ∀ y ∈ xs, y ≤ m
  | [], _, h => by cases h
  | x :: xs, m, h => by
    unfold maxI at h
    cases z : maxI xs with
    | none =>
      rw [z] at h; cases h
      have : xs = [] := by
        cases xs with
        | nil => rfl
        | cons y ys => simp only [maxI] at z; cases h2 : maxI ys <;> rw [h2] at z <;> cases z
      subst this
      exact ⟨List.mem_cons_self .., fun y hy => by simp at hy; omega⟩
    | some y =>
      rw [z] at h
      obtain ⟨h1, h2⟩ := maxI_ok z
      cases h
      split
      · exact ⟨List.mem_cons_of_mem _ h1, fun w hw => by rcases List.mem_cons.mp hw with rfl | hw; omega; exact h2 w hw⟩
      · exact ⟨List.mem_cons_self .., fun w hw => by rcases List.mem_cons.mp hw with rfl | hw; omega; have := h2 w hw; omega⟩
theorem minI_ok : ∀ {xs : List Int} {m : Int}, minI xs = some m → m ∈ xs ∧ ∀ y ∈ xs, m ≤ y
  | [], _, h => by cases h
  | x :: xs, m, h => by
    unfold minI at h
    cases z : minI xs with
    | none =>
      rw [z] at h; cases h
      have : xs = [] := by
        cases xs with
        | nil => rfl
        | cons y ys => simp only [minI] at z; cases h2 : minI ys <;> rw [h2] at z <;> cases z
      subst this
      exact ⟨List.mem_cons_self .., fun y hy => by simp at hy; omega⟩
    | some y =>
      rw [z] at h
      obtain ⟨h1, h2⟩ := minI_ok z
      cases h
      split
      · exact ⟨List.mem_cons_of_mem _ h1, fun w hw => by rcases List.mem_cons.mp hw with rfl | hw; omega; exact h2 w hw⟩
      · exact ⟨List.mem_cons_self .., fun w hw => by rcases List.mem_cons.mp hw with rfl | hw; omega; have := h2 w hw; omega⟩
/-! ### lists of one kind -/
section
variable {K : PySem.W.Frag} {G : Hp}
theorem bls_reps : ∀ {ds : List D} {bs : List Bool} {vs : List V}, blsD ds = some bs → Reps K G ds vs → vs = bs.map V.bl
  | [], _, _, e, r => by simp only [blsD] at e; cases e; simp only [Reps] at r; exact r
  | d :: ds, _, _, e, r => by
    cases d with
    | bl b =>
      simp only [blsD] at e
      cases z : blsD ds with
      | none => rw [z] at e; cases e
      | some bs =>
        rw [z] at e; cases e
        simp only [Reps, Rep] at r
        obtain ⟨v, t, rfl, rfl, r⟩ := r
        rw [bls_reps z r]; rfl
    | _ => simp [blsD] at e
theorem ints_reps : ∀ {ds : List D} {bs : List Int} {vs : List V}, intsD ds = some bs → Reps K G ds vs → vs = bs.map V.int
  | [], _, _, e, r => by simp only [intsD] at e; cases e; simp only [Reps] at r; exact r
  | d :: ds, _, _, e, r => by
    cases d with
    | int b =>
      simp only [intsD] at e
      cases z : intsD ds with
      | none => rw [z] at e; cases e
      | some bs =>
        rw [z] at e; cases e
        simp only [Reps, Rep] at r
        obtain ⟨v, t, rfl, rfl, r⟩ := r
        rw [ints_reps z r]; rfl
    | _ => simp [intsD] at e
theorem strs_reps : ∀ {ds : List D} {bs : List Str} {vs : List V}, strsD ds = some bs → Reps K G ds vs → vs = bs.map V.str
  | [], _, _, e, r => by simp only [strsD] at e; cases e; simp only [Reps] at r; exact r
  | d :: ds, _, _, e, r => by
    cases d with
    | str b =>
      simp only [strsD] at e
      cases z : strsD ds with
      | none => rw [z] at e; cases e
      | some bs =>
        rw [z] at e; cases e
        simp only [Reps, Rep] at r
        obtain ⟨v, t, rfl, rfl, r⟩ := r
        rw [strs_reps z r]; rfl
    | _ => simp [strsD] at e
theorem reps_strs : ∀ xs : List Str, Reps K G (xs.map .str) (xs.map .str)
  | [] => by simp [Reps]
  | x :: xs => by simp only [List.map_cons, Reps]; exact ⟨_, _, rfl, rfl, reps_strs xs⟩
theorem reps_ints : ∀ xs : List Int, Reps K G (xs.map .int) (xs.map .int)
  | [] => by simp [Reps]
  | x :: xs => by simp only [List.map_cons, Reps]; exact ⟨_, _, rfl, rfl, reps_ints xs⟩
theorem strs_keys : ∀ {kvs : List (Key × D)} {xs : List Str}, strsD (kvs.map fun kv => kD kv.1) = some xs → kvs.map (·.1) = xs.map Sum.inr
  | [], _, e => by simp only [List.map_nil, strsD] at e; cases e; rfl
  | (k, d) :: kvs, _, e => by
    cases k with
    | inl i => simp [kD, strsD] at e
    | inr y =>
      rw [List.map_cons] at e
      have e : (strsD (kvs.map fun kv => kD kv.1)).map (fun bs => y :: bs) = some _ := e
      cases z : strsD (kvs.map fun kv => kD kv.1) with
      | none => rw [z] at e; cases e
      | some xs => rw [z] at e; cases e; simp [strs_keys z]
theorem ints_keys : ∀ {kvs : List (Key × D)} {xs : List Int}, intsD (kvs.map fun kv => kD kv.1) = some xs → kvs.map (·.1) = xs.map Sum.inl
  | [], _, e => by simp only [List.map_nil, intsD] at e; cases e; rfl
  | (k, d) :: kvs, _, e => by
    cases k with
    | inr i => simp [kD, intsD] at e
    | inl y =>
      rw [List.map_cons] at e
      have e : (intsD (kvs.map fun kv => kD kv.1)).map (fun bs => y :: bs) = some _ := e
      cases z : intsD (kvs.map fun kv => kD kv.1) with
      | none => rw [z] at e; cases e
      | some xs => rw [z] at e; cases e; simp [ints_keys z]
theorem strs_len : ∀ {ds : List D} {xs : List Str}, strsD ds = some xs → xs.length = ds.length
  | [], _, e => by simp only [strsD] at e; cases e; rfl
  | d :: ds, _, e => by
    cases d with
    | str b =>
      simp only [strsD] at e
      cases z : strsD ds with
      | none => rw [z] at e; cases e
      | some bs => rw [z] at e; cases e; simp [strs_len z]
    | _ => simp [strsD] at e
theorem ints_len : ∀ {ds : List D} {xs : List Int}, intsD ds = some xs → xs.length = ds.length
  | [], _, e => by simp only [intsD] at e; cases e; rfl
  | d :: ds, _, e => by
    cases d with
    | int b =>
      simp only [intsD] at e
      cases z : intsD ds with
      | none => rw [z] at e; cases e
      | some bs => rw [z] at e; cases e; simp [ints_len z]
    | _ => simp [intsD] at e
theorem reps_keys : ∀ {kvs : List (Key × D)} {ws : List (Key × V)}, RepK K G kvs ws → Reps K G (kvs.map fun kv => kD kv.1) (ws.map fun kv => kV kv.1)
  | [], _, r => by simp only [RepK] at r; subst r; simp [Reps]
  | (k, d) :: kvs, _, r => by
    simp only [RepK] at r
    obtain ⟨v, t, rfl, _, r⟩ := r
    simp only [List.map_cons, Reps]
    refine ⟨_, _, rfl, ?_, reps_keys r⟩
    cases k <;> simp only [kD, kV, Rep]
end
end Z

namespace Z
open PySem PySem.Spec L2
open PyProof.Rows hiding St
section
variable {Φ : Tab} {X : Cx} {W : WX}
/-- what callIo leaves -/
theorem io_core {K : PySem.W.Frag} {O : Addr → Prop} {ρ ρ1 : Vn} {σ : L2.St} {H H1 : Hp} {i : Nat} {d0 : D} {a : Addr} {s0 : Sl} {fn : Fn} {st : Bool} {m : ME} {ds : List D} {vs : List V} {Q : VK} {E : XK} (c : PostC K O ρ σ H st ρ1 H1) (hm : m.still = false)
    (e : ρ1[i]? = some s0) (ea : σ[i]? = some (some (.ref a))) (mk : D → Sl) (hs : ∀ d1, (s0 = .own d0 ∧ mk d1 = .own d1) ∨ (s0 = .io d0 ∧ mk d1 = .io d1)) (hio : fn.io = true) (hn : ds.length + 1 = fn.ar) (r : Reps K (vis (Hid O ρ1 σ) H1) ds vs)
    (q : (match fn.run (d0 :: ds) with
      | .ok d s => Res.ok (fn.fresh, d) (ρ1.set i (mk s))
      | .exn x s => .exn x (ρ1.set i (mk s))
      | .stuck => .stuck : Res (Bool × D)).holds (fun a ρ' => ∀ v H', PostE K O ρ σ H m a.1 a.2 ρ' v H' → Q v H') (fun x ρ' => ∀ od H', PostX K O ρ σ H x ρ' od H' → E (.ref (He.ga K x.C)) od H')) :
    spF K fn (.ref a :: vs) H1 Q E := by
  have h0 : s0.isOwn = true := by rcases hs .non with ⟨rfl, _⟩ | ⟨rfl, _⟩ <;> rfl
  have h0w : s0.isWr = true := by rcases hs .non with ⟨rfl, _⟩ | ⟨rfl, _⟩ <;> rfl
  have ha : Hid O ρ1 σ a := .inr ⟨i, s0, e, h0, ea⟩
  have haw : WrA ρ1 σ a := ⟨i, s0, e, h0w, ea⟩
  have top : Top K (vis (Hid O ρ1 σ) H1) H1 d0 a := by
    rcases hs .non with ⟨rfl, _⟩ | ⟨rfl, _⟩
    · obtain ⟨b, s, t⟩ := c.env.own i d0 e
      rw [ea] at s; cases s; exact t
    · obtain ⟨b, s, _, t⟩ := c.env.io i d0 e
      rw [ea] at s; cases s; exact t
  refine ⟨d0 :: ds, Hid O ρ1 σ, a, ?_, c.env.domH, ?_, ?_⟩
  · rw [List.length_cons, ← r.length]; exact hn
  · rw [hio]; exact ⟨vs, d0, ds, rfl, rfl, ha, top, r⟩
  · split at q
    · rename_i d s e1
      try rw [e1]
      intro v H' k res t
      have t := t hio
      have k0 : ∀ b o, b ≠ a → H1 b = some o → H' b = some o := fun b o n z => k b o (fun y => n y.2) z
      have fr : ∀ b, newO fn.fresh O v b → O b ∨ H1 b = none := by
        intro b z
        rcases z with z | ⟨hf, rfl⟩
        · exact .inl z
        · unfold ResOk at res
          rw [hf, if_pos rfl] at res
          obtain ⟨p, e2, hp, _⟩ := res
          cases e2; exact .inr hp
      have dm0 : ∀ b, H1 b ≠ none → H' b ≠ none := fun b z => by
        by_cases hb : b = a
        · subst hb; exact t.ne
        · cases y : H1 b with
          | none => exact absurd y z
          | some o => rw [k0 b o hb y]; simp
      have dm : ∀ b, newO fn.fresh O v b → H' b ≠ none := by
        intro b z
        rcases z with z | ⟨hf, rfl⟩
        · exact dm0 b (c.env.dom b z)
        · unfold ResOk at res
          rw [hf, if_pos rfl] at res
          obtain ⟨p, e2, hp, t⟩ := res
          cases e2; exact t.ne
      have t2 := t
      rw [newO_hid] at t2
      obtain ⟨E', to'⟩ := c.env.chg e (hs s) ea k0 (fun b z => .inl z) fr dm t2
      have hh : ∀ {O' : Addr → Prop}, Hid O' (ρ1.set i (mk s)) σ = Hid O' ρ1 σ := hid_iff e h0 (by rcases hs s with ⟨_, z⟩ | ⟨_, z⟩ <;> rw [z] <;> rfl)
      refine q v H' { env := E', kp := fun b o n z => k0 b o (fun y => ?_) (c.kp b o (fun y => n ⟨hm, y.2⟩) z), dm := fun b z => dm0 b (c.dm b z), to := c.to.trans to', new := fun z => ?_, rd := fun z => ?_, rep := fun z _ => ?_ }
      · subst y; exact n ⟨hm, c.to.wr haw⟩
      · have z : fn.fresh = true := z
        unfold ResOk at res
        rw [z, if_pos rfl] at res
        obtain ⟨p, e2, hp, t⟩ := res
        refine ⟨p, e2, c.gone hp, ?_⟩
        show Top K (vis (Hid (newO fn.fresh O v) (ρ1.set i (mk s)) σ) H') H' d p
        rw [hh, z, ← newO_hid]; exact t
      · have z : fn.fresh = false := z
        unfold ResOk at res
        rw [z, if_neg (by decide)] at res
        refine .inl ?_
        rw [hh]; exact res
      · have z : fn.fresh = false := z
        unfold ResOk at res
        rw [z, if_neg (by decide)] at res
        rw [hh]; exact res
    · rename_i x s e1
      try rw [e1]
      intro od H' k t xr
      have t := t hio
      have k0 : ∀ b o, b ≠ a → H1 b = some o → H' b = some o := fun b o n z => k b o (fun y => n y.2) z
      have dm0 : ∀ b, H1 b ≠ none → H' b ≠ none := fun b z => by
        by_cases hb : b = a
        · subst hb; exact t.ne
        · cases y : H1 b with
          | none => exact absurd y z
          | some o => rw [k0 b o hb y]; simp
      obtain ⟨E', to'⟩ := c.env.chg (O' := O) e (hs s) ea k0 (fun b z => z) (fun b z => .inl z) (fun b z => dm0 b (c.env.dom b z)) t
      have hh : Hid O (ρ1.set i (mk s)) σ = Hid O ρ1 σ := hid_iff e h0 (by rcases hs s with ⟨_, z⟩ | ⟨_, z⟩ <;> rw [z] <;> rfl)
      refine q od H' ⟨E', fun b o n z => k0 b o (fun y => ?_) (c.kp b o (fun y => n y.2) z), fun b z => dm0 b (c.dm b z), c.to.trans to', by rw [hh]; exact xr⟩
      subst y; exact n (c.to.wr haw)
    · exact q.elim
theorem snd_callio {x y : Str} {p p1 pos : Pos} {key : String} {i : Nat} {es : List Expr} {ms : List ME} {fn : Fn} {L : Nat} (hΦ : Φ key = some fn) (F : FnAt X.prog X.w X.K X.mg X.base L x fn) (hr : Room L X.A) (hgd : X.A.guards = some []) (tk : Takes X W)
    (hg : Gl X x) (hdb : (x == ("__debug__" : Str)) = false) (hv : PE X (.Name y p1) (tVar i)) (hst : ∀ e ∈ es, notStar e = true) (h : SndL Φ X W es ms) (hlen : es.length = ms.length) : SndE Φ X W (.Call (.Name x p) (.Name y p1 :: es) [] pos) (.callio key i ms) := by
  intro O ρ σ H Q E q
  simp only [evE] at q
  have FG := F.call fn.dfl.length (Nat.le_refl _)
  refine WE.by (pe_callA FG hr hgd hg F.gl F.kp (fun σ => passG tk σ) (pa_cons (t := WA X es) hv pa_w) hdb rfl (backAny hst _ _)) ?_
  split at q
  · rename_i hw
    -- the slot's address
    have hs0 : ∃ a s0, ρ[i]? = some s0 ∧ s0.isWr = true ∧ σ[i]? = some (some (.ref a)) := by
      unfold wrAt at hw
      cases z : ρ[i]? with
      | none => rw [z] at hw; cases hw
      | some s0 =>
        rw [z] at hw
        cases s0 with
        | own d => obtain ⟨a, s, _⟩ := E.own i d z; exact ⟨a, _, rfl, rfl, s⟩
        | io d => obtain ⟨a, s, _⟩ := E.io i d z; exact ⟨a, _, rfl, rfl, s⟩
        | _ => simp [Sl.isWr] at hw
    obtain ⟨a, s0, _, _, ea⟩ := hs0
    refine ⟨.ref a, ea, ?_⟩
    have q2 := sndL_len (Res.holds_bind q)
    refine h O ρ σ H _ E (Res.holds_mono q2 (fun ds ρ1 z vs H1 c r => ?_) fun x ρ' z => z)
    obtain ⟨zl, z⟩ := z
    rw [List.drop_length]
    show spF X.K fn (.ref a :: vs ++ []) H1 Q _
    rw [List.append_nil]
    unfold callIo at z
    rw [hΦ] at z
    split at z
    · rename_i fn' d0 e1 e2
      cases e1
      split at z
      · rename_i hc
        exact io_core c (m := .callio key i ms) (by simp only [ME.still]) e2 ea Sl.own (fun d1 => .inl ⟨rfl, rfl⟩) hc.1 hc.2 r z
      · exact z.elim
    · rename_i fn' d0 e1 e2
      cases e1
      split at z
      · rename_i hc
        exact io_core c (m := .callio key i ms) (by simp only [ME.still]) e2 ea Sl.io (fun d1 => .inr ⟨rfl, rfl⟩) hc.1 hc.2 r z
      · exact z.elim
    · exact z.elim
  · exact q.elim
/-! ### built-ins -/
def biTab : List (String × Value) := [("len", .builtin "len"), ("abs", .builtin "abs"), ("repr", .builtin "repr"), ("int", .type "int"), ("list", .type "list"), ("tuple", .type "tuple"), ("str", .type "str"), ("all", .builtin "all"), ("any", .builtin "any"), ("sum", .builtin "sum"), ("max", .builtin "max"), ("min", .builtin "min"), ("sorted", .builtin "sorted"), ("dict", .type "dict")]
def biVal (f : String) : Value := (biTab.lookup f).getD .none
theorem sortedD_ok (hca : X.calm = true) {G H : Hp} {ds : List D} {v1 : V} (src : (∃ a vs, v1 = .ref a ∧ SqL X.K H a vs ∧ Reps X.K G ds vs) ∨ ∃ a kvs ws, v1 = .ref a ∧ Rd H a (.dK ws) ∧ RepK X.K G kvs ws ∧ ds = kvs.map fun kv => kD kv.1) {fl : Bool} {d : D} (e : sortedD ds = some (fl, d)) {Q : VK} (q : ∀ v H', Made' X.K G H fl d v H' → Q v H') :
    WCall X (.builtin "sorted") [v1] H Q := by
  unfold sortedD at e
  split at e
  · rename_i hl
    split at e
    · rename_i xs hx
      cases e
      rcases src with ⟨a, vs, rfl, s, r⟩ | ⟨a, kvs, ws, rfl, s, rk, rfl⟩
      · have := strs_reps hx r
        subst this
        refine WCall.by cr_sortedS ⟨a, xs, rfl, s, by rw [strs_len hx]; exact hl, fun ys p hp hs hn => ?_⟩
        rw [sortS_eq hp hs]
        exact q _ _ (.lst hn (reps_strs _))
      · have hk := strs_keys hx
        rw [repK_keys rk] at hk
        refine WCall.by (call_sortedD hca) ⟨a, ws, xs, rfl, s, hk, by rw [strs_len hx]; exact hl, fun ys p hp hs hn => ?_⟩
        rw [sortS_eq hp hs]
        exact q _ _ (.lst hn (reps_strs _))
    · split at e
      · rename_i ns hx
        cases e
        rcases src with ⟨a, vs, rfl, s, r⟩ | ⟨a, kvs, ws, rfl, s, rk, rfl⟩
        · have := ints_reps hx r
          subst this
          refine WCall.by cr_sorted ⟨a, ns, rfl, s, by rw [ints_len hx]; exact hl, fun ys p hp hs hn => ?_⟩
          rw [sortI_eq hp hs]
          exact q _ _ (.lst hn (reps_ints _))
        · have hk := ints_keys hx
          rw [repK_keys rk] at hk
          refine WCall.by (call_sortedDI hca) ⟨a, ws, ns, rfl, s, hk, by rw [ints_len hx]; exact hl, fun ys p hp hs hn => ?_⟩
          rw [sortI_eq hp hs]
          exact q _ _ (.lst hn (reps_ints _))
      · cases e
  · cases e
theorem biD_ok (hca : X.calm = true) (hgd : X.A.guards = some []) (hu : X.A.units + 80 < cLine) {G H : Hp} (x : Ext G H) {f : String} {d1 : D} {v1 : V} (h1 : RdOk X.K G H d1 v1) {fl : Bool} {d : D} (e : biD f [d1] = some (fl, d)) {Q : VK} (q : ∀ v H', Made' X.K G H fl d v H' → Q v H') :
    WCall X (biVal f) [v1] H Q := by
  have lz : lim ≤ sizeLine := by rw [PySem.sizeLine_eq]; decide
  have sc : ∀ {d : D}, scalD d = true → (∀ v H', Made' X.K G H false d v H' → Q v H') → Q (vOf d) H := fun hs q => q _ _ (.scal hs)
  unfold biD at e
  split at e
  · rename_i _ ds hd
    cases hd; cases e
    obtain ⟨a, vs, rfl, s, r⟩ := h1.lst x
    have q := sc rfl q
    exact WCall.by call_len_seq ⟨a, vs, rfl, .inl s, by rw [← r.length]; exact q⟩
  · rename_i _ ds hd
    cases hd; cases e
    rcases h1 with h1 | ⟨_, _, h1⟩
    · simp only [Rep] at h1
      obtain ⟨a, vs, rfl, s, r⟩ := h1
      have q := sc rfl q
      exact WCall.by call_len_seq ⟨a, vs, rfl, .inr (sqT_ext x s), by rw [← r.length]; exact q⟩
    · exact h1.elim
  · rename_i _ ds hd
    cases hd; cases e
    obtain ⟨a, ws, rfl, r, rk⟩ := h1.dct x
    have q := sc rfl q
    intro pins s σ us I rv
    cases rv with
    | cons ru rn =>
      cases rn
      cases ru
      have hl : ds.length = ws.length := rk.length
      exact d_len I r fun t s' I' => ⟨.int ds.length, H, I', ⟨t, by rw [hl]⟩, q⟩
  · rename_i _ s hd
    cases hd
    split at e
    · cases e
      cases h1.scal rfl
      exact WCall.by call_len_str ⟨_, rfl, by omega, sc rfl q⟩
    · cases e
  · rename_i _ i hd
    cases hd; cases e
    cases h1.scal rfl
    have q := sc rfl q
    refine WCall.by call_abs ⟨i, rfl, ?_⟩
    have e2 : (if i < 0 then -i else i) = (i.natAbs : Int) := by split <;> omega
    rw [e2]; exact q
  · rename_i _ i hd
    cases hd; cases e
    cases h1.scal rfl
    exact WCall.by call_int1 (.inl ⟨i, rfl, sc rfl q⟩)
  · rename_i _ b hd
    cases hd; cases e
    cases h1.scal rfl
    exact WCall.by call_int1 (.inr ⟨b, rfl, sc rfl q⟩)
  · rename_i _ d' hd
    cases hd
    cases z : d1.py with
    | none => rw [z] at e; cases e
    | some p =>
      rw [z] at e
      simp only at e
      split at e
      · rename_i hc
        cases e
        simp only [Bool.and_eq_true, Bool.not_eq_true', decide_eq_true_eq] at hc
        obtain ⟨⟨⟨c1, c2⟩, c3⟩, c4⟩ := hc
        exact WCall.by (call_reprD hgd (by omega)) ⟨v1, p, rfl, (h1.rep x).dp z, c1, c2, c3, by omega, sc rfl q⟩
      · cases e
  · rename_i _ ds hd
    cases hd; cases e
    obtain ⟨a, vs, rfl, s, r⟩ := h1.lst x
    exact WCall.by call_list_of ⟨a, vs, rfl, .inl s, fun p hp => q _ _ (.lst hp r)⟩
  · rename_i _ ds hd
    cases hd; cases e
    rcases h1 with h1 | ⟨_, _, h1⟩
    · simp only [Rep] at h1
      obtain ⟨a, vs, rfl, s, r⟩ := h1
      exact WCall.by call_list_of ⟨a, vs, rfl, .inr (sqT_ext x s), fun p hp => q _ _ (.lst hp r)⟩
    · exact h1.elim
  · rename_i _ ds hd
    cases hd; cases e
    obtain ⟨a, vs, rfl, s, r⟩ := h1.lst x
    exact WCall.by call_tuple_of ⟨a, vs, rfl, .inl ⟨s, fun p hp => q _ _ (.tup hp r)⟩⟩
  · rename_i _ ds hd
    cases hd; cases e
    rcases h1 with h1 | ⟨_, _, h1⟩
    · have g1 := h1
      simp only [Rep] at h1
      obtain ⟨a, vs, rfl, s, r⟩ := h1
      exact WCall.by call_tuple_of ⟨a, vs, rfl, .inr ⟨sqT_ext x s, q _ _ (.same g1)⟩⟩
    · exact h1.elim
  · rename_i _ i hd
    cases hd
    split at e
    · rename_i hc
      cases e
      cases h1.scal rfl
      exact WCall.by call_str_int ⟨i, rfl, hc, sc rfl q⟩
    · cases e
  · rename_i _ ds hd
    cases hd
    obtain ⟨a, vs, rfl, s, r⟩ := h1.lst x
    cases z : blsD ds with
    | none => rw [z] at e; cases e
    | some bs =>
      rw [z] at e; cases e
      have := bls_reps z r
      subst this
      exact WCall.by (cr_all hca) ⟨a, bs, rfl, s, sc rfl q⟩
  · rename_i _ ds hd
    cases hd
    obtain ⟨a, vs, rfl, s, r⟩ := h1.lst x
    cases z : blsD ds with
    | none => rw [z] at e; cases e
    | some bs =>
      rw [z] at e; cases e
      have := bls_reps z r
      subst this
      exact WCall.by (cr_any hca) ⟨a, bs, rfl, s, sc rfl q⟩
  · rename_i _ ds hd
    cases hd
    obtain ⟨a, vs, rfl, s, r⟩ := h1.lst x
    cases z : intsD ds with
    | none => rw [z] at e; cases e
    | some bs =>
      rw [z] at e; cases e
      have := ints_reps z r
      subst this
      exact WCall.by (cr_sum hca) ⟨a, bs, rfl, s, sc rfl q⟩
  · rename_i _ ds hd
    cases hd
    obtain ⟨a, vs, rfl, s, r⟩ := h1.lst x
    cases z : intsD ds with
    | none => rw [z] at e; cases e
    | some bs =>
      rw [z] at e
      cases z2 : maxI bs with
      | none => simp [z2] at e
      | some m =>
        simp only [Option.bind_some, z2, Option.map_some, Option.some.injEq, Prod.mk.injEq] at e
        obtain ⟨rfl, rfl⟩ := e
        have := ints_reps z r
        subst this
        obtain ⟨m1, m2⟩ := maxI_ok z2
        refine WCall.by (cr_max hca) ⟨a, bs, rfl, s, List.length_pos_of_mem m1, fun m' h1 h2 => ?_⟩
        have : m' = m := Int.le_antisymm (m2 m' h1) (h2 m m1)
        subst this
        exact sc rfl q
  · rename_i _ ds hd
    cases hd
    obtain ⟨a, vs, rfl, s, r⟩ := h1.lst x
    cases z : intsD ds with
    | none => rw [z] at e; cases e
    | some bs =>
      rw [z] at e
      cases z2 : minI bs with
      | none => simp [z2] at e
      | some m =>
        simp only [Option.bind_some, z2, Option.map_some, Option.some.injEq, Prod.mk.injEq] at e
        obtain ⟨rfl, rfl⟩ := e
        have := ints_reps z r
        subst this
        obtain ⟨m1, m2⟩ := minI_ok z2
        refine WCall.by (cr_min hca) ⟨a, bs, rfl, s, List.length_pos_of_mem m1, fun m' h1 h2 => ?_⟩
        have : m' = m := Int.le_antisymm (h2 m m1) (m2 m' h1)
        subst this
        exact sc rfl q
  · rename_i hd; cases hd
  · rename_i hd; cases hd
  · rename_i _ ds hd
    cases hd
    obtain ⟨a, vs, rfl, s, r⟩ := h1.lst x
    exact sortedD_ok hca (.inl ⟨a, vs, rfl, s, r⟩) e q
  · rename_i _ kvs hd
    cases hd
    obtain ⟨a, vs, rfl, s, r⟩ := h1.dct x
    exact sortedD_ok hca (.inr ⟨a, kvs, vs, rfl, s, r, rfl⟩) e q
  · rename_i _ ds hd
    cases hd; cases e
    obtain ⟨a, vs, rfl, s, r⟩ := h1.dct x
    exact WCall.by (call_listD hca) ⟨a, vs, rfl, s, fun p hp => q _ _ (.lst hp (reps_keys r))⟩
  · rename_i _ ds hd
    cases hd; cases e
    obtain ⟨a, vs, rfl, s, r⟩ := h1.dct x
    exact WCall.by call_dictD ⟨a, vs, rfl, s, fun p hp => q _ _ (.dct hp r)⟩
  · cases e
end
end Z

namespace Z
open PySem PySem.Spec L2
open PyProof.Rows hiding St
section
variable {Φ : Tab} {X : Cx} {W : WX}
theorem repF_look {K : PySem.W.Frag} {G : Hp} {f : Str} : ∀ {fs : List (Str × D)} {ws : List (Str × V)}, RepF K G fs ws → (∀ d, fs.lookup f = some d → ∃ v, ws.lookup f = some v ∧ Rep K G d v) ∧ (fs.lookup f = none → ws.lookup f = none)
  | [], ws, h => by
    simp only [RepF] at h
    subst h
    exact ⟨fun d z => by simp at z, fun _ => rfl⟩
  | (g, d) :: fs, ws, h => by
    simp only [RepF] at h
    obtain ⟨v, r, e, h1, h2⟩ := h
    subst e
    have ih := repF_look (f := f) h2
    rw [List.lookup_cons, List.lookup_cons]
    cases z : f == g with
    | true => exact ⟨fun d' e => by cases e; exact ⟨v, rfl, h1⟩, fun e => by cases e⟩
    | false => exact ih
/-- a def that changes nothing is run: the promise that its caller asks of it -/
theorem run_core {O : Addr → Prop} {ρ ρ1 : Vn} {σ : L2.St} {H H1 : Hp} {m : ME} {fn : Fn} {ds : List D} {vs : List V} {Q : VK} {E : XK} (hio : fn.io = false) (hl : ds.length = fn.ar) (c : PostC X.K O ρ σ H m.still ρ1 H1) (r : Reps X.K (vis (Hid O ρ1 σ) H1) ds vs)
    (q : match fn.run ds with
      | .ok d _ => ∀ v H', PostE X.K O ρ σ H m fn.fresh d ρ1 v H' → Q v H'
      | .exn x _ => ∀ od H', PostX X.K O ρ σ H x ρ1 od H' → E (.ref (He.ga X.K x.C)) od H'
      | .stuck => False) : spF X.K fn vs H1 Q E := by
  have dm1 : ∀ {H' : Hp}, (∀ b o, H1 b = some o → H' b = some o) → ∀ b, H1 b ≠ none → H' b ≠ none := fun {H'} k0 b z => by
    cases y : H1 b with
    | none => exact absurd y z
    | some o => rw [k0 b o y]; simp
  refine ⟨ds, Hid O ρ1 σ, 0, by rw [← r.length]; exact hl, c.env.domH, by rw [hio, if_neg (by decide)]; exact r, ?_⟩
  have k1 : ∀ {H' : Hp}, Kp (fun b => fn.io = true ∧ b = 0) H1 H' → ∀ b o, H1 b = some o → H' b = some o := fun {H'} k b o z => k b o (fun z2 => by rw [hio] at z2; cases z2.1) z
  cases e : fn.run ds with
  | stuck => rw [e] at q; exact q
  | exn x s =>
    rw [e] at q
    intro od H' k _ xr
    have k0 := k1 k
    exact q od H' ⟨c.env.kept k0, fun b o n e => k0 b o (c.kp b o (fun z => n z.2) e), fun b z => dm1 k0 b (c.dm b z), c.to, xr⟩
  | ok d s =>
    rw [e] at q
    intro v H' k res _
    have k0 := k1 k
    have E' : EnvOk X.K (newO fn.fresh O v) ρ1 σ H' := by
      cases hf : fn.fresh with
      | false => rw [newO_false]; exact c.env.kept k0
      | true =>
        unfold ResOk at res
        rw [hf, if_pos rfl] at res
        obtain ⟨p, rfl, hp, t⟩ := res
        refine c.env.grow k0 (fun b z => .inl z) (fun b z => z.elim .inl fun ⟨_, z⟩ => by cases z; exact .inr hp) fun b z => ?_
        rcases z with z | ⟨_, z⟩
        · exact dm1 k0 b (c.env.dom b z)
        · cases z; exact t.ne
    refine q v H' { env := E', kp := fun b o n e => k0 b o (c.kp b o n e), dm := fun b z => dm1 k0 b (c.dm b z), to := c.to, new := fun z => ?_, rd := fun z => ?_, rep := fun z _ => ?_ }
    · unfold ResOk at res
      rw [z, if_pos rfl] at res
      obtain ⟨p, e1, hp, t⟩ := res
      refine ⟨p, e1, c.gone hp, ?_⟩
      rw [newO_hid] at t
      rw [z]; exact t
    · unfold ResOk at res
      rw [z, if_neg (by decide)] at res
      exact .inl res
    · unfold ResOk at res
      rw [z, if_neg (by decide)] at res
      exact res
/-- what an own class gives is what Φ says -/
def OwnOk (Φ : Tab) (X : Cx) (L : Nat) : Prop := ∀ C m o, Φ.own C m = some o → OwnAt X.prog X.w X.K X.mg X.base L C m o
theorem snd_fld {a : Expr} {f : Str} {pos : Pos} {ma : ME} {L : Nat} (hO : OwnOk Φ X L) (hr : Room L X.A) (hgd : X.A.guards = some []) (hab : attributeBase a f X.env (eval a X.env) = eval a X.env) (h : SndE Φ X W a ma) : SndE Φ X W (.Attribute a f pos) (.fld ma f) := by
  intro O ρ σ H Q E q
  simp only [evE] at q
  refine WE.by (pe_attr hr hgd pe_w hab) ?_
  refine h.bd (PostC.refl (st := true) E) q fun x ρ1 v1 H1 p1 q => ?_
  have c : PostC X.K O ρ σ H (ME.fld ma f).still ρ1 H1 := by simpa only [ME.still] using p1.c
  have r1 := p1.rd
  unfold fldF at q
  split at q
  · rename_i C fs e1
    rw [e1] at r1
    obtain ⟨b, dx, ws, rfl, hb, rf⟩ := r1.ins vis_le
    split at q
    · rename_i eo
      obtain ⟨hc, hn⟩ := hO C f _ eo
      refine ⟨b, _, dx, ws, rfl, hb, hc, .inl ⟨hn, ?_⟩⟩
      split at q
      · rename_i d el
        obtain ⟨v, e2, rv⟩ := (repF_look rf).1 d el
        exact ⟨v, e2, q v H1 { env := newO_false.symm ▸ c.env, kp := c.kp, dm := c.dm, to := c.to, new := fun z => Bool.noConfusion z, rd := fun _ => .inl rv, rep := fun _ _ => rv }⟩
      · exact q.elim
    · rename_i fn eo
      obtain ⟨hc, hio, har, p, g, fd, ps, j, hj, hp, hps, F, hbd⟩ := hO C f _ eo
      split at q
      · exact q.elim
      rename_i hrd
      have hrd : ma.isRd = false := by simpa using hrd
      refine ⟨b, _, dx, ws, rfl, hb, hc, .inr ⟨p, g, fd, ps, _, j, hj, hp, hps, F, hbd, ?_⟩⟩
      refine run_core (m := .fld ma f) hio (by rw [har]; rfl) c (ds := [.ins C fs]) ?_ ?_
      · simp only [Reps]
        have rr := p1.rep hrd
        rw [e1] at rr
        exact ⟨_, _, rfl, rr, rfl⟩
      · unfold runF at q
        rw [e1] at q
        cases z : fn.run [.ins C fs] with
        | stuck => rw [z] at q; exact q
        | exn x s => rw [z] at q; exact q.elim
        | ok d s => rw [z] at q; exact q
    · exact q.elim
  · exact q.elim
theorem snd_meth {o : Expr} {m : Str} {es : List Expr} {ap pos : Pos} {mo : ME} {ms : List ME} {L : Nat} {pl : Sem Bool} (hO : OwnOk Φ X L) (hr : Room L X.A) (hgd : X.A.guards = some []) (tk : Takes X W) (hrd : mo.isRd = false)
    (ht : eval (.Call (.Attribute o m ap) es [] pos) X.env = (do
      let ov ← eval o X.env
      standAt ap.atName
      let (f, first) ← holding [ov] (getMethod ov m pl)
      callWith pos f first (backTo pos (starEach es X.env)) (backToKw pos (keywordEach [] X.env))))
    (ho : SndE Φ X W o mo) (hst : ∀ e ∈ es, notStar e = true) (h : SndL Φ X W es ms) (hlen : es.length = ms.length) : SndE Φ X W (.Call (.Attribute o m ap) es [] pos) (.meth mo m ms) := by
  intro O ρ σ H Q E q
  simp only [evE] at q
  -- the receiver, and what is left of the run behind it
  have step : ∀ {t : TA} (_ : ∀ (x : Bool × D) (fn : Fn) (ρ1 : Vn) (v1 : V) (H1 : Hp), PostS X.K O ρ σ H mo x.2 ρ1 v1 H1 → fn.io = false →
        ((evL Φ ms ρ1).bind fun ds ρ => if ds.length + 1 = fn.ar then runF fn (x.2 :: ds) ρ else .stuck).holds (fun a ρ' => ∀ v H', PostE X.K O ρ σ H (.meth mo m ms) a.1 a.2 ρ' v H' → Q v H') (fun x ρ' => ∀ od H', PostX X.K O ρ σ H x ρ' od H' → W (.ref (He.ga X.K x.C)) od σ H') →
        t σ H1 fun vs H2 => spF X.K fn (v1 :: vs) H2 Q fun c d H => W c d σ H), tMethA X L m (fun σ c d H => W c d σ H) (WE X o) t σ H Q := fun {t} k => by
    refine ho.bd (PostC.refl (st := true) E) q fun x ρ1 v1 H1 p1 q => ?_
    obtain ⟨fn, ef, q⟩ := holds_of q
    unfold methOf at ef
    split at ef
    · rename_i C fs e1
      split at ef
      · rename_i fn' eo
        split at ef
        · rename_i hl
          cases ef
          have r1 := p1.rd
          rw [e1] at r1
          obtain ⟨b, dx, ws, rfl, hb, rf⟩ := r1.ins vis_le
          obtain ⟨hc, hio, f, hm, F⟩ := hO C m _ eo
          exact ⟨b, _, dx, ws, f, _, rfl, hb, hc, hm, (repF_look rf).2 hl, F, k x fn ρ1 (.ref b) H1 p1 hio q⟩
        · cases ef
      · cases ef
    · cases ef
  have fin : ∀ (x : Bool × D) (fn : Fn) (ρ1 ρ2 : Vn) (v1 : V) (H1 H2 : Hp) (ds : List D) (vs : List V), PostS X.K O ρ σ H mo x.2 ρ1 v1 H1 → fn.io = false → PostC X.K O ρ1 σ H1 (stillL ms) ρ2 H2 → Reps X.K (vis (Hid O ρ2 σ) H2) ds vs →
      (if ds.length + 1 = fn.ar then runF fn (x.2 :: ds) ρ2 else Res.stuck).holds (fun a ρ' => ∀ v H', PostE X.K O ρ σ H (.meth mo m ms) a.1 a.2 ρ' v H' → Q v H') (fun x ρ' => ∀ od H', PostX X.K O ρ σ H x ρ' od H' → W (.ref (He.ga X.K x.C)) od σ H') →
      spF X.K fn (v1 :: vs) H2 Q (fun c d H => W c d σ H) := fun x fn ρ1 ρ2 v1 H1 H2 ds vs p1 hio c2 r q => by
    split at q
    · rename_i hc
      have c : PostC X.K O ρ σ H (ME.meth mo m ms).still ρ2 H2 := by simpa only [ME.still] using p1.c.trans c2
      refine run_core (m := .meth mo m ms) hio (by simpa using hc) c (ds := x.2 :: ds) ?_ ?_
      · simp only [Reps]
        exact ⟨_, _, rfl, (p1.rep hrd).ext c2.ext, r⟩
      · unfold runF at q
        cases z : fn.run (x.2 :: ds) with
        | stuck => rw [z] at q; exact q
        | exn y s => rw [z] at q; exact q
        | ok d s => rw [z] at q; exact q
    · exact q.elim
  cases es with
  | nil =>
    have hm : ms = [] := by cases ms with
      | nil => rfl
      | cons => cases hlen
    subst hm
    refine WE.by (pe_methA0 hr hgd pe_w (fun σ => passG tk σ) ht) (step fun x fn ρ1 v1 H1 p1 hio q => ?_)
    simp only [evL, Res.bind_ok] at q
    exact fin x fn ρ1 ρ1 v1 H1 H1 [] [] p1 hio (PostC.refl p1.env) (by simp only [Reps]) q
  | cons e es =>
    refine WE.by (pe_methA hr hgd pe_w (fun σ => passG tk σ) pa_w (starAt (hst e (List.mem_cons_self ..)) _) (backAny (fun y hy => hst y (List.mem_cons_of_mem _ hy)) _ _) ht) (step fun x fn ρ1 v1 H1 p1 hio q => ?_)
    refine h O ρ1 σ H1 _ p1.env (Res.holds_mono (Res.holds_bind q) (fun ds ρ2 z vs H2 c2 r => fin x fn ρ1 ρ2 v1 H1 H2 ds vs p1 hio c2 r z) fun x ρ' z od H' p => z od H' (p.fromC p1.c))
theorem few_all {es : List Expr} (hst : ∀ e ∈ es, notStar e = true) (hl : es.length < 30) (env : PySem.Env) (pos : Pos) : methodCallForm (es.length + ([] : List Keyword).length) (backTo pos (starEach es env)) (backToKw pos (keywordEach [] env)) = true := by
  have h := backAny hst env pos
  have h2 : (backTo pos (starEach es env)).all (fun x => !x.1) = true := by
    rw [List.all_eq_true]
    intro x hx
    rw [List.any_eq_false] at h
    simpa using h x hx
  have hk : backToKw pos (keywordEach [] env) = [] := rfl
  unfold methodCallForm
  rw [h2, hk]
  simpa using hl
theorem meth_ht {o : Expr} {m : Str} {es : List Expr} {ap pos : Pos} (hd : dotBase o = true) (hst : ∀ e ∈ es, notStar e = true) (hl : es.length < 30) (hp : (ap.endLine == pos.line) = true) (env : PySem.Env) : eval (.Call (.Attribute o m ap) es [] pos) env = (do
      let ov ← eval o env
      standAt ap.atName
      let (f, first) ← holding [ov] (getMethod ov m (do return (← importBound o env).getD true))
      callWith pos f first (backTo pos (starEach es env)) (backToKw pos (keywordEach [] env))) := by
  have hf := few_all hst hl env pos
  have core : ∀ ov, methodCall o m ap pos env ov (es.length + ([] : List Keyword).length) (backTo pos (starEach es env)) (backToKw pos (keywordEach [] env)) = (do
      let (f, first) ← holding [ov] (getMethod ov m (do return (← importBound o env).getD true))
      callWith pos f first (backTo pos (starEach es env)) (backToKw pos (keywordEach [] env))) := fun ov => by
    unfold methodCall
    rw [hf]
    have hq : methodCallPos true o env ap pos = pure pos := by
      unfold methodCallPos
      rw [hp]; rfl
    rw [hq]
    rfl
  cases o with
  | Name x xp =>
    show (do
      let ov ← eval (.Name x xp) env
      standAt ap.atName
      methodCall _ m ap pos env ov _ _ _) = _
    simp only [core]
  | Attribute x y xp =>
    show (do
      let ov ← eval (.Attribute x y xp) env
      standAt ap.atName
      methodCall _ m ap pos env ov _ _ _) = _
    simp only [core]
  | Subscript x y xp =>
    show (do
      let ov ← eval (.Subscript x y xp) env
      standAt ap.atName
      methodCall _ m ap pos env ov _ _ _) = _
    simp only [core]
  | _ => cases hd
theorem snd_methD {o : Expr} {m : Str} {es : List Expr} {ap pos : Pos} {mo : ME} {ms : List ME} {L : Nat} (hO : OwnOk Φ X L) (hr : Room L X.A) (hgd : X.A.guards = some []) (tk : Takes X W) (hrd : mo.isRd = false) (hd : dotBase o = true) (hl : es.length < 30) (hp : (ap.endLine == pos.line) = true)
    (ho : SndE Φ X W o mo) (hst : ∀ e ∈ es, notStar e = true) (h : SndL Φ X W es ms) (hlen : es.length = ms.length) : SndE Φ X W (.Call (.Attribute o m ap) es [] pos) (.meth mo m ms) :=
  snd_meth hO hr hgd tk hrd (meth_ht hd hst hl hp X.env) ho hst h hlen
/-! ### stars in displays -/
def SndX (Φ : Tab) (X : Cx) (W : WX) (es : List Expr) (fl : List Bool) (ms : List ME) : Prop := ∀ (O : Addr → Prop) (ρ : Vn) (σ : L2.St) (H : Hp) (Q : List V → Hp → Prop), EnvOk X.K O ρ σ H →
  (evX Φ fl ms ρ).holds (fun ds ρ' => ∀ vs H', PostC X.K O ρ σ H (stillL ms) ρ' H' → Reps X.K (vis (Hid O ρ' σ) H') ds vs → Q vs H') (fun x ρ' => ∀ od H', PostX X.K O ρ σ H x ρ' od H' → W (.ref (He.ga X.K x.C)) od σ H') → WA X es σ H Q
theorem sndX_nil : SndX Φ X W [] [] [] := by
  intro O ρ σ H Q E q
  simp only [evX] at q
  exact WA.by pa_nil (q [] H (PostC.refl E) (by simp only [Reps]))
theorem sndX_bd {es : List Expr} {fl : List Bool} {ms : List ME} (h : SndX Φ X W es fl ms) {O : Addr → Prop} {ρ0 ρ : Vn} {σ : L2.St} {H0 H : Hp} {st : Bool} {Q : List V → Hp → Prop} (c : PostC X.K O ρ0 σ H0 st ρ H) {P : List D → Vn → Prop} {g : List D → List D}
    (q : ((evX Φ fl ms ρ).bind fun xs ρ => .ok (g xs) ρ).holds P (fun x ρ' => ∀ od H', PostX X.K O ρ0 σ H0 x ρ' od H' → W (.ref (He.ga X.K x.C)) od σ H'))
    (k : ∀ ds ρ' vs H', PostC X.K O ρ σ H (stillL ms) ρ' H' → Reps X.K (vis (Hid O ρ' σ) H') ds vs → P (g ds) ρ' → Q vs H') : WA X es σ H Q :=
  h O ρ σ H _ c.env (Res.holds_mono (Res.holds_bind q) (fun ds ρ' z vs H' c2 r => k ds ρ' vs H' c2 r z) fun x ρ' z od H' p => z od H' (p.fromC c))
theorem sndX_one {e : Expr} {es : List Expr} {fl : List Bool} {m : ME} {ms : List ME} (hs : notStar e = true) (he : SndE Φ X W e m) (hes : SndX Φ X W es fl ms) (hr : m.isRd = false) : SndX Φ X W (e :: es) (false :: fl) (m :: ms) := by
  intro O ρ σ H Q E q
  simp only [evX, List.headD_cons, Bool.false_eq_true, if_false, List.tail_cons] at q
  refine WA.by (pa_cons pe_w pa_w (starAt hs _)) ?_
  refine he.bd (PostC.refl (st := true) E) q fun x ρ1 v1 H1 p1 q => ?_
  refine sndX_bd hes p1.c q fun ds ρ2 vs H2 c r q => ?_
  refine q (v1 :: vs) H2 (by rw [stillL_cons]; exact p1.c.trans c) ?_
  simp only [Reps]
  exact ⟨v1, vs, rfl, (p1.rep hr).ext c.ext, r⟩
theorem sndX_star {e : Expr} {p : Pos} {es : List Expr} {fl : List Bool} {m : ME} {ms : List ME} (he : SndE Φ X W e m) (hes : SndX Φ X W es fl ms) : SndX Φ X W (.Starred e p :: es) (true :: fl) (m :: ms) := by
  intro O ρ σ H Q E q
  simp only [evX, List.headD_cons, if_true, List.tail_cons] at q
  refine WA.by (StX.pa_star pe_w pa_w) ?_
  refine he.bd (PostC.refl (st := true) E) q fun x ρ1 v1 H1 p1 q => ?_
  obtain ⟨ys, ey, q⟩ := holds_of q
  have src : ∃ a ws, v1 = .ref a ∧ (SqT X.K H1 a ws ∨ SqL X.K H1 a ws) ∧ Reps X.K (vis (Hid O ρ1 σ) H1) ys ws := by
    have r1 := p1.rd
    unfold seqD at ey
    split at ey
    · rename_i ds e1
      cases ey
      rw [e1] at r1
      obtain ⟨a, vs, rfl, s, rs⟩ := r1.lst vis_le
      exact ⟨a, vs, rfl, .inr s, rs⟩
    · rename_i ds e1
      cases ey
      rw [e1] at r1
      rcases r1 with r1 | ⟨_, _, r1⟩
      · simp only [Rep] at r1
        obtain ⟨a, vs, rfl, s, rs⟩ := r1
        exact ⟨a, vs, rfl, .inl (sqT_ext vis_le s), rs⟩
      · exact r1.elim
    · cases ey
  obtain ⟨a, ws, rfl, hq, rs⟩ := src
  refine ⟨a, ws, rfl, hq, ?_⟩
  refine sndX_bd (g := fun xs => ys ++ xs) hes p1.c q fun ds ρ2 vs H2 c r q => ?_
  exact q (ws ++ vs) H2 (by rw [stillL_cons]; exact p1.c.trans c) ((rs.ext c.ext).append r)
theorem snd_stup {es : List Expr} {fl : List Bool} {ms : List ME} {k : Nat} {pos : Pos} (h : SndX Φ X W es fl ms) : SndE Φ X W (.Tuple es k pos) (.stup fl ms) := by
  intro O ρ σ H Q E q
  simp only [evE] at q
  have lz : lim ≤ sizeLine := by rw [PySem.sizeLine_eq]; decide
  refine WE.by (pe_tup pa_w) ?_
  refine h O ρ σ H _ E (Res.holds_mono (Res.holds_bind q) (fun ds ρ' z vs H' c r => ?_) fun x ρ' z => z)
  split at z
  · rename_i hl
    have c2 : PostC X.K O ρ σ H (ME.stup fl ms).still ρ' H' := by simpa only [ME.still] using c
    exact ⟨by rw [← r.length]; omega, fun p hp => z _ _ (PostC.made (m := .stup fl ms) c2 (.tup hp r))⟩
  · exact z.elim
theorem snd_slst {es : List Expr} {fl : List Bool} {ms : List ME} {pos : Pos} (h : SndX Φ X W es fl ms) : SndE Φ X W (.List es pos) (.slst fl ms) := by
  intro O ρ σ H Q E q
  simp only [evE] at q
  have lz : lim ≤ sizeLine := by rw [PySem.sizeLine_eq]; decide
  refine WE.by (pe_lst pa_w) ?_
  refine h O ρ σ H _ E (Res.holds_mono (Res.holds_bind q) (fun ds ρ' z vs H' c r => ?_) fun x ρ' z => z)
  split at z
  · rename_i hl
    have c2 : PostC X.K O ρ σ H (ME.slst fl ms).still ρ' H' := by simpa only [ME.still] using c
    exact ⟨by rw [← r.length]; omega, fun p hp => z _ _ (PostC.made (m := .slst fl ms) c2 (.lst hp r))⟩
  · exact z.elim
end
end Z

namespace Z
open PySem PySem.Spec L2
open PyProof.Rows hiding St
section
variable {Φ : Tab} {X : Cx} {W : WX}
theorem snd_bi {f : Str} {key : String} {a : Expr} {p pos : Pos} {m : ME} (hca : X.calm = true) (hgd : X.A.guards = some []) (hu : X.A.units + 80 < cLine) (hb : (∃ id, bootBuiltins f = some (.builtin id) ∧ biVal key = .builtin id) ∨ ∃ T, bootBuiltins f = some (.type T) ∧ biVal key = .type T)
    (hg : Gl X f) (hm : X.mg f = none) (hn : f ≠ "__name__") (hdb : (f == ("__debug__" : Str)) = false) (hs : notStar a = true) (h : SndE Φ X W a m) : SndE Φ X W (.Call (.Name f p) [a] [] pos) (.bi key [m]) := by
  intro O ρ σ H Q E q
  have e0 : evE Φ (.bi key [m]) ρ = (evE Φ m ρ).bind fun x ρ => ofOpt (biD key [x.2]) ρ := by
    simp only [evE, evL]
    cases evE Φ m ρ <;> rfl
  rw [e0] at q
  have core : WE X a σ H (fun x H1 => WCall X (biVal key) [x] H1 Q) := by
    refine h.bd (PostC.refl (st := true) E) q fun x ρ1 v1 H1 p1 q => ?_
    · obtain ⟨⟨fl, d⟩, e, q⟩ := holds_opt q
      exact biD_ok hca hgd hu vis_le p1.rd e fun v H' h => q _ _ (PostC.made (m := .bi key [m]) (by simpa only [ME.still, stillL, Bool.and_true] using p1.c) h)
  rcases hb with ⟨id, h1, h2⟩ | ⟨T, h1, h2⟩
  · rw [h2] at core
    exact WE.by (pe_callB call_w hg hm h1 (pa_cons pe_w pa_nil (starAt hs _)) hn hdb (starAt hs _)) core
  · rw [h2] at core
    exact WE.by (pe_callTy call_w hg hm h1 (pa_cons pe_w pa_nil (starAt hs _)) hn hdb (starAt hs _)) core
/-- max, min of two -/
theorem biD_max2 {d1 d2 : D} {fl : Bool} {d : D} (h : biD "max" [d1, d2] = some (fl, d)) : ∃ i j, d1 = .int i ∧ d2 = .int j ∧ fl = false ∧ d = .int (if i < j then j else i) := by
  cases d1 <;> cases d2 <;> first | (cases h; exact ⟨_, _, rfl, rfl, rfl, rfl⟩) | cases h
theorem biD_min2 {d1 d2 : D} {fl : Bool} {d : D} (h : biD "min" [d1, d2] = some (fl, d)) : ∃ i j, d1 = .int i ∧ d2 = .int j ∧ fl = false ∧ d = .int (if j < i then j else i) := by
  cases d1 <;> cases d2 <;> first | (cases h; exact ⟨_, _, rfl, rfl, rfl, rfl⟩) | cases h
theorem snd_bi2 {f : Str} {key id : String} {a b : Expr} {p pos : Pos} {ms : List ME} (op : Int → Int → Int) (hr : CallR X (.builtin id) (fun xs H Q => ∃ i j, xs = [.int i, .int j] ∧ Q (.int (op i j)) H)) (hk : ∀ d1 d2 fl d, biD key [d1, d2] = some (fl, d) → ∃ i j, d1 = .int i ∧ d2 = .int j ∧ fl = false ∧ d = .int (op i j))
    (hg : Gl X f) (hm : X.mg f = none) (hv : bootBuiltins f = some (.builtin id)) (hn : f ≠ "__name__") (hdb : (f == ("__debug__" : Str)) = false)
    (hs : ∀ e ∈ [a, b], notStar e = true) (h : SndL Φ X W [a, b] ms) (hl : ms.length = 2) : SndE Φ X W (.Call (.Name f p) [a, b] [] pos) (.bi key ms) := by
  intro O ρ σ H Q E q
  simp only [evE] at q
  refine WE.by (pe_callB hr hg hm hv (pa_w (es := [a, b])) hn hdb (starAt (hs a (by simp)) _) (backAny (es := [b]) (fun y hy => hs y (List.mem_cons_of_mem _ hy)) _ _)) ?_
  have q2 := sndL_len (Res.holds_bind q)
  refine h O ρ σ H _ E (Res.holds_mono q2 (fun ds ρ1 z vs H1 c r => ?_) fun x ρ' z => z)
  obtain ⟨zl, z⟩ := z
  obtain ⟨⟨fl, d⟩, e, q⟩ := holds_opt (show (ofOpt (biD key ds) ρ1).holds _ _ from z)
  rw [hl] at zl
  match ds, zl with
  | [d1, d2], _ =>
    obtain ⟨i, j, rfl, rfl, rfl, rfl⟩ := hk d1 d2 fl d e
    simp only [Reps, Rep] at r
    obtain ⟨v, t, rfl, rfl, v', t', rfl, rfl, rfl⟩ := r
    have c2 : PostC X.K O ρ σ H (ME.bi key ms).still ρ1 H1 := by simpa only [ME.still] using c
    exact ⟨i, j, rfl, q _ _ (c2.scal (m := .bi key ms) rfl)⟩
theorem snd_max2 {a b : Expr} {p pos : Pos} {ms : List ME} (hca : X.calm = true) (hg : Gl X "max") (hm : X.mg "max" = none) (hs : ∀ e ∈ [a, b], notStar e = true) (h : SndL Φ X W [a, b] ms) (hl : ms.length = 2) : SndE Φ X W (.Call (.Name "max" p) [a, b] [] pos) (.bi "max" ms) :=
  snd_bi2 (fun i j => if j > i then j else i) (call_max2 hca) (fun _ _ _ _ h => biD_max2 h) hg hm (by decide +kernel) (by decide) (by decide) hs h hl
theorem snd_min2 {a b : Expr} {p pos : Pos} {ms : List ME} (hca : X.calm = true) (hg : Gl X "min") (hm : X.mg "min" = none) (hs : ∀ e ∈ [a, b], notStar e = true) (h : SndL Φ X W [a, b] ms) (hl : ms.length = 2) : SndE Φ X W (.Call (.Name "min" p) [a, b] [] pos) (.bi "min" ms) :=
  snd_bi2 (fun i j => if j < i then j else i) (call_min2 hca) (fun _ _ _ _ h => biD_min2 h) hg hm (by decide +kernel) (by decide) (by decide) hs h hl
/-! ### isinstance -/
def tyName : D → String
  | .non => "NoneType" | .bl _ => "bool" | .int _ => "int" | .str _ => "str" | .tup _ => "tuple" | .lst _ => "list" | .dct _ => "dict" | _ => "?"
theorem isiD_kit {d : D} {c : String} {b : Bool} (h : isiD d c = some b) (hc : c = "int" ∨ c = "bool" ∨ c = "str" ∨ c = "tuple" ∨ c = "list" ∨ c = "dict") : kitB (tyName d) c = some b ∧ tyName d ≠ "?" := by
  cases d <;> simp only [isiD] at h <;> (try (cases h; done)) <;> rcases hc with rfl | rfl | rfl | rfl | rfl | rfl <;> simp at h <;> subst h <;> (refine ⟨?_, by simp [tyName]⟩; simp only [tyName]; decide +kernel)
theorem RdOk.tyx {K : PySem.W.Frag} {G H : Hp} {d : D} {v : V} (x : Ext G H) (h : RdOk K G H d v) (hn : tyName d ≠ "?") : TyX K H v (.type (tyName d)) := by
  cases d with
  | non => cases h.scal rfl; exact .base .non
  | bl b => cases h.scal rfl; exact .base (.bl b)
  | int b => cases h.scal rfl; exact .base (.int b)
  | str b => cases h.scal rfl; exact .base (.str b)
  | tup ds =>
    rcases h with h | ⟨_, _, h⟩
    · simp only [Rep] at h
      obtain ⟨a, vs, rfl, s, _⟩ := h
      rcases sqT_ext x s with (e | ⟨o, e⟩) | ⟨o, its, n, e, c, _⟩
      · exact .base (.tup e)
      · exact .fTuple e
      · exact .kTuple e c
    · exact h.elim
  | lst ds =>
    obtain ⟨a, vs, rfl, s, _⟩ := h.lst x
    rcases s with (e | ⟨o, e⟩) | ⟨o, its, n, e, c, _⟩
    · exact .base (.lst e)
    · exact .base (.frz e)
    · exact .kList e c
  | dct ds =>
    obtain ⟨a, vs, rfl, s, _⟩ := h.dct x
    rcases s with e | ⟨o, e⟩
    · exact .base (.dK e)
    · exact .fDict e
  | dcT _ => exact absurd rfl hn
  | ins _ _ => exact absurd rfl hn
theorem snd_isi {a : Expr} {C : Str} {c : String} {p p2 pos : Pos} {m : ME} (hg : Gl X "isinstance") (hm : X.mg "isinstance" = none) (hgC : Gl X C) (hmC : X.mg C = none) (hvC : bootBuiltins C = some (.type c))
    (hC1 : C ≠ "__name__") (hC2 : (C == ("__debug__" : Str)) = false)
    (hc : c = "int" ∨ c = "bool" ∨ c = "str" ∨ c = "tuple" ∨ c = "list" ∨ c = "dict") (hs : notStar a = true) (h : SndE Φ X W a m) : SndE Φ X W (.Call (.Name "isinstance" p) [a, .Name C p2] [] pos) (.isi m [c]) := by
  intro O ρ σ H Q E q
  simp only [evE] at q
  refine WE.by (pe_callB call_isi hg hm (by decide +kernel) (pa_cons pe_w (pa_cons (pe_bltn (v := .ty c) hgC hmC hvC rfl hC1 hC2) pa_nil) (starAt hs _)) (he := starAt hs _)) ?_
  refine h.bd (PostC.refl (st := true) E) q fun x ρ1 v1 H1 p1 q => ?_
  obtain ⟨b, e, q⟩ := holds_of q
  obtain ⟨k, hn⟩ := isiD_kit e hc
  exact ⟨v1, .ty c, _, _, b, rfl, .ty c, p1.rd.tyx vis_le hn, kit_ty k, q _ _ (PostC.scal (m := .isi m [c]) (by simpa only [ME.still] using p1.c) rfl)⟩
/-! ### walks -/
def WI (X : Cx) (tg iter : Expr) : TI := fun σ H R => ∀ pins s, Inv X pins σ H s → wpAny (model X.prog X.w) X.A (eval iter X.env) (fun v s1 => wpAny (model X.prog X.w) X.A (pyIter v) (PIE X pins σ tg R) X.xe s1) X.xe s
theorem pi_w {tg iter : Expr} : PI X tg iter (WI X tg iter) := ⟨fun pins s σ H R I h => h pins s I⟩
theorem WI.by {tg iter : Expr} {wi : TI} (h : PI X tg iter wi) {σ : L2.St} {H : Hp} {R : It → Hp → Prop} (q : wi σ H R) : WI X tg iter σ H R := fun pins s I => h.run pins s σ H R I q
/-- what comes at turn i -/
def YOk (K : PySem.W.Frag) (G0 : Hp) (xs : List D) (i : Nat) (Hc : Hp) (x : V) (Hn : Hp) : Prop :=
  (Hn = Hc ∧ ∃ d, xs[i]? = some d ∧ Rep K G0 d x) ∨ ∃ T a b va vb, xs[i]? = some (.tup [a, b]) ∧ x = .ref T ∧ Hc T = none ∧ Hn = upd Hc T (.tup [va, vb]) ∧ Rep K G0 a va ∧ Rep K G0 b vb
/-- the walk's own steps, while nothing but what ρ may write is written -/
def WalkOk (K : PySem.W.Frag) (G0 : Hp) (Wr : Addr → Prop) (H0 : Hp) (J : It) (xs : List D) : Prop := Walk J xs.length (fun Hc => Kp Wr H0 Hc) (YOk K G0 xs)
/-- the dict that is walked is locked (fl: there may be one) -/
inductive Lk (X : Cx) (fl : Bool) (Wr : Addr → Prop) (H : Hp) : Hp → Prop
  | no : Lk X fl Wr H H
  | yes (d : Addr) (ws : List (Key × V)) (od : Obj) (hf : fl = true) (e : H d = some (.dK ws)) (nf : ∀ o' u', X.H_0 d ≠ some (.frz o' u')) (nw : ¬ Wr d) : Lk X fl Wr H (upd H d (.frz od (.dK ws)))
abbrev itR (Φ : Tab) (k : Nat) (ms : List ME) (ρ : Vn) : Res (Bool × List D) := (evL Φ ms ρ).bind fun ds ρ => ofOpt ((itD k (fresh ρ ms ds)).map fun xs => (dctSrc (fresh ρ ms ds), xs)) ρ
def SndI (Φ : Tab) (X : Cx) (W : WX) (tg iter : Expr) (k : Nat) (ms : List ME) : Prop := ∀ (O : Addr → Prop) (ρ : Vn) (σ : L2.St) (H : Hp) (R : It → Hp → Prop), EnvOk X.K O ρ σ H →
  (itR Φ k ms ρ).holds (fun xs ρ' => ∀ J H' Hl, PostC X.K O ρ σ H (stillL ms) ρ' H' → Lk X xs.1 (WrA (lockV ρ' (rdIdx ms)) σ) H' Hl → WalkOk X.K (vis (Hid O ρ' σ) Hl) (WrA (lockV ρ' (rdIdx ms)) σ) Hl J xs.2 → R J Hl)
    (fun x ρ' => ∀ od H', PostX X.K O ρ σ H x ρ' od H' → W (.ref (He.ga X.K x.C)) od σ H') → WI X tg iter σ H R
/-! ### locks that a reading sets, and takes off -/
def tLk (X : Cx) (t : TE) : TE := fun σ H Q => t σ H fun v H1 => Q v H1 ∨ ∃ d ws, H1 d = some (.dK ws) ∧ ∀ od, (∀ o' u', X.H_0 d ≠ some (.frz o' u')) → Q v (upd H1 d (.frz od (.dK ws)))
theorem pe_lk {e : Expr} {t : TE} (h : PE X e t) : PE X e (tLk X t) := by
  refine ⟨fun pins s σ H Q I hw => ?_⟩
  refine thn (h.run pins s σ H _ I hw) fun v s1 ⟨x, H1, I1, r, q⟩ => ?_
  rcases q with q | ⟨d, ws, hd, q⟩
  · exact ⟨x, H1, I1, r, q⟩
  · obtain ⟨od, I2⟩ := I1.lock hd trivial
    exact ⟨x, _, I2, r, q od (I1.nofrz hd trivial)⟩
/-- .. with a lock taken off -/
def UnL (X : Cx) (P : Hp → Prop) (H : Hp) : Prop := P H ∨ ∃ d od ws, H d = some (.frz od (.dK ws)) ∧ (∀ o' u', X.H_0 d ≠ some (.frz o' u')) ∧ P (upd H d (.dK ws))
theorem pe_unl {e : Expr} {t : TE} (h : PE X e t) : PE X e (fun σ H Q => t σ H fun v H' => UnL X (Q v) H') := by
  refine ⟨fun pins s σ H Q I hw => ?_⟩
  refine thn (h.run pins s σ H _ I hw) fun v s1 ⟨x, H1, I1, r, q⟩ => ?_
  rcases q with q | ⟨d, od, ws, hd, nf, q⟩
  · exact ⟨x, H1, I1, r, q⟩
  · exact ⟨x, _, I1.unlock hd nf, r, q⟩
def EndsU (X : Cx) (D : Ends) : Ends := ⟨fun σ' H' => UnL X (D.nx σ') H', fun v H' => UnL X (D.rt v) H', fun σ' H' => UnL X (D.bk σ') H', fun σ' H' => UnL X (D.ct σ') H'⟩
theorem ps_unl {st : Stmt} {t : TS} (h : PS X st t) : PS X st (fun D σ H => t (EndsU X D) σ H) := by
  refine ⟨fun pins s σ H D I hw => ?_⟩
  refine thn (h.run pins s σ _ _ I hw) fun f s1 q => ?_
  have un : ∀ {σ' : L2.St} {H' : Hp} {P : Hp → Prop}, Inv X pins σ' H' s1 → UnL X P H' → ∃ H'', Inv X pins σ' H'' s1 ∧ P H'' := fun {σ' H' P} I q => by
    rcases q with q | ⟨d, od, ws, hd, nf, q⟩
    · exact ⟨H', I, q⟩
    · exact ⟨_, I.unlock hd nf, q⟩
  cases f with
  | next => obtain ⟨σ', H', I2, q⟩ := q; obtain ⟨H'', I3, q⟩ := un I2 q; exact ⟨σ', _, I3, q⟩
  | brk => obtain ⟨σ', H', I2, q⟩ := q; obtain ⟨H'', I3, q⟩ := un I2 q; exact ⟨σ', _, I3, q⟩
  | cont => obtain ⟨σ', H', I2, q⟩ := q; obtain ⟨H'', I3, q⟩ := un I2 q; exact ⟨σ', _, I3, q⟩
  | ret v => obtain ⟨x, σ', H', I2, r, q⟩ := q; obtain ⟨H'', I3, q⟩ := un I2 q; exact ⟨x, σ', _, I3, r, q⟩
end
end Z

namespace Z
open PySem PySem.Spec L2
open PyProof.Rows hiding St
section
variable {Φ : Tab} {X : Cx} {W : WX}
/-! ### sources of walks -/
/-- a source's value, until the walk begins -/
def SrcAt (K : PySem.W.Frag) (O : Addr → Prop) (ρ : Vn) (σ : L2.St) (H : Hp) (m : ME) (d : D) (v : V) : Prop := (∃ i, m = .rd i ∧ σ[i]? = some (some v)) ∨ (m.isRd = false ∧ Rep K (vis (Hid O ρ σ) H) d v)
theorem SrcAt.carry {K : PySem.W.Frag} {O : Addr → Prop} {ρ ρ' : Vn} {σ : L2.St} {H H' : Hp} {m : ME} {d : D} {v : V} {st : Bool} (h : SrcAt K O ρ σ H m d v) (c : PostC K O ρ σ H st ρ' H') : SrcAt K O ρ' σ H' m d v :=
  h.elim .inl fun ⟨a, b⟩ => .inr ⟨a, b.ext c.ext⟩
def SndS (Φ : Tab) (X : Cx) (W : WX) (e : Expr) (m : ME) : Prop := ∀ (O : Addr → Prop) (ρ0 ρ : Vn) (σ : L2.St) (H0 H : Hp) (st : Bool) (Q : VK), PostC X.K O ρ0 σ H0 st ρ H → ∀ {β : Type} {f : Bool × D → Vn → Res β} {P : β → Vn → Prop},
  ((evE Φ m ρ).bind f).holds P (fun x ρ' => ∀ od H', PostX X.K O ρ0 σ H0 x ρ' od H' → W (.ref (He.ga X.K x.C)) od σ H') →
  (∀ a ρ' v H', PostC X.K O ρ σ H m.still ρ' H' → SrcAt X.K O ρ' σ H' m a.2 v → (f a ρ').holds P (fun x ρ' => ∀ od H', PostX X.K O ρ0 σ H0 x ρ' od H' → W (.ref (He.ga X.K x.C)) od σ H') → Q v H') → WE X e σ H Q
theorem snds_of {e : Expr} {m : ME} (h : SndE Φ X W e m) (hr : m.isRd = false) : SndS Φ X W e m := fun O ρ0 ρ σ H0 H st Q c β f P q k => h.bd c q fun a ρ' v H' p q => k a ρ' v H' p.c (.inr ⟨hr, p.rep hr⟩) q
theorem snds_rd {x : Str} {i : Nat} {pos : Pos} (h : PE X (.Name x pos) (tVar i)) : SndS Φ X W (.Name x pos) (.rd i) := by
  intro O ρ0 ρ σ H0 H st Q c β f P q k
  refine WE.by h ?_
  simp only [evE] at q
  have fin : ∀ {d : D}, (∃ v, σ[i]? = some (some v)) → (f (false, d) ρ).holds P (fun x ρ' => ∀ od H', PostX X.K O ρ0 σ H0 x ρ' od H' → W (.ref (He.ga X.K x.C)) od σ H') → tVar i σ H Q := fun ⟨v, e⟩ q => ⟨v, e, k _ ρ v H (PostC.refl c.env) (.inl ⟨i, rfl, e⟩) q⟩
  split at q
  · obtain ⟨v, e, _⟩ := c.env.val i _ (by assumption)
    exact fin ⟨v, e⟩ q
  · obtain ⟨v, e, _⟩ := c.env.own i _ (by assumption)
    exact fin ⟨_, e⟩ q
  · obtain ⟨v, e, _⟩ := c.env.io i _ (by assumption)
    exact fin ⟨_, e⟩ q
  · obtain ⟨v, e, _⟩ := c.env.lkd i _ (by assumption)
    exact fin ⟨_, e⟩ q
  · exact q.elim
/-- the data that the walk sees -/
def Rfr (ρ : Vn) (m : ME) (d : D) : D := match m with
  | .rd i => (ρ[i]?.bind Sl.data).getD .non
  | _ => d
theorem fresh_cons {ρ : Vn} {m : ME} {ms : List ME} {d : D} {ds : List D} : fresh ρ (m :: ms) (d :: ds) = Rfr ρ m d :: fresh ρ ms ds := by
  cases m <;> rfl
theorem lockV_wr {ρ : Vn} {σ : L2.St} : ∀ {is : List Nat} {b : Addr}, WrA (lockV ρ is) σ b → WrA ρ σ b ∧ ∀ i ∈ is, ∀ (s : Sl), ρ[i]? = some s → s.isWr = true → (∀ (j k : Nat) (sj sk : Sl), ρ[j]? = some sj → ρ[k]? = some sk → sj.isOwn = true → sk.isOwn = true → σ[j]? = some (some (.ref b)) → σ[k]? = some (some (.ref b)) → j = k) → σ[i]? ≠ some (some (.ref b)) := by
  intro is
  have key : ∀ (is : List Nat) (j : Nat) (s : Sl), (lockV ρ is)[j]? = some s → s.isWr = true → ρ[j]? = some s ∧ j ∉ is := by
    intro is
    induction is with
    | nil => intro j s h w; exact ⟨h, by simp⟩
    | cons i is ih =>
      intro j s h w
      unfold lockV at h
      split at h
      · rcases getElem?_set_of h with ⟨rfl, rfl, _⟩ | ⟨ne, h⟩
        · cases w
        · obtain ⟨a, b⟩ := ih j s h w; exact ⟨a, by simp [ne, b]⟩
      · rcases getElem?_set_of h with ⟨rfl, rfl, _⟩ | ⟨ne, h⟩
        · cases w
        · obtain ⟨a, b⟩ := ih j s h w; exact ⟨a, by simp [ne, b]⟩
      · rename_i n1 n2
        obtain ⟨a, b⟩ := ih j s h w
        refine ⟨a, ?_⟩
        simp only [List.mem_cons, not_or]
        refine ⟨fun e => ?_, b⟩
        subst e
        cases s with
        | own d => exact n1 d h
        | io d => exact n2 d h
        | _ => cases w
  intro b ⟨j, s, h, w, e⟩
  obtain ⟨h1, h2⟩ := key is j s h w
  refine ⟨⟨j, s, h1, w, e⟩, fun i hi si hsi wi inj ei => ?_⟩
  have : j = i := inj j i s si h1 hsi (by cases s <;> first | rfl | cases w) (by cases si <;> first | rfl | cases wi) e ei
  subst this
  exact h2 hi
theorem lockV_wr2 {ρ : Vn} {σ : L2.St} {is : List Nat} {b : Addr} {i : Nat} {s : Sl} (inj : ∀ (i j : Nat) (a : Addr) (si sj : Sl), ρ[i]? = some si → ρ[j]? = some sj → si.isOwn = true → sj.isOwn = true → σ[i]? = some (some (.ref a)) → σ[j]? = some (some (.ref a)) → i = j)
    (hi : i ∈ is) (hs : ρ[i]? = some s) (ho : s.isOwn = true) (e : σ[i]? = some (some (.ref b))) : ¬ WrA (lockV ρ is) σ b := fun h => by
  obtain ⟨⟨j, sj, hj, wj, ej⟩, k⟩ := lockV_wr h
  have hjo : sj.isOwn = true := by cases sj <;> first | rfl | cases wj
  have : j = i := inj j i b sj s hj hs hjo ho ej e
  subst this
  exact k j hi sj hj wj (fun a c sa sc ha hc oa oc ea ec => inj a c b sa sc ha hc oa oc ea ec) e
theorem mem_rdIdx {i : Nat} : ∀ {ms : List ME}, .rd i ∈ ms → i ∈ rdIdx ms
  | m :: ms, h => by
    rcases List.mem_cons.mp h with rfl | h
    · simp only [rdIdx]; exact List.mem_cons_self ..
    · have := mem_rdIdx h
      cases m <;> simp only [rdIdx] <;> first | exact List.mem_cons_of_mem _ this | exact this
/-- a list that is walked: where it stands, and that it stays -/
theorem SrcAt.lst {K : PySem.W.Frag} {O : Addr → Prop} {ρ : Vn} {σ : L2.St} {H : Hp} {m : ME} {d : D} {v : V} {ms : List ME} {ds : List D} (E : EnvOk K O ρ σ H) (h : SrcAt K O ρ σ H m d v) (hm : m ∈ ms) (e : Rfr ρ m d = .lst ds) :
    ∃ a vs, v = .ref a ∧ SqL K H a vs ∧ Reps K (vis (Hid O ρ σ) H) ds vs ∧ ∀ Hc, Kp (WrA (lockV ρ (rdIdx ms)) σ) H Hc → SqL K Hc a vs := by
  have keep : ∀ {a : Addr} {vs : List V}, SqL K H a vs → ¬ WrA (lockV ρ (rdIdx ms)) σ a → ∀ Hc, Kp (WrA (lockV ρ (rdIdx ms)) σ) H Hc → SqL K Hc a vs := fun {a vs} s n Hc k => by
    rcases s with (s | ⟨o, s⟩) | s
    · exact .inl (.inl (k a _ n s))
    · exact .inl (.inr ⟨o, k a _ n s⟩)
    · exact .inr s
  have rp : ∀ {v : V}, Rep K (vis (Hid O ρ σ) H) (.lst ds) v → ∃ a vs, v = .ref a ∧ SqL K H a vs ∧ Reps K (vis (Hid O ρ σ) H) ds vs ∧ ∀ Hc, Kp (WrA (lockV ρ (rdIdx ms)) σ) H Hc → SqL K Hc a vs := fun {v} r => by
    simp only [Rep] at r
    obtain ⟨a, vs, e, s, r⟩ := r
    have nw : (∃ o its n, K.lookup a = some o ∧ o.cls = .type "list" ∧ o.dict = none ∧ o.data = .seq its n ∧ its.size ≤ sizeLine ∧ Vals vs its.toList) ∨ ¬ Hid O ρ σ a := by
      rcases s with (s | ⟨o, s⟩) | s
      · exact .inr (vis_some s).1
      · exact .inr (vis_some s).1
      · exact .inl s
    refine ⟨a, vs, e, sqL_ext vis_le s, r, ?_⟩
    rcases nw with z | z
    · exact fun Hc _ => .inr z
    · exact keep (sqL_ext vis_le s) fun y => z (.inr (lockV_wr y).1.own)
  rcases h with ⟨i, rfl, ev⟩ | ⟨hr, r⟩
  · have hmem : i ∈ rdIdx ms := mem_rdIdx hm
    simp only [Rfr] at e
    cases z : ρ[i]? with
    | none =>
      have : i < σ.length := (List.getElem?_eq_some_iff.mp ev).1
      rw [← E.len] at this
      rw [List.getElem?_eq_none_iff] at z
      omega
    | some s =>
      rw [z] at e
      have topc : ∀ {a : Addr}, s.isOwn = true → σ[i]? = some (some (.ref a)) → TopR K (vis (Hid O ρ σ) H) H (.lst ds) a → ∃ a vs, v = .ref a ∧ SqL K H a vs ∧ Reps K (vis (Hid O ρ σ) H) ds vs ∧ ∀ Hc, Kp (WrA (lockV ρ (rdIdx ms)) σ) H Hc → SqL K Hc a vs := fun {a} so ea t => by
        obtain ⟨vs, r, rs⟩ := t
        rw [ev] at ea; cases ea
        exact ⟨a, vs, rfl, .inl r, rs, keep (.inl r) (lockV_wr2 E.inj hmem z so ev)⟩
      cases s with
      | non =>
        simp only [Option.bind_some, Sl.data, Option.getD_none] at e
        cases e
      | val d' =>
        simp only [Option.bind_some, Sl.data, Option.getD_some] at e
        subst e
        obtain ⟨v', e', r⟩ := E.val i _ z
        rw [ev] at e'; cases e'
        exact rp r
      | own d' =>
        simp only [Option.bind_some, Sl.data, Option.getD_some] at e
        subst e
        obtain ⟨a, ea, t⟩ := E.own i _ z
        exact topc rfl ea t.r
      | io d' =>
        simp only [Option.bind_some, Sl.data, Option.getD_some] at e
        subst e
        obtain ⟨a, ea, _, t⟩ := E.io i _ z
        exact topc rfl ea t.r
      | lkd d' =>
        simp only [Option.bind_some, Sl.data, Option.getD_some] at e
        subst e
        obtain ⟨a, ea, t⟩ := E.lkd i _ z
        exact topc rfl ea t
  · have e2 : d = .lst ds := by cases m <;> first | exact e | cases hr
    subst e2
    exact rp r
/-- a dict that is walked -/
theorem SrcAt.dct {K : PySem.W.Frag} {O : Addr → Prop} {ρ : Vn} {σ : L2.St} {H : Hp} {m : ME} {d : D} {v : V} {ms : List ME} {ds : List (Key × D)} (E : EnvOk K O ρ σ H) (h : SrcAt K O ρ σ H m d v) (hm : m ∈ ms) (e : Rfr ρ m d = .dct ds) :
    ∃ a ws, v = .ref a ∧ Rd H a (.dK ws) ∧ RepK K (vis (Hid O ρ σ) H) ds ws ∧ ¬ WrA (lockV ρ (rdIdx ms)) σ a := by
  have rp : ∀ {v : V}, Rep K (vis (Hid O ρ σ) H) (.dct ds) v → ∃ a ws, v = .ref a ∧ Rd H a (.dK ws) ∧ RepK K (vis (Hid O ρ σ) H) ds ws ∧ ¬ WrA (lockV ρ (rdIdx ms)) σ a := fun {v} r => by
    simp only [Rep] at r
    obtain ⟨a, ws, e, s, r⟩ := r
    have nh : ¬ Hid O ρ σ a := by
      rcases s with s | ⟨o, s⟩
      · exact (vis_some s).1
      · exact (vis_some s).1
    exact ⟨a, ws, e, vis_le.rd _ _ rfl s, r, fun y => nh (.inr (lockV_wr y).1.own)⟩
  rcases h with ⟨i, rfl, ev⟩ | ⟨hr, r⟩
  · have hmem : i ∈ rdIdx ms := mem_rdIdx hm
    simp only [Rfr] at e
    cases z : ρ[i]? with
    | none =>
      have : i < σ.length := (List.getElem?_eq_some_iff.mp ev).1
      rw [← E.len] at this
      rw [List.getElem?_eq_none_iff] at z
      omega
    | some s =>
      rw [z] at e
      have topc : ∀ {a : Addr}, s.isOwn = true → σ[i]? = some (some (.ref a)) → TopR K (vis (Hid O ρ σ) H) H (.dct ds) a → ∃ a ws, v = .ref a ∧ Rd H a (.dK ws) ∧ RepK K (vis (Hid O ρ σ) H) ds ws ∧ ¬ WrA (lockV ρ (rdIdx ms)) σ a := fun {a} so ea t => by
        obtain ⟨ws, r, rs⟩ := t
        rw [ev] at ea; cases ea
        exact ⟨a, ws, rfl, r, rs, lockV_wr2 E.inj hmem z so ev⟩
      cases s with
      | non => simp only [Option.bind_some, Sl.data, Option.getD_none] at e; cases e
      | val d' =>
        simp only [Option.bind_some, Sl.data, Option.getD_some] at e
        subst e
        obtain ⟨v', e', r⟩ := E.val i _ z
        rw [ev] at e'; cases e'
        exact rp r
      | own d' =>
        simp only [Option.bind_some, Sl.data, Option.getD_some] at e
        subst e
        obtain ⟨a, ea, t⟩ := E.own i _ z
        exact topc rfl ea t.r
      | io d' =>
        simp only [Option.bind_some, Sl.data, Option.getD_some] at e
        subst e
        obtain ⟨a, ea, _, t⟩ := E.io i _ z
        exact topc rfl ea t.r
      | lkd d' =>
        simp only [Option.bind_some, Sl.data, Option.getD_some] at e
        subst e
        obtain ⟨a, ea, t⟩ := E.lkd i _ z
        exact topc rfl ea t
  · have e2 : d = .dct ds := by cases m <;> first | exact e | cases hr
    subst e2
    exact rp r
/-- a lock is not seen -/
theorem ext_lock {O : Addr → Prop} {H : Hp} {d : Addr} {ws : List (Key × V)} {od : Obj} (e : H d = some (.dK ws)) : Ext (vis O H) (vis O (upd H d (.frz od (.dK ws)))) := by
  refine ⟨fun b u hn r => ?_, fun b C dx fs h => ?_⟩
  · by_cases hb : b = d
    · subst hb
      rcases r with r | ⟨o, r⟩
      · obtain ⟨n, r⟩ := vis_some r
        rw [e] at r; cases r
        exact .inr ⟨od, by rw [vis_at n, upd_same]⟩
      · obtain ⟨n, r⟩ := vis_some r
        rw [e] at r; cases r
    · rcases r with r | ⟨o, r⟩
      · obtain ⟨n, r⟩ := vis_some r
        exact .inl (by rw [vis_at n, upd_ne hb]; exact r)
      · obtain ⟨n, r⟩ := vis_some r
        exact .inr ⟨o, by rw [vis_at n, upd_ne hb]; exact r⟩
  · obtain ⟨n, h⟩ := vis_some h
    have hb : b ≠ d := fun z => by subst z; rw [e] at h; cases h
    rw [vis_at n, upd_ne hb]; exact h
theorem ext_unlock {O : Addr → Prop} {H : Hp} {d : Addr} {ws : List (Key × V)} {od : Obj} (e : H d = some (.frz od (.dK ws))) : Ext (vis O H) (vis O (upd H d (.dK ws))) := by
  refine ⟨fun b u hn r => ?_, fun b C dx fs h => ?_⟩
  · by_cases hb : b = d
    · subst hb
      rcases r with r | ⟨o, r⟩
      · obtain ⟨n, r⟩ := vis_some r
        rw [e] at r; cases r; cases hn
      · obtain ⟨n, r⟩ := vis_some r
        rw [e] at r; cases r
        exact .inl (by rw [vis_at n, upd_same])
    · rcases r with r | ⟨o, r⟩
      · obtain ⟨n, r⟩ := vis_some r
        exact .inl (by rw [vis_at n, upd_ne hb]; exact r)
      · obtain ⟨n, r⟩ := vis_some r
        exact .inr ⟨o, by rw [vis_at n, upd_ne hb]; exact r⟩
  · obtain ⟨n, h⟩ := vis_some h
    have hb : b ≠ d := fun z => by subst z; rw [e] at h; cases h
    rw [vis_at n, upd_ne hb]; exact h
/-- a dict to be walked: locked, or under an earlier lock -/
theorem lk_dct {K : PySem.W.Frag} {O : Addr → Prop} {ρ : Vn} {σ : L2.St} {H : Hp} {ms : List ME} {kvs : List (Key × D)} {a : Addr} {ws : List (Key × V)} {td : Hp → Prop} (r : Rd H a (.dK ws)) (rk : RepK K (vis (Hid O ρ σ) H) kvs ws) (nw : ¬ WrA (lockV ρ (rdIdx ms)) σ a)
    (k : ∀ od Hl, Lk X true (WrA (lockV ρ (rdIdx ms)) σ) H Hl → Hl a = some (.frz od (.dK ws)) → RepK K (vis (Hid O ρ σ) Hl) kvs ws → td Hl) :
    td H ∨ ∃ d ws, H d = some (.dK ws) ∧ ∀ od, (∀ o' u', X.H_0 d ≠ some (.frz o' u')) → td (upd H d (.frz od (.dK ws))) := by
  rcases r with r | ⟨o, r⟩
  · exact .inr ⟨a, ws, r, fun od nf => k od _ (.yes a ws od rfl r nf nw) upd_same (rk.ext (ext_lock r))⟩
  · exact .inl (k o H .no r rk)
theorem walkOk_keys {K : PySem.W.Frag} {G0 : Hp} {Wr : Addr → Prop} {H0 : Hp} {a : Addr} {od : Obj} {ws : List (Key × V)} {kvs : List (Key × D)} (r : RepK K G0 kvs ws) (h : H0 a = some (.frz od (.dK ws))) (nw : ¬ Wr a) : WalkOk K G0 Wr H0 (Itk a od ws) (kvs.map fun kv => kD kv.1) := by
  unfold WalkOk
  rw [List.length_map, repK_len r]
  refine walk_keys.mono (fun Hc k => k a _ nw h) fun i Hc x Hn hi _ y => ?_
  obtain ⟨rfl, k, v, e, rfl⟩ := y
  have := (reps_keys r).getV (i := i) (v := kV k) (by rw [List.getElem?_map, e]; rfl)
  exact .inl ⟨rfl, this⟩
theorem repK_at {K : PySem.W.Frag} {G : Hp} : ∀ {kvs : List (Key × D)} {ws : List (Key × V)} {i : Nat} {k : Key} {v : V}, RepK K G kvs ws → ws[i]? = some (k, v) → ∃ d, kvs[i]? = some (k, d) ∧ Rep K G d v
  | [], _, _, _, _, r, e => by simp only [RepK] at r; subst r; simp at e
  | (k0, d0) :: kvs, _, i, k, v, r, e => by
    simp only [RepK] at r
    obtain ⟨v0, t, rfl, r0, r⟩ := r
    cases i with
    | zero => simp at e; obtain ⟨rfl, rfl⟩ := e; exact ⟨d0, rfl, r0⟩
    | succ i => simpa using repK_at r (by simpa using e)
theorem walkOk_vals {K : PySem.W.Frag} {G0 : Hp} {Wr : Addr → Prop} {H0 : Hp} {a : Addr} {od : Obj} {ws : List (Key × V)} {kvs : List (Key × D)} (r : RepK K G0 kvs ws) (h : H0 a = some (.frz od (.dK ws))) (nw : ¬ Wr a) : WalkOk K G0 Wr H0 (Itd a od ws) (kvs.map fun kv => kv.2) := by
  unfold WalkOk
  rw [List.length_map, repK_len r]
  refine walk_values.mono (fun Hc k => k a _ nw h) fun i Hc x Hn hi _ y => ?_
  obtain ⟨rfl, k, e⟩ := y
  obtain ⟨d, e2, rd⟩ := repK_at r e
  exact .inl ⟨rfl, d, by rw [List.getElem?_map, e2]; rfl, rd⟩
theorem walkOk_items {K : PySem.W.Frag} {G0 : Hp} {Wr : Addr → Prop} {H0 : Hp} {a : Addr} {od : Obj} {ws : List (Key × V)} {kvs : List (Key × D)} (r : RepK K G0 kvs ws) (h : H0 a = some (.frz od (.dK ws))) (nw : ¬ Wr a) : WalkOk K G0 Wr H0 (Iti a od ws) (kvs.map fun kv => .tup [kD kv.1, kv.2]) := by
  unfold WalkOk
  rw [List.length_map, repK_len r]
  refine walk_items.mono (fun Hc k => k a _ nw h) fun i Hc x Hn hi _ y => ?_
  obtain ⟨T, va, vb, rfl, hT, rfl, ea, eb⟩ := y
  dsimp only at ea eb
  cases e : ws[i]? with
  | none => rw [e] at ea; cases ea
  | some kv =>
    obtain ⟨k, v⟩ := kv
    rw [e] at ea eb
    cases ea; cases eb
    obtain ⟨d, e2, rd⟩ := repK_at r e
    refine .inr ⟨T, kD k, d, _, _, by rw [List.getElem?_map, e2]; rfl, rfl, hT, rfl, ?_, rd⟩
    cases k <;> simp only [kD, kV, Rep]
end
end Z

/-! enumerate of a tuple -/
namespace EnT
open PySem PyProof.Rows L2
open AutoSeq1 (wpAny_loadPart')
section
variable {prog : Program} {w : World} {A : Around} {E : Value → Shared → Prop} {s : Shared}
theorem made (l : Addr) (its : Array Value) (n : Nat) (dct : Option Addr) (sl : Array (Option Value)) :
    Meets (Builtin.«enumerate.__new__» ⟨[.type "enumerate", .ref l], []⟩) (fun _ R z => z.heap.get? l = some { cls := .type "tuple", dict := dct, data := .seq its n, slots := sl } ∧
      R (.ok (.ret (.ref (z.heap.push { cls := .type "tuple_iterator", data := .fields #[.ref l, .int 0 0] }).objs.size)))
        { z with heap := (z.heap.push { cls := .type "tuple_iterator", data := .fields #[.ref l, .int 0 0] }).push { cls := .type "enumerate", data := .fields #[.none, .bool false, .ref z.heap.objs.size, rawInt 0, .none, .none] } }) :=
  .of_wp fun pr wd Ar R z h => by
    obtain ⟨hh, gg, dd, kk, oo⟩ := z
    obtain ⟨h1, h2⟩ := h
    have s1 := sub_enumerate
    have hT : Heap.IsTuple (Shared.heap ⟨hh, gg, dd, kk, oo⟩) l its := ⟨_, h1, rfl, n, rfl⟩
    wp_walk using wpAny_loadPart' h1
    refine wpAny_stack_any fun st => wpAny_pure ?_
    split
    · rename_i c _ _ _ _ _
      cases (c == Value.type "enumerate")
      · wp_walk using wpAny_loadPart' h1, wpAny_pyIter_tuple hT
        exact ⟨_, rfl, h2⟩
      · wp_walk using wpAny_loadPart' h1, wpAny_pyIter_tuple hT
        exact ⟨_, rfl, h2⟩
    · wp_walk using wpAny_loadPart' h1, wpAny_pyIter_tuple hT
      exact ⟨_, rfl, h2⟩
theorem called {l : Addr} {its : Array Value} {Q : Value → Shared → Prop} (hT : s.heap.IsTuple l its)
    (k : ∀ h', IsEnum h' (s.heap.objs.size + 1) s.heap.objs.size 0 .none → h'.IsTupleIter s.heap.objs.size l 0 → h'.objs.size = s.heap.objs.size + 2 → (∀ b o, s.heap.get? b = some o → h'.get? b = some o) → Q (.ref (s.heap.objs.size + 1)) { s with heap := h' }) :
    wpAny (model prog w) A (call (.type "enumerate") [.ref l]) Q E s := by
  obtain ⟨⟨c, dct, dt, sl⟩, h1, e1, n, e2⟩ := hT
  have e1 : c = .type "tuple" := e1
  have e2 : dt = .seq its n := e2
  subst e1 e2
  refine callType_new F.called_enumerate (by decide) (F.typeCall_enumerate_1 _) (F.newCall_enumerate_1 _) (fun obj => F.args_object_init_2 obj _) F.entry_enumerate_new (made l its n dct sl) ⟨h1, ?_⟩
  have z1 : (s.heap.push { cls := .type "tuple_iterator", data := .fields #[.ref l, .int 0 0] }).objs.size = s.heap.objs.size + 1 := Heap.size_push ..
  show _ ∧ _
  rw [z1]
  have z2 : IsEnum ((s.heap.push { cls := .type "tuple_iterator", data := .fields #[.ref l, .int 0 0] }).push { cls := .type "enumerate", data := .fields #[.none, .bool false, .ref s.heap.objs.size, rawInt 0, .none, .none] }) (s.heap.objs.size + 1) s.heap.objs.size 0 .none := by
    have q := Heap.get?_push_size (s.heap.push { cls := .type "tuple_iterator", data := .fields #[.ref l, .int 0 0] }) (o := { cls := .type "enumerate", data := .fields #[.none, .bool false, .ref s.heap.objs.size, rawInt 0, .none, .none] }) rfl
    rwa [z1] at q
  exact ⟨⟨_, z2, rfl⟩, k _ z2 ⟨_, Heap.get?_push_of_some _ (Heap.get?_push_size _ rfl), rfl, rfl⟩ (by rw [Heap.size_push, z1]) fun b o y => Heap.get?_push_of_some _ (Heap.get?_push_of_some _ y)⟩
/-- the turn, when the walk within gives x and changes nothing but itself -/
theorem step {e it l : Addr} {i : Nat} {its : Array Value} {x old : Value} {Q : Value → Shared → Prop} (he : IsEnum s.heap e it i old) (hi : s.heap.IsTupleIter it l i) (hT : s.heap.IsTuple l its) (hx : its[i]? = some x) (ne : e ≠ it)
    (k : ∀ h', IsEnumOut h' e it ((i : Int) + 1) x s.heap.objs.size → h'.IsTupleIter it l (i + 1) → h'.get? s.heap.objs.size = some { cls := .type "tuple", data := .seq #[.int i s.toks, x] } → h'.objs.size = s.heap.objs.size + 1 →
      (∀ b o, b ≠ e → b ≠ it → s.heap.get? b = some o → h'.get? b = some o) → Q (.ref s.heap.objs.size) { s with heap := h', toks := s.toks + 1 }) :
    wpAny (model prog w) A (Builtin.«enumerate.__next__» ⟨[.ref e], []⟩) (fun fin s' => ∃ v, fin = .done (.ret v) ∧ Q v s') E s := by
  obtain ⟨h0, gg, dd, tk, oo⟩ := s
  show wpAny _ _ (field (.ref e) 2 >>= _) _ _ _
  refine wpAny_bind (wpAny_field he rfl (x := .ref it) rfl ?_)
  refine wpAny_bind (RZ.nextOf_tuple_item hi hT hx fun h1 i1 b1 => ?_)
  have b1 : Heap.SameBut it h0 h1 := b1
  have e1 : IsEnum h1 e it i old := (b1.2 e ne).trans he
  show wpAny _ _ (field (.ref e) 3 >>= _) _ _ ⟨h1, gg, dd, tk, oo⟩
  refine wpAny_bind (wpAny_field e1 rfl (x := rawInt i) rfl ?_)
  show wpAny _ _ (field (.ref e) 4 >>= _) _ _ ⟨h1, gg, dd, tk, oo⟩
  refine wpAny_bind (wpAny_field e1 rfl (x := .none) rfl ?_)
  show wpAny _ _ (mkInt i >>= _) _ _ ⟨h1, gg, dd, tk, oo⟩
  refine wpAny_bind (wpAny_mkInt ?_)
  show wpAny _ _ (setField (.ref e) 3 (rawInt ((i : Int) + 1)) >>= _) _ _ ⟨h1, gg, dd, tk + 1, oo⟩
  refine wpAny_bind (wpAny_setField_rec e1 (by simp) fun h2 e2 b2 => ?_)
  have b2 : Heap.SameBut e h1 h2 := b2
  have e2 : IsEnum h2 e it ((i : Int) + 1) old := e2
  show wpAny _ _ (setField (.ref e) 4 .none >>= _) _ _ ⟨h2, gg, dd, tk + 1, oo⟩
  refine wpAny_bind (wpAny_setField_rec e2 (by simp) fun h3 e3 b3 => ?_)
  have b3 : Heap.SameBut e h2 h3 := b3
  have e3 : IsEnum h3 e it ((i : Int) + 1) old := e3
  show wpAny _ _ (newTuple [.int i tk, x] >>= _) _ _ ⟨h3, gg, dd, tk + 1, oo⟩
  refine wpAny_bind (wpAny_newTuple ?_)
  have e4 : IsEnum (h3.push { cls := .type "tuple", data := .seq #[.int i tk, x] }) e it ((i : Int) + 1) old := Heap.get?_push_of_some _ e3
  generalize hq : h3.push { cls := .type "tuple", data := .seq #[.int i tk, x] } = h4 at e4
  have z3 : h3.objs.size = h0.objs.size := by rw [b3.1, b2.1, b1.1]
  have lt : e < h0.objs.size := Heap.lt_size he
  have t4 : h4.get? h0.objs.size = some { cls := .type "tuple", data := .seq #[.int i tk, x] } := by rw [← hq, ← z3]; exact Heap.get?_push_size _ rfl
  have z4 : h4.objs.size = h0.objs.size + 1 := by rw [← hq, Heap.size_push, z3]
  have k4 : ∀ b o, b ≠ e → b ≠ it → h0.get? b = some o → h4.get? b = some o := fun b o n1 n2 q => by
    rw [← hq]
    exact Heap.get?_push_of_some _ (b3.extBut b o n1 (b2.extBut b o n1 (b1.extBut b o n2 q)))
  have i4 : h4.IsTupleIter it l (i + 1) := by
    rw [← hq]
    have i3 : h3.IsTupleIter it l (i + 1) := i1.at fun o q => b3.extBut it o (Ne.symm ne) (b2.extBut it o (Ne.symm ne) q)
    exact i3.at fun o q => Heap.get?_push_of_some _ q
  show wpAny _ _ (Builtin.SmallTypes.ownedTupleIsFree (.ref e) >>= _) _ _ ⟨h4, gg, dd, tk + 1, oo⟩
  rw [z3]
  refine wpAny_bind ?_
  unfold Builtin.SmallTypes.ownedTupleIsFree
  refine wpAny_bind (wpAny_field e4 rfl (x := .none) rfl (wpAny_pure ?_))
  simp only [if_true]
  refine wpAny_bind (wpAny_rule ?_)
  refine wpAny_bind (wpAny_field e4 rfl (x := old) rfl ?_)
  refine wpAny_bind (wpAny_setField_rec e4 (by simp) fun h5 e5 b5 => ?_)
  have b5 : Heap.SameBut e h4 h5 := b5
  have e5 : IsEnum h5 e it ((i : Int) + 1) x := e5
  show wpAny _ _ (Builtin.SmallTypes.ownedTupleHandOut (.ref e) (.ref h0.objs.size) >>= _) _ _ ⟨h5, gg, dd, tk + 1, oo⟩
  refine wpAny_bind ?_
  unfold Builtin.SmallTypes.ownedTupleHandOut
  refine wpAny_bind (wpAny_setField_rec e5 (by simp) fun h6 e6 b6 => ?_)
  have b6 : Heap.SameBut e h5 h6 := b6
  have e6 : IsEnumOut h6 e it ((i : Int) + 1) x h0.objs.size := e6
  refine wpAny_setField_rec e6 (by simp) fun h7 e7 b7 => ?_
  have b7 : Heap.SameBut e h6 h7 := b7
  have e7 : IsEnumOut h7 e it ((i : Int) + 1) x h0.objs.size := e7
  have far : ∀ b o, b ≠ e → h4.get? b = some o → h7.get? b = some o := fun b o n q => b7.extBut b o n (b6.extBut b o n (b5.extBut b o n q))
  exact wpAny_bind (wpAny_letGo (wpAny_pure ⟨_, rfl, k h7 e7 (i4.at fun o q => far it o (Ne.symm ne) q) (far _ _ (Nat.ne_of_gt lt) t4) (by rw [b7.1, b6.1, b5.1, z4]) fun b o n1 n2 q => far b o n1 (k4 b o n1 n2 q)⟩))
theorem next_item {e it l : Addr} {i : Nat} {its : Array Value} {x old : Value} {Q : Option Value → Shared → Prop} (he : IsEnum s.heap e it i old) (hi : s.heap.IsTupleIter it l i) (hT : s.heap.IsTuple l its) (hx : its[i]? = some x) (ne : e ≠ it)
    (k : ∀ h', IsEnumOut h' e it ((i : Int) + 1) x s.heap.objs.size → h'.IsTupleIter it l (i + 1) → h'.get? s.heap.objs.size = some { cls := .type "tuple", data := .seq #[.int i s.toks, x] } → h'.objs.size = s.heap.objs.size + 1 →
      (∀ b o, b ≠ e → b ≠ it → s.heap.get? b = some o → h'.get? b = some o) → Q (some (.ref s.heap.objs.size)) { s with heap := h', toks := s.toks + 1 }) : wpAny (model prog w) A (pyNext (.ref e)) Q E s := by
  have ty : s.TypeIs (.ref e) "enumerate" := ⟨_, he, rfl⟩
  unfold pyNext
  refine wpAny_bind (wpAny_attempt (wpAny_callSpecial?_slot (name := Str.ofString "__next__") ty F.slot_enumerate_next ?_))
  exact wpAny_call_entry F.slot_enumerate_next ty F.entry_enumerate_next (step he hi hT hx ne fun h' a b c d f => wpAny_pure (k h' a b c d f)) (F.args_enumerate_next_1 _)
theorem next_end {e it l : Addr} {i : Nat} {its : Array Value} {old : Value} {Q : Option Value → Shared → Prop} (hh : A.handled = none) (he : IsEnum s.heap e it i old) (hi : s.heap.IsTupleIter it l i) (hT : s.heap.IsTuple l its) (hx : its[i]? = none)
    (k : ∀ h', Heap.ExtBut it s.heap h' → Q none { s with heap := h' }) : wpAny (model prog w) A (pyNext (.ref e)) Q E s := by
  have ty : s.TypeIs (.ref e) "enumerate" := ⟨_, he, rfl⟩
  unfold pyNext
  refine wpAny_bind (wpAny_attempt (wpAny_callSpecial?_slot (name := Str.ofString "__next__") ty F.slot_enumerate_next (wpAny_call_entry F.slot_enumerate_next ty F.entry_enumerate_next ?_ (F.args_enumerate_next_1 _))))
  show wpAny _ _ (field (.ref e) 2 >>= _) _ _ _
  refine wpAny_bind (wpAny_field he rfl (x := .ref it) rfl (wpAny_bind (RZ.nextOf_tuple_end hh hi hT hx fun h' x b1 ⟨o, ho, hc⟩ => ?_)))
  exact wpAny_bind (wpAny_isInstance (T := "StopIteration") (b := true) ⟨o, ho, hc⟩ isSubtype_stop (wpAny_pure (k _ b1)))
end
end EnT

namespace EnT
open PySem PySem.Spec PyProof.Rows L2
/-- the tuple at a, item by item, each in a new pair behind its place -/
def ItT (K : PySem.W.Frag) (a : Addr) : It :=
  ⟨fun i H => ∃ (xs : List V) (x : V), SqT K H a xs ∧ xs[i]? = some x, fun i H v H' => ∃ T x, v = .ref T ∧ H T = none ∧ H' = upd H T (.tup [.int (i : Nat), x]) ∧ ∀ xs, SqT K H a xs → xs[i]? = some x, fun i H => ∃ xs : List V, SqT K H a xs ∧ xs.length ≤ i⟩
theorem two {b e it : Addr} (h : b ∈ [e, it]) : b = e ∨ b = it := by simpa using h
theorem turnT {P : Program} {w : World} {K : PySem.W.Frag} {elts : List Expr} {kk : Nat} {tpos : Pos} (a e it : Addr) :
    Turn P w K (.Tuple elts kk tpos) (ItT K a) [e, it] e (fun i h => (∃ old, IsEnum h e it ((i : Nat) : Int) old) ∧ h.IsTupleIter it a i ∧ e ≠ it) where
  mem := List.mem_cons_self ..
  obj := by
    rintro i h ⟨⟨old, h1⟩, ⟨o, h2, _, h3⟩, _⟩ b hb
    rcases two hb with rfl | rfl
    · exact ⟨_, h1, fun v q => nomatch q⟩
    · exact ⟨o, h2, fun v q => by rw [h3] at q; cases q⟩
  keep := by
    rintro i h h' ⟨⟨old, h1⟩, h2, h3⟩ k
    exact ⟨⟨old, k e (by simp) _ h1⟩, h2.at fun o q => k it (by simp) o q, h3⟩
  item := by
    intro X hP hw hK hc i pins s σ H E I hf st hg
    subst hP hw hK
    obtain ⟨⟨old, h1⟩, h2, h3⟩ := st
    obtain ⟨xs, x, hq, hx⟩ := hg
    obtain ⟨its, rv, pt, _⟩ := I.tuple hq
    obtain ⟨u, hu, ru⟩ := rv.get hx
    have l1 : e < s.heap.objs.size := Heap.lt_size h1
    have l2 : it < s.heap.objs.size := by obtain ⟨_, q, _⟩ := h2; exact Heap.lt_size q
    refine next_item h1 h2 pt (x := u) (by simpa using hu) h3 fun h' g1 g2 g3 g4 g5 => ⟨_, rfl, wpAny_letOwnedTupleGo_enum (s := { s with heap := h', toks := s.toks + 1 }) g1 fun h'' g6 sb => ?_⟩
    have g7 : h''.get? s.heap.objs.size = some { cls := .type "tuple", data := .seq #[.int i s.toks, u] } := (sb.2 _ (Nat.ne_of_gt l1)).trans g3
    have fresh : ObjOk X.prog X.w (upd H s.heap.objs.size (.tup [.int (i : Nat), x])) h'' s.heap.objs.size (.tup [.int (i : Nat), x]) :=
      ⟨by show 2 ≤ sizeLine; decide, [.int i s.toks, u], .cons ⟨_, rfl⟩ (.cons ru .nil), ⟨_, g7, rfl, _, rfl⟩⟩
    have I1 : Inv X pins σ (upd H s.heap.objs.size (.tup [.int (i : Nat), x])) { s with heap := h'', toks := s.toks + 1 } :=
      I.turnedNew (ch := [e, it]) (fun b ob hb q => (sb.2 b (fun z => hb (by simp [z]))).trans (g5 b ob (fun z => hb (by simp [z])) (fun z => hb (by simp [z])) q)) hf (Nat.le_refl _) fresh
    refine ⟨.ref s.heap.objs.size, _, I1, rfl, ⟨_, x, rfl, I.hok.fresh (Nat.le_refl _), rfl, fun ys hy => by rw [I.tuple_inj hy hq]; exact hx⟩, ⟨⟨u, ?_⟩, g2.at fun o q => (sb.2 it (Ne.symm h3)).trans q, h3⟩, fun b hb => ?_⟩
    · have ee : ((i + 1 : Nat) : Int) = (i : Int) + 1 := by omega
      rw [ee]; exact g6
    · have lt : b < s.heap.objs.size := by rcases two hb with rfl | rfl <;> assumption
      rw [upd_ne (Nat.ne_of_lt lt)]
      exact (hf b hb).1
  done := by
    intro X hP hw hK hc i pins s σ H E I hf st hg
    subst hP hw hK
    obtain ⟨⟨old, h1⟩, h2, h3⟩ := st
    obtain ⟨xs, hq, hx⟩ := hg
    obtain ⟨its, rv, pt, _⟩ := I.tuple hq
    have hl := rv.length
    exact next_end (I.ok.hd hc) h1 h2 pt (by simp; omega) fun h' eb => ⟨rfl, I.turnedL (t' := s.toks) (ch := [e, it]) (fun b o hb q => eb b o (fun z => hb (by simp [z])) q) hf⟩
  self := fun A i s Q E st h => let ⟨⟨_, h1⟩, _⟩ := st; wpAny_pyIter_enum h1 h
/-- enumerate of a list or a tuple -/
def iEnA (K : PySem.W.Frag) (ta : TA) : TI := fun σ H R => ta σ H fun vs H1 => ∃ a xs, vs = [.ref a] ∧ ((SqL K H1 a xs ∧ R (Ite K a) H1) ∨ (SqT K H1 a xs ∧ R (ItT K a) H1))
theorem pi_enumA {X : Cx} {e : Expr} {ta : TA} {p pos tpos : Pos} {elts : List Expr} {kk : Nat} (hg : Gl X "enumerate") (hm : X.mg "enumerate" = none) (ha : PA X [e] ta) (hs : starEach [e] X.env = [(false, eval e X.env)]) :
    PI X (.Tuple elts kk tpos) (.Call (.Name "enumerate" p) [e] [] pos) (iEnA X.K ta) := by
  refine ⟨fun pins s σ H R I h => ?_⟩
  refine Call_ (ld_blt I hg hm boot_enumerate (PyProof.Rows.callWith_type1 (thn (ha.run pos pins s σ H _ I h) fun us s1 ⟨vs, H1, I1, r1, a, xs, ex, q⟩ => ?_) hs rfl))
  subst ex
  cases r1 with
  | cons r rr =>
    cases rr
    cases r
    have far : ∀ b, b ∈ [s1.heap.objs.size + 1, s1.heap.objs.size] → FpOk X pins H1 b := fun b hb => by
      have le : s1.heap.objs.size ≤ b := by
        rcases two hb with rfl | rfl
        · exact Nat.le_succ _
        · exact Nat.le_refl _
      exact I1.fpOk le (I1.hok.fresh le)
    rcases q with ⟨hq, q⟩ | ⟨hq, q⟩
    · obtain ⟨its, rv, pl, _⟩ := I1.list hq
      refine call_enumerate_list pl.isList fun h' g1 g2 g3 g4 => wpAny_pyIter_enum g1 ?_
      have I2 : Inv X pins σ H1 { s1 with heap := h' } := I1.kept (t' := s1.toks) g4
      exact ⟨s1.heap.objs.size + 1, [s1.heap.objs.size + 1, s1.heap.objs.size], _, _, H1, rfl, I2, turn_enum a (s1.heap.objs.size + 1) s1.heap.objs.size, ⟨⟨.none, g1⟩, g2, Nat.succ_ne_self _⟩, far, q⟩
    · obtain ⟨its, rv, pt, _⟩ := I1.tuple hq
      refine called pt fun h' g1 g2 g3 g4 => wpAny_pyIter_enum g1 ?_
      have I2 : Inv X pins σ H1 { s1 with heap := h' } := I1.kept (t' := s1.toks) g4
      exact ⟨s1.heap.objs.size + 1, [s1.heap.objs.size + 1, s1.heap.objs.size], _, _, H1, rfl, I2, turnT a (s1.heap.objs.size + 1) s1.heap.objs.size, ⟨⟨.none, g1⟩, g2, Nat.succ_ne_self _⟩, far, q⟩
theorem walk_enumT {K : PySem.W.Frag} {a : Addr} {xs : List V} : Walk (ItT K a) xs.length (fun H => SqT K H a xs) (YPair (fun i => some (.int (i : Nat))) (fun i => xs[i]?)) := by
  constructor
  · intro i H hi q
    exact ⟨xs, _, q, List.getElem?_eq_getElem hi⟩
  · intro H q
    exact ⟨xs, q, Nat.le_refl _⟩
  · rintro i H v H' _ q ⟨T, x, e1, e2, e3, e4⟩
    exact ⟨T, .int (i : Nat), x, e1, e2, e3, rfl, e4 xs q⟩
end EnT

namespace Z
open PySem PySem.Spec L2
open PyProof.Rows hiding St
section
variable {Φ : Tab} {X : Cx} {W : WX}
theorem SrcAt.tup {K : PySem.W.Frag} {O : Addr → Prop} {ρ : Vn} {σ : L2.St} {H : Hp} {m : ME} {d : D} {v : V} {ms : List ME} {ds : List D} (E : EnvOk K O ρ σ H) (h : SrcAt K O ρ σ H m d v) (e : Rfr ρ m d = .tup ds) :
    ∃ a vs, v = .ref a ∧ SqT K H a vs ∧ Reps K (vis (Hid O ρ σ) H) ds vs ∧ ∀ Hc, Kp (WrA (lockV ρ (rdIdx ms)) σ) H Hc → SqT K Hc a vs := by
  have rp : ∀ {v : V}, Rep K (vis (Hid O ρ σ) H) (.tup ds) v → ∃ a vs, v = .ref a ∧ SqT K H a vs ∧ Reps K (vis (Hid O ρ σ) H) ds vs ∧ ∀ Hc, Kp (WrA (lockV ρ (rdIdx ms)) σ) H Hc → SqT K Hc a vs := fun {v} r => by
    simp only [Rep] at r
    obtain ⟨a, vs, e, s, r⟩ := r
    refine ⟨a, vs, e, sqT_ext vis_le s, r, fun Hc k => ?_⟩
    rcases s with (s | ⟨o, s⟩) | s
    · obtain ⟨n, s⟩ := vis_some s
      exact .inl (.inl (k a _ (fun y => n (.inr (lockV_wr y).1.own)) s))
    · obtain ⟨n, s⟩ := vis_some s
      exact .inl (.inr ⟨o, k a _ (fun y => n (.inr (lockV_wr y).1.own)) s⟩)
    · exact .inr s
  rcases h with ⟨i, rfl, ev⟩ | ⟨hr, r⟩
  · simp only [Rfr] at e
    cases z : ρ[i]? with
    | none => rw [z] at e; cases e
    | some s =>
      rw [z] at e
      cases s with
      | non => cases e
      | val d' =>
        simp only [Option.bind_some, Sl.data, Option.getD_some] at e
        subst e
        obtain ⟨v', e', r⟩ := E.val i _ z
        rw [ev] at e'; cases e'
        exact rp r
      | own d' =>
        simp only [Option.bind_some, Sl.data, Option.getD_some] at e
        subst e
        obtain ⟨a, ea, t⟩ := E.own i _ z
        exact t.elim
      | io d' =>
        simp only [Option.bind_some, Sl.data, Option.getD_some] at e
        subst e
        obtain ⟨a, ea, _, t⟩ := E.io i _ z
        exact t.elim
      | lkd d' =>
        simp only [Option.bind_some, Sl.data, Option.getD_some] at e
        subst e
        obtain ⟨a, ea, t⟩ := E.lkd i _ z
        exact t.elim
  · have e2 : d = .tup ds := by cases m <;> first | exact e | cases hr
    subst e2
    exact rp r
theorem SrcAt.str {K : PySem.W.Frag} {O : Addr → Prop} {ρ : Vn} {σ : L2.St} {H : Hp} {m : ME} {d : D} {v : V} {z : Str} (E : EnvOk K O ρ σ H) (h : SrcAt K O ρ σ H m d v) (e : Rfr ρ m d = .str z) : v = .str z := by
  rcases h with ⟨i, rfl, ev⟩ | ⟨hr, r⟩
  · simp only [Rfr] at e
    cases q : ρ[i]? with
    | none => rw [q] at e; cases e
    | some s =>
      rw [q] at e
      cases s with
      | non => cases e
      | val d' =>
        simp only [Option.bind_some, Sl.data, Option.getD_some] at e
        subst e
        obtain ⟨v', e', r⟩ := E.val i _ q
        rw [ev] at e'; cases e'
        simp only [Rep] at r; exact r
      | own d' =>
        simp only [Option.bind_some, Sl.data, Option.getD_some] at e
        subst e
        obtain ⟨a, ea, t⟩ := E.own i _ q
        exact t.elim
      | io d' =>
        simp only [Option.bind_some, Sl.data, Option.getD_some] at e
        subst e
        obtain ⟨a, ea, _, t⟩ := E.io i _ q
        exact t.elim
      | lkd d' =>
        simp only [Option.bind_some, Sl.data, Option.getD_some] at e
        subst e
        obtain ⟨a, ea, t⟩ := E.lkd i _ q
        exact t.elim
  · have e2 : d = .str z := by cases m <;> first | exact e | cases hr
    subst e2
    simp only [Rep] at r; exact r
theorem walkOk_list {K : PySem.W.Frag} {G0 : Hp} {Wr : Addr → Prop} {H0 : Hp} {a : Addr} {vs : List V} {ds : List D} (r : Reps K G0 ds vs) (k : ∀ Hc, Kp Wr H0 Hc → SqL K Hc a vs) : WalkOk K G0 Wr H0 (Itl K a) ds := by
  unfold WalkOk
  rw [r.length]
  refine walk_list.mono (fun Hc h => k Hc h) fun i Hc x Hn hi _ y => ?_
  obtain ⟨rfl, e⟩ := y
  exact .inl ⟨rfl, r.getV e⟩
theorem walkOk_tup {K : PySem.W.Frag} {G0 : Hp} {Wr : Addr → Prop} {H0 : Hp} {a : Addr} {vs : List V} {ds : List D} (r : Reps K G0 ds vs) (k : ∀ Hc, Kp Wr H0 Hc → SqT K Hc a vs) : WalkOk K G0 Wr H0 (Itt K a) ds := by
  unfold WalkOk
  rw [r.length]
  refine walk_tup.mono (fun Hc h => k Hc h) fun i Hc x Hn hi _ y => ?_
  obtain ⟨rfl, e⟩ := y
  exact .inl ⟨rfl, r.getV e⟩
theorem evL_one {m : ME} {ρ : Vn} {β : Type} {f : List D → Vn → Res β} : (evL Φ [m] ρ).bind f = (evE Φ m ρ).bind fun x ρ => f [x.2] ρ := by
  simp only [evL]
  cases evE Φ m ρ <;> rfl
theorem stillL_one {m : ME} : stillL [m] = m.still := by simp only [stillL, Bool.and_true]
theorem itR_some {k : Nat} {ms : List ME} {ρ : Vn} {ds : List D} {P : Bool × List D → Vn → Prop} {E : Exn → Vn → Prop} (h : (ofOpt ((itD k (fresh ρ ms ds)).map fun xs => (dctSrc (fresh ρ ms ds), xs)) ρ).holds P E) : ∃ xs, itD k (fresh ρ ms ds) = some xs ∧ P (dctSrc (fresh ρ ms ds), xs) ρ := by
  obtain ⟨y, e, q⟩ := holds_opt h
  cases z : itD k (fresh ρ ms ds) with
  | none => rw [z] at e; cases e
  | some xs => rw [z] at e; cases e; exact ⟨xs, rfl, q⟩
/-- over a list, a tuple, a text, a dict's keys -/
theorem sndi_bare {tg e : Expr} {m : ME} (h : SndS Φ X W e m) : SndI Φ X W tg e 0 [m] := by
  intro O ρ σ H R E q
  unfold itR at q
  rw [evL_one] at q
  cases z : evE Φ m ρ with
  | stuck => rw [z] at q; exact q.elim
  | exn x ρ1 =>
    rw [z] at q
    refine WI.by (pi_list pe_w) ?_
    exact h O ρ ρ σ H H true _ (PostC.refl E) (f := fun _ _ => (.stuck : Res Unit)) (P := fun _ _ => False) (by rw [z]; exact q) fun a ρ' v H' _ _ q => q.elim
  | ok x ρ1 =>
    rw [z] at q
    simp only [Res.bind_ok] at q
    obtain ⟨xs, e1, q⟩ := itR_some q
    rw [fresh_cons] at e1 q
    cases y : Rfr ρ1 m x.2 with
    | lst ds =>
      refine WI.by (pi_list pe_w) ?_
      refine h O ρ ρ σ H H true _ (PostC.refl E) (f := fun a ρ' => match Rfr ρ' m a.2 with
        | .lst ds => Res.ok ds ρ'
        | _ => .stuck) (P := fun ds ρ' => ∀ J H' Hl, PostC X.K O ρ σ H (stillL [m]) ρ' H' → Lk X false (WrA (lockV ρ' (rdIdx [m])) σ) H' Hl → WalkOk X.K (vis (Hid O ρ' σ) Hl) (WrA (lockV ρ' (rdIdx [m])) σ) Hl J ds → R J Hl) ?_ fun a ρ' v H' c s q => ?_
      · rw [z]
        simp only [Res.bind_ok, y]
        rw [y] at e1 q
        cases e1
        exact q
      · split at q
        · rename_i ds' e2
          obtain ⟨b, vs, rfl, s1, r, k⟩ := s.lst (ms := [m]) c.env (List.mem_cons_self ..) e2
          exact ⟨b, rfl, ⟨vs, s1⟩, q _ _ _ (by rw [stillL_one]; exact c) .no (walkOk_list r k)⟩
        · exact q.elim
    | tup ds =>
      refine WI.by (pi_tup pe_w) ?_
      refine h O ρ ρ σ H H true _ (PostC.refl E) (f := fun a ρ' => match Rfr ρ' m a.2 with
        | .tup ds => Res.ok ds ρ'
        | _ => .stuck) (P := fun ds ρ' => ∀ J H' Hl, PostC X.K O ρ σ H (stillL [m]) ρ' H' → Lk X false (WrA (lockV ρ' (rdIdx [m])) σ) H' Hl → WalkOk X.K (vis (Hid O ρ' σ) Hl) (WrA (lockV ρ' (rdIdx [m])) σ) Hl J ds → R J Hl) ?_ fun a ρ' v H' c s q => ?_
      · rw [z]
        simp only [Res.bind_ok, y]
        rw [y] at e1 q
        cases e1
        exact q
      · split at q
        · rename_i ds' e2
          obtain ⟨b, vs, rfl, s1, r, k⟩ := s.tup (ms := [m]) c.env e2
          exact ⟨b, rfl, ⟨vs, s1⟩, q _ _ _ (by rw [stillL_one]; exact c) .no (walkOk_tup r k)⟩
        · exact q.elim
    | str zt =>
      refine WI.by (pi_str pe_w) ?_
      refine h O ρ ρ σ H H true _ (PostC.refl E) (f := fun a ρ' => match Rfr ρ' m a.2 with
        | .str zt => Res.ok zt ρ'
        | _ => .stuck) (P := fun zt ρ' => ∀ J H' Hl, PostC X.K O ρ σ H (stillL [m]) ρ' H' → Lk X false (WrA (lockV ρ' (rdIdx [m])) σ) H' Hl → WalkOk X.K (vis (Hid O ρ' σ) Hl) (WrA (lockV ρ' (rdIdx [m])) σ) Hl J (zt.cps.toList.map fun c => .str ⟨#[c]⟩) → R J Hl) ?_ fun a ρ' v H' c s q => ?_
      · rw [z]
        simp only [Res.bind_ok, y]
        rw [y] at e1 q
        cases e1
        exact q
      · split at q
        · rename_i zt' e2
          have hv := s.str c.env e2
          subst hv
          refine ⟨zt', rfl, q _ _ _ (by rw [stillL_one]; exact c) .no ?_⟩
          unfold WalkOk
          rw [List.length_map, Array.length_toList]
          refine walk_str.mono (fun _ _ => trivial) fun i Hc x Hn hi _ y => ?_
          obtain ⟨rfl, ch, ec, rfl⟩ := y
          exact .inl ⟨rfl, .str ⟨#[ch]⟩, by rw [List.getElem?_map, Array.getElem?_toList, ec]; rfl, by simp only [Rep]⟩
        · exact q.elim
    | dct kvs =>
      refine WI.by (pi_keys (pe_lk pe_w)) ?_
      refine h O ρ ρ σ H H true _ (PostC.refl E) (f := fun a ρ' => match Rfr ρ' m a.2 with
        | .dct ds => Res.ok ds ρ'
        | _ => .stuck) (P := fun ds ρ' => ∀ J H' Hl, PostC X.K O ρ σ H (stillL [m]) ρ' H' → Lk X true (WrA (lockV ρ' (rdIdx [m])) σ) H' Hl → WalkOk X.K (vis (Hid O ρ' σ) Hl) (WrA (lockV ρ' (rdIdx [m])) σ) Hl J (ds.map fun kv => kD kv.1) → R J Hl) ?_ fun a ρ' v H' c s q => ?_
      · rw [z]
        simp only [Res.bind_ok, y]
        rw [y] at e1 q
        cases e1
        exact q
      · split at q
        · rename_i kvs' e2
          obtain ⟨b, ws, rfl, s1, r, nw⟩ := s.dct (ms := [m]) c.env (List.mem_cons_self ..) e2
          refine lk_dct (X := X) (td := fun H1 => ∃ d o, V.ref b = .ref d ∧ ((∃ kvs, H1 d = some (.frz o (.dK kvs)) ∧ R (Itk d o kvs) H1) ∨ ∃ kvs, H1 d = some (.frz o (.dT kvs)) ∧ R (Itkt d o kvs) H1)) s1 r nw fun od Hl lk hd r2 => ?_
          exact ⟨b, od, rfl, .inl ⟨ws, hd, q _ _ _ (by rw [stillL_one]; exact c) lk (walkOk_keys r2 hd nw)⟩⟩
        · exact q.elim
    | _ => rw [y] at e1; cases e1
/-- d.items(), d.values() -/
theorem sndi_items {e : Expr} {elts : List Expr} {kk : Nat} {tpos ap cp : Pos} {m : ME} (hb : attributeBase e "items" X.env (eval e X.env) = eval e X.env) (hl : (ap.endLine == cp.line) = true) (h : SndS Φ X W e m) : SndI Φ X W (.Tuple elts kk tpos) (.Call (.Attribute e "items" ap) [] [] cp) 4 [m] := by
  intro O ρ σ H R E q
  unfold itR at q
  rw [evL_one] at q
  refine WI.by (pi_items (pe_lk pe_w) hb hl) ?_
  refine h O ρ ρ σ H H true _ (PostC.refl E) q fun a ρ' v H' c s q => ?_
  obtain ⟨xs, e1, q⟩ := itR_some q
  rw [fresh_cons] at e1 q
  cases y : Rfr ρ' m a.2 with
  | dct kvs =>
    rw [y] at e1 q
    cases e1
    obtain ⟨b, ws, rfl, s1, r, nw⟩ := s.dct (ms := [m]) c.env (List.mem_cons_self ..) y
    refine lk_dct (X := X) (td := fun H1 => ∃ d o kvs, V.ref b = .ref d ∧ H1 d = some (.frz o (.dK kvs)) ∧ R (Iti d o kvs) H1) s1 r nw fun od Hl lk hd r2 => ?_
    exact ⟨b, od, ws, rfl, hd, q _ _ _ (by rw [stillL_one]; exact c) lk (walkOk_items r2 hd nw)⟩
  | _ => rw [y] at e1; cases e1
theorem sndi_values {tg e : Expr} {ap cp : Pos} {m : ME} (hb : attributeBase e "values" X.env (eval e X.env) = eval e X.env) (hl : (ap.endLine == cp.line) = true) (h : SndS Φ X W e m) : SndI Φ X W tg (.Call (.Attribute e "values" ap) [] [] cp) 5 [m] := by
  intro O ρ σ H R E q
  unfold itR at q
  rw [evL_one] at q
  refine WI.by (pi_values (pe_lk pe_w) hb hl) ?_
  refine h O ρ ρ σ H H true _ (PostC.refl E) q fun a ρ' v H' c s q => ?_
  obtain ⟨xs, e1, q⟩ := itR_some q
  rw [fresh_cons] at e1 q
  cases y : Rfr ρ' m a.2 with
  | dct kvs =>
    rw [y] at e1 q
    cases e1
    obtain ⟨b, ws, rfl, s1, r, nw⟩ := s.dct (ms := [m]) c.env (List.mem_cons_self ..) y
    refine lk_dct (X := X) (td := fun H1 => ∃ d o kvs, V.ref b = .ref d ∧ H1 d = some (.frz o (.dK kvs)) ∧ R (Itd d o kvs) H1) s1 r nw fun od Hl lk hd r2 => ?_
    exact ⟨b, od, ws, rfl, hd, q _ _ _ (by rw [stillL_one]; exact c) lk (walkOk_vals r2 hd nw)⟩
  | _ => rw [y] at e1; cases e1
/-! ### ranges -/
theorem fresh_nord : ∀ {ms : List ME} {ds : List D} {ρ : Vn}, (∀ m ∈ ms, m.isRd = false) → ds.length = ms.length → fresh ρ ms ds = ds
  | [], [], _, _, _ => rfl
  | m :: ms, d :: ds, ρ, h, hl => by
    rw [fresh_cons, fresh_nord (fun x hx => h x (List.mem_cons_of_mem _ hx)) (by simpa using hl)]
    have := h m (List.mem_cons_self ..)
    cases m <;> first | rfl | cases this
  | [], _ :: _, _, _, hl => by simp at hl
  | _ :: _, [], _, _, hl => by simp at hl
theorem walkOk_range {K : PySem.W.Frag} {G0 : Hp} {Wr : Addr → Prop} {H0 : Hp} {lo : Int} {n : Nat} : WalkOk K G0 Wr H0 (Itr lo n) ((List.range n).map fun i => .int (lo + (i : Nat))) := by
  unfold WalkOk
  rw [List.length_map, List.length_range]
  refine walk_range.mono (fun _ _ => trivial) fun i Hc x Hn hi _ y => ?_
  obtain ⟨rfl, rfl⟩ := y
  exact .inl ⟨rfl, .int (lo + (i : Nat)), by simp [hi], by simp only [Rep]⟩
theorem lim62 : (lim : Int) < 2 ^ 62 := by decide
theorem itD_1 {d : D} {xs : List D} (h : itD 1 [d] = some xs) : ∃ n : Int, d = .int n ∧ -(lim : Int) ≤ n ∧ n ≤ lim ∧ xs = (List.range n.toNat).map fun i => .int (i : Nat) := by
  cases d with
  | int n =>
    unfold itD at h
    simp only at h
    split at h
    · rename_i hc
      simp only [Bool.and_eq_true, decide_eq_true_eq] at hc
      cases h
      exact ⟨n, rfl, hc.1, hc.2, rfl⟩
    · cases h
  | _ => cases h
theorem itD_2 {d e : D} {xs : List D} (h : itD 1 [d, e] = some xs) : ∃ n k : Int, d = .int n ∧ e = .int k ∧ -(lim : Int) ≤ n ∧ n ≤ lim ∧ -(lim : Int) ≤ k ∧ k ≤ lim ∧ xs = (List.range (k - n).toNat).map fun i => .int (n + (i : Nat)) := by
  cases d with
  | int n =>
    cases e with
    | int k =>
      unfold itD at h
      simp only at h
      split at h
      · rename_i hc
        simp only [Bool.and_eq_true, decide_eq_true_eq] at hc
        cases h
        exact ⟨n, k, rfl, rfl, hc.1.1.1, hc.1.1.2, hc.1.2, hc.2, rfl⟩
      · cases h
    | _ => cases h
  | _ => cases h
theorem sndi_range1 {tg a : Expr} {p pos : Pos} {ms : List ME} (hg : Gl X "range") (hm : X.mg "range" = none) (hs : notStar a = true) (h : SndL Φ X W [a] ms) (hn : ∀ m ∈ ms, m.isRd = false) (hl : ms.length = 1) : SndI Φ X W tg (.Call (.Name "range" p) [a] [] pos) 1 ms := by
  intro O ρ σ H R E q
  refine WI.by (pi_range1 hg hm pa_w (starAt hs _)) ?_
  refine h O ρ σ H _ E (Res.holds_mono (sndL_len (Res.holds_bind q)) (fun ds ρ' z vs H' c r => ?_) fun x ρ' z => z)
  obtain ⟨l, z⟩ := z
  obtain ⟨xs, e, z⟩ := itR_some z
  rw [fresh_nord hn l] at e z
  rw [hl] at l
  match ds, l with
  | [d], _ =>
    obtain ⟨n, rfl, h1, h2, rfl⟩ := itD_1 e
    simp only [Reps] at r
    obtain ⟨v, rr, rfl, r1, rfl⟩ := r
    simp only [Rep] at r1
    subst r1
    have l62 := lim62
    refine ⟨n, rfl, by omega, by omega, z _ _ _ c .no ?_⟩
    have := walkOk_range (K := X.K) (G0 := vis (Hid O ρ' σ) H') (Wr := WrA (lockV ρ' (rdIdx ms)) σ) (H0 := H') (lo := 0) (n := n.toNat)
    simpa using this
theorem sndi_range2 {tg a b : Expr} {p pos : Pos} {ms : List ME} (hg : Gl X "range") (hm : X.mg "range" = none) (hs : notStar a = true) (hs2 : notStar b = true) (h : SndL Φ X W [a, b] ms) (hn : ∀ m ∈ ms, m.isRd = false) (hl : ms.length = 2) : SndI Φ X W tg (.Call (.Name "range" p) [a, b] [] pos) 1 ms := by
  intro O ρ σ H R E q
  refine WI.by (pi_range2 hg hm pa_w (by rw [starAt hs, starAt hs2]; rfl) (starAt hs2 _)) ?_
  refine h O ρ σ H _ E (Res.holds_mono (sndL_len (Res.holds_bind q)) (fun ds ρ' z vs H' c r => ?_) fun x ρ' z => z)
  obtain ⟨l, z⟩ := z
  obtain ⟨xs, e, z⟩ := itR_some z
  rw [fresh_nord hn l] at e z
  rw [hl] at l
  match ds, l with
  | [d, d'], _ =>
    obtain ⟨n, k, rfl, rfl, h1, h2, h3, h4, rfl⟩ := itD_2 e
    simp only [Reps] at r
    obtain ⟨v, rr, rfl, r1, v', rr', rfl, r2, rfl⟩ := r
    simp only [Rep] at r1 r2
    subst r1 r2
    have l62 := lim62
    exact ⟨n, k, rfl, ⟨by omega, by omega, by omega, by omega⟩, z _ _ _ c .no walkOk_range⟩
/-! ### zip, enumerate -/
theorem stillL_two {m m' : ME} : stillL [m, m'] = (m.still && m'.still) := by simp only [stillL, Bool.and_true]
theorem sndi_enum {e : Expr} {elts : List Expr} {kk : Nat} {tpos p pos : Pos} {m : ME} (hg : Gl X "enumerate") (hm : X.mg "enumerate" = none) (hs : notStar e = true) (h : SndS Φ X W e m) : SndI Φ X W (.Tuple elts kk tpos) (.Call (.Name "enumerate" p) [e] [] pos) 3 [m] := by
  intro O ρ σ H R E q
  unfold itR at q
  rw [evL_one] at q
  refine WI.by (EnT.pi_enumA hg hm (pa_cons pe_w pa_nil (starAt hs _)) (starAt hs _)) ?_
  refine h O ρ ρ σ H H true _ (PostC.refl E) q fun a ρ' v H' c s q => ?_
  obtain ⟨xs, e1, q⟩ := itR_some q
  rw [fresh_cons] at e1 q
  cases y : Rfr ρ' m a.2 with
  | lst ds =>
    rw [y] at e1 q
    have e1 : some (ds.zipIdx.map fun p => D.tup [.int (p.2 : Nat), p.1]) = some xs := e1
    cases e1
    obtain ⟨b, vs, rfl, s1, r, k⟩ := s.lst (ms := [m]) c.env (List.mem_cons_self ..) y
    refine ⟨b, vs, rfl, .inl ⟨s1, q _ _ _ (by rw [stillL_one]; exact c) .no ?_⟩⟩
    unfold WalkOk
    rw [List.length_map, List.length_zipIdx, r.length]
    refine walk_enum.mono (fun Hc h => k Hc h) fun i Hc x Hn hi _ y => ?_
    obtain ⟨T, va, vb, rfl, hT, rfl, ea, eb⟩ := y
    obtain ⟨d, ed, rd⟩ := r.getV eb
    cases ea
    refine .inr ⟨T, .int (i : Nat), d, _, vb, ?_, rfl, hT, rfl, by simp only [Rep], rd⟩
    rw [List.getElem?_map, List.getElem?_zipIdx, ed]
    simp
  | tup ds =>
    rw [y] at e1 q
    have e1 : some (ds.zipIdx.map fun p => D.tup [.int (p.2 : Nat), p.1]) = some xs := e1
    cases e1
    obtain ⟨b, vs, rfl, s1, r, k⟩ := s.tup (ms := [m]) c.env y
    refine ⟨b, vs, rfl, .inr ⟨s1, q _ _ _ (by rw [stillL_one]; exact c) .no ?_⟩⟩
    unfold WalkOk
    rw [List.length_map, List.length_zipIdx, r.length]
    refine EnT.walk_enumT.mono (fun Hc h => k Hc h) fun i Hc x Hn hi _ y => ?_
    obtain ⟨T, va, vb, rfl, hT, rfl, ea, eb⟩ := y
    obtain ⟨d, ed, rd⟩ := r.getV eb
    cases ea
    refine .inr ⟨T, .int (i : Nat), d, _, vb, ?_, rfl, hT, rfl, by simp only [Rep], rd⟩
    rw [List.getElem?_map, List.getElem?_zipIdx, ed]
    simp
  | _ => rw [y] at e1; cases e1
/-- zip of two tuples, as a walk -/
theorem walk_zipT {K : PySem.W.Frag} {a b : Addr} {xs ys : List V} {n : Nat} (hn : n = min xs.length ys.length) : Walk (RZ.ItzT K a b) n (fun H => SqT K H a xs ∧ SqT K H b ys) (YPair (fun i => xs[i]?) (fun i => ys[i]?)) := by
  subst hn
  constructor
  · rintro i H hi ⟨q1, q2⟩
    have h1 : i < xs.length := Nat.lt_of_lt_of_le hi (Nat.min_le_left _ _)
    have h2 : i < ys.length := Nat.lt_of_lt_of_le hi (Nat.min_le_right _ _)
    exact ⟨xs, ys, _, _, q1, q2, List.getElem?_eq_getElem h1, List.getElem?_eq_getElem h2⟩
  · rintro H ⟨q1, q2⟩
    exact ⟨xs, ys, q1, q2, by omega⟩
  · rintro i H v H' _ ⟨q1, q2⟩ ⟨T, x, z, e1, e2, e3, e4, e5⟩
    exact ⟨T, x, z, e1, e2, e3, e4 xs q1, e5 ys q2⟩
theorem sndi_zip {e e2 : Expr} {elts : List Expr} {kk : Nat} {tpos p pos : Pos} {m m2 : ME} (hg : Gl X "zip") (hm : X.mg "zip" = none) (hs : notStar e = true) (hs2 : notStar e2 = true) (h : SndS Φ X W e m) (h2 : SndS Φ X W e2 m2) : SndI Φ X W (.Tuple elts kk tpos) (.Call (.Name "zip" p) [e, e2] [] pos) 2 [m, m2] := by
  intro O ρ σ H R E q
  have e0 : itR Φ 2 [m, m2] ρ = (evE Φ m ρ).bind fun x ρ => (evE Φ m2 ρ).bind fun y ρ => ofOpt ((itD 2 (fresh ρ [m, m2] [x.2, y.2])).map fun xs => (dctSrc (fresh ρ [m, m2] [x.2, y.2]), xs)) ρ := by
    unfold itR
    simp only [evL]
    cases evE Φ m ρ with
    | ok x ρ1 =>
      simp only [Res.bind_ok]
      cases evE Φ m2 ρ1 <;> rfl
    | _ => rfl
  rw [e0] at q
  refine WI.by (RZ.pi_zipA hg hm (pa_cons pe_w (pa_cons pe_w pa_nil (starAt hs2 _)) (starAt hs _)) (starAt hs _) (backAny (es := [e2]) (fun y hy => by cases hy with
    | head => exact hs2
    | tail _ z => cases z) _ _)) ?_
  refine h O ρ ρ σ H H true _ (PostC.refl E) q fun a ρ1 v1 H1 c1 s1 q => ?_
  refine h2 O ρ ρ1 σ H H1 _ _ c1 q fun b ρ2 v2 H2 c2 s2 q => ?_
  have s1 := s1.carry c2
  obtain ⟨xs, e1, q⟩ := itR_some q
  rw [fresh_cons, fresh_cons] at e1 q
  cases y : Rfr ρ2 m a.2 with
  | lst ds =>
    cases y2 : Rfr ρ2 m2 b.2 with
    | lst es =>
      rw [y, y2] at e1 q
      have e1 : some ((ds.zip es).map fun p => D.tup [p.1, p.2]) = some xs := e1
      cases e1
      obtain ⟨A, vs, rfl, t1, r, k⟩ := s1.lst (ms := [m, m2]) c2.env (List.mem_cons_self ..) y
      obtain ⟨B, ws, rfl, t2, r2, k2⟩ := s2.lst (ms := [m, m2]) c2.env (List.mem_cons_of_mem _ (List.mem_cons_self ..)) y2
      refine ⟨A, B, vs, ws, rfl, .inl ⟨t1, t2, q _ _ _ (by rw [stillL_two]; exact c1.trans c2) .no ?_⟩⟩
      unfold WalkOk
      rw [List.length_map, List.length_zip, r.length, r2.length]
      refine (walk_zip rfl).mono (fun Hc h => ⟨k Hc h, k2 Hc h⟩) fun i Hc x Hn hi _ y => ?_
      obtain ⟨T, va, vb, rfl, hT, rfl, ea, eb⟩ := y
      obtain ⟨d, ed, rd⟩ := r.getV ea
      obtain ⟨d', ed', rd'⟩ := r2.getV eb
      refine .inr ⟨T, d, d', va, vb, ?_, rfl, hT, rfl, rd, rd'⟩
      rw [List.getElem?_map, show (ds.zip es)[i]? = some (d, d') from List.getElem?_zip_eq_some.mpr ⟨ed, ed'⟩]
      rfl
    | _ => rw [y, y2] at e1; cases e1
  | tup ds =>
    cases y2 : Rfr ρ2 m2 b.2 with
    | tup es =>
      rw [y, y2] at e1 q
      have e1 : some ((ds.zip es).map fun p => D.tup [p.1, p.2]) = some xs := e1
      cases e1
      obtain ⟨A, vs, rfl, t1, r, k⟩ := s1.tup (ms := [m, m2]) c2.env y
      obtain ⟨B, ws, rfl, t2, r2, k2⟩ := s2.tup (ms := [m, m2]) c2.env y2
      refine ⟨A, B, vs, ws, rfl, .inr ⟨t1, t2, q _ _ _ (by rw [stillL_two]; exact c1.trans c2) .no ?_⟩⟩
      unfold WalkOk
      rw [List.length_map, List.length_zip, r.length, r2.length]
      refine (walk_zipT rfl).mono (fun Hc h => ⟨k Hc h, k2 Hc h⟩) fun i Hc x Hn hi _ y => ?_
      obtain ⟨T, va, vb, rfl, hT, rfl, ea, eb⟩ := y
      obtain ⟨d, ed, rd⟩ := r.getV ea
      obtain ⟨d', ed', rd'⟩ := r2.getV eb
      refine .inr ⟨T, d, d', va, vb, ?_, rfl, hT, rfl, rd, rd'⟩
      rw [List.getElem?_map, show (ds.zip es)[i]? = some (d, d') from List.getElem?_zip_eq_some.mpr ⟨ed, ed'⟩]
      rfl
    | _ => rw [y, y2] at e1; cases e1
  | _ => rw [y] at e1; cases e1
end
end Z

namespace Z
open PySem PySem.Spec L2
open PyProof.Rows hiding St
/-! ### slot by slot -/
def SlotOk (K : PySem.W.Frag) (O : Addr → Prop) (G H : Hp) : Sl → Option (Option V) → Prop
  | .non, _ => True
  | .val d, sv => ∃ v, sv = some (some v) ∧ Rep K G d v
  | .own d, sv => ∃ a, sv = some (some (.ref a)) ∧ Top K G H d a ∧ ¬ O a
  | .io d, sv => ∃ a, sv = some (some (.ref a)) ∧ Top K G H d a ∧ O a
  | .lkd d, sv => ∃ a, sv = some (some (.ref a)) ∧ TopR K G H d a
section
variable {K : PySem.W.Frag} {O O' : Addr → Prop} {ρ ρ' ρ0 ρ1 : Vn} {σ σ' : L2.St} {H H' G G' : Hp} {d : D} {v : V} {a : Addr} {i : Nat} {s : Sl}
theorem EnvOk.slot (E : EnvOk K O ρ σ H) (e : ρ[i]? = some s) : SlotOk K O (vis (Hid O ρ σ) H) H s σ[i]? := by
  cases s with
  | non => trivial
  | val d => exact E.val i d e
  | own d =>
    obtain ⟨a, s, t⟩ := E.own i d e
    exact ⟨a, s, t, E.sep i d a e s⟩
  | io d =>
    obtain ⟨a, s, o, t⟩ := E.io i d e
    exact ⟨a, s, t, o⟩
  | lkd d => exact E.lkd i d e
theorem EnvOk.of (len : ρ.length = σ.length) (dom : ∀ b, O b → H b ≠ none) (inj : ∀ (i j : Nat) (a : Addr) (si sj : Sl), ρ[i]? = some si → ρ[j]? = some sj → si.isOwn = true → sj.isOwn = true → σ[i]? = some (some (.ref a)) → σ[j]? = some (some (.ref a)) → i = j)
    (h : ∀ (i : Nat) (s : Sl), ρ[i]? = some s → SlotOk K O (vis (Hid O ρ σ) H) H s σ[i]?) : EnvOk K O ρ σ H where
  len := len
  dom := dom
  val := fun i d e => h i _ e
  own := fun i d e => let ⟨a, s, t, _⟩ := h i _ e; ⟨a, s, t⟩
  io := fun i d e => let ⟨a, s, t, o⟩ := h i _ e; ⟨a, s, o, t⟩
  lkd := fun i d e => h i _ e
  inj := inj
  sep := fun i d a e s => by
    obtain ⟨b, s', _, n⟩ := h i _ e
    rw [s] at s'; cases s'; exact n
/-- a slot's thing, seen from further on -/
theorem SlotOk.ext {sv : Option (Option V)} (h : SlotOk K O G H s sv) (x : Ext G G') (k : ∀ b, s.isOwn = true → sv = some (some (.ref b)) → ∀ o, H b = some o → H' b = some o) (hO : ∀ b, s.isOwn = true → sv = some (some (.ref b)) → (O b ↔ O' b)) : SlotOk K O' G' H' s sv := by
  cases s with
  | non => trivial
  | val d => obtain ⟨v, e, r⟩ := h; exact ⟨v, e, r.ext x⟩
  | own d => obtain ⟨a, e, t, n⟩ := h; exact ⟨a, e, t.ext x (k a rfl e), fun z => n ((hO a rfl e).mpr z)⟩
  | io d => obtain ⟨a, e, t, n⟩ := h; exact ⟨a, e, t.ext x (k a rfl e), (hO a rfl e).mp n⟩
  | lkd d => obtain ⟨a, e, t⟩ := h; exact ⟨a, e, t.ext x (k a rfl e)⟩
theorem getElem?_set_st {σ : L2.St} {i j : Nat} {x y : Option V} (h : (σ.set i x)[j]? = some y) : (j = i ∧ y = x ∧ i < σ.length) ∨ (j ≠ i ∧ σ[j]? = some y) := by
  by_cases e : j = i
  · subst e
    by_cases l : j < σ.length
    · rw [List.getElem?_set_self l] at h; cases h; exact .inl ⟨rfl, rfl, l⟩
    · rw [List.getElem?_eq_none (by simpa using l)] at h; cases h
  · rw [List.getElem?_set_ne (Ne.symm e)] at h; exact .inr ⟨e, h⟩
theorem setS_some {i : Nat} {t : Sl} (h : setS ρ i t = some ρ') : ∃ s, ρ[i]? = some s ∧ s.free = true ∧ ρ' = ρ.set i t := by
  unfold setS at h
  split at h
  · rename_i s e
    split at h
    · rename_i f
      cases h
      exact ⟨s, e, f, rfl⟩
    · cases h
  · cases h
theorem own_set {i : Nat} {t : Sl} {x : Option V} {b : Addr} (hlt : t.isOwn = true → x = some (.ref a)) (h : OwnA (ρ.set i t) (σ.set i x) b) : OwnA ρ σ b ∨ (t.isOwn = true ∧ b = a) := by
  obtain ⟨j, sj, ej, w, e⟩ := h
  rcases getElem?_set_of ej with ⟨rfl, rfl, _⟩ | ⟨ne, ej⟩
  · rcases getElem?_set_st e with ⟨_, e, _⟩ | ⟨n, _⟩
    · rw [hlt w] at e; cases e; exact .inr ⟨w, rfl⟩
    · exact absurd rfl n
  · rcases getElem?_set_st e with ⟨n, _⟩ | ⟨_, e⟩
    · exact absurd n ne
    · exact .inl ⟨j, sj, ej, w, e⟩
theorem wr_set {i : Nat} {t : Sl} {x : Option V} {b : Addr} (hlt : t.isOwn = true → x = some (.ref a)) (h : WrA (ρ.set i t) (σ.set i x) b) : WrA ρ σ b ∨ (t.isOwn = true ∧ b = a) := by
  obtain ⟨j, sj, ej, w, e⟩ := h
  rcases getElem?_set_of ej with ⟨rfl, rfl, _⟩ | ⟨ne, ej⟩
  · have w' : sj.isOwn = true := by cases sj <;> first | rfl | cases w
    rcases getElem?_set_st e with ⟨_, e, _⟩ | ⟨n, _⟩
    · rw [hlt w'] at e; cases e; exact .inr ⟨w', rfl⟩
    · exact absurd rfl n
  · rcases getElem?_set_st e with ⟨n, _⟩ | ⟨_, e⟩
    · exact absurd n ne
    · exact .inl ⟨j, sj, ej, w, e⟩
/-- a slot holds a shared value, or nothing -/
theorem EnvOk.setVal (E : EnvOk K O ρ σ H) {t : Sl} {x : Option V} (ht : t = .non ∨ ∃ d v, t = .val d ∧ x = some v ∧ Rep K (vis (Hid O ρ σ) H) d v) : EnvOk K O (ρ.set i t) (σ.set i x) H := by
  have nt : t.isOwn = false := by rcases ht with rfl | ⟨d, v, rfl, _⟩ <;> rfl
  have hh : ∀ b, Hid O (ρ.set i t) (σ.set i x) b → Hid O ρ σ b := fun b z => z.elim .inl fun z => (own_set (a := 0) (fun w => by rw [nt] at w; cases w) z).elim .inr fun z => by rw [nt] at z; cases z.1
  have xx : Ext (vis (Hid O ρ σ) H) (vis (Hid O (ρ.set i t) (σ.set i x)) H) := vis_ext (fun b z _ => hh b z) fun _ _ _ z => z
  refine EnvOk.of (by simpa using E.len) E.dom (fun j k b sj sk ej ek wj wk aj ak => ?_) fun j sj ej => ?_
  · rcases getElem?_set_of ej with ⟨rfl, rfl, _⟩ | ⟨nj, ej⟩
    · rw [nt] at wj; cases wj
    · rcases getElem?_set_of ek with ⟨rfl, rfl, _⟩ | ⟨nk, ek⟩
      · rw [nt] at wk; cases wk
      · rcases getElem?_set_st aj with ⟨n, _⟩ | ⟨_, aj⟩
        · exact absurd n nj
        · rcases getElem?_set_st ak with ⟨n, _⟩ | ⟨_, ak⟩
          · exact absurd n nk
          · exact E.inj j k b sj sk ej ek wj wk aj ak
  · rcases getElem?_set_of ej with ⟨rfl, rfl, hl⟩ | ⟨nj, ej⟩
    · rcases ht with rfl | ⟨d, v, rfl, rfl, r⟩
      · trivial
      · exact ⟨v, List.getElem?_set_self (by rw [← E.len]; exact hl), r.ext xx⟩
    · rw [List.getElem?_set_ne (Ne.symm nj)]
      exact (E.slot ej).ext xx (fun b _ _ o z => z) fun b _ _ => Iff.rfl
/-- a slot takes a new object -/
theorem EnvOk.setOwn {p : Addr} (E : EnvOk K (newO true O (.ref p)) ρ σ H) (hio : ∀ (j : Nat) (d : D) (b : Addr), ρ[j]? = some (.io d) → σ[j]? = some (some (.ref b)) → O b) (hn : ∀ b, OwnA ρ σ b → b ≠ p) (np : ¬ O p) (t : Top K (vis (Hid (newO true O (.ref p)) ρ σ) H) H d p) : EnvOk K O (ρ.set i (.own d)) (σ.set i (some (.ref p))) H := by
  have hh : ∀ b, Hid O (ρ.set i (.own d)) (σ.set i (some (.ref p))) b → Hid (newO true O (.ref p)) ρ σ b := fun b z => by
    rcases z with z | z
    · exact .inl (.inl z)
    · rcases own_set (a := p) (fun _ => rfl) z with z | ⟨_, rfl⟩
      · exact .inr z
      · exact .inl (.inr ⟨rfl, rfl⟩)
  have xx : Ext (vis (Hid (newO true O (.ref p)) ρ σ) H) (vis (Hid O (ρ.set i (.own d)) (σ.set i (some (.ref p)))) H) := vis_ext (fun b z _ => hh b z) fun _ _ _ z => z
  refine EnvOk.of (by simpa using E.len) (fun b z => E.dom b (.inl z)) (fun j k b sj sk ej ek wj wk aj ak => ?_) fun j sj ej => ?_
  · rcases getElem?_set_of ej with ⟨rfl, rfl, _⟩ | ⟨nj, ej1⟩
    · rcases getElem?_set_of ek with ⟨rfl, rfl, _⟩ | ⟨nk, ek1⟩
      · rfl
      · rcases getElem?_set_st aj with ⟨_, z, _⟩ | ⟨n, _⟩
        · cases z
          rcases getElem?_set_st ak with ⟨n, _⟩ | ⟨_, ak1⟩
          · exact absurd n nk
          · exact absurd rfl (hn p ⟨k, sk, ek1, wk, ak1⟩)
        · exact absurd rfl n
    · rcases getElem?_set_of ek with ⟨rfl, rfl, _⟩ | ⟨nk, ek1⟩
      · rcases getElem?_set_st ak with ⟨_, z, _⟩ | ⟨n, _⟩
        · cases z
          rcases getElem?_set_st aj with ⟨n, _⟩ | ⟨_, aj1⟩
          · exact absurd n nj
          · exact absurd rfl (hn p ⟨j, sj, ej1, wj, aj1⟩)
        · exact absurd rfl n
      · rcases getElem?_set_st aj with ⟨n, _⟩ | ⟨_, aj1⟩
        · exact absurd n nj
        · rcases getElem?_set_st ak with ⟨n, _⟩ | ⟨_, ak1⟩
          · exact absurd n nk
          · exact E.inj j k b sj sk ej1 ek1 wj wk aj1 ak1
  · rcases getElem?_set_of ej with ⟨rfl, rfl, hl⟩ | ⟨nj, ej⟩
    · exact ⟨p, List.getElem?_set_self (by rw [← E.len]; exact hl), t.ext xx fun o z => z, np⟩
    · rw [List.getElem?_set_ne (Ne.symm nj)]
      refine (E.slot ej).ext xx (fun b _ _ o z => z) fun b w eb => ⟨fun z => ?_, .inl⟩
      rcases z with z | ⟨_, z⟩
      · exact z
      · cases z; exact absurd rfl (hn p ⟨j, sj, ej, w, eb⟩)
end
/-! ### targets -/
def gNames : List Nat → TGs
  | [] => gNil
  | i :: is => gCons (gName i) (gNames is)
mutual
def gOf (K : PySem.W.Frag) : MT → TG
  | .nm i => gName i
  | .tp is => gTup K is.length (gNames is)
  | .tq ts => gTup K ts.length (gOfs K ts)
def gOfs (K : PySem.W.Frag) : List MT → TGs
  | [] => gNil
  | t :: ts => gCons (gOf K t) (gOfs K ts)
end
/-- the environment after some slots took shared values -/
structure PostV (K : PySem.W.Frag) (O : Addr → Prop) (ρ : Vn) (σ : L2.St) (H : Hp) (is : List Nat) (ρ' : Vn) (σ' : L2.St) : Prop where
  env : EnvOk K O ρ' σ' H
  own : ∀ b, OwnA ρ' σ' b → OwnA ρ σ b
  wr : ∀ b, WrA ρ' σ' b → WrA ρ σ b
  out : ∀ i, i ∉ is → ρ'[i]? = ρ[i]? ∧ σ'[i]? = σ[i]?
  prot : ∀ (i : Nat) (s : Sl), ρ[i]? = some s → s.free = false → ρ'[i]? = ρ[i]? ∧ σ'[i]? = σ[i]?
  len : ρ'.length = ρ.length
section
variable {K : PySem.W.Frag} {O : Addr → Prop} {ρ ρ' : Vn} {σ : L2.St} {H : Hp}
theorem sets_ok : ∀ {is : List Nat} {ds : List D} {vs : List V} {ρ ρ' : Vn} {σ : L2.St} {Q : L2.St → Hp → Prop}, EnvOk K O ρ σ H → sets ρ is ds = some ρ' → Reps K (vis (Hid O ρ σ) H) ds vs → (∀ σ', PostV K O ρ σ H is ρ' σ' → Q σ' H) → gNames is vs σ H Q
  | [], [], vs, ρ, ρ', σ, Q, E, e, r, k => by
    simp only [sets] at e
    cases e
    simp only [Reps] at r
    subst r
    exact ⟨rfl, k σ ⟨E, fun _ h => h, fun _ h => h, fun _ _ => ⟨rfl, rfl⟩, fun _ _ _ _ => ⟨rfl, rfl⟩, rfl⟩⟩
  | i :: is, d :: ds, vs, ρ, ρ', σ, Q, E, e, r, k => by
    simp only [sets] at e
    cases z : setS ρ i (.val d) with
    | none => rw [z] at e; cases e
    | some ρ1 =>
      rw [z] at e
      obtain ⟨s0, e0, f0, rfl⟩ := setS_some z
      simp only [Reps] at r
      obtain ⟨v, rr, rfl, r1, r2⟩ := r
      have E1 : EnvOk K O (ρ.set i (.val d)) (σ.set i (some v)) H := E.setVal (.inr ⟨d, v, rfl, rfl, r1⟩)
      have hown : ∀ b, OwnA (ρ.set i (.val d)) (σ.set i (some v)) b → OwnA ρ σ b := fun b z => (own_set (a := 0) (fun w => by cases w) z).elim id fun z => by cases z.1
      have hwr : ∀ b, WrA (ρ.set i (.val d)) (σ.set i (some v)) b → WrA ρ σ b := fun b z => (wr_set (a := 0) (fun w => by cases w) z).elim id fun z => by cases z.1
      refine ⟨v, rr, rfl, ?_⟩
      refine sets_ok E1 e (r2.ext (vis_ext (fun b z _ => z.elim .inl fun z => .inr (hown b z)) fun _ _ _ z => z)) fun σ' p => k σ' ⟨p.env, fun b z => hown b (p.own b z), fun b z => hwr b (p.wr b z), fun j hj => ?_, fun j s ej fj => ?_, by rw [p.len]; simp⟩
      · simp only [List.mem_cons, not_or] at hj
        obtain ⟨a, b⟩ := p.out j hj.2
        rw [a, b, List.getElem?_set_ne (Ne.symm hj.1), List.getElem?_set_ne (Ne.symm hj.1)]
        exact ⟨rfl, rfl⟩
      · have ne : j ≠ i := fun h => by subst h; rw [e0] at ej; cases ej; rw [f0] at fj; cases fj
        obtain ⟨a, b⟩ := p.prot j s (by rw [List.getElem?_set_ne (Ne.symm ne)]; exact ej) fj
        rw [a, b, List.getElem?_set_ne (Ne.symm ne), List.getElem?_set_ne (Ne.symm ne)]
        exact ⟨rfl, rfl⟩
  | [], _ :: _, _, _, _, _, _, _, e, _, _ => by simp [sets] at e
  | _ :: _, [], _, _, _, _, _, _, e, _, _ => by simp [sets] at e
theorem sets_len : ∀ {is : List Nat} {ds : List D} {ρ ρ' : Vn}, sets ρ is ds = some ρ' → ds.length = is.length
  | [], [], _, _, _ => rfl
  | i :: is, d :: ds, ρ, ρ', e => by
    simp only [sets] at e
    split at e
    · simp [sets_len e]
    · cases e
  | [], _ :: _, _, _, e => by simp [sets] at e
  | _ :: _, [], _, _, e => by simp [sets] at e
theorem PostV.trans {is1 is2 : List Nat} {ρ1 ρ2 : Vn} {σ1 σ2 : L2.St} (a : PostV K O ρ σ H is1 ρ1 σ1) (b : PostV K O ρ1 σ1 H is2 ρ2 σ2) : PostV K O ρ σ H (is1 ++ is2) ρ2 σ2 where
  env := b.env
  own := fun c z => a.own c (b.own c z)
  wr := fun c z => a.wr c (b.wr c z)
  out := fun i hi => by
    simp only [List.mem_append, not_or] at hi
    obtain ⟨p, q⟩ := b.out i hi.2
    obtain ⟨p', q'⟩ := a.out i hi.1
    exact ⟨p.trans p', q.trans q'⟩
  prot := fun i s e f => by
    obtain ⟨p', q'⟩ := a.prot i s e f
    obtain ⟨p, q⟩ := b.prot i s (by rw [p']; exact e) f
    exact ⟨p.trans p', q.trans q'⟩
  len := b.len.trans a.len
theorem asgTs_len : ∀ {ts : List MT} {ds : List D} {ρ ρ' : Vn}, asgTs ts ds ρ = some ρ' → ds.length = ts.length
  | [], [], _, _, _ => rfl
  | [], _ :: _, _, _, e => by simp [asgTs] at e
  | _ :: _, [], _, _, e => by simp [asgTs] at e
  | t :: ts, d :: ds, ρ, ρ', e => by
    simp only [asgTs] at e
    cases z : asgT t d ρ with
    | none => rw [z] at e; cases e
    | some ρ2 =>
      rw [z] at e
      have e : asgTs ts ds ρ2 = some ρ' := e
      simp [asgTs_len e]
mutual
/-- an assignment to a target -/
theorem asgT_ok : ∀ {tg : MT} {d : D} {v : V} {ρ ρ' : Vn} {σ : L2.St} {Q : L2.St → Hp → Prop}, EnvOk K O ρ σ H → asgT tg d ρ = some ρ' → Rep K (vis (Hid O ρ σ) H) d v → (∀ σ', PostV K O ρ σ H tg.slots ρ' σ' → Q σ' H) → gOf K tg v σ H Q
  | .nm i, d, v, ρ, ρ', σ, Q, E, e, r, k => by
    simp only [asgT] at e
    have := sets_ok (is := [i]) (ds := [d]) (vs := [v]) (ρ := ρ) (ρ' := ρ') (σ := σ) (Q := Q) E (by simp only [sets, e]) (by simp only [Reps]; exact ⟨v, [], rfl, r, rfl⟩) k
    obtain ⟨v', rr, e1, e2⟩ := this
    cases e1
    obtain ⟨_, e2⟩ := e2
    exact e2
  | .tp is, d, v, ρ, ρ', σ, Q, E, e, r, k => by
    simp only [asgT] at e
    cases d with
    | tup ds =>
      have e : sets ρ is ds = some ρ' := e
      simp only [Rep] at r
      obtain ⟨a, vs, rfl, s, r⟩ := r
      have hl : ds.length = is.length := sets_len e
      exact ⟨a, vs, rfl, sqT_ext vis_le s, by rw [← r.length, hl], sets_ok E e r k⟩
    | _ => cases e
  | .tq ts, d, v, ρ, ρ', σ, Q, E, e, r, k => by
    simp only [asgT] at e
    cases d with
    | tup ds =>
      have e : asgTs ts ds ρ = some ρ' := e
      simp only [Rep] at r
      obtain ⟨a, vs, rfl, s, r⟩ := r
      obtain ⟨hl, h⟩ := asgTs_ok (Q := Q) E e r (by simpa only [MT.slots] using k)
      exact ⟨a, vs, rfl, sqT_ext vis_le s, by rw [← r.length, hl], h⟩
    | _ => cases e
theorem asgTs_ok : ∀ {ts : List MT} {ds : List D} {vs : List V} {ρ ρ' : Vn} {σ : L2.St} {Q : L2.St → Hp → Prop}, EnvOk K O ρ σ H → asgTs ts ds ρ = some ρ' → Reps K (vis (Hid O ρ σ) H) ds vs → (∀ σ', PostV K O ρ σ H (slotsL ts) ρ' σ' → Q σ' H) → ds.length = ts.length ∧ gOfs K ts vs σ H Q
  | [], ds, vs, ρ, ρ', σ, Q, E, e, r, k => by
    cases ds with
    | cons => simp [asgTs] at e
    | nil =>
      simp only [asgTs] at e
      cases e
      simp only [Reps] at r
      subst r
      exact ⟨rfl, rfl, k σ ⟨E, fun _ h => h, fun _ h => h, fun _ _ => ⟨rfl, rfl⟩, fun _ _ _ _ => ⟨rfl, rfl⟩, rfl⟩⟩
  | t :: ts, ds, vs, ρ, ρ', σ, Q, E, e, r, k => by
    cases ds with
    | nil => simp [asgTs] at e
    | cons d ds =>
      simp only [asgTs] at e
      cases z : asgT t d ρ with
      | none => rw [z] at e; cases e
      | some ρ1 =>
        rw [z] at e
        have e : asgTs ts ds ρ1 = some ρ' := e
        simp only [Reps] at r
        obtain ⟨v, rr, rfl, r1, r2⟩ := r
        have hlen : ds.length = ts.length := asgTs_len e
        refine ⟨by simp [hlen], v, rr, rfl, asgT_ok E z r1 fun σ1 p1 => ?_⟩
        refine (asgTs_ok (Q := Q) p1.env e (r2.ext (vis_ext (fun b z _ => z.elim .inl fun z => .inr (p1.own b z)) fun _ _ _ z => z)) fun σ2 p2 => k σ2 ?_).2
        simp only [slotsL]
        exact p1.trans p2
end
end
/-! ### a dict locked while it is walked -/
section
variable {X : Cx} {O : Addr → Prop} {ρ : Vn} {σ : L2.St} {H Hl Hc : Hp} {fl : Bool} {K : PySem.W.Frag}
theorem EnvOk.lk {d : Addr} {ws : List (Key × V)} {od : Obj} (E : EnvOk K O ρ σ H) (e : H d = some (.dK ws)) (nw : ¬ WrA ρ σ d) : EnvOk K O ρ σ (upd H d (.frz od (.dK ws))) := by
  have x := ext_lock (O := Hid O ρ σ) (od := od) e
  have ins : ∀ {a : Addr} {C : Addr} {dx : Addr} {fs : List (Str × V)}, H a = some (.ins C dx fs) → upd H d (.frz od (.dK ws)) a = some (.ins C dx fs) := fun {a C dx fs} h => by
    rw [upd_ne (fun z => by subst z; rw [e] at h; cases h)]; exact h
  have rd : ∀ {a : Addr} {u : HO}, nf u = true → Rd H a u → Rd (upd H d (.frz od (.dK ws))) a u := fun {a u} hn r => by
    by_cases hb : a = d
    · subst hb
      rcases r with r | ⟨o, r⟩
      · rw [e] at r; cases r; exact .inr ⟨od, upd_same⟩
      · rw [e] at r; cases r
    · rcases r with r | ⟨o, r⟩
      · exact .inl (by rw [upd_ne hb]; exact r)
      · exact .inr ⟨o, by rw [upd_ne hb]; exact r⟩
  refine EnvOk.of E.len (fun b z => upd_dm (E.dom b z)) E.inj fun i s hs => ?_
  have sl := E.slot hs
  cases s with
  | non => trivial
  | val d' => obtain ⟨v, ev, r⟩ := sl; exact ⟨v, ev, r.ext x⟩
  | own d' =>
    obtain ⟨a, ea, t, n⟩ := sl
    have ne : a ≠ d := fun z => by subst z; exact nw ⟨i, _, hs, rfl, ea⟩
    exact ⟨a, ea, t.ext x fun o h => by rw [upd_ne ne]; exact h, n⟩
  | io d' =>
    obtain ⟨a, ea, t, n⟩ := sl
    have ne : a ≠ d := fun z => by subst z; exact nw ⟨i, _, hs, rfl, ea⟩
    exact ⟨a, ea, t.ext x fun o h => by rw [upd_ne ne]; exact h, n⟩
  | lkd d' =>
    obtain ⟨a, ea, t⟩ := sl
    refine ⟨a, ea, ?_⟩
    cases d' <;> simp only [TopR] at t ⊢ <;> try exact t
    · obtain ⟨vs, r, rs⟩ := t; exact ⟨vs, rd rfl r, rs.ext x⟩
    · obtain ⟨vs, r, rs⟩ := t; exact ⟨vs, rd rfl r, rs.ext x⟩
    · obtain ⟨vs, r, rs⟩ := t; exact ⟨vs, rd rfl r, rs.ext x⟩
    · obtain ⟨dx, vs, r, rs⟩ := t; exact ⟨dx, vs, ins r, rs.ext x⟩
theorem EnvOk.unlk {d : Addr} {ws : List (Key × V)} {od : Obj} (E : EnvOk K O ρ σ H) (e : H d = some (.frz od (.dK ws))) : EnvOk K O ρ σ (upd H d (.dK ws)) := by
  have x := ext_unlock (O := Hid O ρ σ) e
  have ins : ∀ {a : Addr} {C : Addr} {dx : Addr} {fs : List (Str × V)}, H a = some (.ins C dx fs) → upd H d (.dK ws) a = some (.ins C dx fs) := fun {a C dx fs} h => by
    rw [upd_ne (fun z => by subst z; rw [e] at h; cases h)]; exact h
  have rd : ∀ {a : Addr} {u : HO}, nf u = true → Rd H a u → Rd (upd H d (.dK ws)) a u := fun {a u} hn r => by
    by_cases hb : a = d
    · subst hb
      rcases r with r | ⟨o, r⟩
      · rw [e] at r; cases r; cases hn
      · rw [e] at r; cases r; exact .inl upd_same
    · rcases r with r | ⟨o, r⟩
      · exact .inl (by rw [upd_ne hb]; exact r)
      · exact .inr ⟨o, by rw [upd_ne hb]; exact r⟩
  have tne : ∀ {a : Addr} {G : Hp} {d' : D}, Top K G H d' a → a ≠ d := fun {a G d'} t z => by
    subst z
    cases d' <;> simp only [Top] at t
    · obtain ⟨vs, r, _⟩ := t; rw [e] at r; cases r
    · obtain ⟨vs, r, _⟩ := t; rw [e] at r; cases r
    · obtain ⟨vs, r, _⟩ := t; rw [e] at r; cases r
    · obtain ⟨dx, vs, r, _⟩ := t; rw [e] at r; cases r
  refine EnvOk.of E.len (fun b z => upd_dm (E.dom b z)) E.inj fun i s hs => ?_
  have sl := E.slot hs
  cases s with
  | non => trivial
  | val d' => obtain ⟨v, ev, r⟩ := sl; exact ⟨v, ev, r.ext x⟩
  | own d' =>
    obtain ⟨a, ea, t, n⟩ := sl
    exact ⟨a, ea, t.ext x fun o h => by rw [upd_ne (tne t)]; exact h, n⟩
  | io d' =>
    obtain ⟨a, ea, t, n⟩ := sl
    exact ⟨a, ea, t.ext x fun o h => by rw [upd_ne (tne t)]; exact h, n⟩
  | lkd d' =>
    obtain ⟨a, ea, t⟩ := sl
    refine ⟨a, ea, ?_⟩
    cases d' <;> simp only [TopR] at t ⊢ <;> try exact t
    · obtain ⟨vs, r, rs⟩ := t; exact ⟨vs, rd rfl r, rs.ext x⟩
    · obtain ⟨vs, r, rs⟩ := t; exact ⟨vs, rd rfl r, rs.ext x⟩
    · obtain ⟨vs, r, rs⟩ := t; exact ⟨vs, rd rfl r, rs.ext x⟩
    · obtain ⟨dx, vs, r, rs⟩ := t; exact ⟨dx, vs, ins r, rs.ext x⟩
/-- the lock taken off behind the walk -/
structure Unl (X : Cx) (Wr : Addr → Prop) (H Hl Hc Hu : Hp) : Prop where
  un : ∀ P : Hp → Prop, P Hu → UnL X P Hc
  kp : Kp Wr H Hu
  none : ∀ b, Hu b = none ↔ Hc b = none
  ext : ∀ O, Ext (vis O Hc) (vis O Hu)
  env : ∀ {K : PySem.W.Frag} {O : Addr → Prop} {ρ : Vn} {σ : L2.St}, EnvOk K O ρ σ Hc → EnvOk K O ρ σ Hu
  same : ∀ b o, Hc b = some o → nf o = true → Hu b = some o
theorem Lk.back {Wr : Addr → Prop} (lk : Lk X fl Wr H Hl) (kp : Kp Wr Hl Hc) : ∃ Hu, Unl X Wr H Hl Hc Hu := by
  cases lk with
  | no => exact ⟨Hc, fun P h => .inl h, kp, fun _ => Iff.rfl, fun _ => Ext.refl, id, fun _ _ h _ => h⟩
  | yes d ws od hf e nfz nw =>
    have ec : Hc d = some (.frz od (.dK ws)) := kp d _ nw upd_same
    refine ⟨upd Hc d (.dK ws), fun P h => .inr ⟨d, od, ws, ec, nfz, h⟩, fun b o n h => ?_, fun b => ?_, fun O => ext_unlock ec, fun E => E.unlk ec, fun b o h hn => ?_⟩
    · by_cases hb : b = d
      · subst hb; rw [e] at h; cases h; exact upd_same
      · rw [upd_ne hb]; exact kp b o n (by rw [upd_ne hb]; exact h)
    · by_cases hb : b = d
      · subst hb; rw [upd_same, ec]; simp
      · rw [upd_ne hb]
    · have hb : b ≠ d := fun z => by subst z; rw [ec] at h; cases h; cases hn
      rw [upd_ne hb]; exact h
theorem Lk.env (lk : Lk X fl (WrA ρ σ) H Hl) (E : EnvOk K O ρ σ H) : EnvOk K O ρ σ Hl := by
  cases lk with
  | no => exact E
  | yes d ws od hf e nfz nw => exact E.lk e nw
theorem Lk.none {Wr : Addr → Prop} (lk : Lk X fl Wr H Hl) (b : Addr) : Hl b = none ↔ H b = none := by
  cases lk with
  | no => exact Iff.rfl
  | yes d ws od hf e nfz nw =>
    by_cases hb : b = d
    · subst hb; rw [upd_same, e]; simp
    · rw [upd_ne hb]
theorem Lk.ext {Wr : Addr → Prop} (lk : Lk X fl Wr H Hl) (O : Addr → Prop) : Ext (vis O H) (vis O Hl) := by
  cases lk with
  | no => exact Ext.refl
  | yes d ws od hf e nfz nw => exact ext_lock e
theorem Lk.off {Wr : Addr → Prop} (lk : Lk X false Wr H Hl) : Hl = H := by
  cases lk with
  | no => rfl
  | yes d ws od hf => cases hf
end
end Z

namespace Z
open PySem PySem.Spec L2
open PyProof.Rows hiding St
/-! ### wiped slots -/
theorem wipeV_len {ρ : Vn} : ∀ {vs : List Nat}, (wipeV ρ vs).length = ρ.length
  | [] => rfl
  | v :: vs => by unfold wipeV; rw [List.length_set, wipeV_len]
theorem wipeV_out {ρ : Vn} {j : Nat} : ∀ {vs : List Nat}, j ∉ vs → (wipeV ρ vs)[j]? = ρ[j]?
  | [], _ => rfl
  | v :: vs, h => by
    simp only [List.mem_cons, not_or] at h
    unfold wipeV
    rw [List.getElem?_set_ne (Ne.symm h.1), wipeV_out h.2]
theorem wipeV_in {ρ : Vn} {j : Nat} : ∀ {vs : List Nat}, j ∈ vs → j < ρ.length → (wipeV ρ vs)[j]? = some .non
  | [], h, _ => by cases h
  | v :: vs, h, hl => by
    unfold wipeV
    by_cases e : v = j
    · subst e; rw [List.getElem?_set_self (by rw [wipeV_len]; exact hl)]
    · rw [List.getElem?_set_ne e]
      rcases List.mem_cons.mp h with h | h
      · exact absurd h.symm e
      · exact wipeV_in h hl
theorem wipeV_cases {ρ : Vn} {vs : List Nat} {j : Nat} {s : Sl} (h : (wipeV ρ vs)[j]? = some s) : (j ∈ vs ∧ s = .non) ∨ (j ∉ vs ∧ ρ[j]? = some s) := by
  by_cases hj : j ∈ vs
  · have hl : j < ρ.length := by
      have := (List.getElem?_eq_some_iff.mp h).1
      rwa [wipeV_len] at this
    rw [wipeV_in hj hl] at h
    cases h; exact .inl ⟨hj, rfl⟩
  · rw [wipeV_out hj] at h; exact .inr ⟨hj, h⟩
theorem wipe_out' {σ : L2.St} {j : Nat} {vs : List Nat} (h : j ∉ vs) : (wipe σ vs)[j]? = σ[j]? := wipe_out h
theorem wipe_in' {σ : L2.St} {j : Nat} {x : V} {vs : List Nat} (h : (wipe σ vs)[j]? = some (some x)) : σ[j]? = some (some x) ∧ j ∉ vs := wipe_some h
theorem own_wipe {ρ : Vn} {σ : L2.St} {vs : List Nat} {b : Addr} (h : OwnA (wipeV ρ vs) (wipe σ vs) b) : OwnA ρ σ b := by
  obtain ⟨j, s, e, w, q⟩ := h
  obtain ⟨q, hj⟩ := wipe_in' q
  rw [wipeV_out hj] at e
  exact ⟨j, s, e, w, q⟩
theorem wr_wipe {ρ : Vn} {σ : L2.St} {vs : List Nat} {b : Addr} (h : WrA (wipeV ρ vs) (wipe σ vs) b) : WrA ρ σ b := by
  obtain ⟨j, s, e, w, q⟩ := h
  obtain ⟨q, hj⟩ := wipe_in' q
  rw [wipeV_out hj] at e
  exact ⟨j, s, e, w, q⟩
section
variable {K : PySem.W.Frag} {O O' : Addr → Prop} {ρ ρ' ρ0 ρ1 : Vn} {σ σ' : L2.St} {H H' G G' : Hp} {d : D} {v : V} {a : Addr} {i : Nat} {s : Sl}
theorem EnvOk.wiped (E : EnvOk K O ρ σ H) : ∀ vs : List Nat, EnvOk K O (wipeV ρ vs) (wipe σ vs) H
  | [] => E
  | v :: vs => by
    unfold wipeV wipe
    exact (E.wiped vs).setVal (.inl rfl)
/-- a hidden thing is changed that no slot owns -/
theorem EnvOk.updHid (E : EnvOk K O ρ σ H) {p : Addr} {o : HO} (hO : O p) (hn : ¬ OwnA ρ σ p) : EnvOk K O ρ σ (upd H p o) := by
  have x : Ext (vis (Hid O ρ σ) H) (vis (Hid O ρ σ) (upd H p o)) := vis_ext (fun _ z _ => z) fun b u n e => by
    have ne : b ≠ p := fun h => by subst h; exact n (.inl hO)
    rw [upd_ne ne]; exact e
  refine EnvOk.of E.len (fun b h => upd_dm (E.dom b h)) E.inj fun j sj ej => (E.slot ej).ext x (fun b w eb u e => ?_) fun b _ _ => Iff.rfl
  have ne : b ≠ p := fun h => by subst h; exact hn ⟨j, sj, ej, w, eb⟩
  rw [upd_ne ne]; exact e
theorem lockV_cases : ∀ {is : List Nat} {j : Nat} {s : Sl}, (lockV ρ is)[j]? = some s → ρ[j]? = some s ∨ (j ∈ is ∧ ∃ d, s = .lkd d ∧ (ρ[j]? = some (.own d) ∨ ρ[j]? = some (.io d)))
  | [], _, _, h => .inl h
  | i :: is, j, s, h => by
    unfold lockV at h
    split at h
    · rename_i d e
      rcases getElem?_set_of h with ⟨rfl, rfl, _⟩ | ⟨_, h⟩
      · rcases lockV_cases e with e | ⟨_, _, e, _⟩
        · exact .inr ⟨List.mem_cons_self .., d, rfl, .inl e⟩
        · cases e
      · rcases lockV_cases h with e | ⟨hm, z⟩
        · exact .inl e
        · exact .inr ⟨List.mem_cons_of_mem _ hm, z⟩
    · rename_i d e
      rcases getElem?_set_of h with ⟨rfl, rfl, _⟩ | ⟨_, h⟩
      · rcases lockV_cases e with e | ⟨_, _, e, _⟩
        · exact .inr ⟨List.mem_cons_self .., d, rfl, .inr e⟩
        · cases e
      · rcases lockV_cases h with e | ⟨hm, z⟩
        · exact .inl e
        · exact .inr ⟨List.mem_cons_of_mem _ hm, z⟩
    · rcases lockV_cases h with e | ⟨hm, z⟩
      · exact .inl e
      · exact .inr ⟨List.mem_cons_of_mem _ hm, z⟩
theorem lockV_len : ∀ {is : List Nat}, (lockV ρ is).length = ρ.length
  | [] => rfl
  | i :: is => by
    unfold lockV
    split
    · rw [List.length_set, lockV_len]
    · rw [List.length_set, lockV_len]
    · exact lockV_len
theorem own_lock {is : List Nat} {b : Addr} : OwnA (lockV ρ is) σ b ↔ OwnA ρ σ b := by
  constructor
  · rintro ⟨j, s, e, w, q⟩
    rcases lockV_cases e with e | ⟨_, d, rfl, e | e⟩
    · exact ⟨j, s, e, w, q⟩
    · exact ⟨j, _, e, rfl, q⟩
    · exact ⟨j, _, e, rfl, q⟩
  · rintro ⟨j, s, e, w, q⟩
    have hl : j < (lockV ρ is).length := by rw [lockV_len]; exact (List.getElem?_eq_some_iff.mp e).1
    have e2 : (lockV ρ is)[j]? = some (lockV ρ is)[j] := by simp [hl]
    refine ⟨j, _, e2, ?_, q⟩
    rcases lockV_cases e2 with e3 | ⟨_, d, e3, _⟩
    · rw [e] at e3; cases e3; exact w
    · rw [e3]; rfl
theorem EnvOk.locked (E : EnvOk K O ρ σ H) (is : List Nat) : EnvOk K O (lockV ρ is) σ H := by
  have hh : Hid O (lockV ρ is) σ = Hid O ρ σ := by
    funext b
    simp only [Hid, own_lock]
  refine EnvOk.of (by rw [lockV_len]; exact E.len) E.dom (fun j k b sj sk ej ek wj wk aj ak => ?_) fun j sj ej => ?_
  · have back : ∀ {j : Nat} {sj : Sl}, (lockV ρ is)[j]? = some sj → sj.isOwn = true → ∃ sj', ρ[j]? = some sj' ∧ sj'.isOwn = true := fun {j sj} e w => by
      rcases lockV_cases e with e | ⟨_, d, rfl, e | e⟩
      · exact ⟨sj, e, w⟩
      · exact ⟨_, e, rfl⟩
      · exact ⟨_, e, rfl⟩
    obtain ⟨sj', ej', wj'⟩ := back ej wj
    obtain ⟨sk', ek', wk'⟩ := back ek wk
    exact E.inj j k b sj' sk' ej' ek' wj' wk' aj ak
  · rw [hh]
    rcases lockV_cases ej with e | ⟨_, d, rfl, e | e⟩
    · exact E.slot e
    · obtain ⟨a, s, t⟩ := E.own j d e; exact ⟨a, s, t.r⟩
    · obtain ⟨a, s, _, t⟩ := E.io j d e; exact ⟨a, s, t.r⟩
theorem backV_len : ∀ {is : List Nat}, (backV ρ ρ0 is).length = ρ.length
  | [] => rfl
  | i :: is => by unfold backV; rw [List.length_set, backV_len]
theorem backV_out {j : Nat} : ∀ {is : List Nat}, j ∉ is → (backV ρ ρ0 is)[j]? = ρ[j]?
  | [], _ => rfl
  | i :: is, h => by
    simp only [List.mem_cons, not_or] at h
    unfold backV
    rw [List.getElem?_set_ne (Ne.symm h.1), backV_out h.2]
theorem backV_in {j : Nat} : ∀ {is : List Nat}, j ∈ is → j < ρ.length → (backV ρ ρ0 is)[j]? = some (ρ0[j]?.getD .non)
  | [], h, _ => by cases h
  | i :: is, h, hl => by
    unfold backV
    by_cases e : i = j
    · subst e; rw [List.getElem?_set_self (by rw [backV_len]; exact hl)]
    · rw [List.getElem?_set_ne e]
      rcases List.mem_cons.mp h with h | h
      · exact absurd h.symm e
      · exact backV_in h hl
/-- a walk's or a comprehension's end: the wiped and the locked slots are as they were -/
theorem EnvOk.restore {O2 : Addr → Prop} {is vs : List Nat} {ρc : Vn} {H1 Hc : Hp} (E1 : EnvOk K O ρ1 σ H1) (Eb : EnvOk K O2 (wipeV ρc vs) (wipe σ vs) Hc) (to : EvTo (wipeV (lockV ρ1 is) vs) (wipeV ρc vs)) (kp : Kp (WrA (lockV ρ1 is) σ) H1 Hc)
    (hO : ∀ b, O b → O2 b) (hO2 : ∀ b, O2 b → O b ∨ H1 b = none) (hvs : ∀ i ∈ vs, ∀ s, ρ1[i]? = some s → s.isOwn = false) : EnvOk K O2 (backV ρc ρ1 (is ++ vs)) σ Hc ∧ EvTo ρ1 (backV ρc ρ1 (is ++ vs)) ∧ ∀ b, OwnA (backV ρc ρ1 (is ++ vs)) σ b → OwnA (wipeV ρc vs) (wipe σ vs) b := by
  have lc : ρc.length = ρ1.length := by
    have := to.1
    rw [wipeV_len, wipeV_len, lockV_len] at this
    exact this
  have lσ : ρ1.length = σ.length := E1.len
  -- each slot at the end
  have char : ∀ {j : Nat} {s : Sl}, (backV ρc ρ1 (is ++ vs))[j]? = some s → (j ∈ is ++ vs ∧ ρ1[j]? = some s) ∨ (j ∉ is ∧ j ∉ vs ∧ (wipeV ρc vs)[j]? = some s) := fun {j s} e => by
    have hl : j < ρc.length := by have := (List.getElem?_eq_some_iff.mp e).1; rwa [backV_len] at this
    by_cases hj : j ∈ is ++ vs
    · rw [backV_in hj hl] at e
      have : ρ1[j]? = some ρ1[j] := by simp [lc ▸ hl]
      rw [this] at e
      simp only [Option.getD_some] at e
      cases e
      exact .inl ⟨hj, this⟩
    · rw [backV_out hj] at e
      simp only [List.mem_append, not_or] at hj
      exact .inr ⟨hj.1, hj.2, by rw [wipeV_out hj.2]; exact e⟩
  have to' : EvTo ρ1 (backV ρc ρ1 (is ++ vs)) := ⟨by rw [backV_len, lc], fun j s e => by
    have hl : j < ρc.length := by rw [lc]; exact (List.getElem?_eq_some_iff.mp e).1
    by_cases hj : j ∈ is ++ vs
    · exact ⟨s, by rw [backV_in hj hl, e]; rfl, s.to_refl⟩
    · rw [backV_out hj]
      simp only [List.mem_append, not_or] at hj
      have hl2 : j < (lockV ρ1 is).length := by rw [lockV_len, ← lc]; exact hl
      have e2 : (lockV ρ1 is)[j]? = some (lockV ρ1 is)[j] := by simp [hl2]
      rcases lockV_cases e2 with e3 | ⟨hm, _⟩
      · rw [e] at e3; cases e3
        obtain ⟨s', e4, t⟩ := to.2 j _ (by rw [wipeV_out hj.2]; exact e2)
        rw [wipeV_out hj.2] at e4
        exact ⟨s', e4, t⟩
      · exact absurd hm hj.1⟩
  have ownb : ∀ b, OwnA (backV ρc ρ1 (is ++ vs)) σ b → OwnA (wipeV ρc vs) (wipe σ vs) b := by
    rintro b ⟨j, s, e, w, q⟩
    rcases char e with ⟨hj, e⟩ | ⟨_, hj, e⟩
    · have hv : j ∉ vs := fun hv => by rw [hvs j hv s e] at w; cases w
      have hi : j ∈ is := (List.mem_append.mp hj).resolve_right hv
      have e2 : OwnA (lockV ρ1 is) σ b := own_lock.mpr ⟨j, s, e, w, q⟩
      have hl : j < (lockV ρ1 is).length := by rw [lockV_len]; exact (List.getElem?_eq_some_iff.mp e).1
      have e3 : (lockV ρ1 is)[j]? = some (lockV ρ1 is)[j] := by simp [hl]
      obtain ⟨s', e4, t⟩ := to.2 j _ (by rw [wipeV_out hv]; exact e3)
      refine ⟨j, s', e4, ?_, by rw [wipe_out' hv]; exact q⟩
      -- the slot was locked, and stays so
      rcases lockV_cases e3 with e5 | ⟨_, d, e5, _⟩
      · have nl : ∀ (is : List Nat) (j : Nat) (s : Sl), (lockV ρ1 is)[j]? = some s → j ∈ is → s.isWr = false := by
          intro is
          induction is with
          | nil => intro j s _ h; cases h
          | cons i is ih =>
            intro j s h hm
            unfold lockV at h
            split at h
            · rcases getElem?_set_of h with ⟨rfl, rfl, _⟩ | ⟨ne, h⟩
              · rfl
              · exact ih j s h ((List.mem_cons.mp hm).resolve_left ne)
            · rcases getElem?_set_of h with ⟨rfl, rfl, _⟩ | ⟨ne, h⟩
              · rfl
              · exact ih j s h ((List.mem_cons.mp hm).resolve_left ne)
            · rename_i n1 n2
              rcases List.mem_cons.mp hm with rfl | hm
              · cases s with
                | own d => exact absurd h (n1 d)
                | io d => exact absurd h (n2 d)
                | _ => rfl
              · exact ih j s h hm
        have nw := nl is j _ e3 hi
        have wo : ((lockV ρ1 is)[j]).isOwn = true := by rw [e] at e5; cases e5; exact w
        generalize (lockV ρ1 is)[j] = sl at *
        cases sl with
        | lkd d => simp only [Sl.to] at t; subst t; rfl
        | own d => cases nw
        | io d => cases nw
        | _ => cases wo
      · rw [e5] at t
        simp only [Sl.to] at t; subst t; rfl
    · exact ⟨j, s, e, w, by rw [wipe_out' hj]; exact q⟩
  have own1 : ∀ b, OwnA (backV ρc ρ1 (is ++ vs)) σ b → OwnA ρ1 σ b := fun b z => to'.own z
  have x1 : Ext (vis (Hid O ρ1 σ) H1) (vis (Hid O2 (backV ρc ρ1 (is ++ vs)) σ) Hc) := vis_ext (fun b z n => z.elim (fun z => (hO2 b z).elim .inl fun y => absurd y n) fun z => .inr (own1 b z)) fun b o n e => kp b o (fun z => n (.inr (lockV_wr z).1.own)) e
  have x2 : Ext (vis (Hid O2 (wipeV ρc vs) (wipe σ vs)) Hc) (vis (Hid O2 (backV ρc ρ1 (is ++ vs)) σ) Hc) := vis_ext (fun b z _ => z.elim .inl fun z => .inr (ownb b z)) fun _ _ _ e => e
  refine ⟨EnvOk.of (by rw [backV_len, lc, lσ]) Eb.dom (fun j k b sj sk ej ek wj wk aj ak => ?_) fun j s e => ?_, to', ownb⟩
  · obtain ⟨sj', ej', tj⟩ := to'.back ej
    obtain ⟨sk', ek', tk⟩ := to'.back ek
    exact E1.inj j k b sj' sk' ej' ek' (Sl.to_own tj wj) (Sl.to_own tk wk) aj ak
  · rcases char e with ⟨hj, e⟩ | ⟨_, hj, e⟩
    · refine (E1.slot e).ext x1 (fun b w q o h => kp b o (fun z => ?_) h) fun b w q => ⟨hO b, fun z => (hO2 b z).resolve_right (E1.domH b (.inr ⟨j, s, e, w, q⟩))⟩
      have hv : j ∉ vs := fun hv => by rw [hvs j hv s e] at w; cases w
      exact lockV_wr2 E1.inj ((List.mem_append.mp hj).resolve_right hv) e w q z
    · have y := Eb.slot e
      rw [wipe_out' hj] at y
      exact y.ext x2 (fun _ _ _ _ h => h) fun _ _ _ => Iff.rfl
end
end Z

namespace Z
open PySem PySem.Spec L2
open PyProof.Rows hiding St
section
variable {Φ : Tab} {X : Cx} {W : WX}
/-! ### comprehensions -/
def IsBlk (X : Cx) (scope : Scope) (X' : Cx) : Prop := ∃ (s : Shared) (H : Hp) (C : Addr) (cl : List (Str × Addr)) (fp : List Addr), X' = X.blk s H scope (compEnvC scope cl C X.env) fp
abbrev WF : WX := fun _ _ _ _ => False
theorem takes_blk {scope : Scope} {X' : Cx} : Takes X' WF := fun u s' ⟨_, _, _, _, _, _, _, _, _, _, _, _, _, _, _, _, w⟩ => w.elim
def teB (X : Cx) (scope : Scope) (e : Expr) : TE := fun σ H Q => ∀ X', IsBlk X scope X' → WE X' e σ H Q
def ttB (X : Cx) (scope : Scope) (t : Option Expr) : TT := match t with
  | none => tYes
  | some e => fun σ H Q => ∀ X', IsBlk X scope X' → WT X' e σ H Q
def ifsOf : Option Expr → List Expr
  | none => []
  | some e => [e]
theorem teB_ok {scope : Scope} {e : Expr} (s : Shared) (H : Hp) (C : Addr) (cl : List (Str × Addr)) (fp : List Addr) : PE (X.blk s H scope (compEnvC scope cl C X.env) fp) e (teB X scope e) := ⟨fun pins s' σ H' Q I h => h _ ⟨s, H, C, cl, fp, rfl⟩ pins s' I⟩
theorem ttB_ok {scope : Scope} {t : Option Expr} (s : Shared) (H : Hp) (C : Addr) (cl : List (Str × Addr)) (fp : List Addr) : PTs (X.blk s H scope (compEnvC scope cl C X.env) fp) (ifsOf t) (ttB X scope t) := by
  cases t with
  | none => exact pts_nil
  | some e => exact pts_one ⟨fun pins s' σ H' Q I h => h _ ⟨s, H, C, cl, fp, rfl⟩ pins s' I⟩
theorem noX_bind {α β : Type} {r : Res α} {f : α → Vn → Res β} {P : β → Vn → Prop} {E : Exn → Vn → Prop} (h : ((r.bind f).noX).holds P E) : r.holds (fun a ρ => ((f a ρ).noX).holds P E) (fun _ _ => False) := by
  cases r <;> first | exact h | exact h.elim
theorem noX_holds {α : Type} {r : Res α} {P : α → Vn → Prop} {E : Exn → Vn → Prop} (h : r.noX.holds P E) : ∃ a ρ, r = .ok a ρ ∧ P a ρ := by
  cases r with
  | ok a ρ => exact ⟨a, ρ, rfl, h⟩
  | exn => exact h.elim
  | stuck => exact h.elim
/-- the run of one turn -/
def lcBody (Φ : Tab) (elt : ME) (tst : Option ME) (ρ : Vn) : Res (Option D) := match tst with
  | none => (evE Φ elt ρ).bind fun x ρ => .ok (some x.2) ρ
  | some t => (evE Φ t ρ).bind fun x ρ => (ofOpt (truD x.2) ρ).bind fun c ρ => if c then (evE Φ elt ρ).bind fun x ρ => .ok (some x.2) ρ else .ok none ρ
def SndTo (Φ : Tab) (X : Cx) (W : WX) : Option Expr → Option ME → Prop
  | none, none => True
  | some e, some m => SndT Φ X W e m
  | _, _ => False
theorem wipe_at {σ : L2.St} {j : Nat} : ∀ {vs : List Nat}, j ∈ vs → j < σ.length → (wipe σ vs)[j]? = some none
  | [], h, _ => by cases h
  | v :: vs, h, hl => by
    unfold wipe
    by_cases e : v = j
    · subst e; rw [List.getElem?_set_self (by rw [wipe_length]; exact hl)]
    · rw [List.getElem?_set_ne e]
      exact wipe_at ((List.mem_cons.mp h).resolve_left fun h => e h.symm) hl
theorem lc_run {tgE iter elt : Expr} {t : Option Expr} {scope : Scope} {tg : MT} {vs : List Nat} {k : Nat} {ms : List ME} {me : ME} {mt : Option ME} (hi : SndI Φ X W tgE iter k ms)
    (he : ∀ X', IsBlk X scope X' → SndE Φ X' WF elt me) (hr : me.isRd = false) (ht : (t = none ∧ mt = none) ∨ ∃ te mt', t = some te ∧ mt = some mt' ∧ ∀ X', IsBlk X scope X' → SndT Φ X' WF te mt') (hts : ∀ i ∈ tg.slots, i ∈ vs)
    {O : Addr → Prop} {ρ : Vn} {σ : L2.St} {H : Hp} {Q : VK} (E : EnvOk X.K O ρ σ H)
    (q : (evE Φ (.lc me vs tg k ms mt) ρ).holds (fun a ρ' => ∀ v H', PostE X.K O ρ σ H (.lc me vs tg k ms mt) a.1 a.2 ρ' v H' → Q v H') (fun x ρ' => ∀ od H', PostX X.K O ρ σ H x ρ' od H' → W (.ref (He.ga X.K x.C)) od σ H')) :
    tLc (WI X tgE iter) (gOf X.K tg) (ttB X scope t) (teB X scope elt) vs σ H (fun v H' => UnL X (Q v) H') := by
  have lz : lim ≤ sizeLine := by rw [PySem.sizeLine_eq]; decide
  have e0 : evE Φ (.lc me vs tg k ms mt) ρ = (itR Φ k ms ρ).bind fun xs ρ =>
      if xs.2.length ≤ lim ∧ (vs.all fun i => match ρ[i]? with
        | some s => !s.isOwn
        | none => false) then ((lcGo vs tg (lcBody Φ me mt) xs.2 (lockV ρ (rdIdx ms))).noX).bind fun rs ρ' => .ok (true, .lst rs) (backV ρ' ρ (rdIdx ms ++ vs)) else .stuck := by
    unfold itR
    simp only [evE]
    cases evL Φ ms ρ with
    | ok ds ρ1 =>
      simp only [Res.bind_ok]
      cases itD k (fresh ρ1 ms ds) <;> rfl
    | _ => rfl
  rw [e0] at q
  refine hi O ρ σ H _ E (Res.holds_mono (Res.holds_bind q) (fun ⟨fl, xs⟩ ρ1 z J H1 Hl c lk wk => ?_) fun x ρ' z => z)
  dsimp only at z lk wk
  split at z
  · rename_i hc
    obtain ⟨hxl, hva⟩ := hc
    have hvs : ∀ i ∈ vs, ∀ s, ρ1[i]? = some s → s.isOwn = false := fun i hi s e => by
      have := List.all_eq_true.mp hva i hi
      rw [e] at this
      simpa using this
    intro D hD
    have E1 := c.env
    have hD1 : H1 D = none := (lk.none D).mp hD
    have zz := Res.holds_bind z
    have nD : ¬ OwnA ρ1 σ D := fun y => E1.domH D (.inr y) hD1
    have nO : ¬ O D := fun y => E1.dom D y hD1
    -- the invariant
    refine lc_it wk (fun i Hc => ∃ ρc accD accV, EnvOk X.K (newO true O (.ref D)) (wipeV ρc vs) (wipe σ vs) Hc ∧ Kp (WrA (lockV ρ1 (rdIdx ms)) σ) Hl Hc ∧ (∀ b, Hl b ≠ none → Hc b ≠ none) ∧ EvTo (wipeV (lockV ρ1 (rdIdx ms)) vs) (wipeV ρc vs) ∧
      Hc D = some (.lst accV) ∧ Reps X.K (vis (Hid (newO true O (.ref D)) (wipeV ρc vs) (wipe σ vs)) Hc) accD accV ∧ accD.length ≤ i ∧
      (lcGo vs tg (lcBody Φ me mt) (xs.drop i) ρc).noX.holds (fun rs ρ' => ∀ v H', PostE X.K O ρ σ H (.lc me vs tg k ms mt) true (.lst (accD ++ rs)) (backV ρ' ρ1 (rdIdx ms ++ vs)) v H' → Q v H') (fun _ _ => True)) ?_ ?_ ?_ ?_
    · -- the start
      refine ⟨lockV ρ1 (rdIdx ms), [], [], ((lk.env (E1.locked _)).wiped vs).laid hD, fun b o _ e => upd_kp hD b o e, fun b h => upd_dm h, EvTo.refl _, upd_same, by simp only [Reps], Nat.zero_le _, ?_⟩
      rw [List.drop_zero]
      obtain ⟨rs, ρ', e, h⟩ := noX_holds (Res.holds_mono zz (fun _ _ h => h) fun _ _ h => h)
      rw [e]
      exact h
    · -- what the walk asks
      rintro i Hc hi ⟨ρc, accD, accV, A, B, C, T, D1, R, L, G⟩
      exact B
    · -- a turn
      rintro i x Hc Hn hi ⟨ρc, accD, accV, A, B, C, T, D1, R, L, G⟩ y
      obtain ⟨d, ed⟩ : ∃ d, xs[i]? = some d := ⟨xs[i], by simp [hi]⟩
      rw [show xs.drop i = d :: xs.drop (i + 1) by
        rw [List.drop_eq_getElem_cons hi]
        have : xs[i] = d := by rw [List.getElem?_eq_getElem hi] at ed; cases ed; rfl
        rw [this]] at G
      simp only [lcGo] at G
      have G1 := noX_bind G
      cases ea : asgT tg d (wipeV ρc vs) with
      | none => rw [ea] at G1; exact G1.elim
      | some ρ1' =>
        rw [ea] at G1
        have G2 := noX_bind G1
        -- the item
        have xin : Ext (vis (Hid O ρ1 σ) Hl) (vis (Hid (newO true O (.ref D)) (wipeV ρc vs) (wipe σ vs)) Hc) := vis_ext (fun b z n => by
          rcases z with (z | ⟨_, z⟩) | z
          · exact .inl z
          · cases z; exact absurd hD n
          · exact .inr (own_lock.mp (own_wipe (T.own z)))) fun b o n e => B b o (fun z => n (.inr (lockV_wr z).1.own)) e
        have item : ∃ (An : EnvOk X.K (newO true O (.ref D)) (wipeV ρc vs) (wipe σ vs) Hn), Rep X.K (vis (Hid (newO true O (.ref D)) (wipeV ρc vs) (wipe σ vs)) Hn) d x ∧ ∀ b o, Hc b = some o → Hn b = some o := by
          rcases y with ⟨rfl, d', e', r⟩ | ⟨T', a', b', va, vb, e', rfl, hT, rfl, ra, rb⟩
          · rw [ed] at e'; cases e'
            exact ⟨A, r.ext xin, fun _ _ e => e⟩
          · rw [ed] at e'; cases e'
            have An := A.kept (upd_kp (o := HO.tup [va, vb]) hT)
            have nT : ¬ Hid (newO true O (.ref D)) (wipeV ρc vs) (wipe σ vs) T' := fun z => A.domH T' z hT
            have x2 : Ext (vis (Hid (newO true O (.ref D)) (wipeV ρc vs) (wipe σ vs)) Hc) (vis (Hid (newO true O (.ref D)) (wipeV ρc vs) (wipe σ vs)) (upd Hc T' (.tup [va, vb]))) := vis_ext (fun _ z _ => z) fun b o _ z => upd_kp hT b o z
            refine ⟨An, ?_, upd_kp hT⟩
            simp only [Rep, Reps]
            exact ⟨T', [va, vb], rfl, SqT.of (by rw [vis_at nT, upd_same]), va, [vb], rfl, (ra.ext xin).ext x2, vb, [], rfl, (rb.ext xin).ext x2, rfl⟩
        obtain ⟨An, rx, kn⟩ := item
        refine asgT_ok An ea rx fun σ2 p => ?_
        have hw : wipe σ2 vs = wipe σ vs := by
          have hl : σ2.length = σ.length := by rw [← p.env.len, p.len, wipeV_len]; have := A.len; rw [wipeV_len, wipe_length] at this; exact this
          apply List.ext_getElem?
          intro j
          by_cases hj : j ∈ vs
          · have two : ∀ (σ : L2.St), j < σ.length → (wipe σ vs)[j]? = some none := fun σ hl => wipe_at hj hl
            by_cases hjl : j < σ.length
            · rw [two σ hjl, two σ2 (by omega)]
            · rw [List.getElem?_eq_none (by rw [wipe_length]; omega), List.getElem?_eq_none (by rw [wipe_length]; omega)]
          · rw [wipe_out hj, wipe_out hj, (p.out j fun h => hj (hts j h)).2, wipe_out hj]
        refine ⟨hw, ?_⟩
        -- what is left behind the body's run
        have wrb : ∀ b, WrA ρ1' σ2 b → WrA (lockV ρ1 (rdIdx ms)) σ b := fun b z => wr_wipe (T.wr (p.wr b z))
        have nDb : ¬ WrA ρ1' σ2 D := fun z => nD (own_lock.mp (wrb D z).own)
        have kBn : Kp (WrA (lockV ρ1 (rdIdx ms)) σ) Hl Hn := fun b o n e => kn b o (B b o n e)
        have dBn : ∀ b, Hl b ≠ none → Hn b ≠ none := fun b h => by
          have h2 := C b h
          cases z : Hc b with
          | none => exact absurd z h2
          | some o => rw [kn b o z]; simp
        have evn : ∀ {ρ2 : Vn}, EvTo ρ1' ρ2 → EvTo (wipeV (lockV ρ1 (rdIdx ms)) vs) (wipeV ρ2 vs) := fun {ρ2} t => by
          refine ⟨by rw [wipeV_len, t.1, p.len, ← T.1], fun j s e => ?_⟩
          rcases wipeV_cases e with ⟨hj, rfl⟩ | ⟨hj, e'⟩
          · have hl : j < ρ2.length := by rw [t.1, p.len, T.1]; exact (List.getElem?_eq_some_iff.mp e).1
            exact ⟨.non, wipeV_in hj hl, rfl⟩
          · obtain ⟨s1, e1, t1⟩ := T.2 j s e
            obtain ⟨s2, e2, t2⟩ := t.2 j s1 (by rw [(p.out j fun h => hj (hts j h)).1]; exact e1)
            exact ⟨s2, by rw [wipeV_out hj]; exact e2, Sl.to_trans t1 t2⟩
        -- the next turn's start, from a run's end; nothing kept
        have nxt : ∀ {st : Bool} {ρ2 : Vn} {H3 : Hp}, PostC X.K (newO true O (.ref D)) ρ1' σ2 Hn st ρ2 H3 → EnvOk X.K (newO true O (.ref D)) (wipeV ρ2 vs) (wipe σ vs) H3 ∧ Kp (WrA (lockV ρ1 (rdIdx ms)) σ) Hl H3 ∧ (∀ b, Hl b ≠ none → H3 b ≠ none) ∧ EvTo (wipeV (lockV ρ1 (rdIdx ms)) vs) (wipeV ρ2 vs) ∧ H3 D = some (.lst accV) ∧
            Reps X.K (vis (Hid (newO true O (.ref D)) (wipeV ρ2 vs) (wipe σ vs)) H3) accD accV := fun {st ρ2 H3} c2 => by
          have En : EnvOk X.K (newO true O (.ref D)) (wipeV ρ2 vs) (wipe σ vs) H3 := by rw [← hw]; exact c2.env.wiped vs
          refine ⟨En, fun b o n e => c2.kp b o (fun z => n (wrb b z.2)) (kBn b o n e), fun b h => c2.dm b (dBn b h), evn c2.to, c2.kp D _ (fun z => nDb z.2) (kn D _ D1), R.ext ?_⟩
          refine vis_ext (fun b z _ => z.elim .inl fun z => .inr ?_) fun b o n e => ?_
          · have z2 : OwnA ρ2 σ2 b := own_wipe (by rw [hw]; exact z)
            exact p.own b (c2.to.own z2)
          · exact c2.kp b o (fun z => n (.inr (p.wr b z.2).own)) (kn b o e)
        -- a kept item's end
        have done : ∀ {st : Bool} {ρ2 ρ3 : Vn} {H3 H4 : Hp} {dx : Z.D} {v : V}, PostC X.K (newO true O (.ref D)) ρ1' σ2 Hn st ρ2 H3 → PostS X.K (newO true O (.ref D)) ρ2 σ2 H3 me dx ρ3 v H4 →
            (Res.holds (((lcGo vs tg (lcBody Φ me mt) (xs.drop (i + 1)) ρ3).bind fun rs ρ4 => Res.ok ((some dx).toList ++ rs) ρ4).noX) (fun rs ρ' => ∀ v H', PostE X.K O ρ σ H (.lc me vs tg k ms mt) true (.lst (accD ++ rs)) (backV ρ' ρ1 (rdIdx ms ++ vs)) v H' → Q v H') (fun _ _ => True)) →
            ∃ acc, H4 D = some (.lst acc) ∧ acc.length < sizeLine ∧ ∃ ρc accD accV, EnvOk X.K (newO true O (.ref D)) (wipeV ρc vs) (wipe σ vs) (upd H4 D (.lst (acc ++ [v]))) ∧ Kp (WrA (lockV ρ1 (rdIdx ms)) σ) Hl (upd H4 D (.lst (acc ++ [v]))) ∧ (∀ b, Hl b ≠ none → (upd H4 D (.lst (acc ++ [v]))) b ≠ none) ∧ EvTo (wipeV (lockV ρ1 (rdIdx ms)) vs) (wipeV ρc vs) ∧
              (upd H4 D (.lst (acc ++ [v]))) D = some (.lst accV) ∧ Reps X.K (vis (Hid (newO true O (.ref D)) (wipeV ρc vs) (wipe σ vs)) (upd H4 D (.lst (acc ++ [v])))) accD accV ∧ accD.length ≤ i + 1 ∧
              (lcGo vs tg (lcBody Φ me mt) (xs.drop (i + 1)) ρc).noX.holds (fun rs ρ' => ∀ v H', PostE X.K O ρ σ H (.lc me vs tg k ms mt) true (.lst (accD ++ rs)) (backV ρ' ρ1 (rdIdx ms ++ vs)) v H' → Q v H') (fun _ _ => True) := fun {st ρ2 ρ3 H3 H4 dx v} c2 ps h => by
          obtain ⟨En, K3, dm3, to3, D3, R3⟩ := nxt (c2.trans ps.c)
          obtain ⟨rs, ρf, e, hf⟩ := noX_holds h
          have nd : Hid (newO true O (.ref D)) (wipeV ρ3 vs) (wipe σ vs) D := .inl (.inr ⟨rfl, rfl⟩)
          refine ⟨accV, D3, by rw [← R.length]; omega, ρ3, accD ++ [dx], accV ++ [v], En.updHid (.inr ⟨rfl, rfl⟩) (fun z => nD (own_lock.mp (own_wipe (to3.own z)))), fun b o n e => ?_, fun b h => upd_dm (dm3 b h), to3, upd_same, ?_, by simp; omega, ?_⟩
          · have ne : b ≠ D := fun hb => by subst hb; rw [hD] at e; cases e
            rw [upd_ne ne]; exact K3 b o n e
          · refine Reps.ext (vis_ext (fun b z _ => z) fun b o n e => ?_) (R3.append ?_)
            · have ne : b ≠ D := fun hb => by subst hb; exact n nd
              rw [upd_ne ne]; exact e
            · simp only [Reps]
              exact ⟨v, [], rfl, (ps.rep hr).ext (vis_ext (fun b z _ => z.elim .inl fun z => .inr (own_wipe (by rw [hw]; exact z))) fun _ _ _ e => e), rfl⟩
          · cases e2 : lcGo vs tg (lcBody Φ me mt) (xs.drop (i + 1)) ρ3 with
            | ok rs2 ρ4 =>
              rw [e2] at e
              simp only [Res.bind_ok] at e
              cases e
              intro v' H' pe
              refine hf v' H' ?_
              simpa using pe
            | exn x ρ4 => rw [e2] at e; cases e
            | stuck => rw [e2] at e; cases e
        rcases ht with ⟨rfl, rfl⟩ | ⟨te, mt', rfl, rfl, ht⟩
        · simp only [ttB, tYes]
          rw [if_pos trivial]
          intro X' hX'
          have hK : X'.K = X.K := by obtain ⟨s, H, C, cl, fp, rfl⟩ := hX'; rfl
          simp only [lcBody] at G2
          refine (he X' hX').sh (O := newO true O (.ref D)) (ρ := ρ1') (by rw [hK]; exact p.env) (Res.holds_mono (Res.holds_bind G2) (fun a ρ2 h v H3 ps => ?_) fun x ρ2 h => h.elim)
          rw [hK] at ps
          exact done (PostC.refl (st := true) p.env) ps h
        · simp only [ttB]
          intro X' hX'
          have hK : X'.K = X.K := by obtain ⟨s, H, C, cl, fp, rfl⟩ := hX'; rfl
          simp only [lcBody] at G2
          refine (ht X' hX').bd (O := newO true O (.ref D)) (ρ0 := ρ1') (H0 := Hn) (PostC.refl (st := true) (by rw [hK]; exact p.env)) (Res.holds_mono G2 (fun _ _ h => h) fun _ _ h => h.elim) fun b ρ2 H3 c2 h => ?_
          rw [hK] at c2
          cases b with
          | false =>
            rw [if_neg (by decide)]
            obtain ⟨En, K3, dm3, to3, D3, R3⟩ := nxt c2
            rw [if_neg (by decide)] at h
            obtain ⟨rs, ρf, e, hf⟩ := noX_holds h
            refine ⟨ρ2, accD, accV, En, K3, dm3, to3, D3, R3, by omega, ?_⟩
            cases e2 : lcGo vs tg (lcBody Φ me (some mt')) (xs.drop (i + 1)) ρ2 with
            | ok rs2 ρ3 =>
              rw [e2] at e
              simp only [Res.bind_ok] at e
              cases e
              intro v' H' pe
              refine hf v' H' ?_
              simpa using pe
            | exn x ρ3 => rw [e2] at e; cases e
            | stuck => rw [e2] at e; cases e
          | true =>
            rw [if_pos rfl]
            intro X2 hX2
            have hK2 : X2.K = X.K := by obtain ⟨s, H, C, cl, fp, rfl⟩ := hX2; rfl
            rw [if_pos rfl] at h
            refine (he X2 hX2).sh (O := newO true O (.ref D)) (ρ := ρ2) (by rw [hK2]; exact c2.env) (Res.holds_mono (Res.holds_bind h) (fun a ρ3 h v H4 ps => ?_) fun x ρ2 h od H' px => h od H' ?_)
            · rw [hK2] at ps
              exact done c2 ps h
            · rw [hK2] at px
              rw [hK]
              exact px.fromC c2
    · -- the end
      rintro Hc ⟨ρc, accD, accV, A, B, C, T, D1, R, L, G⟩
      rw [List.drop_length] at G
      simp only [lcGo, Res.noX_ok] at G
      obtain ⟨Hu, U⟩ := lk.back B
      obtain ⟨Ef, tof, ob⟩ := E1.restore (U.env A) T U.kp (fun b z => .inl z) (fun b z => z.elim .inl fun ⟨_, z⟩ => by cases z; exact .inr hD1) hvs
      refine U.un (fun H' => Q (.ref D) H') (G _ _ { env := Ef, kp := fun b o n e => ?_, dm := fun b h => fun z => C b (fun y => c.dm b h ((lk.none b).mp y)) ((U.none b).mp z), to := c.to.trans tof, new := fun _ => ⟨D, rfl, c.gone hD1, ?_⟩, rd := fun z => Bool.noConfusion z, rep := fun z => Bool.noConfusion z })
      · have ns : (ME.lc me vs tg k ms mt).still = false := by simp only [ME.still]
        exact U.kp b o (fun z => n ⟨ns, c.to.wr (lockV_wr z).1⟩) (c.kp b o (fun z => n ⟨ns, z.2⟩) e)
      · rw [List.append_nil]
        refine ⟨accV, U.same _ _ D1 rfl, (R.ext (U.ext _)).ext (vis_ext (fun b z nb => ?_) fun _ _ _ e => e)⟩
        rcases z with z | z
        · exact .inl z
        · exact .inr (ob b z)
  · exact z.elim
end
end Z

namespace Z
open PySem PySem.Spec L2
open PyProof.Rows hiding St
section
variable {Φ : Tab} {X : Cx} {W : WX}
/-! ### slices -/
def tO (X : Cx) (e : Option Expr) : TO := match e with
  | none => tNoPart
  | some e => tPart (WE X e)
theorem po_w {e : Option Expr} : PO X e (tO X e) := by
  cases e with
  | none => exact po_none
  | some e => exact po_some pe_w
inductive SndO (Φ : Tab) (X : Cx) (W : WX) : Option Expr → Option ME → Prop
  | no : SndO Φ X W none none
  | yes {e : Expr} {m : ME} (h : SndE Φ X W e m) : SndO Φ X W (some e) (some m)
theorem SndO.bd {e : Option Expr} {m : Option ME} (h : SndO Φ X W e m) {O : Addr → Prop} {ρ0 ρ : Vn} {σ : L2.St} {H0 H : Hp} {st : Bool} {Q : Option Int → Hp → Prop} (c : PostC X.K O ρ0 σ H0 st ρ H) {β : Type} {f : Option Int → Vn → Res β} {P : β → Vn → Prop}
    (q : ((evO Φ m ρ).bind f).holds P (fun x ρ' => ∀ od H', PostX X.K O ρ0 σ H0 x ρ' od H' → W (.ref (He.ga X.K x.C)) od σ H'))
    (k : ∀ l ρ' H', PostC X.K O ρ σ H (stillO m) ρ' H' → (f l ρ').holds P (fun x ρ' => ∀ od H', PostX X.K O ρ0 σ H0 x ρ' od H' → W (.ref (He.ga X.K x.C)) od σ H') → Q l H') : tO X e σ H Q := by
  cases h with
  | no => exact k none ρ H (PostC.refl c.env) q
  | @yes e m h =>
    simp only [evO] at q
    have q2 : ((evE Φ m ρ).bind fun x ρ => (match x.2 with
      | .int i => Res.ok (some i) ρ
      | _ => .stuck).bind f).holds P (fun x ρ' => ∀ od H', PostX X.K O ρ0 σ H0 x ρ' od H' → W (.ref (He.ga X.K x.C)) od σ H') := by
      revert q
      cases evE Φ m ρ <;> exact id
    refine h.bd c q2 fun x ρ1 v H1 p q => ?_
    have r := p.rd
    cases z : x.2 with
    | int i =>
      rw [z] at r q
      exact ⟨i, r.scal rfl, k (some i) ρ1 H1 p.c q⟩
    | _ => rw [z] at q; exact q.elim
theorem cutD_reps {K : PySem.W.Frag} {G : Hp} {ds : List D} {vs : List V} (r : Reps K G ds vs) (lo hi : Option Int) : Reps K G (cutD ds lo hi) (cutV vs lo hi) := by
  unfold cutD cutV
  rw [r.length]
  exact (r.drop _).take _
theorem sIx_whole {n : Nat} {lo hi : Option Int} {α : Type} {xs : List α} (hn : xs.length = n) (h : HT.sIx n 0 lo = 0 ∧ HT.sIx n n hi = n) : cutD xs lo hi = xs := by
  unfold cutD
  rw [hn, h.1, h.2, List.drop_zero, Nat.sub_zero, ← hn, List.take_length]
theorem snd_slc {a : Expr} {lo hi : Option Expr} {pos p2 : Pos} {ma : ME} {ml mh : Option ME} (ha : SndE Φ X W a ma) (hl : SndO Φ X W lo ml) (hh : SndO Φ X W hi mh) (hr : ma.isRd = true → (stillO ml && stillO mh) = true) : SndE Φ X W (.Subscript a (.Slice lo hi none p2) pos) (.slc ma ml mh) := by
  intro O ρ σ H Q E q
  have lz : lim ≤ sizeLine := by rw [PySem.sizeLine_eq]; decide
  simp only [evE] at q
  refine WE.by (pe_slice (SlR.or sl_list (SlR.or sl_tupA sl_str)) pe_w po_w po_w) ?_
  refine ha.bd (PostC.refl (st := true) E) q fun x ρ1 v1 H1 p1 q => ?_
  refine hl.bd p1.c q fun l ρ2 H2 c2 q => ?_
  refine hh.bd (p1.c.trans c2) q fun u ρ3 H3 c3 q => ?_
  obtain ⟨⟨fl, d⟩, e, q⟩ := holds_opt q
  have c : PostC X.K O ρ σ H (ME.slc ma ml mh).still ρ3 H3 := by simpa only [ME.still] using (p1.c.trans c2).trans c3
  have r1 := p1.carry (c2.trans c3) hr
  have fin : ∀ v H', Made' X.K (vis (Hid O ρ3 σ) H3) H3 fl d v H' → Q v H' := fun v H' h => q _ _ (c.made h)
  unfold slcD at e
  split at e
  · rename_i ds hd
    rw [hd] at r1
    cases e
    obtain ⟨a, vs, rfl, s, rs⟩ := r1.lst vis_le
    exact .inl ⟨a, vs, rfl, s, fun p hp => fin _ _ (.lst hp (cutD_reps rs l u))⟩
  · rename_i ds hd
    rw [hd] at r1
    cases e
    rcases r1 with r1 | ⟨_, _, r1⟩
    · have g1 := r1
      simp only [Rep] at r1
      obtain ⟨a, vs, rfl, s, rs⟩ := r1
      refine .inr (.inl ⟨a, vs, rfl, sqT_ext vis_le s, fun z => ?_, fun _ p hp => fin _ _ (.tup hp (cutD_reps rs l u))⟩)
      rw [sIx_whole rs.length z] at fin
      exact fin _ _ (.same g1)
    · exact r1.elim
  · rename_i z hd
    rw [hd] at r1
    split at e
    · cases e
      cases r1.scal rfl
      exact .inr (.inr ⟨z, rfl, by omega, fin _ _ (.scal (d := .str _) rfl)⟩)
    · cases e
  · cases e
/-! ### dict displays -/
inductive SndD (Φ : Tab) (X : Cx) (W : WX) : List (Option Expr) → List Expr → List ME → Prop
  | nil : SndD Φ X W [] [] []
  | cons {k v : Expr} {ks : List (Option Expr)} {vs : List Expr} {mk mv : ME} {ms : List ME} (hk : SndE Φ X W k mk) (hv : SndE Φ X W v mv) (rk : mk.isRd = false) (rv : mv.isRd = false) (h : SndD Φ X W ks vs ms) : SndD Φ X W (some k :: ks) (v :: vs) (mk :: mv :: ms)
def prT (X : Cx) : List (Option Expr) → List Expr → List (TE × TE)
  | some k :: ks, v :: vs => (WE X k, WE X v) :: prT X ks vs
  | _, _ => []
theorem SndD.pps {pos : Pos} {ks : List (Option Expr)} {vs : List Expr} {ms : List ME} (h : SndD Φ X W ks vs ms) : PPs X pos ks vs (prT X ks vs) := by
  induction h with
  | nil => exact pps_nil
  | cons hk hv _ _ _ ih => exact pps_cons pe_w pe_w ih
theorem SndD.len {ks : List (Option Expr)} {vs : List Expr} {ms : List ME} (h : SndD Φ X W ks vs ms) : ks.length = vs.length ∧ ks.all (·.isSome) = true ∧ ms.length = 2 * ks.length := by
  induction h with
  | nil => exact ⟨rfl, rfl, rfl⟩
  | cons _ _ _ _ _ ih =>
    obtain ⟨a, b, c⟩ := ih
    simp [a, b, c]
    omega
def flatP : List (V × V) → List V
  | [] => []
  | p :: r => p.1 :: p.2 :: flatP r
theorem SndD.bd {ks : List (Option Expr)} {vs : List Expr} {ms : List ME} (h : SndD Φ X W ks vs ms) : ∀ {O : Addr → Prop} {ρ0 ρ : Vn} {σ : L2.St} {H0 H : Hp} {st : Bool} {Q : List (V × V) → Hp → Prop} (c : PostC X.K O ρ0 σ H0 st ρ H) {β : Type} {f : List D → Vn → Res β} {P : β → Vn → Prop}
    (q : ((evL Φ ms ρ).bind f).holds P (fun x ρ' => ∀ od H', PostX X.K O ρ0 σ H0 x ρ' od H' → W (.ref (He.ga X.K x.C)) od σ H'))
    (k : ∀ ds ρ' ps H', PostC X.K O ρ σ H (stillL ms) ρ' H' → Reps X.K (vis (Hid O ρ' σ) H') ds (flatP ps) → (f ds ρ').holds P (fun x ρ' => ∀ od H', PostX X.K O ρ0 σ H0 x ρ' od H' → W (.ref (He.ga X.K x.C)) od σ H') → Q ps H'), tPairs (prT X ks vs) σ H Q := by
  induction h with
  | nil =>
    intro O ρ0 ρ σ H0 H st Q c β f P q k
    simp only [evL, Res.bind_ok] at q
    exact k [] ρ [] H (PostC.refl c.env) (by simp only [flatP, Reps]) q
  | @cons ke ve ks vs mk mv ms hk hv rk rv _ ih =>
    intro O ρ0 ρ σ H0 H st Q c β f P q k
    have q2 : ((evE Φ mk ρ).bind fun x ρ => (evE Φ mv ρ).bind fun y ρ => (evL Φ ms ρ).bind fun xs ρ => f (x.2 :: y.2 :: xs) ρ).holds P (fun x ρ' => ∀ od H', PostX X.K O ρ0 σ H0 x ρ' od H' → W (.ref (He.ga X.K x.C)) od σ H') := by
      revert q
      simp only [evL]
      cases evE Φ mk ρ with
      | ok x ρ1 =>
        simp only [Res.bind_ok]
        cases evE Φ mv ρ1 with
        | ok y ρ2 =>
          simp only [Res.bind_ok]
          cases evL Φ ms ρ2 <;> exact id
        | _ => exact id
      | _ => exact id
    refine hk.bd c q2 fun x ρ1 v1 H1 p1 q => ?_
    refine hv.bd (c.trans p1.c) q fun y ρ2 v2 H2 p2 q => ?_
    refine ih ((c.trans p1.c).trans p2.c) q fun ds ρ3 ps H3 c3 r q => ?_
    refine k _ ρ3 ((v1, v2) :: ps) H3 ?_ ?_ q
    · have e : stillL (mk :: mv :: ms) = (mk.still && (mv.still && stillL ms)) := by simp only [stillL]
      rw [e]
      exact p1.c.trans (p2.c.trans c3)
    · simp only [flatP, Reps]
      exact ⟨v1, _, rfl, (p1.rep rk).ext (p2.c.trans c3).ext, v2, _, rfl, (p2.rep rv).ext c3.ext, r⟩
theorem prs_ok {K : PySem.W.Frag} {G : Hp} : ∀ {ds : List D} {ps : List (V × V)} {kvs : List (Key × D)}, Reps K G ds (flatP ps) → prsD ds = some kvs → ∃ ws : List (Key × V), ps = ws.map (fun kv => (kV kv.1, kv.2)) ∧ RepK K G kvs ws
  | ds, [], kvs, r, e => by
    simp only [flatP] at r
    have := r.length
    rw [List.length_nil, List.length_eq_zero_iff] at this
    subst this
    simp only [prsD] at e
    cases e
    exact ⟨[], rfl, by simp only [RepK]⟩
  | ds, p :: ps, kvs, r, e => by
    simp only [flatP] at r
    have hl := r.length
    match ds, hl with
    | d1 :: d2 :: ds, _ =>
      simp only [Reps] at r
      obtain ⟨v1, r1, e1, s1, v2, r2, e2, s2, r⟩ := r
      cases e1; cases e2
      simp only [prsD] at e
      cases z1 : keyD d1 with
      | none => rw [z1] at e; cases e
      | some k =>
        cases z2 : prsD ds with
        | none => rw [z1, z2] at e; cases e
        | some kr =>
          rw [z1, z2] at e
          cases e
          obtain ⟨ws, e3, rk⟩ := prs_ok r z2
          refine ⟨(k, p.2) :: ws, ?_, ?_⟩
          · rw [List.map_cons, ← e3]
            have : p.1 = kV k := by
              cases d1 with
              | int i => cases z1; simp only [Rep] at s1; exact s1
              | str i => cases z1; simp only [Rep] at s1; exact s1
              | _ => cases z1
            rw [← this]
          · simp only [RepK]
            exact ⟨p.2, ws, rfl, s2, rk⟩
    | [_], h => simp at h
theorem RepK.any {K : PySem.W.Frag} {G : Hp} (k : Key) : ∀ {ds : List (Key × D)} {ws : List (Key × V)}, RepK K G ds ws → (ds.any fun kv => decide (kv.1 = k)) = (ws.any fun kv => decide (kv.1 = k))
  | [], _, r => by simp only [RepK] at r; subst r; rfl
  | (k', d) :: ds, _, r => by
    simp only [RepK] at r
    obtain ⟨v, r1, rfl, _, t⟩ := r
    simp only [List.any_cons, RepK.any k t]
theorem RepK.append {K : PySem.W.Frag} {G : Hp} : ∀ {ds es : List (Key × D)} {vs ws : List (Key × V)}, RepK K G ds vs → RepK K G es ws → RepK K G (ds ++ es) (vs ++ ws)
  | [], _, _, _, h, g => by simp only [RepK] at h; subst h; simpa using g
  | (k, d) :: ds, _, _, _, h, g => by
    simp only [RepK] at h
    obtain ⟨v, r, rfl, s, t⟩ := h
    simp only [List.cons_append, RepK]
    exact ⟨v, _, rfl, s, RepK.append t g⟩
theorem RepK.repl {K : PySem.W.Frag} {G : Hp} {k : Key} {d : D} {v : V} (rv : Rep K G d v) : ∀ {ds : List (Key × D)} {ws : List (Key × V)}, RepK K G ds ws → RepK K G (ds.map fun kv => if kv.1 = k then (kv.1, d) else kv) (ws.map fun kv => if kv.1 = k then (kv.1, v) else kv)
  | [], _, r => by simp only [RepK] at r; subst r; simp [RepK]
  | (k', d') :: ds, _, r => by
    simp only [RepK] at r
    obtain ⟨v', r1, rfl, s, t⟩ := r
    simp only [List.map_cons]
    by_cases h : k' = k
    · simp only [h, if_true, RepK]
      exact ⟨v, _, rfl, rv, RepK.repl rv t⟩
    · simp only [h, if_false, RepK]
      exact ⟨v', _, rfl, s, RepK.repl rv t⟩
theorem RepK.put {K : PySem.W.Frag} {G : Hp} {k : Key} {d : D} {v : V} {ds : List (Key × D)} {ws : List (Key × V)} (r : RepK K G ds ws) (rv : Rep K G d v) : RepK K G (putD ds k d) (putK ws k v) := by
  unfold putD putK
  rw [r.any k]
  split
  · exact r.repl rv
  · refine r.append ?_
    simp only [RepK]
    exact ⟨v, [], rfl, rv, rfl⟩
theorem RepK.merge {K : PySem.W.Frag} {G : Hp} : ∀ {es ds : List (Key × D)} {vs ws : List (Key × V)}, RepK K G ds ws → RepK K G es vs → RepK K G (es.foldl (fun acc kv => putD acc kv.1 kv.2) ds) (mergeK ws vs)
  | [], _, _, _, r, g => by simp only [RepK] at g; subst g; exact r
  | (k, d) :: es, _, _, _, r, g => by
    simp only [RepK] at g
    obtain ⟨v, r1, rfl, s, t⟩ := g
    simp only [List.foldl_cons]
    rw [show mergeK _ ((k, v) :: r1) = mergeK (putK _ k v) r1 from rfl]
    exact RepK.merge (r.put s) t
theorem PostX.shrink {K : PySem.W.Frag} {O : Addr → Prop} {ρ ρ' : Vn} {σ : L2.St} {H H' : Hp} {p : Addr} {o : HO} {x : Exn} {od : Option Addr} (E0 : EnvOk K O ρ σ H) (hp : H p = none) (h : PostX K (newO true O (.ref p)) ρ σ (upd H p o) x ρ' od H') : PostX K O ρ σ H x ρ' od H' where
  env := E0.share h.to h.env
  kp := fun b u n e => h.kp b u n (upd_kp hp b u e)
  dm := fun b e => h.dm b (upd_dm e)
  to := h.to
  rep := by
    have r := h.rep
    unfold ExnRep at r ⊢
    split
    · rename_i e; rw [e] at r; exact r
    · rename_i fs e
      split at r
      · rename_i e2; exact absurd e2 e
      · obtain ⟨d, ws, a, b, c⟩ := r
        exact ⟨d, ws, a, b, c.ext (vis_ext (fun b z _ => z.mono fun _ h => .inl h) fun _ _ _ e => e)⟩
theorem snd_dsp {ks : List (Option Expr)} {vs : List Expr} {ms : List ME} {pos : Pos} (h : SndD Φ X W ks vs ms) (h15 : ks.length ≤ 15) : SndE Φ X W (.Dict ks vs pos) (.dsp ms) := by
  intro O ρ σ H Q E q
  simp only [evE] at q
  have hst : (ME.dsp ms).still = stillL ms := by simp only [ME.still]
  by_cases h0 : ks = []
  · subst h0
    cases h
    simp only [evL, Res.bind_ok] at q
    refine WE.by pe_dnewK fun p hp => ?_
    have c : PostC X.K O ρ σ H (ME.dsp []).still ρ H := PostC.refl E
    exact q _ _ (c.new hp ⟨[], upd_same, show RepK X.K _ [] [] by simp only [RepK]⟩)
  · obtain ⟨hl, hall, _⟩ := h.len
    refine WE.by (pe_disp h.pps hall hl h0 h15) fun p hp => ?_
    have E1 := E.laid (o := .dK []) hp
    refine h.bd (PostC.refl (st := true) E1) (Res.holds_mono q (fun a ρ' z => z) fun x ρ' z od H' px => z od H' (px.shrink E hp)) fun ds ρ1 ps H2 c r q => ?_
    have np : ¬ OwnA ρ σ p := fun z => E.domH p (.inr z) hp
    have e2 : H2 p = some (.dK []) := c.kp p _ (fun z => np z.2.own) upd_same
    obtain ⟨⟨fl, d⟩, e, q⟩ := holds_opt q
    unfold dspD at e
    cases z : prsD ds with
    | none => rw [z] at e; cases e
    | some kvs =>
      rw [z] at e
      simp only at e
      split at e
      · rename_i hk
        cases e
        obtain ⟨ws, e3, rk⟩ := prs_ok r z
        refine ⟨e2, ws, e3, by rw [← rk.length]; exact hk, ?_⟩
        have np1 : ¬ OwnA ρ1 σ p := fun z => np (c.to.own z)
        refine q _ _ { env := c.env.updHid (.inr ⟨rfl, rfl⟩) np1, kp := fun b u n e => ?_, dm := fun b h => upd_dm (c.dm b (upd_dm h)), to := c.to, new := fun _ => ⟨p, rfl, hp, ?_⟩, rd := fun z => Bool.noConfusion z, rep := fun z => Bool.noConfusion z }
        · have ne : b ≠ p := ne_of_none e hp
          rw [upd_ne ne]
          refine c.kp b u (fun z => n ⟨by rw [hst]; exact z.1, z.2⟩) (upd_kp hp b u e)
        · refine ⟨_, upd_same, RepK.merge (by simp only [RepK]) (rk.ext (vis_ext (fun _ z _ => z) fun b o n e => ?_))⟩
          have ne : b ≠ p := fun z => by subst z; exact n (.inl (.inr ⟨rfl, rfl⟩))
          rw [upd_ne ne]; exact e
      · cases e
end
end Z

namespace Z
open PySem PySem.Spec L2
open PyProof.Rows hiding St
/-! ### what a statement leaves -/
structure PostT (K : PySem.W.Frag) (O : Addr → Prop) (ρ : Vn) (σ : L2.St) (H : Hp) (ρ' : Vn) (σ' : L2.St) (H' : Hp) : Prop where
  env : EnvOk K O ρ' σ' H'
  kp : Kp (WrA ρ σ) H H'
  dm : ∀ b, H b ≠ none → H' b ≠ none
  own : ∀ b, OwnA ρ' σ' b → OwnA ρ σ b ∨ H b = none
  wr : ∀ b, WrA ρ' σ' b → WrA ρ σ b ∨ H b = none
  prot : ∀ (i : Nat) (s : Sl), ρ[i]? = some s → s.free = false → (∃ s', ρ'[i]? = some s' ∧ s.to s') ∧ σ'[i]? = σ[i]?
  len : ρ'.length = ρ.length
structure PostR (K : PySem.W.Frag) (O : Addr → Prop) (ρ : Vn) (σ : L2.St) (H : Hp) (fl : Bool) (d : D) (ρ' : Vn) (v : V) (σ' : L2.St) (H' : Hp) : Prop where
  env : EnvOk K (newO fl O v) ρ' σ' H'
  kp : Kp (WrA ρ σ) H H'
  dm : ∀ b, H b ≠ none → H' b ≠ none
  prot : ∀ (i : Nat) (s : Sl), ρ[i]? = some s → s.free = false → (∃ s', ρ'[i]? = some s' ∧ s.to s') ∧ σ'[i]? = σ[i]?
  len : ρ'.length = ρ.length
  own : ∀ b, OwnA ρ' σ' b → OwnA ρ σ b ∨ H b = none
  new : fl = true → ∃ p, v = .ref p ∧ ¬ O p ∧ (OwnA ρ σ p ∨ H p = none) ∧ Top K (vis (Hid (newO fl O v) ρ' σ') H') H' d p
  rep : fl = false → Rep K (vis (Hid O ρ' σ') H') d v
  sep : fl = true → ∀ b, v = .ref b → ¬ OwnA ρ' σ' b
structure PostTX (K : PySem.W.Frag) (O : Addr → Prop) (ρ : Vn) (σ : L2.St) (H : Hp) (x : Exn) (ρ' : Vn) (od : Option Addr) (σ' : L2.St) (H' : Hp) : Prop where
  env : EnvOk K O ρ' σ' H'
  kp : Kp (WrA ρ σ) H H'
  dm : ∀ b, H b ≠ none → H' b ≠ none
  own : ∀ b, OwnA ρ' σ' b → OwnA ρ σ b ∨ H b = none
  prot : ∀ (i : Nat) (s : Sl), ρ[i]? = some s → s.free = false → (∃ s', ρ'[i]? = some s' ∧ s.to s') ∧ σ'[i]? = σ[i]?
  len : ρ'.length = ρ.length
  rep : ExnRep K (vis (Hid O ρ' σ') H') H' x od
theorem Sl.to_free {a b : Sl} (h : a.to b) (f : a.free = false) : b.free = false := by
  cases a with
  | io d => simp only [Sl.to] at h; obtain ⟨d', rfl⟩ := h; rfl
  | lkd d => simp only [Sl.to] at h; subst h; rfl
  | _ => cases f
section
variable {K : PySem.W.Frag} {O : Addr → Prop} {ρ ρ1 ρ2 ρ' : Vn} {σ σ1 σ2 σ' : L2.St} {H H1 H2 H' : Hp} {d : D} {v : V} {fl st : Bool}
theorem PostT.refl (E : EnvOk K O ρ σ H) : PostT K O ρ σ H ρ σ H := ⟨E, Kp.refl, fun _ h => h, fun _ h => .inl h, fun _ h => .inl h, fun i s e _ => ⟨⟨s, e, s.to_refl⟩, rfl⟩, rfl⟩
theorem PostC.t (c : PostC K O ρ σ H st ρ' H') : PostT K O ρ σ H ρ' σ H' := ⟨c.env, c.kp.mono fun _ z => z.2, c.dm, fun _ h => .inl (c.to.own h), fun _ h => .inl (c.to.wr h), fun i s e _ => ⟨c.to.2 i s e, rfl⟩, c.to.1⟩
theorem PostX.t {x : Exn} {od : Option Addr} (p : PostX K O ρ σ H x ρ' od H') : PostTX K O ρ σ H x ρ' od σ H' := ⟨p.env, p.kp, p.dm, fun _ h => .inl (p.to.own h), fun i s e _ => ⟨p.to.2 i s e, rfl⟩, p.to.1, p.rep⟩
theorem PostT.gone (a : PostT K O ρ σ H ρ1 σ1 H1) {b : Addr} (h : H1 b = none) : H b = none := by
  cases q : H b with
  | none => rfl
  | some o => exact absurd h (a.dm b (by rw [q]; simp))
theorem PostT.kp2 (a : PostT K O ρ σ H ρ1 σ1 H1) (h : Kp (WrA ρ1 σ1) H1 H2) : Kp (WrA ρ σ) H H2 := fun b o n e => h b o (fun z => (a.wr b z).elim n fun z => by rw [z] at e; cases e) (a.kp b o n e)
theorem PostT.own2 (a : PostT K O ρ σ H ρ1 σ1 H1) {b : Addr} (h : OwnA ρ1 σ1 b ∨ H1 b = none) : OwnA ρ σ b ∨ H b = none := h.elim (a.own b) fun z => .inr (a.gone z)
theorem PostT.prot2 (a : PostT K O ρ σ H ρ1 σ1 H1) (h : ∀ (i : Nat) (s : Sl), ρ1[i]? = some s → s.free = false → (∃ s', ρ2[i]? = some s' ∧ s.to s') ∧ σ2[i]? = σ1[i]?) : ∀ (i : Nat) (s : Sl), ρ[i]? = some s → s.free = false → (∃ s', ρ2[i]? = some s' ∧ s.to s') ∧ σ2[i]? = σ[i]? := fun i s e f => by
  obtain ⟨⟨s1, e1, t1⟩, q1⟩ := a.prot i s e f
  obtain ⟨⟨s2, e2, t2⟩, q2⟩ := h i s1 e1 (Sl.to_free t1 f)
  exact ⟨⟨s2, e2, Sl.to_trans t1 t2⟩, q2.trans q1⟩
theorem PostT.trans (a : PostT K O ρ σ H ρ1 σ1 H1) (b : PostT K O ρ1 σ1 H1 ρ2 σ2 H2) : PostT K O ρ σ H ρ2 σ2 H2 :=
  ⟨b.env, a.kp2 b.kp, fun c h => b.dm c (a.dm c h), fun c h => a.own2 (b.own c h), fun c h => (b.wr c h).elim (a.wr c) fun z => .inr (a.gone z), a.prot2 b.prot, b.len.trans a.len⟩
theorem PostR.trans (a : PostT K O ρ σ H ρ1 σ1 H1) (b : PostR K O ρ1 σ1 H1 fl d ρ2 v σ2 H2) : PostR K O ρ σ H fl d ρ2 v σ2 H2 :=
  ⟨b.env, a.kp2 b.kp, fun c h => b.dm c (a.dm c h), a.prot2 b.prot, b.len.trans a.len, fun c h => a.own2 (b.own c h), fun z => let ⟨p, e, n, g, t⟩ := b.new z; ⟨p, e, n, a.own2 g, t⟩, b.rep, b.sep⟩
theorem PostTX.trans {x : Exn} {od : Option Addr} (a : PostT K O ρ σ H ρ1 σ1 H1) (b : PostTX K O ρ1 σ1 H1 x ρ2 od σ2 H2) : PostTX K O ρ σ H x ρ2 od σ2 H2 :=
  ⟨b.env, a.kp2 b.kp, fun c h => b.dm c (a.dm c h), fun c h => a.own2 (b.own c h), a.prot2 b.prot, b.len.trans a.len, b.rep⟩
end
/-! ### ends -/
structure Hs where
  nx : Vn → Prop
  rt : Bool → D → Vn → Prop
  bk : Vn → Prop
  ct : Vn → Prop
  exn : Exn → Vn → Prop
def Out.holds (o : Out) (h : Hs) : Prop := match o with
  | .nx ρ => h.nx ρ
  | .rt fl d ρ => h.rt fl d ρ
  | .bk ρ => h.bk ρ
  | .ct ρ => h.ct ρ
  | .exn x ρ => h.exn x ρ
  | .stuck => False
structure Hs.le (h g : Hs) : Prop where
  nx : ∀ ρ, h.nx ρ → g.nx ρ
  rt : ∀ fl d ρ, h.rt fl d ρ → g.rt fl d ρ
  bk : ∀ ρ, h.bk ρ → g.bk ρ
  ct : ∀ ρ, h.ct ρ → g.ct ρ
  exn : ∀ x ρ, h.exn x ρ → g.exn x ρ
theorem Out.holds_mono {o : Out} {h g : Hs} (q : o.holds h) (l : h.le g) : o.holds g := by
  cases o with
  | nx ρ => exact l.nx _ q
  | rt fl d ρ => exact l.rt _ _ _ q
  | bk ρ => exact l.bk _ q
  | ct ρ => exact l.ct _ q
  | exn x ρ => exact l.exn _ _ q
  | stuck => exact q
theorem out_holds {α : Type} {r : Res α} {f : α → Vn → Out} {h : Hs} (q : (r.out f).holds h) : r.holds (fun a ρ => (f a ρ).holds h) h.exn := by
  cases r <;> exact q
theorem out_opt {α : Type} {o : Option α} {ρ : Vn} {f : α → Vn → Out} {h : Hs} (q : ((ofOpt o ρ).out f).holds h) : ∃ a, o = some a ∧ (f a ρ).holds h := by
  cases o with
  | none => exact q.elim
  | some a => exact ⟨a, rfl, q⟩
def hsOf (K : PySem.W.Frag) (W : WX) (O : Addr → Prop) (ρ : Vn) (σ : L2.St) (H : Hp) (D : Ends) : Hs where
  nx := fun ρ' => ∀ σ' H', PostT K O ρ σ H ρ' σ' H' → D.nx σ' H'
  rt := fun fl d ρ' => ∀ v σ' H', PostR K O ρ σ H fl d ρ' v σ' H' → D.rt v H'
  bk := fun ρ' => ∀ σ' H', PostT K O ρ σ H ρ' σ' H' → D.bk σ' H'
  ct := fun ρ' => ∀ σ' H', PostT K O ρ σ H ρ' σ' H' → D.ct σ' H'
  exn := fun x ρ' => ∀ od σ' H', PostTX K O ρ σ H x ρ' od σ' H' → W (.ref (He.ga K x.C)) od σ' H'
theorem hs_on {K : PySem.W.Frag} {W : WX} {O : Addr → Prop} {ρ ρ1 : Vn} {σ σ1 : L2.St} {H H1 : Hp} {D : Ends} (a : PostT K O ρ σ H ρ1 σ1 H1) : (hsOf K W O ρ σ H D).le (hsOf K W O ρ1 σ1 H1 D) where
  nx := fun _ h σ' H' p => h σ' H' (a.trans p)
  rt := fun _ _ _ h v σ' H' p => h v σ' H' (PostR.trans a p)
  bk := fun _ h σ' H' p => h σ' H' (a.trans p)
  ct := fun _ h σ' H' p => h σ' H' (a.trans p)
  exn := fun _ _ h od σ' H' p => h od σ' H' (PostTX.trans a p)
section
variable (Φ : Tab) (X : Cx) (W : WX)
def SndSt (n : Nat) (st : Stmt) (s : MS) : Prop := ∀ (O : Addr → Prop) (ρ : Vn) (σ : L2.St) (H : Hp) (D : Ends), EnvOk X.K O ρ σ H → (exS Φ n s ρ).holds (hsOf X.K W O ρ σ H D) → WS X st D σ H
def SndSs (n : Nat) (st : List Stmt) (s : List MS) : Prop := ∀ (O : Addr → Prop) (ρ : Vn) (σ : L2.St) (H : Hp) (D : Ends), EnvOk X.K O ρ σ H → (exB Φ n s ρ).holds (hsOf X.K W O ρ σ H D) → WB X st D σ H
end
section
variable {Φ : Tab} {X : Cx} {W : WX} {n : Nat}
theorem ss_nil : SndSs Φ X W n [] [] := by
  intro O ρ σ H D E q
  simp only [exB] at q
  exact WB.by pss_nil (q σ H (PostT.refl E))
theorem ss_cons {st : Stmt} {rest : List Stmt} {s : MS} {ss : List MS} (h1 : SndSt Φ X W n st s) (h2 : SndSs Φ X W n rest ss) : SndSs Φ X W n (st :: rest) (s :: ss) := by
  intro O ρ σ H D E q
  simp only [exB] at q
  refine WB.by (pss_cons ps_w pss_w) ?_
  refine h1 O ρ σ H _ E ?_
  revert q
  cases exS Φ n s ρ with
  | nx ρ1 =>
    intro q σ1 H1 p
    exact h2 O ρ1 σ1 H1 D p.env (Out.holds_mono q (hs_on p))
  | _ => exact id
/-- an expression, then the statement's end -/
theorem SndE.st {e : Expr} {m : ME} (h : SndE Φ X W e m) {O : Addr → Prop} {ρ : Vn} {σ : L2.St} {H : Hp} {D : Ends} {Q : VK} (E : EnvOk X.K O ρ σ H) {f : Bool × Z.D → Vn → Out}
    (q : ((evE Φ m ρ).out f).holds (hsOf X.K W O ρ σ H D)) (k : ∀ a ρ' v H', PostE X.K O ρ σ H m a.1 a.2 ρ' v H' → (f a ρ').holds (hsOf X.K W O ρ σ H D) → Q v H') : WE X e σ H Q :=
  h O ρ σ H Q E (Res.holds_mono (out_holds q) (fun a ρ' z v H' p => k a ρ' v H' p z) fun x ρ' z od H' p => z od σ H' p.t)
/-- .. its object let go -/
theorem SndE.sts {e : Expr} {m : ME} (h : SndE Φ X W e m) {O : Addr → Prop} {ρ0 ρ : Vn} {σ0 σ : L2.St} {H0 H : Hp} {D : Ends} {Q : VK} (a : PostT X.K O ρ0 σ0 H0 ρ σ H) {f : Bool × Z.D → Vn → Out}
    (q : ((evE Φ m ρ).out f).holds (hsOf X.K W O ρ0 σ0 H0 D)) (k : ∀ a ρ' v H', PostS X.K O ρ σ H m a.2 ρ' v H' → (f a ρ').holds (hsOf X.K W O ρ0 σ0 H0 D) → Q v H') : WE X e σ H Q :=
  h.sh a.env (Res.holds_mono (out_holds q) (fun a ρ' z v H' p => k a ρ' v H' p z) fun x ρ' z od H' p => z od σ H' (PostTX.trans a p.t))
/-- .. its object kept -/
theorem SndE.stt {e : Expr} {m : ME} (h : SndE Φ X W e m) {O : Addr → Prop} {ρ0 ρ : Vn} {σ0 σ : L2.St} {H0 H : Hp} {D : Ends} {Q : VK} (a : PostT X.K O ρ0 σ0 H0 ρ σ H) {f : Bool × Z.D → Vn → Out}
    (q : ((evE Φ m ρ).out f).holds (hsOf X.K W O ρ0 σ0 H0 D)) (k : ∀ a ρ' v H', PostE X.K O ρ σ H m a.1 a.2 ρ' v H' → (f a ρ').holds (hsOf X.K W O ρ0 σ0 H0 D) → Q v H') : WE X e σ H Q :=
  h O ρ σ H Q a.env (Res.holds_mono (out_holds q) (fun a ρ' z v H' p => k a ρ' v H' p z) fun x ρ' z od H' p => z od σ H' (PostTX.trans a p.t))
theorem st_bad {st : Stmt} : SndSt Φ X W n st .bad := by
  intro O ρ σ H D E q
  simp only [exS] at q
  exact q.elim
theorem st_pass {pos : Pos} : SndSt Φ X W n (.Pass pos) .pass := by
  intro O ρ σ H D E q
  simp only [exS] at q
  exact WS.by ps_pass (q σ H (PostT.refl E))
theorem st_doc {x : Str} {j : Nat} {pos pos' : Pos} : SndSt Φ X W n (.Expr (.Constant (.str x) j pos) pos') .pass := by
  intro O ρ σ H D E q
  simp only [exS] at q
  exact WS.by ps_doc (q σ H (PostT.refl E))
theorem st_brk {pos : Pos} : SndSt Φ X W n (.Break pos) .brk := by
  intro O ρ σ H D E q
  simp only [exS] at q
  exact WS.by ps_break (q σ H (PostT.refl E))
theorem st_expr {e : Expr} {m : ME} {pos : Pos} (he : SndE Φ X W e m) (hc : isComp e = false) : SndSt Φ X W n (.Expr e pos) (.expr m) := by
  intro O ρ σ H D E q
  simp only [exS] at q
  have hs : swapsWith e none pos.line X.env = pure false := by cases e <;> first | rfl | cases hc
  refine WS.by (ps_expr pe_w hs) ?_
  exact he.sts (PostT.refl E) q fun a ρ1 v H1 p q => q σ H1 p.c.t
theorem st_ite {c : Expr} {a b : List Stmt} {mc : ME} {ma mb : List MS} {pos : Pos} (hc : SndT Φ X W c mc) (ha : SndSs Φ X W n a ma) (hb : SndSs Φ X W n b mb) : SndSt Φ X W n (.If c a b pos) (.ite mc ma mb) := by
  intro O ρ σ H D E q
  simp only [exS] at q
  refine WS.by (ps_if pt_w pss_w pss_w) ?_
  have q2 : (HT Φ mc ρ).holds (fun k ρ' => (if k then exB Φ n ma ρ' else exB Φ n mb ρ').holds (hsOf X.K W O ρ σ H D)) (fun x ρ' => (hsOf X.K W O ρ σ H D).exn x ρ') := by
    unfold HT
    revert q
    cases evE Φ mc ρ with
    | ok x ρ1 =>
      simp only [Res.out_ok, Res.bind_ok]
      cases truD x.2 <;> exact id
    | _ => exact id
  refine hc O ρ σ H _ E (Res.holds_mono q2 (fun k ρ1 z H1 p => ?_) fun x ρ' z od H' p => z od σ H' p.t)
  cases k with
  | true => exact ha O ρ1 σ H1 D p.env (Out.holds_mono z (hs_on p.t))
  | false => exact hb O ρ1 σ H1 D p.env (Out.holds_mono z (hs_on p.t))
/-! ### a name takes a value -/
theorem PostE.hio {K : PySem.W.Frag} {O : Addr → Prop} {ρ ρ1 : Vn} {σ : L2.St} {H : Hp} (E : EnvOk K O ρ σ H) (to : EvTo ρ ρ1) : ∀ (j : Nat) (d : Z.D) (b : Addr), ρ1[j]? = some (.io d) → σ[j]? = some (some (.ref b)) → O b := fun j d b e s => by
  obtain ⟨s0, e0, t⟩ := to.back e
  cases s0 with
  | io d0 =>
    obtain ⟨a', s', z, _⟩ := E.io j d0 e0
    rw [s] at s'; cases s'; exact z
  | own d0 => simp only [Sl.to] at t; rcases t with ⟨_, t⟩ | ⟨_, t⟩ <;> cases t
  | _ => simp only [Sl.to] at t; cases t
theorem PostE.put {K : PySem.W.Frag} {O : Addr → Prop} {ρ ρ1 ρ2 : Vn} {σ : L2.St} {H H1 : Hp} {m : ME} {fl : Bool} {d : Z.D} {v : V} {i : Nat} (E : EnvOk K O ρ σ H) (p : PostE K O ρ σ H m fl d ρ1 v H1) (hr : m.isRd = false) (e : setS ρ1 i (if fl then .own d else .val d) = some ρ2) : PostT K O ρ σ H ρ2 (σ.set i (some v)) H1 := by
  obtain ⟨s0, e0, f0, rfl⟩ := setS_some e
  have protA : ∀ (t : Sl), ∀ (j : Nat) (s : Sl), ρ[j]? = some s → s.free = false → (∃ s', (ρ1.set i t)[j]? = some s' ∧ s.to s') ∧ (σ.set i (some v))[j]? = σ[j]? := fun t j s ej fj => by
    obtain ⟨s', e', t'⟩ := p.to.2 j s ej
    have ne : j ≠ i := fun h => by
      subst h
      rw [e0] at e'; cases e'
      have := Sl.to_free t' fj
      rw [f0] at this; cases this
    exact ⟨⟨s', by rw [List.getElem?_set_ne (Ne.symm ne)]; exact e', t'⟩, by rw [List.getElem?_set_ne (Ne.symm ne)]⟩
  cases fl with
  | true =>
    obtain ⟨q, rfl, hq, t⟩ := p.new rfl
    have nq : ¬ OwnA ρ σ q := fun z => E.domH q (.inr z) hq
    refine ⟨EnvOk.setOwn p.env (PostE.hio E p.to) (fun b z hb => by subst hb; exact nq (p.to.own z)) (fun z => E.dom q z hq) t, p.kp.mono fun _ z => z.2, p.dm, fun b z => ?_, fun b z => ?_, protA _, by rw [List.length_set]; exact p.to.1⟩
    · rcases own_set (a := q) (fun _ => rfl) z with z | ⟨_, rfl⟩
      · exact .inl (p.to.own z)
      · exact .inr hq
    · rcases wr_set (a := q) (fun _ => rfl) z with z | ⟨_, rfl⟩
      · exact .inl (p.to.wr z)
      · exact .inr hq
  | false =>
    have E1 := p.env
    rw [newO_false] at E1
    refine ⟨E1.setVal (.inr ⟨d, v, rfl, rfl, p.rep rfl hr⟩), p.kp.mono fun _ z => z.2, p.dm, fun b z => ?_, fun b z => ?_, protA _, by rw [List.length_set]; exact p.to.1⟩
    · rcases own_set (a := 0) (fun w => by cases w) z with z | ⟨w, _⟩
      · exact .inl (p.to.own z)
      · cases w
    · rcases wr_set (a := 0) (fun w => by cases w) z with z | ⟨w, _⟩
      · exact .inl (p.to.wr z)
      · cases w
theorem st_set {x : Str} {i : Nat} {e : Expr} {m : ME} {px pos : Pos} (hN : X.N.Nodup) (hi : X.N[i]? = some x) (hx : Loc X.env.scope x) (hf : X.fn x = true ∨ X.env.scope.names.lookup x = some .local) (he : SndE Φ X W e m) (hr : m.isRd = false) (hc : isComp e = false) :
    SndSt Φ X W n (.Assign [.Name x px] e pos) (.set (.nm i) m) := by
  intro O ρ σ H D E q
  simp only [exS] at q
  have hs : swapsWith e (some (.Name x px)) pos.line X.env = pure false := by cases e <;> first | rfl | cases hc
  refine WS.by (ps_set hN hi hx pe_w hs hf) ?_
  refine he.st E q fun a ρ1 v H1 p q => ?_
  obtain ⟨ρ2, e2, q⟩ := out_opt q
  exact q _ _ (p.put E hr e2)
/-- name = [.. for ..] -/
theorem st_setLc {y : Str} {py pos spos : Pos} {i : Nat} {elt tgE iter : Expr} {t : Option Expr} {scope : Scope} {own : List (Str × Nat)} {tg : MT} {k : Nat} {ms : List ME} {me : ME} {mt : Option ME} (hca : X.calm = true) (hN : X.N.Nodup) (hy : X.N[i]? = some y) (hyl : X.env.scope.names.lookup y = some .local)
    (hsw : swapsWith (.ListComp elt [⟨tgE, iter, ifsOf t, 0⟩] scope pos) (some (.Name y py)) spos.line X.env = pure true) (ok : BlkOk X.N X.env.scope scope own) (hg : ∀ (s : Shared) (H : Hp) (C : Addr) (cl : List (Str × Addr)) (fp : List Addr), PG (X.blk s H scope (compEnvC scope cl C X.env) fp) tgE (gOf X.K tg))
    (hs : ∀ x, foldedSetIterable iter X.env x = pure x)
    (hi : SndI Φ X W tgE iter k ms) (he : ∀ X', IsBlk X scope X' → SndE Φ X' WF elt me) (hr : me.isRd = false) (ht : (t = none ∧ mt = none) ∨ ∃ te mt', t = some te ∧ mt = some mt' ∧ ∀ X', IsBlk X scope X' → SndT Φ X' WF te mt') (hts : ∀ i ∈ tg.slots, i ∈ own.map (·.2)) :
    SndSt Φ X W n (.Assign [.Name y py] (.ListComp elt [⟨tgE, iter, ifsOf t, 0⟩] scope pos) spos) (.set (.nm i) (.lc me (own.map (·.2)) tg k ms mt)) := by
  intro O ρ σ H D E q
  simp only [exS] at q
  refine WS.by (ps_unl (ps_setLc hca hN hy hyl hsw pi_w ok hg ttB_ok teB_ok hs)) ?_
  refine lc_run hi he hr ht hts E (Res.holds_mono (out_holds q) (fun a ρ1 z v H1 p => ?_) fun x ρ' z od H' p => z od σ H' p.t)
  obtain ⟨ρ2, e2, z⟩ := out_opt z
  exact z _ _ (p.put E rfl e2)
theorem PostT.ofV {K : PySem.W.Frag} {O : Addr → Prop} {ρ ρ1 ρ2 : Vn} {σ σ2 : L2.St} {H H1 : Hp} {st : Bool} {is : List Nat} (c : PostC K O ρ σ H st ρ1 H1) (p : PostV K O ρ1 σ H1 is ρ2 σ2) : PostT K O ρ σ H ρ2 σ2 H1 :=
  c.t.trans ⟨p.env, Kp.refl, fun _ h => h, fun b z => .inl (p.own b z), fun b z => .inl (p.wr b z), fun i s e f => ⟨⟨s, by rw [(p.prot i s e f).1]; exact e, s.to_refl⟩, (p.prot i s e f).2⟩, p.len⟩
theorem st_asg {tgE e : Expr} {m : ME} {tg : MT} {pos : Pos} (hnm : ∀ i, tg ≠ .nm i) (he : SndE Φ X W e m) (hr : m.isRd = false) (hg : PG X tgE (gOf X.K tg)) (hs : swapsWithSole [tgE] e pos.line X.env = pure false) (hw : swappedStores [tgE] e X.env = pure none) (h1 : (assignEach [tgE] X.env).map (·.2) = [assign tgE X.env]) :
    SndSt Φ X W n (.Assign [tgE] e pos) (.set tg m) := by
  intro O ρ σ H D E q
  have q : ((evE Φ m ρ).out fun x ρ => (ofOpt (asgT tg x.2 ρ) ρ).out fun ρ _ => .nx ρ).holds (hsOf X.K W O ρ σ H D) := by
    simp only [exS] at q
    cases tg with
    | nm i => exact absurd rfl (hnm i)
    | _ => exact q
  refine WS.by (ps_asg pe_w hg hs hw h1) ?_
  refine he.sts (PostT.refl E) q fun a ρ1 v H1 p q => ?_
  obtain ⟨ρ2, e2, q⟩ := out_opt q
  exact asgT_ok p.env e2 (p.rep hr) fun σ2 pv => q _ _ (PostT.ofV p.c pv)
/-- two names, stored from the right -/
theorem st_par {x y : Str} {i j : Nat} {a b : Expr} {ma mb : ME} {px py pt pos : Pos} {kt k2 : Nat} {pt2 : Pos} (hca : X.calm = true) (hN : X.N.Nodup) (hi : X.N[i]? = some x) (hj : X.N[j]? = some y) (hij : i ≠ j) (hx : X.env.scope.names.lookup x = some .local) (hy : X.env.scope.names.lookup y = some .local)
    (ha : SndE Φ X W a ma) (hb : SndE Φ X W b mb) (ra : ma.isRd = false) (rb : mb.isRd = false) (na : notStar a = true) (nb : notStar b = true)
    (hw : swappedStores [.Tuple [.Name x px, .Name y py] kt pt] (.Tuple [a, b] k2 pt2) X.env = pure (some [x, y])) :
    SndSt Φ X W n (.Assign [.Tuple [.Name x px, .Name y py] kt pt] (.Tuple [a, b] k2 pt2) pos) (.par i j ma mb) := by
  intro O ρ σ H D E q
  simp only [exS] at q
  refine WS.by (ps_par hca hN hi hj hij hx hy (pa_cons pe_w (pa_cons pe_w pa_nil (starAt nb _)) (starAt na _)) hw) ?_
  refine ha.sts (PostT.refl E) q fun a1 ρ1 v H1 p1 q => ?_
  refine hb.sts p1.c.t q fun a2 ρ2 w H2 p2 q => ?_
  obtain ⟨ρ3, e3, q⟩ := out_opt q
  obtain ⟨ρ4, e4, q⟩ := out_opt q
  refine ⟨v, w, rfl, ?_⟩
  have c := p1.c.trans p2.c
  have key := sets_ok (is := [i, j]) (ds := [a1.2, a2.2]) (vs := [v, w]) (Q := fun σ' H' => H' = H2 ∧ PostV X.K O ρ2 σ H2 [i, j] ρ4 σ') p2.env (by simp only [sets, e3, e4]) (by
    simp only [Reps]
    exact ⟨v, [w], rfl, (p1.rep ra).ext p2.c.ext, w, [], rfl, p2.rep rb, rfl⟩) fun σ' pv => ⟨rfl, pv⟩
  obtain ⟨v', r', e1, w', r'', e2, hnil, _, pv⟩ := key
  cases e1; cases e2
  exact q _ _ (PostT.ofV c pv)
theorem PostT.ext {K : PySem.W.Frag} {O : Addr → Prop} {ρ ρ' : Vn} {σ σ' : L2.St} {H H' : Hp} (P : PostT K O ρ σ H ρ' σ' H') : Ext (vis (Hid O ρ σ) H) (vis (Hid O ρ' σ') H') :=
  vis_ext (fun b h ne => by
    rcases h with h | h
    · exact .inl h
    · rcases P.own b h with h | h
      · exact .inr h
      · exact absurd h ne) fun b o ne e => P.kp b o (fun z => ne (.inr z.own)) e
/-- a, b, c = x, y, z; the last may be new, and one's own -/
theorem st_tri {x y z : Str} {i j k : Nat} {a b c : Expr} {ma mb mc : ME} {px py pz pt pos : Pos} {kt k2 : Nat} {pt2 : Pos} (hca : X.calm = true) (hN : X.N.Nodup) (hi : X.N[i]? = some x) (hj : X.N[j]? = some y) (hk : X.N[k]? = some z) (hij : i ≠ j) (hik : i ≠ k) (hjk : j ≠ k)
    (hx : X.env.scope.names.lookup x = some .local) (hy : X.env.scope.names.lookup y = some .local) (hz : X.env.scope.names.lookup z = some .local)
    (ha : SndE Φ X W a ma) (hb : SndE Φ X W b mb) (hc : SndE Φ X W c mc) (ra : ma.isRd = false) (rb : mb.isRd = false) (rc : mc.isRd = false) (na : notStar a = true) (nb : notStar b = true) (nc : notStar c = true)
    (hw : swappedStores [.Tuple [.Name x px, .Name y py, .Name z pz] kt pt] (.Tuple [a, b, c] k2 pt2) X.env = pure (some [x, y, z])) :
    SndSt Φ X W n (.Assign [.Tuple [.Name x px, .Name y py, .Name z pz] kt pt] (.Tuple [a, b, c] k2 pt2) pos) (.tri i j k ma mb mc) := by
  intro O ρ σ H D E q
  simp only [exS] at q
  refine WS.by (ps_par3 hca hN hi hj hk hij hik hjk hx hy hz (pa_cons pe_w (pa_cons pe_w (pa_cons pe_w pa_nil (starAt nc _)) (starAt nb _)) (starAt na _)) hw) ?_
  refine ha.sts (PostT.refl E) q fun a1 ρ1 v1 H1 p1 q => ?_
  refine hb.sts p1.c.t q fun a2 ρ2 v2 H2 p2 q => ?_
  have c12 := p1.c.trans p2.c
  refine hc.stt c12.t q fun a3 ρ3 v3 H3 p3 q => ?_
  obtain ⟨ρ4, e4, q⟩ := out_opt q
  obtain ⟨ρ5, e5, q⟩ := out_opt q
  obtain ⟨ρ6, e6, q⟩ := out_opt q
  have P := p3.put p2.env rc e4
  refine ⟨v1, v2, v3, rfl, ?_⟩
  have key := sets_ok (is := [i, j]) (ds := [a1.2, a2.2]) (vs := [v1, v2]) (Q := fun σ' H' => H' = H3 ∧ PostV X.K O ρ4 (σ.set k (some v3)) H3 [i, j] ρ6 σ') P.env (by simp only [sets, e5, e6]) (by
    simp only [Reps]
    exact ⟨v1, [v2], rfl, ((p1.rep ra).ext p2.c.ext).ext P.ext, v2, [], rfl, (p2.rep rb).ext P.ext, rfl⟩) fun σ' pv => ⟨rfl, pv⟩
  obtain ⟨v', r', e1, w', r'', e2, hnil, _, pv⟩ := key
  cases e1; cases e2
  have e : ((σ.set i (some v1)).set j (some v2)).set k (some v3) = ((σ.set k (some v3)).set i (some v1)).set j (some v2) := by
    rw [List.set_comm _ _ hjk, List.set_comm _ _ hik]
  rw [e]
  exact q _ _ ((c12.t.trans P).trans (PostT.ofV (PostC.refl (st := true) P.env) pv))
/-! ### return, raise -/
theorem st_ret {e : Expr} {m : ME} {pos : Pos} (he : SndE Φ X W e m) (hr : m.isRd = false) (hv : ∀ i, m = .var i → PE X e (tVar i)) : SndSt Φ X W n (.Return (some e) pos) (.ret m) := by
  intro O ρ σ H D E q
  have gen : ((evE Φ m ρ).out fun x ρ => Out.rt x.1 x.2 ρ).holds (hsOf X.K W O ρ σ H D) → WS X (.Return (some e) pos) D σ H := fun q => by
    refine WS.by (ps_ret pe_w) ?_
    refine he.st E q fun a ρ1 v H1 p q => ?_
    refine q v σ H1 ⟨p.env, p.kp.mono fun _ z => z.2, p.dm, fun i s e _ => ⟨p.to.2 i s e, rfl⟩, p.to.1, fun _ h => .inl (p.to.own h), fun z => ?_, fun z => p.rep z hr, fun z b eb h => ?_⟩
    · obtain ⟨a, ea, hn, t⟩ := p.new z
      exact ⟨a, ea, fun z => E.dom a z hn, .inr hn, t⟩
    · obtain ⟨a, ea, hn, t⟩ := p.new z
      rw [eb] at ea; cases ea
      exact E.domH b (.inr (p.to.own h)) hn
  cases m with
  | var i =>
    have hv := hv i rfl
    simp only [exS] at q
    cases z : ρ[i]? with
    | none => rw [z] at q; exact q.elim
    | some s =>
      rw [z] at q
      cases s with
      | own d =>
        obtain ⟨a, ea, t⟩ := E.own i d z
        have na := E.sep i d a z ea
        refine WS.by (ps_ret hv) ⟨_, ea, ?_⟩
        have hil : i < ρ.length := (List.getElem?_eq_some_iff.mp z).1
        have hh : ∀ b, Hid (newO true O (.ref a)) (ρ.set i .non) σ b ↔ Hid O ρ σ b := fun b => by
          constructor
          · rintro ((h | ⟨_, h⟩) | ⟨j, sj, ej, wj, sj'⟩)
            · exact .inl h
            · cases h; exact .inr ⟨i, _, z, rfl, ea⟩
            · rcases getElem?_set_of ej with ⟨rfl, rfl, _⟩ | ⟨_, ej⟩
              · cases wj
              · exact .inr ⟨j, sj, ej, wj, sj'⟩
          · rintro (h | ⟨j, sj, ej, wj, sj'⟩)
            · exact .inl (.inl h)
            · by_cases hj : j = i
              · subst hj
                rw [ea] at sj'; cases sj'
                exact .inl (.inr ⟨rfl, rfl⟩)
              · exact .inr ⟨j, sj, by rw [List.getElem?_set_ne (Ne.symm hj)]; exact ej, wj, sj'⟩
        have xx : Ext (vis (Hid O ρ σ) H) (vis (Hid (newO true O (.ref a)) (ρ.set i .non) σ) H) := vis_ext (fun b h _ => (hh b).mp h) fun _ _ _ e => e
        have own' : ∀ b, OwnA (ρ.set i .non) σ b → OwnA ρ σ b := fun b ⟨j, sj, ej, wj, sj'⟩ => by
          rcases getElem?_set_of ej with ⟨rfl, rfl, _⟩ | ⟨_, ej⟩
          · cases wj
          · exact ⟨j, sj, ej, wj, sj'⟩
        have E' : EnvOk X.K (newO true O (.ref a)) (ρ.set i .non) σ H := by
          refine EnvOk.of (by rw [List.length_set]; exact E.len) (fun b h => ?_) (fun j k b sj sk ej ek wj wk aj ak => ?_) fun j sj ej => ?_
          · rcases h with h | ⟨_, h⟩
            · exact E.dom b h
            · cases h; exact t.ne
          · rcases getElem?_set_of ej with ⟨rfl, rfl, _⟩ | ⟨nj, ej⟩
            · cases wj
            · rcases getElem?_set_of ek with ⟨rfl, rfl, _⟩ | ⟨nk, ek⟩
              · cases wk
              · exact E.inj j k b sj sk ej ek wj wk aj ak
          · rcases getElem?_set_of ej with ⟨rfl, rfl, _⟩ | ⟨nj, ej⟩
            · trivial
            · refine (E.slot ej).ext xx (fun _ _ _ o e => e) fun b wb eb => ⟨.inl, fun h => ?_⟩
              rcases h with h | ⟨_, h⟩
              · exact h
              · cases h
                exact absurd (E.inj j i a sj _ ej z wb rfl eb ea) nj
        refine q _ σ H ⟨E', Kp.refl, fun _ h => h, fun j s ej fj => ?_, by rw [List.length_set], fun b h => .inl (own' b h), fun _ => ⟨a, rfl, na, .inl ⟨i, _, z, rfl, ea⟩, t.ext xx fun _ e => e⟩, fun z => Bool.noConfusion z, fun _ b eb ⟨j, sj, ej, wj, sj'⟩ => ?_⟩
        rotate_left
        · cases eb
          rcases getElem?_set_of ej with ⟨rfl, rfl, _⟩ | ⟨nj, ej⟩
          · cases wj
          · exact nj (E.inj j i a sj _ ej z wj rfl sj' ea)
        have ne : j ≠ i := fun h => by subst h; rw [z] at ej; cases ej; cases fj
        exact ⟨⟨s, by rw [List.getElem?_set_ne (Ne.symm ne)]; exact ej, s.to_refl⟩, rfl⟩
      | val d =>
        obtain ⟨v, ev, r⟩ := E.val i d z
        refine WS.by (ps_ret hv) ⟨v, ev, ?_⟩
        exact q v σ H ⟨newO_false.symm ▸ E, Kp.refl, fun _ h => h, fun i s e _ => ⟨⟨s, e, s.to_refl⟩, rfl⟩, rfl, fun _ h => .inl h, fun z => Bool.noConfusion z, fun _ => r, fun z => Bool.noConfusion z⟩
      | _ => exact q.elim
  | _ => simp only [exS] at q; exact gen q
theorem st_retN {pos : Pos} : SndSt Φ X W n (.Return none pos) (.ret (.cst .non)) := by
  intro O ρ σ H D E q
  simp only [exS, evE, Res.out_ok] at q
  exact WS.by ps_retN (q .non σ H ⟨newO_false.symm ▸ E, Kp.refl, fun _ h => h, fun i s e _ => ⟨⟨s, e, s.to_refl⟩, rfl⟩, rfl, fun _ h => .inl h, fun z => Bool.noConfusion z, fun _ => rfl, fun z => Bool.noConfusion z⟩)
theorem st_raise {e : Expr} {C : Str} {pos : Pos} (hca : X.calm = true) (tk : Takes X W) (he : PMk X e (fun _ H Q => Q (.ref (He.ga X.K C)) none H)) : SndSt Φ X W n (.Raise (some e) none pos) (.raise C) := by
  intro O ρ σ H D E q
  simp only [exS] at q
  refine WS.by (ps_raise hca tk he) ?_
  exact q none σ H ⟨E, Kp.refl, fun _ h => h, fun _ h => .inl h, fun i s e _ => ⟨⟨s, e, s.to_refl⟩, rfl⟩, rfl, rfl⟩
end
end Z

namespace Z
open PySem PySem.Spec L2
open PyProof.Rows hiding St
/-! ### a slot's list is changed -/
theorem upd_ok {K : PySem.W.Frag} {O : Addr → Prop} {ρ ρ2 : Vn} {σ : L2.St} {H : Hp} {i : Nat} {f : D → Option D} (E : EnvOk K O ρ σ H) (e : updS ρ i f = some ρ2) : ∃ d d' a, f d = some d' ∧ σ[i]? = some (some (.ref a)) ∧ Top K (vis (Hid O ρ σ) H) H d a ∧ Hid O ρ σ a ∧
    ∀ o, Top K (vis (Hid O ρ σ) (upd H a o)) (upd H a o) d' a → PostT K O ρ σ H ρ2 σ (upd H a o) := by
  have gen : ∀ {d d' : D} {a : Addr} {s0 s1 : Sl}, ρ[i]? = some s0 → ((s0 = .own d ∧ s1 = .own d') ∨ (s0 = .io d ∧ s1 = .io d')) → σ[i]? = some (some (.ref a)) → ∀ o, Top K (vis (Hid O ρ σ) (upd H a o)) (upd H a o) d' a → PostT K O ρ σ H (ρ.set i s1) σ (upd H a o) := fun {d d' a s0 s1} z hs ea o t => by
    have w0 : s0.isWr = true := by rcases hs with ⟨rfl, _⟩ | ⟨rfl, _⟩ <;> rfl
    obtain ⟨E', to⟩ := E.chg z hs ea (H' := upd H a o) (fun b u n e => by rw [upd_ne n]; exact e) (fun _ h => h) (fun _ h => .inl h) (fun b h => upd_dm (E.dom b h)) t
    have c : PostC K O ρ σ H false (ρ.set i s1) (upd H a o) := ⟨E', fun b u n e => by
      have ne : b ≠ a := fun h => by subst h; exact n ⟨rfl, i, s0, z, w0, ea⟩
      rw [upd_ne ne]; exact e, fun b h => upd_dm h, to⟩
    exact c.t
  unfold updS at e
  split at e
  · rename_i d z
    cases q : f d with
    | none => rw [q] at e; cases e
    | some d' =>
      rw [q] at e; cases e
      obtain ⟨a, ea, t⟩ := E.own i d z
      exact ⟨d, d', a, q, ea, t, .inr ⟨i, _, z, rfl, ea⟩, gen z (.inl ⟨rfl, rfl⟩) ea⟩
  · rename_i d z
    cases q : f d with
    | none => rw [q] at e; cases e
    | some d' =>
      rw [q] at e; cases e
      obtain ⟨a, ea, _, t⟩ := E.io i d z
      exact ⟨d, d', a, q, ea, t, .inr ⟨i, _, z, rfl, ea⟩, gen z (.inr ⟨rfl, rfl⟩) ea⟩
  · cases e
theorem vis_updHid {O : Addr → Prop} {H : Hp} {a : Addr} {o : HO} (h : O a) : Ext (vis O H) (vis O (upd H a o)) := vis_ext (fun _ z _ => z) fun b u n e => by
  have ne : b ≠ a := fun z => by subst z; exact n h
  rw [upd_ne ne]; exact e
section
variable {Φ : Tab} {X : Cx} {W : WX} {n : Nat}
theorem setAt_ok {K : PySem.W.Frag} {O : Addr → Prop} {ρ : Vn} {σ : L2.St} {H : Hp} {i : Nat} (E : EnvOk K O ρ σ H) (h : setAt ρ i = true) : ∃ a, σ[i]? = some (some (.ref a)) ∧ ((∃ vs, H a = some (.lst vs)) ∨ ∃ ws, H a = some (.dK ws)) := by
  unfold setAt at h
  split at h
  · rename_i ds z
    obtain ⟨a, ea, vs, e, _⟩ := E.own i _ z
    exact ⟨a, ea, .inl ⟨vs, e⟩⟩
  · rename_i ds z
    obtain ⟨a, ea, _, vs, e, _⟩ := E.io i _ z
    exact ⟨a, ea, .inl ⟨vs, e⟩⟩
  · rename_i ds z
    obtain ⟨a, ea, vs, e, _⟩ := E.own i _ z
    exact ⟨a, ea, .inr ⟨vs, e⟩⟩
  · rename_i ds z
    obtain ⟨a, ea, _, vs, e, _⟩ := E.io i _ z
    exact ⟨a, ea, .inr ⟨vs, e⟩⟩
  · cases h
theorem lstAt_ok {K : PySem.W.Frag} {O : Addr → Prop} {ρ : Vn} {σ : L2.St} {H : Hp} {i : Nat} (E : EnvOk K O ρ σ H) (h : lstAt ρ i = true) : ∃ a vs, σ[i]? = some (some (.ref a)) ∧ H a = some (.lst vs) := by
  unfold lstAt at h
  split at h
  · rename_i ds z
    obtain ⟨a, ea, vs, e, _⟩ := E.own i _ z
    exact ⟨a, vs, ea, e⟩
  · rename_i ds z
    obtain ⟨a, ea, _, vs, e, _⟩ := E.io i _ z
    exact ⟨a, vs, ea, e⟩
  · cases h
/-- a[i] = v of a list or a dict -/
theorem set_any (hu : X.A.units + 1 < cLine) : PSet X (fun x i v H Q => rSetL x i v H Q ∨ rSetD x i v H Q) := by
  intro pins s σ H o i v ov iv u Q I ro ri rv h
  rcases h with h | h
  · exact set_list pins s σ H o i v ov iv u Q I ro ri rv h
  · exact set_dict hu pins s σ H o i v ov iv u Q I ro ri rv h
theorem st_setIx {x : Str} {i : Nat} {ix e : Expr} {mi me : ME} {px pt pos : Pos} (hu : X.A.units + 80 < cLine) (hv : PE X (.Name x px) (tVar i)) (he : SndE Φ X W e me) (hix : SndE Φ X W ix mi) (hr : me.isRd = false) (hp : plainIx ix = true) :
    SndSt Φ X W n (.Assign [.Subscript (.Name x px) ix pt] e pos) (.setIx i mi me) := by
  intro O ρ σ H D E q
  simp only [exS] at q
  have ha : ∀ v, assign (.Subscript (.Name x px) ix pt) X.env v = (do
      let ov ← holding [v] (eval (.Name x px) X.env)
      let iv ← holding [v, ov] (eval ix X.env)
      standAt pt
      holding [v, ov, iv] (setItem ov iv v)
      release [v, ov, iv] []) := by
    intro v
    cases ix <;> first | rfl | cases hp
  refine WS.by (ps_asg pe_w (pg_sub hv pe_w (set_any (by omega)) ha) (by cases e <;> rfl) (by cases e <;> rfl) rfl) ?_
  refine he.sts (PostT.refl E) q fun a1 ρ1 v H1 p1 q => ?_
  split at q
  · rename_i hl
    obtain ⟨a, ea, _⟩ := setAt_ok p1.env hl
    refine ⟨_, ea, ?_⟩
    refine hix.sts p1.c.t q fun a2 ρ2 w H2 p2 q => ?_
    obtain ⟨ρ3, e3, q⟩ := out_opt q
    obtain ⟨d, d', a', ef, ea', t, ha', k⟩ := upd_ok p2.env e3
    rw [ea] at ea'; cases ea'
    unfold setD at ef
    split at ef
    · rename_i ds j h2
      split at ef
      · rename_i hj
        cases ef
        obtain ⟨vs2, e4, r⟩ := t
        have r2 := p2.rd
        rw [h2] at r2
        have hw := r2.scal rfl
        refine .inl ⟨a, vs2, j, j.toNat, rfl, hw, e4, ?_, ?_⟩
        · unfold ixN
          rw [if_pos hj.1, if_pos (by rw [← r.length]; omega)]
        · refine q σ _ ((p1.c.t.trans p2.c.t).trans (k _ ⟨_, upd_same, ?_⟩))
          exact (r.set j.toNat ((p1.rep hr).ext p2.c.ext)).ext (vis_updHid ha')
      · cases ef
    · rename_i kvs
      split at ef
      · rename_i hl2
        cases hk : keyD a2.2 with
        | none => rw [hk] at ef; cases ef
        | some kk =>
          rw [hk] at ef; cases ef
          obtain ⟨ws, e4, r⟩ := t
          have hw := keyD_of hk (p2.rd.rep vis_le)
          have lz : lim ≤ sizeLine := by rw [PySem.sizeLine_eq]; decide
          refine .inr ⟨a, _, rfl, .inl ⟨ws, kk, e4, hw, by rw [← repK_len r]; omega, rfl⟩, ?_⟩
          refine q σ _ ((p1.c.t.trans p2.c.t).trans (k _ ⟨_, upd_same, ?_⟩))
          exact (r.put ((p1.rep hr).ext p2.c.ext)).ext (vis_updHid ha')
      · cases ef
    · cases ef
  · exact q.elim
theorem repF_len {K : PySem.W.Frag} {G : Hp} : ∀ {fs : List (Str × D)} {ws : List (Str × V)}, RepF K G fs ws → ws.length = fs.length
  | [], ws, h => by simp only [RepF] at h; subst h; rfl
  | (g, d) :: fs, ws, h => by
    simp only [RepF] at h
    obtain ⟨v, r, e, h1, h2⟩ := h
    subst e
    simp [repF_len h2]
theorem repF_put {K : PySem.W.Frag} {G : Hp} {f : Str} {d : D} {v : V} (hv : Rep K G d v) : ∀ {fs : List (Str × D)} {ws : List (Str × V)}, RepF K G fs ws → RepF K G (putF' f d fs) (putF f v ws)
  | [], ws, h => by
    simp only [RepF] at h
    subst h
    simp only [putF', putF, RepF]
    exact ⟨v, [], rfl, hv, rfl⟩
  | (g, x) :: fs, ws, h => by
    simp only [RepF] at h
    obtain ⟨w, r, e, h1, h2⟩ := h
    subst e
    simp only [putF', putF]
    by_cases z : g = f
    · rw [if_pos z, if_pos z]
      simp only [RepF]
      exact ⟨v, r, rfl, hv, h2⟩
    · rw [if_neg z, if_neg z]
      simp only [RepF]
      exact ⟨w, _, rfl, h1, repF_put hv h2⟩
theorem st_setF {x f : Str} {i : Nat} {e : Expr} {me : ME} {px pt pos : Pos} {L : Nat} (hO : OwnOk Φ X L) (hv : PE X (.Name x px) (tVar i)) (he : SndE Φ X W e me) (hr : me.isRd = false) (hc : isComp e = false) :
    SndSt Φ X W n (.Assign [.Attribute (.Name x px) f pt] e pos) (.setF i f me) := by
  intro O ρ σ H D E q
  simp only [exS] at q
  refine WS.by (ps_fld hv pe_w (by cases e <;> first | rfl | cases hc)) ?_
  refine he.sts (PostT.refl E) q fun a1 ρ1 v H1 p1 q => ?_
  obtain ⟨ρ3, e3, q⟩ := out_opt q
  obtain ⟨d, d', a', ef, ea', t, ha', k⟩ := upd_ok p1.env e3
  unfold setFD at ef
  split at ef
  · rename_i C fs
    split at ef
    · rename_i eo
      split at ef
      · rename_i hl
        cases ef
        obtain ⟨hcl, hn⟩ := hO C f _ eo
        obtain ⟨dx, ws, e4, r⟩ := t
        refine ⟨.ref a', ea', a', _, dx, ws, rfl, e4, hcl, hn, by rw [repF_len r]; omega, ?_⟩
        refine q σ _ (p1.c.t.trans (k _ ⟨dx, _, upd_same, ?_⟩))
        exact (repF_put (p1.rep hr) r).ext (vis_updHid ha')
      · cases ef
    · cases ef
  · cases ef
theorem fewAt {e : Expr} (h : notStar e = true) (cpos : Pos) : ((backTo cpos (starEach [e] X.env)).all (fun x => !x.1) && (backToKw cpos (keywordEach [] X.env)).all (fun x => x.1.isSome)
      && decide (([e] : List Expr).length + ([] : List Keyword).length + (if ([] : List Keyword).isEmpty then 0 else 1) < 30)) = true := by
  rw [starAt h]; rfl
theorem st_app {x : Str} {i : Nat} {e : Expr} {me : ME} {px apos cpos pos : Pos} (hv : PE X (.Name x px) (tVar i)) (he : SndE Φ X W e me) (hr : me.isRd = false) (hs : notStar e = true) (hl : (apos.endLine == cpos.line) = true) :
    SndSt Φ X W n (.Expr (.Call (.Attribute (.Name x px) "append" apos) [e] [] cpos) pos) (.app i me) := by
  intro O ρ σ H D E q
  have lz : lim < sizeLine := by rw [PySem.sizeLine_eq]; decide
  simp only [exS] at q
  split at q
  · rename_i hla
    obtain ⟨a, vs, ea, e0⟩ := lstAt_ok E hla
    refine WS.by (ps_expr (pe_bm PySem.F.plainAttrs_list PySem.F.slot_list_append PySem.F.type_list_append mt_append hv (pa_cons pe_w pa_nil (starAt hs _)) rfl (fewAt hs _) hl (starAt hs _) rfl) rfl) ?_
    refine ⟨.ref a, ea, .inl ⟨rfl, _, .inl (.inl e0)⟩, ?_⟩
    refine he.sts (PostT.refl E) q fun a1 ρ1 v H1 p1 q => ?_
    obtain ⟨ρ3, e3, q⟩ := out_opt q
    obtain ⟨d, d', a', ef, ea', t, ha', k⟩ := upd_ok p1.env e3
    rw [ea] at ea'; cases ea'
    split at ef
    · rename_i ds
      split at ef
      · rename_i hj
        cases ef
        obtain ⟨vs2, e4, r⟩ := t
        refine ⟨a, vs2, v, rfl, rfl, e4, by rw [← r.length]; omega, ?_⟩
        refine q σ _ (p1.c.t.trans (k _ ⟨_, upd_same, ?_⟩))
        refine (r.append ?_).ext (vis_updHid ha')
        simp only [Reps]
        exact ⟨v, [], rfl, p1.rep hr, rfl⟩
      · cases ef
    · cases ef
  · exact q.elim
/-! ### while -/
theorem st_while {c : Expr} {body : List Stmt} {mc : ME} {mb : List MS} {pos : Pos} (hp : PassesOwn (model X.prog X.w) X.A X.env X.xe) (hc : SndT Φ X W c mc) (hb : SndSs Φ X W n body mb) : SndSt Φ X W n (.While c body [] pos) (.while mc mb) := by
  intro O ρ σ H D E q
  simp only [exS] at q
  refine WS.by (ps_while hp pt_w pss_w) ?_
  refine ⟨fun m σc Hc => ∃ ρc, PostT X.K O ρ σ H ρc σc Hc ∧ (whGo (evE Φ mc) (exB Φ n mb) m ρc).holds (hsOf X.K W O ρ σ H D), ⟨n, ρ, PostT.refl E, q⟩, ?_⟩
  rintro m σc Hc ⟨ρc, P, q⟩
  cases m with
  | zero => exact q.elim
  | succ m =>
    simp only [whGo] at q
    have q2 : (HT Φ mc ρc).holds (fun k ρ' => (if k then match exB Φ n mb ρ' with
        | .nx ρ2 => whGo (evE Φ mc) (exB Φ n mb) m ρ2
        | .ct ρ2 => whGo (evE Φ mc) (exB Φ n mb) m ρ2
        | .bk ρ2 => .nx ρ2
        | o => o
      else .nx ρ').holds (hsOf X.K W O ρ σ H D)) (fun x ρ' => (hsOf X.K W O ρ σ H D).exn x ρ') := by
      unfold HT
      revert q
      cases evE Φ mc ρc with
      | ok x ρ1 =>
        simp only [Res.out_ok, Res.bind_ok]
        cases truD x.2 <;> exact id
      | _ => exact id
    refine hc O ρc σc Hc _ P.env (Res.holds_mono q2 (fun k ρ1 z H1 p => ?_) fun x ρ' z od H' p => z od σc H' (PostTX.trans P p.t))
    have P1 := P.trans p.t
    cases k with
    | false => exact z σc H1 P1
    | true =>
      rw [if_pos rfl]
      refine ⟨_, fun σ' H' h => ⟨m, Nat.lt_succ_self m, h⟩, ?_⟩
      refine hb O ρ1 σc H1 _ p.env ?_
      rw [if_pos rfl] at z
      revert z
      cases exB Φ n mb ρ1 with
      | nx ρ2 => exact fun z σ' H' p2 => ⟨ρ2, P1.trans p2, z⟩
      | ct ρ2 => exact fun z σ' H' p2 => ⟨ρ2, P1.trans p2, z⟩
      | bk ρ2 => exact fun z σ' H' p2 => z σ' H' (P1.trans p2)
      | rt fl d ρ2 => exact fun z v σ' H' p2 => z v σ' H' (PostR.trans P1 p2)
      | exn x ρ2 => exact fun z od σ' H' p2 => z od σ' H' (PostTX.trans P1 p2)
      | stuck => exact id
end
/-! ### the locks of a walk -/
def Sl.lk : Sl → Sl
  | .own d => .lkd d
  | .io d => .lkd d
  | s => s
theorem lockV_at {ρ : Vn} {j : Nat} {s : Sl} (e : ρ[j]? = some s) : ∀ {is : List Nat}, (lockV ρ is)[j]? = some (if j ∈ is then s.lk else s)
  | [] => by simpa [lockV] using e
  | i :: is => by
    have ih := lockV_at e (is := is)
    have hl : j < (lockV ρ is).length := (List.getElem?_eq_some_iff.mp ih).1
    by_cases hj : j = i
    · subst hj
      rw [if_pos (List.mem_cons_self ..)]
      unfold lockV
      rw [ih]
      by_cases hm : j ∈ is
      · rw [if_pos hm]
        cases s with
        | own d => simp only [Sl.lk]; rw [ih, if_pos hm]; rfl
        | io d => simp only [Sl.lk]; rw [ih, if_pos hm]; rfl
        | _ => simp only [Sl.lk]; rw [ih, if_pos hm]; rfl
      · rw [if_neg hm]
        cases s with
        | own d => simp only [Sl.lk]; rw [List.getElem?_set_self hl]
        | io d => simp only [Sl.lk]; rw [List.getElem?_set_self hl]
        | _ => simp only [Sl.lk]; rw [ih, if_neg hm]
    · have hmem : j ∈ i :: is ↔ j ∈ is := by simp [hj]
      simp only [hmem]
      unfold lockV
      split
      · rw [List.getElem?_set_ne (Ne.symm hj)]; exact ih
      · rw [List.getElem?_set_ne (Ne.symm hj)]; exact ih
      · exact ih
theorem unlockV_len {ρ ρ0 : Vn} : ∀ {is : List Nat}, (unlockV ρ ρ0 is).length = ρ.length
  | [] => rfl
  | i :: is => by
    unfold unlockV
    split
    · rw [List.length_set, unlockV_len]
    · rw [List.length_set, unlockV_len]
    · exact unlockV_len
theorem unlockV_in {ρ ρ0 : Vn} {j : Nat} {s0 : Sl} (e0 : ρ0[j]? = some s0) (w : s0.isWr = true) : ∀ {is : List Nat}, j ∈ is → j < ρ.length → (unlockV ρ ρ0 is)[j]? = some s0
  | [], h, _ => by cases h
  | i :: is, h, hl => by
    by_cases hj : j = i
    · subst hj
      unfold unlockV
      rw [e0]
      cases s0 with
      | own d => simp only; rw [List.getElem?_set_self (by rw [unlockV_len]; exact hl)]
      | io d => simp only; rw [List.getElem?_set_self (by rw [unlockV_len]; exact hl)]
      | _ => cases w
    · have ih := unlockV_in (ρ := ρ) e0 w ((List.mem_cons.mp h).resolve_left hj) hl
      unfold unlockV
      split
      · rw [List.getElem?_set_ne (Ne.symm hj)]; exact ih
      · rw [List.getElem?_set_ne (Ne.symm hj)]; exact ih
      · exact ih
theorem unlockV_out {ρ ρ0 : Vn} {j : Nat} : ∀ {is : List Nat}, (j ∈ is → ∀ s0, ρ0[j]? = some s0 → s0.isWr = false) → (unlockV ρ ρ0 is)[j]? = ρ[j]?
  | [], _ => rfl
  | i :: is, h => by
    have ih := unlockV_out (ρ := ρ) (ρ0 := ρ0) (j := j) (is := is) fun z => h (List.mem_cons_of_mem _ z)
    unfold unlockV
    split
    · rename_i d e
      have ne : j ≠ i := fun z => by subst z; have := h (List.mem_cons_self ..) _ e; cases this
      rw [List.getElem?_set_ne (Ne.symm ne)]; exact ih
    · rename_i d e
      have ne : j ≠ i := fun z => by subst z; have := h (List.mem_cons_self ..) _ e; cases this
      rw [List.getElem?_set_ne (Ne.symm ne)]; exact ih
    · exact ih
/-- what an unlocked slot holds -/
theorem unlockV_cases {ρ ρ0 : Vn} {j : Nat} {is : List Nat} {s : Sl} (h : (unlockV ρ ρ0 is)[j]? = some s) : (j ∈ is ∧ ρ0[j]? = some s ∧ s.isWr = true) ∨ ρ[j]? = some s := by
  by_cases hj : j ∈ is
  · cases z : ρ0[j]? with
    | none => rw [unlockV_out fun _ s0 e => by rw [z] at e; cases e] at h; exact .inr h
    | some s0 =>
      cases w : s0.isWr with
      | false => rw [unlockV_out fun _ s1 e => by rw [z] at e; cases e; exact w] at h; exact .inr h
      | true =>
        have hl : j < ρ.length := by have := (List.getElem?_eq_some_iff.mp h).1; rwa [unlockV_len] at this
        rw [unlockV_in z w hj hl] at h
        cases h
        exact .inl ⟨hj, rfl, w⟩
  · rw [unlockV_out fun z => absurd z hj] at h; exact .inr h
theorem wr_own {s : Sl} (h : s.isWr = true) : s.isOwn = true := by cases s <;> first | rfl | cases h
section
variable {K : PySem.W.Frag} {O O3 : Addr → Prop} {ρ1 ρ3 : Vn} {σ σ3 : L2.St} {H1 H3 : Hp} {is : List Nat}
/-- a locked slot behind the walk -/
theorem lk_at (prot : ∀ (i : Nat) (s : Sl), (lockV ρ1 is)[i]? = some s → s.free = false → (∃ s', ρ3[i]? = some s' ∧ s.to s') ∧ σ3[i]? = σ[i]?) {j : Nat} {s : Sl} (hj : j ∈ is) (e : ρ1[j]? = some s) (w : s.isWr = true) : (∃ d, ρ3[j]? = some (.lkd d)) ∧ σ3[j]? = σ[j]? := by
  have e2 := lockV_at e (is := is)
  rw [if_pos hj] at e2
  cases s with
  | own d =>
    obtain ⟨⟨s', e', t⟩, q⟩ := prot j _ e2 rfl
    simp only [Sl.lk, Sl.to] at t
    subst t; exact ⟨⟨d, e'⟩, q⟩
  | io d =>
    obtain ⟨⟨s', e', t⟩, q⟩ := prot j _ e2 rfl
    simp only [Sl.lk, Sl.to] at t
    subst t; exact ⟨⟨d, e'⟩, q⟩
  | _ => cases w
theorem own_unlock (prot : ∀ (i : Nat) (s : Sl), (lockV ρ1 is)[i]? = some s → s.free = false → (∃ s', ρ3[i]? = some s' ∧ s.to s') ∧ σ3[i]? = σ[i]?) {b : Addr} : OwnA (unlockV ρ3 ρ1 is) σ3 b ↔ OwnA ρ3 σ3 b := by
  constructor
  · rintro ⟨j, s, e, w, q⟩
    rcases unlockV_cases e with ⟨hj, e0, w0⟩ | e
    · obtain ⟨⟨d, e3⟩, _⟩ := lk_at prot hj e0 w0
      exact ⟨j, _, e3, rfl, q⟩
    · exact ⟨j, s, e, w, q⟩
  · rintro ⟨j, s, e, w, q⟩
    have hl : j < ρ3.length := (List.getElem?_eq_some_iff.mp e).1
    by_cases h : j ∈ is ∧ ∃ s0, ρ1[j]? = some s0 ∧ s0.isWr = true
    · obtain ⟨hj, s0, e0, w0⟩ := h
      exact ⟨j, s0, unlockV_in e0 w0 hj hl, wr_own w0, q⟩
    · refine ⟨j, s, ?_, w, q⟩
      rw [unlockV_out fun hj s0 e0 => ?_]
      · exact e
      · cases w0 : s0.isWr with
        | false => rfl
        | true => exact absurd ⟨hj, s0, e0, w0⟩ h
theorem EnvOk.unlock (E1 : EnvOk K O ρ1 σ H1) (E3 : EnvOk K O3 ρ3 σ3 H3) (kp : Kp (WrA (lockV ρ1 is) σ) H1 H3) (prot : ∀ (i : Nat) (s : Sl), (lockV ρ1 is)[i]? = some s → s.free = false → (∃ s', ρ3[i]? = some s' ∧ s.to s') ∧ σ3[i]? = σ[i]?)
    (own : ∀ b, OwnA ρ3 σ3 b → OwnA (lockV ρ1 is) σ b ∨ H1 b = none) (hO : ∀ b, O b → O3 b) (hO3 : ∀ b, O3 b → O b ∨ ((OwnA ρ1 σ b ∨ H1 b = none) ∧ ¬ OwnA ρ3 σ3 b)) : EnvOk K O3 (unlockV ρ3 ρ1 is) σ3 H3 := by
  have hh : Hid O3 (unlockV ρ3 ρ1 is) σ3 = Hid O3 ρ3 σ3 := by
    funext b
    simp only [Hid, own_unlock prot]
  have ow : ∀ {j : Nat} {s : Sl}, (unlockV ρ3 ρ1 is)[j]? = some s → s.isOwn = true → ∃ s', ρ3[j]? = some s' ∧ s'.isOwn = true := fun {j s} e w => by
    rcases unlockV_cases e with ⟨hj, e0, w0⟩ | e
    · obtain ⟨⟨d, e3⟩, _⟩ := lk_at prot hj e0 w0
      exact ⟨_, e3, rfl⟩
    · exact ⟨s, e, w⟩
  have xx : Ext (vis (Hid O ρ1 σ) H1) (vis (Hid O3 ρ3 σ3) H3) := vis_ext (fun b h n => by
    rcases h with h | h
    · rcases hO3 b h with h | ⟨h | h, _⟩
      · exact .inl h
      · exact .inr h
      · exact absurd h n
    · rcases own b h with h | h
      · exact .inr (own_lock.mp h)
      · exact absurd h n) fun b o n e => kp b o (fun z => n (.inr (lockV_wr z).1.own)) e
  refine EnvOk.of (by rw [unlockV_len]; exact E3.len) E3.dom (fun j k b sj sk ej ek wj wk aj ak => ?_) fun j s e => ?_
  · obtain ⟨sj', ej', wj'⟩ := ow ej wj
    obtain ⟨sk', ek', wk'⟩ := ow ek wk
    exact E3.inj j k b sj' sk' ej' ek' wj' wk' aj ak
  · rw [hh]
    rcases unlockV_cases e with ⟨hj, e0, w0⟩ | e
    · obtain ⟨⟨d3, e3⟩, q3⟩ := lk_at prot hj e0 w0
      rw [q3]
      have same : ∀ {a : Addr} {o : HO}, σ[j]? = some (some (.ref a)) → H1 a = some o → H3 a = some o := fun {a o} ea h => kp a o (lockV_wr2 E1.inj hj e0 (wr_own w0) ea) h
      cases s with
      | own d =>
        obtain ⟨a, ea, t⟩ := E1.own j d e0
        refine ⟨a, ea, t.ext xx fun o => same ea, fun h => ?_⟩
        rcases hO3 a h with h | ⟨_, h⟩
        · exact E1.sep j d a e0 ea h
        · exact h ⟨j, _, e3, rfl, by rw [q3]; exact ea⟩
      | io d =>
        obtain ⟨a, ea, ho, t⟩ := E1.io j d e0
        exact ⟨a, ea, t.ext xx fun o => same ea, hO a ho⟩
      | _ => cases w0
    · exact E3.slot e
theorem unlock_prot (len : ρ3.length = (lockV ρ1 is).length) (prot : ∀ (i : Nat) (s : Sl), (lockV ρ1 is)[i]? = some s → s.free = false → (∃ s', ρ3[i]? = some s' ∧ s.to s') ∧ σ3[i]? = σ[i]?) : ∀ (i : Nat) (s : Sl), ρ1[i]? = some s → s.free = false → (∃ s', (unlockV ρ3 ρ1 is)[i]? = some s' ∧ s.to s') ∧ σ3[i]? = σ[i]? := fun j s e f => by
  have e2 := lockV_at e (is := is)
  have hl : j < ρ3.length := by rw [len]; exact (List.getElem?_eq_some_iff.mp e2).1
  by_cases h : j ∈ is ∧ s.isWr = true
  · obtain ⟨hj, w⟩ := h
    exact ⟨⟨s, unlockV_in e w hj hl, s.to_refl⟩, (lk_at prot hj e w).2⟩
  · have ho : (unlockV ρ3 ρ1 is)[j]? = ρ3[j]? := unlockV_out fun hj s0 e0 => by
      rw [e] at e0; cases e0
      cases w : s.isWr with
      | false => rfl
      | true => exact absurd ⟨hj, w⟩ h
    have e3 : (lockV ρ1 is)[j]? = some s := by
      rw [e2]
      by_cases hj : j ∈ is
      · rw [if_pos hj]
        cases s with
        | own d => cases f
        | io d => exact absurd ⟨hj, rfl⟩ h
        | _ => rfl
      · rw [if_neg hj]
    obtain ⟨⟨s', e', t⟩, q⟩ := prot j s e3 f
    exact ⟨⟨s', by rw [ho]; exact e', t⟩, q⟩
theorem unlock_wr (prot : ∀ (i : Nat) (s : Sl), (lockV ρ1 is)[i]? = some s → s.free = false → (∃ s', ρ3[i]? = some s' ∧ s.to s') ∧ σ3[i]? = σ[i]?) {b : Addr} (h : WrA (unlockV ρ3 ρ1 is) σ3 b) : WrA ρ1 σ b ∨ WrA ρ3 σ3 b := by
  obtain ⟨j, s, e, w, q⟩ := h
  rcases unlockV_cases e with ⟨hj, e0, w0⟩ | e
  · refine .inl ⟨j, s, e0, w0, ?_⟩
    rw [← (lk_at prot hj e0 w0).2]; exact q
  · exact .inr ⟨j, s, e, w, q⟩
theorem PostT.unlock (E1 : EnvOk K O ρ1 σ H1) (P : PostT K O (lockV ρ1 is) σ H1 ρ3 σ3 H3) : PostT K O ρ1 σ H1 (unlockV ρ3 ρ1 is) σ3 H3 where
  env := E1.unlock P.env P.kp P.prot P.own (fun _ h => h) fun _ h => .inl h
  kp := P.kp.mono fun b z => (lockV_wr z).1
  dm := P.dm
  own := fun b h => (P.own b ((own_unlock P.prot).mp h)).imp_left own_lock.mp
  wr := fun b h => (unlock_wr P.prot h).elim .inl fun h => (P.wr b h).imp_left fun z => (lockV_wr z).1
  prot := unlock_prot P.len P.prot
  len := by rw [unlockV_len, P.len, lockV_len]
theorem PostR.unlock {fl : Bool} {d : D} {v : V} (E1 : EnvOk K O ρ1 σ H1) (P : PostR K O (lockV ρ1 is) σ H1 fl d ρ3 v σ3 H3) : PostR K O ρ1 σ H1 fl d (unlockV ρ3 ρ1 is) v σ3 H3 := by
  have hh : ∀ O' : Addr → Prop, Hid O' (unlockV ρ3 ρ1 is) σ3 = Hid O' ρ3 σ3 := fun O' => by
    funext b
    simp only [Hid, own_unlock P.prot]
  refine ⟨E1.unlock P.env P.kp P.prot P.own (fun _ h => .inl h) fun b h => ?_, P.kp.mono fun b z => (lockV_wr z).1, P.dm, unlock_prot P.len P.prot, by rw [unlockV_len, P.len, lockV_len], fun b h => (P.own b ((own_unlock P.prot).mp h)).imp_left own_lock.mp, fun z => ?_, fun z => ?_, fun z b e h => P.sep z b e ((own_unlock P.prot).mp h)⟩
  · rcases h with h | ⟨hf, h⟩
    · exact .inl h
    · obtain ⟨p, e, np, g, _⟩ := P.new hf
      rw [h] at e; cases e
      exact .inr ⟨g.imp_left own_lock.mp, P.sep hf b h⟩
  · obtain ⟨p, e, np, g, t⟩ := P.new z
    exact ⟨p, e, np, g.imp_left own_lock.mp, by rw [hh]; exact t⟩
  · rw [hh]; exact P.rep z
theorem PostTX.unlock {x : Exn} {od : Option Addr} (E1 : EnvOk K O ρ1 σ H1) (P : PostTX K O (lockV ρ1 is) σ H1 x ρ3 od σ3 H3) : PostTX K O ρ1 σ H1 x (unlockV ρ3 ρ1 is) od σ3 H3 where
  env := E1.unlock P.env P.kp P.prot P.own (fun _ h => h) fun _ h => .inl h
  kp := P.kp.mono fun b z => (lockV_wr z).1
  dm := P.dm
  own := fun b h => (P.own b ((own_unlock P.prot).mp h)).imp_left own_lock.mp
  prot := unlock_prot P.len P.prot
  len := by rw [unlockV_len, P.len, lockV_len]
  rep := by
    have hh : Hid O (unlockV ρ3 ρ1 is) σ3 = Hid O ρ3 σ3 := by
      funext b
      simp only [Hid, own_unlock P.prot]
    rw [hh]; exact P.rep
end
/-! ### a dict's lock goes behind the walk -/
section
variable {X : Cx} {O : Addr → Prop} {ρL ρ3 : Vn} {σ σ3 : L2.St} {H1 Hl H3 Hu : Hp} {fl fd : Bool}
theorem top_nf {K : PySem.W.Frag} {G H : Hp} {d : D} {a : Addr} (t : Top K G H d a) : ∃ o, H a = some o ∧ nf o = true := by
  cases d <;> simp only [Top] at t
  · obtain ⟨vs, e, _⟩ := t; exact ⟨_, e, rfl⟩
  · obtain ⟨vs, e, _⟩ := t; exact ⟨_, e, rfl⟩
  · obtain ⟨vs, e, _⟩ := t; exact ⟨_, e, rfl⟩
  · obtain ⟨_, vs, e, _⟩ := t; exact ⟨_, e, rfl⟩
theorem PostT.unl (lk : Lk X fd (WrA ρL σ) H1 Hl) (P : PostT X.K O ρL σ Hl ρ3 σ3 H3) (U : Unl X (WrA ρL σ) H1 Hl H3 Hu) : PostT X.K O ρL σ H1 ρ3 σ3 Hu where
  env := U.env P.env
  kp := U.kp
  dm := fun b h z => P.dm b (fun y => h ((lk.none b).mp y)) ((U.none b).mp z)
  own := fun b z => (P.own b z).imp_right (lk.none b).mp
  wr := fun b z => (P.wr b z).imp_right (lk.none b).mp
  prot := P.prot
  len := P.len
theorem PostR.unl {d : D} {v : V} (lk : Lk X fd (WrA ρL σ) H1 Hl) (P : PostR X.K O ρL σ Hl fl d ρ3 v σ3 H3) (U : Unl X (WrA ρL σ) H1 Hl H3 Hu) : PostR X.K O ρL σ H1 fl d ρ3 v σ3 Hu where
  env := U.env P.env
  kp := U.kp
  dm := fun b h z => P.dm b (fun y => h ((lk.none b).mp y)) ((U.none b).mp z)
  prot := P.prot
  len := P.len
  own := fun b z => (P.own b z).imp_right (lk.none b).mp
  new := fun z => by
    obtain ⟨p, e, np, g, t⟩ := P.new z
    obtain ⟨o0, e0, n0⟩ := top_nf t
    exact ⟨p, e, np, g.imp_right (lk.none p).mp, t.ext (U.ext _) fun o h => by rw [e0] at h; cases h; exact U.same _ _ e0 n0⟩
  rep := fun z => (P.rep z).ext (U.ext _)
  sep := P.sep
end
section
variable {Φ : Tab} {X : Cx} {W : WX} {n : Nat}
/-! ### for -/
theorem st_for {tgE iter : Expr} {body : List Stmt} {tg : MT} {k : Nat} {ms : List ME} {mb : List MS} {pos : Pos} (hp : PassesOwn (model X.prog X.w) X.A X.env X.xe) (hca : X.calm = true) (hi : SndI Φ X W tgE iter k ms) (hg : PG X tgE (gOf X.K tg)) (hb : SndSs Φ X W n body mb)
    (hs : ∀ x, foldedSetIterable iter X.env x = pure x) : SndSt Φ X W n (.For tgE iter body [] pos) (.for tg k ms mb) := by
  intro O ρ σ H D E q
  simp only [exS] at q
  refine WS.by (ps_unl (ps_for hp hca pi_w hg pss_w hs)) ?_
  have q2 : (itR Φ k ms ρ).holds (fun p ρ' => (((forGo tg (exB Φ n mb) p.2 (lockV ρ' (rdIdx ms))).noXif p.1).back ρ' (rdIdx ms)).holds (hsOf X.K W O ρ σ H D)) (fun x ρ' => (hsOf X.K W O ρ σ H D).exn x ρ') := by
    unfold itR
    revert q
    cases evL Φ ms ρ with
    | ok ds ρ1 =>
      simp only [Res.out_ok, Res.bind_ok]
      cases itD k (fresh ρ1 ms ds) <;> exact id
    | _ => exact id
  refine hi O ρ σ H _ E (Res.holds_mono q2 (fun ⟨fd, xs⟩ ρ1 z J H1 Hl c lk wk => ?_) fun x ρ' z od H' p => z od σ H' p.t)
  dsimp only at z lk wk
  have E1 := c.env
  have EL := lk.env (E1.locked (rdIdx ms))
  have back : ∀ {o : Out}, ((o.noXif fd).back ρ1 (rdIdx ms)).holds (hsOf X.K W O ρ σ H D) → o.holds (hsOf X.K W O (lockV ρ1 (rdIdx ms)) σ Hl (EndsU X D)) := by
    intro o h
    cases o with
    | nx ρ2 =>
      intro σ' H' p
      obtain ⟨Hu, U⟩ := lk.back p.kp
      exact U.un (D.nx σ') (h σ' Hu (c.t.trans (PostT.unlock E1 (p.unl lk U))))
    | bk ρ2 =>
      intro σ' H' p
      obtain ⟨Hu, U⟩ := lk.back p.kp
      exact U.un (D.bk σ') (h σ' Hu (c.t.trans (PostT.unlock E1 (p.unl lk U))))
    | ct ρ2 =>
      intro σ' H' p
      obtain ⟨Hu, U⟩ := lk.back p.kp
      exact U.un (D.ct σ') (h σ' Hu (c.t.trans (PostT.unlock E1 (p.unl lk U))))
    | rt fl d ρ2 =>
      intro v σ' H' p
      obtain ⟨Hu, U⟩ := lk.back p.kp
      exact U.un (D.rt v) (h v σ' Hu (PostR.trans c.t (PostR.unlock E1 (p.unl lk U))))
    | exn x ρ2 =>
      cases fd with
      | true => exact h.elim
      | false =>
        have e := lk.off
        subst e
        exact fun od σ' H' p => h od σ' H' (PostTX.trans c.t (PostTX.unlock E1 p))
    | stuck => exact h
  have z := back z
  clear back
  refine for_it wk (fun i σc Hc => ∃ ρc, PostT X.K O (lockV ρ1 (rdIdx ms)) σ Hl ρc σc Hc ∧ (forGo tg (exB Φ n mb) (xs.drop i) ρc).holds (hsOf X.K W O (lockV ρ1 (rdIdx ms)) σ Hl (EndsU X D))) ?_ ?_ ?_ ?_
  · exact ⟨_, PostT.refl EL, by rw [List.drop_zero]; exact z⟩
  · rintro i σc Hc _ ⟨ρc, P, _⟩
    exact P.kp
  · rintro i x σc Hc Hn hi' ⟨ρc, P, q⟩ y
    obtain ⟨d, ed⟩ : ∃ d, xs[i]? = some d := ⟨xs[i], by simp [hi']⟩
    rw [show xs.drop i = d :: xs.drop (i + 1) by
      rw [List.drop_eq_getElem_cons hi']
      have : xs[i] = d := by rw [List.getElem?_eq_getElem hi'] at ed; cases ed; rfl
      rw [this]] at q
    simp only [forGo] at q
    have xin : Ext (vis (Hid O ρ1 σ) Hl) (vis (Hid O ρc σc) Hc) := vis_ext (fun b h ne => by
      rcases h with h | h
      · exact .inl h
      · rcases P.own b h with h | h
        · exact .inr (own_lock.mp h)
        · exact absurd h ne) fun b o ne e => P.kp b o (fun z => ne (.inr (lockV_wr z).1.own)) e
    have item : Rep X.K (vis (Hid O ρc σc) Hn) d x ∧ ∀ b o, Hc b = some o → Hn b = some o := by
      rcases y with ⟨rfl, d', e', r⟩ | ⟨T', a', b', va, vb, e', rfl, hT, rfl, ra, rb⟩
      · rw [ed] at e'; cases e'
        exact ⟨r.ext xin, fun _ _ e => e⟩
      · rw [ed] at e'; cases e'
        have nT : ¬ Hid O ρc σc T' := fun z => P.env.domH T' z hT
        have x2 : Ext (vis (Hid O ρc σc) Hc) (vis (Hid O ρc σc) (upd Hc T' (.tup [va, vb]))) := vis_ext (fun _ z _ => z) fun b o _ z => upd_kp hT b o z
        refine ⟨?_, upd_kp hT⟩
        simp only [Rep, Reps]
        exact ⟨T', [va, vb], rfl, SqT.of (by rw [vis_at nT, upd_same]), va, [vb], rfl, (ra.ext xin).ext x2, vb, [], rfl, (rb.ext xin).ext x2, rfl⟩
    obtain ⟨rx, kn⟩ := item
    have En := P.env.kept kn
    have Pn : PostT X.K O (lockV ρ1 (rdIdx ms)) σ Hl ρc σc Hn := P.trans (PostC.t (st := true) ⟨En, fun b o _ e => kn b o e, fun b h => by
      cases z : Hc b with
      | none => exact absurd z h
      | some o => rw [kn b o z]; simp, EvTo.refl _⟩)
    cases ea : asgT tg d ρc with
    | none => rw [ea] at q; exact q.elim
    | some ρ2 =>
      rw [ea] at q
      simp only at q
      refine asgT_ok En ea rx fun σ2 pv => ?_
      have P2 : PostT X.K O (lockV ρ1 (rdIdx ms)) σ Hl ρ2 σ2 Hn := Pn.trans (PostT.ofV (PostC.refl (st := true) En) pv)
      refine hb O ρ2 σ2 Hn _ pv.env ?_
      revert q
      cases exB Φ n mb ρ2 with
      | nx ρ3 => exact fun z σ' H' p2 => ⟨ρ3, P2.trans p2, z⟩
      | ct ρ3 => exact fun z σ' H' p2 => ⟨ρ3, P2.trans p2, z⟩
      | bk ρ3 => exact fun z σ' H' p2 => z σ' H' (P2.trans p2)
      | rt fl d ρ3 => exact fun z v σ' H' p2 => z v σ' H' (PostR.trans P2 p2)
      | exn x ρ3 => exact fun z od σ' H' p2 => z od σ' H' (PostTX.trans P2 p2)
      | stuck => exact id
  · rintro σc Hc ⟨ρc, P, q⟩
    rw [List.drop_length] at q
    simp only [forGo] at q
    exact q σc Hc P
end
end Z

namespace Z
open PySem PySem.Spec L2
open PyProof.Rows hiding St
/-! ### names -/
theorem vis_of {sc : Scope} {x : Str} (h : isVis sc x = true) : Vis sc x := by
  unfold isVis at h
  split at h
  · exact .inl (by assumption)
  · exact .inr (.inl (by assumption))
  · exact .inr (.inr (by assumption))
  · cases h
theorem loc_of {sc : Scope} {x : Str} (h : isLoc sc x = true) : Loc sc x := by
  unfold isLoc at h
  split at h
  · exact .inl (by assumption)
  · exact .inr (by assumption)
  · cases h
theorem local_of {sc : Scope} {x : Str} (h : isLocal sc x = true) : sc.names.lookup x = some .local := by
  unfold isLocal at h
  split at h
  · assumption
  · cases h
theorem gl_of {X : Cx} {sc : Scope} {x : Str} (hs : X.env.scope = sc) (h : isGl sc x = true) : Gl X x := by
  unfold isGl at h
  split at h
  · subst hs; assumption
  · cases h
theorem slot_of {c : Cfg} {x : Str} {i : Nat} (h : slotOf c x = some i) : c.N[i]? = some x := by
  unfold slotOf at h
  have := List.findIdx?_eq_some_iff_getElem.mp h
  obtain ⟨hl, hp, _⟩ := this
  rw [List.getElem?_eq_getElem hl]
  simpa using hp
theorem okName_of {x : Str} (h : okName x = true) : (x == ("__debug__" : Str)) = false ∧ (x == ("__classdict__" : Str)) = false ∧ x ≠ "__name__" := by
  unfold okName at h
  simp only [Bool.and_eq_true, Bool.not_eq_true', decide_eq_true_eq] at h
  exact ⟨h.1.1, h.1.2, h.2⟩
section
variable {Φ : Tab} {X : Cx} {W : WX} {c : Cfg} {L : Nat} {sc : Scope}
theorem Good.var (G : Good c Φ L X sc) {x : Str} {i : Nat} {p : Pos} (h1 : okName x = true) (h2 : isVis sc x = true) (h3 : slotOf c x = some i) : PE X (.Name x p) (tVar i) := by
  obtain ⟨a, b, _⟩ := okName_of h1
  exact pe_var (by rw [G.N]; exact slot_of h3) (by rw [G.sc]; exact vis_of h2) a b
theorem Good.units (G : Good c Φ L X sc) : X.A.units + 80 < cLine := by
  have := G.room.un
  omega
/-! ### targets -/
theorem pgn_of {all : Bool} {e : Expr} {i : Nat} (hs : X.env.scope = sc) (hN : X.N = c.N) (nd : c.N.Nodup) (hf : all = true → ∀ x, X.fn x = true) (h : trGn c all sc e = some i) : PG X e (gName i) ∧ notStar e = true := by
  cases e with
  | Name x p =>
    simp only [trGn] at h
    cases all with
    | true =>
      simp only [if_true] at h
      split at h
      · rename_i hc
        rw [Bool.and_eq_true] at hc
        exact ⟨pg_name (by rw [hN]; exact nd) (by rw [hN]; exact slot_of h) (by rw [hs]; exact loc_of hc.2) (.inl (hf rfl x)), rfl⟩
      · cases h
    | false =>
      simp only [Bool.false_eq_true, if_false] at h
      split at h
      · rename_i hc
        rw [Bool.and_eq_true] at hc
        have hl := local_of hc.2
        exact ⟨pg_name (by rw [hN]; exact nd) (by rw [hN]; exact slot_of h) (by rw [hs]; exact .inl hl) (.inr (by rw [hs]; exact hl)), rfl⟩
      · cases h
  | _ => cases h
theorem asgEach {e : Expr} {es : List Expr} (h : notStar e = true) (env : PySem.Env) : assignEach (e :: es) env = (false, assign e env) :: assignEach es env := by
  cases e <;> first | rfl | cases h
theorem pgs_of {all : Bool} (hs : X.env.scope = sc) (hN : X.N = c.N) (nd : c.N.Nodup) (hf : all = true → ∀ x, X.fn x = true) : ∀ {es : List Expr} {is : List Nat}, trGs c all sc es = some is → PGs X es (gNames is) ∧ (assignEach es X.env).length = is.length ∧ (assignEach es X.env).findIdx? (·.1) = none
  | [], is, h => by
    simp only [trGs] at h
    cases h
    exact ⟨pgs_nil, rfl, rfl⟩
  | e :: es, is, h => by
    simp only [trGs] at h
    split at h
    · rename_i i is' h1 h2
      cases h
      obtain ⟨g1, n1⟩ := pgn_of hs hN nd hf h1
      obtain ⟨g2, l2, f2⟩ := pgs_of hs hN nd hf h2
      refine ⟨pgs_cons g1 g2 (by rw [asgEach n1]; rfl), by rw [asgEach n1]; simp [l2], ?_⟩
      rw [asgEach n1, List.findIdx?_cons]
      simp only [Bool.false_eq_true, if_false]
      rw [f2]; rfl
    · cases h
theorem trQ_step {all : Bool} (hca : X.calm = true) (hs : X.env.scope = sc) (hN : X.N = c.N) (nd : c.N.Nodup) (hf : all = true → ∀ x, X.fn x = true) : ∀ n, (∀ (e : Expr) (tg : MT), trQ c all sc n e = some tg → PG X e (gOf X.K tg) ∧ notStar e = true) ∧
    ∀ (es : List Expr) (ts : List MT), trQs c all sc n es = some ts → PGs X es (gOfs X.K ts) ∧ (assignEach es X.env).length = ts.length ∧ (assignEach es X.env).findIdx? (·.1) = none := by
  have one : ∀ {e : Expr} {tg : MT}, (trGn c all sc e).map MT.nm = some tg → PG X e (gOf X.K tg) ∧ notStar e = true := fun {e tg} h => by
    cases z : trGn c all sc e with
    | none => rw [z] at h; cases h
    | some i =>
      rw [z] at h; cases h
      exact pgn_of hs hN nd hf z
  intro n
  induction n with
  | zero => exact ⟨fun e tg h => one (by simpa only [trQ] using h), fun es ts h => by simp [trQs] at h⟩
  | succ n ih =>
    refine ⟨fun e tg h => ?_, fun es ts h => ?_⟩
    · simp only [trQ] at h
      split at h
      · rename_i es k p
        cases z : trQs c all sc n es with
        | none => rw [z] at h; cases h
        | some ts =>
          rw [z] at h; cases h
          obtain ⟨g, l, f⟩ := ih.2 es ts z
          exact ⟨pg_tup hca g l f, rfl⟩
      · exact one h
    · simp only [trQs] at h
      split at h
      · cases h
        exact ⟨pgs_nil, rfl, rfl⟩
      · rename_i e es
        split at h
        · rename_i t ts' h1 h2
          cases h
          obtain ⟨g1, n1⟩ := ih.1 e t h1
          obtain ⟨g2, l2, f2⟩ := ih.2 es ts' h2
          refine ⟨pgs_cons g1 g2 (by rw [asgEach n1]; rfl), by rw [asgEach n1]; simp [l2], ?_⟩
          rw [asgEach n1, List.findIdx?_cons]
          simp only [Bool.false_eq_true, if_false]
          rw [f2]; rfl
        · cases h
theorem pg_of {all : Bool} {e : Expr} {tg : MT} (hca : X.calm = true) (hs : X.env.scope = sc) (hN : X.N = c.N) (nd : c.N.Nodup) (hf : all = true → ∀ x, X.fn x = true) (h : trG c all sc e = some tg) : PG X e (gOf X.K tg) := by
  have one : ∀ {e : Expr}, (trGn c all sc e).map MT.nm = some tg → PG X e (gOf X.K tg) := fun {e} h => by
    cases z : trGn c all sc e with
    | none => rw [z] at h; cases h
    | some i =>
      rw [z] at h; cases h
      exact (pgn_of hs hN nd hf z).1
  unfold trG at h
  split at h
  · rename_i es k p
    cases z : trGs c all sc es with
    | none =>
      rw [z] at h
      exact ((trQ_step hca hs hN nd hf _).1 _ tg h).1
    | some is =>
      rw [z] at h; cases h
      obtain ⟨g, l, f⟩ := pgs_of hs hN nd hf z
      exact pg_tup hca g l f
  · exact one h
end
/-! ### what is shown of expressions -/
structure ExpOk (Φ : Tab) (X : Cx) (W : WX) (e : Expr) (m : ME) (rd : Bool) : Prop where
  snd : SndE Φ X W e m
  rd : m.isRd = false ∨ ∃ x pos i, e = .Name x pos ∧ m = .rd i ∧ rd = true ∧ PE X e (tVar i)
  var : ∀ i, m = .var i → PE X e (tVar i)
  tst : okT e = true → SndT Φ X W e m
section
variable {Φ : Tab} {X : Cx} {W : WX} {c : Cfg} {L : Nat} {sc : Scope} {e : Expr} {m : ME} {rd : Bool}
theorem ExpOk.nr (h : ExpOk Φ X W e m false) : m.isRd = false := h.rd.elim id fun ⟨_, _, _, _, _, z, _⟩ => by cases z
theorem ExpOk.s (h : ExpOk Φ X W e m rd) : SndS Φ X W e m := by
  rcases h.rd with hr | ⟨x, pos, i, rfl, rfl, _, hp⟩
  · exact snds_of h.snd hr
  · exact snds_rd hp
theorem ExpOk.of (h : SndE Φ X W e m) (hr : m.isRd = false) (hv : ∀ i, m ≠ .var i) (ht : isPlainT e = true) : ExpOk Φ X W e m rd := ⟨h, .inl hr, fun i z => absurd z (hv i), fun _ => snd_tv h ht⟩
theorem Good.ownOk (G : Good c Φ L X sc) : OwnOk Φ X L := G.own
theorem bi_of {f : Str} {b : String} (h : biNames.lookup f = some b) : (∃ id, bootBuiltins f = some (.builtin id) ∧ biVal b = .builtin id) ∨ ∃ T, bootBuiltins f = some (.type T) ∧ biVal b = .type T := by
  unfold biNames at h
  simp only [List.lookup] at h
  split at h
  · rename_i z; rw [beq_iff_eq] at z; subst z; cases h; exact .inl ⟨"len", by decide +kernel, by decide⟩
  split at h
  · rename_i z; rw [beq_iff_eq] at z; subst z; cases h; exact .inl ⟨"abs", by decide +kernel, by decide⟩
  split at h
  · rename_i z; rw [beq_iff_eq] at z; subst z; cases h; exact .inr ⟨"int", by decide +kernel, by decide⟩
  split at h
  · rename_i z; rw [beq_iff_eq] at z; subst z; cases h; exact .inl ⟨"repr", by decide +kernel, by decide⟩
  split at h
  · rename_i z; rw [beq_iff_eq] at z; subst z; cases h; exact .inr ⟨"str", by decide +kernel, by decide⟩
  split at h
  · rename_i z; rw [beq_iff_eq] at z; subst z; cases h; exact .inr ⟨"list", by decide +kernel, by decide⟩
  split at h
  · rename_i z; rw [beq_iff_eq] at z; subst z; cases h; exact .inr ⟨"tuple", by decide +kernel, by decide⟩
  split at h
  · rename_i z; rw [beq_iff_eq] at z; subst z; cases h; exact .inl ⟨"all", by decide +kernel, by decide⟩
  split at h
  · rename_i z; rw [beq_iff_eq] at z; subst z; cases h; exact .inl ⟨"any", by decide +kernel, by decide⟩
  split at h
  · rename_i z; rw [beq_iff_eq] at z; subst z; cases h; exact .inl ⟨"sum", by decide +kernel, by decide⟩
  split at h
  · rename_i z; rw [beq_iff_eq] at z; subst z; cases h; exact .inl ⟨"max", by decide +kernel, by decide⟩
  split at h
  · rename_i z; rw [beq_iff_eq] at z; subst z; cases h; exact .inl ⟨"min", by decide +kernel, by decide⟩
  split at h
  · rename_i z; rw [beq_iff_eq] at z; subst z; cases h; exact .inl ⟨"sorted", by decide +kernel, by decide⟩
  split at h
  · rename_i z; rw [beq_iff_eq] at z; subst z; cases h; exact .inr ⟨"dict", by decide +kernel, by decide⟩
  cases h
theorem isi_of {C : Str} {b : String} (h : isiOk C = some b) : bootBuiltins C = some (.type b) ∧ (b = "int" ∨ b = "bool" ∨ b = "str" ∨ b = "tuple" ∨ b = "list" ∨ b = "dict") := by
  unfold isiOk at h
  split at h
  · rename_i z; subst z; cases h; exact ⟨by decide +kernel, by simp⟩
  split at h
  · rename_i z; subst z; cases h; exact ⟨by decide +kernel, by simp⟩
  split at h
  · rename_i z; subst z; cases h; exact ⟨by decide +kernel, by simp⟩
  split at h
  · rename_i z; subst z; cases h; exact ⟨by decide +kernel, by simp⟩
  split at h
  · rename_i z; subst z; cases h; exact ⟨by decide +kernel, by simp⟩
  split at h
  · rename_i z; subst z; cases h; exact ⟨by decide +kernel, by simp⟩
  cases h
end
end Z

namespace Z
open PySem PySem.Spec L2
open PyProof.Rows hiding St
section
variable (Φ : Tab) (c : Cfg) (L : Nat)
def IHE (n : Nat) : Prop := ∀ (sc : Scope) (rd : Bool) (e : Expr) (m : ME) (X : Cx) (W : WX), trE c n sc rd e = some m → Good c Φ L X sc → Takes X W → ExpOk Φ X W e m rd
def IHO (n : Nat) : Prop := ∀ (sc : Scope) (e : Option Expr) (m : Option ME) (X : Cx) (W : WX), trO c n sc e = some m → Good c Φ L X sc → Takes X W → SndO Φ X W e m
def IHD (n : Nat) : Prop := ∀ (sc : Scope) (ks : List (Option Expr)) (vs : List Expr) (ms : List ME) (X : Cx) (W : WX), trD c n sc ks vs = some ms → Good c Φ L X sc → Takes X W → SndD Φ X W ks vs ms
def IHL (n : Nat) : Prop := ∀ (sc : Scope) (es : List Expr) (ms : List ME) (X : Cx) (W : WX), trL c n sc es = some ms → Good c Φ L X sc → Takes X W → SndL Φ X W es ms ∧ es.length = ms.length ∧ (∀ e ∈ es, notStar e = true) ∧ ∀ m ∈ ms, m.isRd = false
def IHX (n : Nat) : Prop := ∀ (sc : Scope) (es : List Expr) (ms : List ME) (X : Cx) (W : WX), trX c n sc es = some ms → Good c Φ L X sc → Takes X W → SndX Φ X W es (es.map starFl) ms
def IHB (n : Nat) : Prop := ∀ (sc : Scope) (op : BoolOp) (es : List Expr) (m : ME) (X : Cx) (W : WX), trB c n sc op es = some m → Good c Φ L X sc → Takes X W → ∀ pos, SndE Φ X W (.BoolOp op es pos) m ∧ SndW Φ X W (.BoolOp op es pos) m ∧ m.isRd = false ∧ (2 ≤ es.length → ∀ i, m ≠ .var i)
structure LcOk (X : Cx) (W : WX) (elt tgE iter : Expr) (ifs : List Expr) (scope : Scope) (m : ME) : Prop where
  ex : ∃ (tg : MT) (k : Nat) (ms : List ME) (me : ME) (mt : Option ME) (t : Option Expr) (own : List (Str × Nat)), m = .lc me (own.map (·.2)) tg k ms mt ∧ ifs = ifsOf t ∧ SndI Φ X W tgE iter k ms ∧ (∀ X', IsBlk X scope X' → SndE Φ X' WF elt me) ∧ me.isRd = false ∧
    ((t = none ∧ mt = none) ∨ ∃ te mt', t = some te ∧ mt = some mt' ∧ ∀ X', IsBlk X scope X' → SndT Φ X' WF te mt') ∧ (∀ i ∈ tg.slots, i ∈ own.map (·.2)) ∧ BlkOk X.N X.env.scope scope own ∧
    (∀ (s : Shared) (H : Hp) (C : Addr) (cl : List (Str × Addr)) (fp : List Addr), PG (X.blk s H scope (compEnvC scope cl C X.env) fp) tgE (gOf X.K tg)) ∧ ∀ x, foldedSetIterable iter X.env x = pure x
def IHC (n : Nat) : Prop := ∀ (sc : Scope) (elt tgE iter : Expr) (ifs : List Expr) (scope : Scope) (m : ME) (X : Cx) (W : WX), trC c n sc elt tgE iter ifs scope = some m → Good c Φ L X sc → Takes X W → LcOk Φ X W elt tgE iter ifs scope m
def IHI (n : Nat) : Prop := ∀ (sc : Scope) (tgE iter : Expr) (k : Nat) (ms : List ME) (X : Cx) (W : WX), trI c n sc tgE iter = some (k, ms) → Good c Φ L X sc → Takes X W → SndI Φ X W tgE iter k ms ∧ ∀ x, foldedSetIterable iter X.env x = pure x
end
section
variable {Φ : Tab} {c : Cfg} {L : Nat}
theorem Good.blk {X X' : Cx} {sc scope : Scope} (G : Good c Φ L X sc) (h : IsBlk X scope X') : Good c Φ L X' (relS scope sc) := by
  obtain ⟨s, H, C, cl, fp, rfl⟩ := h
  have e := G.sc
  subst e
  exact ⟨rfl, G.N, G.nd, G.calm, G.free, G.cst, G.fns, G.room, G.gd, G.own⟩
theorem opt_map {α β : Type} {o : Option α} {f : α → β} {b : β} (h : o.map f = some b) : ∃ a, o = some a ∧ f a = b := by
  cases o with
  | none => cases h
  | some a => cases h; exact ⟨a, rfl, rfl⟩
theorem rd_still {a b : ME} (h : ¬ (a.isRd && !b.still) = true) : a.isRd = true → b.still = true := fun z => by
  rw [z] at h
  simpa using h
theorem ihL_step {n : Nat} (hE : IHE Φ c L n) (hL : IHL Φ c L n) : IHL Φ c L (n + 1) := by
  intro sc es ms X W h G tk
  simp only [trL] at h
  split at h
  · cases h
    refine ⟨sndL_nil, rfl, ?_, ?_⟩ <;> intro _ z <;> cases z
  · rename_i e es
    split at h
    · cases h
    · rename_i hs
      have hs : notStar e = true := by simpa using hs
      split at h
      · rename_i m ms' h1 h2
        cases h
        have a := hE sc false e m X W h1 G tk
        obtain ⟨b1, b2, b3, b4⟩ := hL sc es ms' X W h2 G tk
        refine ⟨sndL_cons hs a.snd b1 a.nr, by simp [b2], fun x hx => ?_, fun x hx => ?_⟩
        · rcases List.mem_cons.mp hx with rfl | hx
          · exact hs
          · exact b3 x hx
        · rcases List.mem_cons.mp hx with rfl | hx
          · exact a.nr
          · exact b4 x hx
      · cases h
theorem ihX_step {n : Nat} (hE : IHE Φ c L n) (hX : IHX Φ c L n) : IHX Φ c L (n + 1) := by
  intro sc es ms X W h G tk
  simp only [trX] at h
  split at h
  · cases h
    exact sndX_nil
  · rename_i e es
    split at h
    · rename_i m ms' h1 h2
      cases h
      have b := hX sc es ms' X W h2 G tk
      have one : starFl e = false → starIn e = e → notStar e = true → SndX Φ X W (e :: es) ((e :: es).map starFl) (m :: ms') := fun q1 q2 q3 => by
        rw [q1, q2] at h1
        have a := hE sc false e m X W h1 G tk
        rw [List.map_cons, q1]
        exact sndX_one q3 a.snd b a.nr
      cases e with
      | Starred e p =>
        have a := hE sc true e m X W h1 G tk
        exact sndX_star a.snd b
      | _ => exact one rfl rfl rfl
    · cases h
theorem ihO_step {n : Nat} (hE : IHE Φ c L n) : IHO Φ c L (n + 1) := by
  intro sc e m X W h G tk
  simp only [trO] at h
  split at h
  · cases h; exact .no
  · obtain ⟨m', h1, rfl⟩ := opt_map h
    exact .yes (hE sc true _ m' X W h1 G tk).snd
theorem ihD_step {n : Nat} (hE : IHE Φ c L n) (hD : IHD Φ c L n) : IHD Φ c L (n + 1) := by
  intro sc ks vs ms X W h G tk
  simp only [trD] at h
  split at h
  · cases h; exact .nil
  · split at h
    · rename_i k v ms' h1 h2 h3
      cases h
      have a := hE sc false _ k X W h1 G tk
      have b := hE sc false _ v X W h2 G tk
      exact .cons a.snd b.snd a.nr b.nr (hD sc _ _ ms' X W h3 G tk)
    · cases h
  · cases h
theorem ihB_step {n : Nat} (hE : IHE Φ c L n) (hB : IHB Φ c L n) : IHB Φ c L (n + 1) := by
  intro sc op es m X W h G tk pos
  simp only [trB] at h
  split at h
  · cases h
  · rename_i e
    split at h
    · rename_i ht
      have a := hE sc false _ m X W h G tk
      exact ⟨snd_one a.snd, sndW_one (a.tst ht), a.nr, fun z => by simp at z⟩
    · cases h
  · rename_i e e2 es
    split at h
    · rename_i ht
      split at h
      · rename_i ma mb h1 h2
        have a := hE sc false _ ma X W h1 G tk
        obtain ⟨b1, b2, b3, _⟩ := hB sc op _ mb X W h2 G tk pos
        cases op with
        | And => cases h; exact ⟨snd_and a.snd b1 b3, sndW_and (a.tst ht) b2, rfl, fun _ i z => by cases z⟩
        | Or => cases h; exact ⟨snd_or a.snd b1 b3, sndW_or (a.tst ht) b2, rfl, fun _ i z => by cases z⟩
      · cases h
    · cases h
theorem notSet_ok {e : Expr} (h : notSet e = true) (env : PySem.Env) : ∀ x, foldedSetIterable e env x = pure x := by
  intro x
  cases e <;> first | rfl | cases h
theorem ihI_step {n : Nat} (hE : IHE Φ c L n) (hL : IHL Φ c L n) : IHI Φ c L (n + 1) := by
  intro sc tgE iter k ms X W h G tk
  have bare : (if notSet iter = true then (trE c n sc true iter).map fun m => (0, [m]) else none) = some (k, ms) → SndI Φ X W tgE iter k ms ∧ ∀ x, foldedSetIterable iter X.env x = pure x := fun h => by
    split at h
    · rename_i hn
      obtain ⟨m, h1, h2⟩ := opt_map h
      cases h2
      exact ⟨sndi_bare (hE sc true _ m X W h1 G tk).s, notSet_ok hn _⟩
    · cases h
  simp only [trI] at h
  split at h
  · rename_i f p args pos
    split at h
    · rename_i hf
      simp only [Bool.and_eq_true] at hf
      obtain ⟨⟨hf1, hf2⟩, hf3⟩ := hf
      have hg := gl_of G.sc hf2
      have hm := G.free f hf3
      split at h
      · rename_i e
        subst e
        split at h
        · rename_i a
          obtain ⟨ms', h1, h2⟩ := opt_map h
          cases h2
          obtain ⟨b1, b2, b3, b4⟩ := hL sc _ ms X W h1 G tk
          exact ⟨sndi_range1 hg hm (b3 _ (List.mem_cons_self ..)) b1 b4 b2.symm, fun _ => rfl⟩
        · rename_i a b
          obtain ⟨ms', h1, h2⟩ := opt_map h
          cases h2
          obtain ⟨b1, b2, b3, b4⟩ := hL sc _ ms X W h1 G tk
          exact ⟨sndi_range2 hg hm (b3 _ (List.mem_cons_self ..)) (b3 _ (by simp)) b1 b4 b2.symm, fun _ => rfl⟩
        · cases h
      · split at h
        · rename_i e
          obtain ⟨e, ht⟩ := e
          subst e
          split at h
          · rename_i a
            split at h
            · rename_i hs
              obtain ⟨m, h1, h2⟩ := opt_map h
              cases h2
              cases tgE with
              | Tuple => exact ⟨sndi_enum hg hm hs (hE sc true _ m X W h1 G tk).s, fun _ => rfl⟩
              | _ => cases ht
            · cases h
          · cases h
        · split at h
          · rename_i e
            obtain ⟨e, ht⟩ := e
            subst e
            split at h
            · rename_i a b
              split at h
              · rename_i hs
                rw [Bool.and_eq_true] at hs
                split at h
                · rename_i ma mb h1 h2
                  cases h
                  cases tgE with
                  | Tuple => exact ⟨sndi_zip hg hm hs.1 hs.2 (hE sc true _ ma X W h1 G tk).s (hE sc true _ mb X W h2 G tk).s, fun _ => rfl⟩
                  | _ => cases ht
                · cases h
              · cases h
            · cases h
          · exact bare h
    · exact bare h
  · rename_i e mm ap cp
    split at h
    · rename_i hc
      rw [Bool.and_eq_true] at hc
      obtain ⟨hc1, hc2⟩ := hc
      have hb : ∀ m, attributeBase e m X.env (eval e X.env) = eval e X.env := fun m => by
        cases e <;> first | rfl | (cases hc1; done)
      split at h
      · rename_i e
        obtain ⟨rfl, ht⟩ := e
        obtain ⟨m, h1, h2⟩ := opt_map h
        cases h2
        cases tgE with
        | Tuple => exact ⟨sndi_items (hb _) hc2 (hE sc true _ m X W h1 G tk).s, fun _ => rfl⟩
        | _ => cases ht
      · split at h
        · rename_i e
          subst e
          obtain ⟨m, h1, h2⟩ := opt_map h
          cases h2
          exact ⟨sndi_values (hb _) hc2 (hE sc true _ m X W h1 G tk).s, fun _ => rfl⟩
        · exact bare h
    · exact bare h
  · exact bare h
theorem ihC_step {n : Nat} (hE : IHE Φ c L n) (hI : IHI Φ c L n) : IHC Φ c L (n + 1) := by
  intro sc elt tgE iter ifs scope m X W h G tk
  simp only [trC] at h
  split at h
  · rename_i hblk
    split at h
    · rename_i tg k ms me h1 h2 h3
      split at h
      · rename_i hall
        have hts : ∀ i ∈ tg.slots, i ∈ (ownOf c scope).map (·.2) := fun i hi => of_decide_eq_true (List.all_eq_true.mp hall i hi)
        obtain ⟨i1, i2⟩ := hI sc tgE iter k ms X W h2 G tk
        have ok : BlkOk X.N X.env.scope scope (ownOf c scope) := by rw [G.N, G.sc]; exact blkOk_by hblk
        have hg : ∀ (s : Shared) (H : Hp) (C : Addr) (cl : List (Str × Addr)) (fp : List Addr), PG (X.blk s H scope (compEnvC scope cl C X.env) fp) tgE (gOf X.K tg) := fun s H C cl fp => by
          have G' := G.blk (scope := scope) (X' := X.blk s H scope (compEnvC scope cl C X.env) fp) ⟨s, H, C, cl, fp, rfl⟩
          exact pg_of (X := X.blk s H scope (compEnvC scope cl C X.env) fp) G'.calm G'.sc G'.N G'.nd (fun z => by cases z) h1
        have a := fun X' (hX : IsBlk X scope X') => hE _ false _ me X' WF h3 (G.blk hX) (takes_blk (scope := scope))
        have hr : me.isRd = false := (a _ ⟨X.s_0, X.H_0, 0, [], [], rfl⟩).nr
        split at h
        · cases h
          exact ⟨tg, k, ms, me, none, none, ownOf c scope, rfl, rfl, i1, fun X' hX => (a X' hX).snd, hr, .inl ⟨rfl, rfl⟩, hts, ok, hg, i2⟩
        · rename_i te
          split at h
          · rename_i hot
            obtain ⟨mt, h4, rfl⟩ := opt_map h
            exact ⟨tg, k, ms, me, some mt, some te, ownOf c scope, rfl, rfl, i1, fun X' hX => (a X' hX).snd, hr, .inr ⟨te, mt, rfl, rfl, fun X' hX => (hE _ false _ mt X' WF h4 (G.blk hX) (takes_blk (scope := scope))).tst hot⟩, hts, ok, hg, i2⟩
          · cases h
        · cases h
      · cases h
    · cases h
  · cases h
theorem lc_snd {X : Cx} {W : WX} {sc : Scope} {elt tgE iter : Expr} {ifs : List Expr} {scope : Scope} {m : ME} {pos : Pos} (G : Good c Φ L X sc) (h : LcOk Φ X W elt tgE iter ifs scope m) : SndE Φ X W (.ListComp elt [⟨tgE, iter, ifs, 0⟩] scope pos) m ∧ m.isRd = false ∧ ∀ i, m ≠ .var i := by
  obtain ⟨tg, k, ms, me, mt, t, own, rfl, rfl, i1, he, hr, ht, hts, ok, hg, hs⟩ := h.ex
  refine ⟨fun O ρ σ H Q E q => ?_, rfl, fun i z => by cases z⟩
  exact WE.by (pe_unl (pe_lc G.calm (by rw [G.N]; exact G.nd) pi_w ok hg ttB_ok teB_ok hs)) (lc_run i1 he hr ht hts E q)
end
end Z

namespace Z
open PySem PySem.Spec L2
open PyProof.Rows hiding St
section
variable {Φ : Tab} {c : Cfg} {L : Nat}
theorem sndT_neg {X : Cx} {W : WX} {a : Expr} {pos : Pos} {ma : ME} (h : SndE Φ X W (.UnaryOp .USub a pos) (.neg ma)) : SndT Φ X W (.UnaryOp .USub a pos) (.neg ma) := snd_tv h rfl
set_option maxHeartbeats 2000000 in
theorem ihE_step {n : Nat} (hE : IHE Φ c L n) (hO : IHO Φ c L n) (hD : IHD Φ c L n) (hL : IHL Φ c L n) (hB : IHB Φ c L n) (hC : IHC Φ c L n) (hX : IHX Φ c L n) : IHE Φ c L (n + 1) := by
  intro sc rd e m X W h G tk
  cases e with
  | Constant k j p =>
    simp only [trE] at h
    split at h <;> cases h
    · exact .of (snd_cst pe_int rfl) rfl (fun _ z => by cases z) rfl
    · exact .of (snd_cst pe_str rfl) rfl (fun _ z => by cases z) rfl
    · exact .of (snd_cst pe_bl rfl) rfl (fun _ z => by cases z) rfl
    · exact .of (snd_cst pe_non rfl) rfl (fun _ z => by cases z) rfl
  | Name x p =>
    simp only [trE] at h
    split at h
    · cases h
    · rename_i hok
      have hok : okName x = true := by simpa using hok
      split at h
      · rename_i hv
        obtain ⟨i, hi, rfl⟩ := opt_map h
        have pv := G.var (p := p) hok hv hi
        cases rd with
        | true => exact ⟨snd_rd pv, .inr ⟨x, p, i, rfl, rfl, rfl, pv⟩, fun _ z => (by cases z), fun _ => snd_tv (snd_rd pv) rfl⟩
        | false => exact ⟨snd_var pv, .inl rfl, fun j z => by cases z; exact pv, fun _ => snd_tv (snd_var pv) rfl⟩
      · split at h
        · rename_i hg
          obtain ⟨d, hd, rfl⟩ := opt_map h
          obtain ⟨s, u, hm, r⟩ := G.cst x d hd
          exact .of (snd_cst (pe_glob (gl_of G.sc hg) hm r (okName_of hok).1) s) rfl (fun _ z => by cases z) rfl
        · cases h
  | Tuple es k p =>
    simp only [trE] at h
    split at h
    · obtain ⟨ms, h1, rfl⟩ := opt_map h
      exact .of (snd_stup (hX sc es ms X W h1 G tk)) rfl (fun _ z => by cases z) rfl
    split at h
    · rename_i hl
      obtain ⟨ms, h1, rfl⟩ := opt_map h
      obtain ⟨b1, b2, _⟩ := hL sc es ms X W h1 G tk
      exact .of (snd_tup b1 (by omega)) rfl (fun _ z => by cases z) rfl
    · cases h
  | List es p =>
    simp only [trE] at h
    split at h
    · obtain ⟨ms, h1, rfl⟩ := opt_map h
      exact .of (snd_slst (hX sc es ms X W h1 G tk)) rfl (fun _ z => by cases z) rfl
    split at h
    · rename_i hl
      obtain ⟨ms, h1, rfl⟩ := opt_map h
      obtain ⟨b1, b2, _⟩ := hL sc es ms X W h1 G tk
      exact .of (snd_lst b1 (by omega)) rfl (fun _ z => by cases z) rfl
    · cases h
  | Attribute a f p =>
    simp only [trE] at h
    split at h
    · rename_i hd
      obtain ⟨ma, h1, rfl⟩ := opt_map h
      have hab : attributeBase a f X.env (eval a X.env) = eval a X.env := by
        cases a <;> first | rfl | (cases hd; done)
      exact .of (snd_fld G.ownOk G.room G.gd hab (hE sc _ a ma X W h1 G tk).snd) rfl (fun _ z => by cases z) rfl
    · cases h
  | Dict ks vs p =>
    simp only [trE] at h
    split at h
    · rename_i hl
      obtain ⟨ms, h1, rfl⟩ := opt_map h
      exact .of (snd_dsp (hD sc ks vs ms X W h1 G tk) hl) rfl (fun _ z => by cases z) rfl
    · cases h
  | BinOp a op b p =>
    simp only [trE] at h
    split at h
    · rename_i ma mb h1 h2
      split at h
      · split at h
        · rename_i a2 h3
          split at h
          · cases h
          · rename_i hr
            cases h
            exact .of (snd_bin (hE sc false a a2 X W h3 G tk).snd (hE sc true b mb X W h2 G tk).snd (fun z => absurd z hr)) rfl (fun _ z => by cases z) rfl
        · cases h
      · rename_i hr
        cases h
        exact .of (snd_bin (hE sc true a ma X W h1 G tk).snd (hE sc true b mb X W h2 G tk).snd (rd_still hr)) rfl (fun _ z => by cases z) rfl
    · cases h
  | UnaryOp op a p =>
    simp only [trE] at h
    split at h
    · obtain ⟨ma, h1, rfl⟩ := opt_map h
      exact .of (snd_neg (hE sc false a ma X W h1 G tk).snd) rfl (fun _ z => by cases z) rfl
    · split at h
      · rename_i ht
        obtain ⟨ma, h1, rfl⟩ := opt_map h
        have ea := hE sc false a ma X W h1 G tk
        exact ⟨snd_not ea.snd, .inl rfl, fun _ z => (by cases z), fun _ => sndT_not (ea.tst ht)⟩
      · cases h
    · cases h
  | BoolOp op es p =>
    simp only [trE] at h
    split at h
    · rename_i e1 e2 es
      obtain ⟨b1, b2, b3, b4⟩ := hB sc op _ m X W h G tk p
      exact ⟨b1, .inl b3, fun i z => absurd z (b4 (by simp) i), fun _ => b2.t⟩
    · cases h
  | Compare a ops bs p =>
    simp only [trE] at h
    split at h
    · rename_i op b
      split at h
      · rename_i hop
        split at h
        · rename_i hns
          split at h
          · rename_i ma mb h1 h2
            unfold rdIf at h
            split at h
            · cases h
            · rename_i hr
              cases h
              have ea := hE sc true a ma X W h1 G tk
              have eb := hE sc true b mb X W h2 G tk
              have ho : op = inOp (decide (op = .NotIn)) := by rcases hop with rfl | rfl <;> rfl
              rw [ho]
              have hd : decide (inOp (decide (op = .NotIn)) = .NotIn) = decide (op = .NotIn) := by rw [← ho]
              rw [hd]
              exact ⟨snd_mem G.units hns ea.snd eb.snd (rd_still hr), .inl rfl, fun _ z => (by cases z), fun _ => sndT_mem G.units hns ea.snd eb.snd (rd_still hr)⟩
          · cases h
        · cases h
      · rename_i hop
        have hop : op ≠ .In ∧ op ≠ .NotIn := ⟨fun z => hop (.inl z), fun z => hop (.inr z)⟩
        split at h
        · rename_i ma mb h1 h2
          unfold rdIf at h
          split at h
          · cases h
          · rename_i hr
            cases h
            have ea := hE sc true a ma X W h1 G tk
            have eb := hE sc true b mb X W h2 G tk
            exact ⟨snd_cmp G.units hop ea.snd eb.snd (rd_still hr), .inl rfl, fun _ z => (by cases z), fun _ => sndT_cmp G.units hop ea.snd eb.snd (rd_still hr)⟩
        · cases h
    · rename_i op op' b d
      split at h
      · cases h
      · rename_i hop
        have hop : op' ≠ .In ∧ op' ≠ .NotIn := ⟨fun z => hop (.inl z), fun z => hop (.inr z)⟩
        split at h
        · rename_i ma mb md h1 h2 h3
          cases h
          have ea := hE sc false a ma X W h1 G tk
          have eb := hE sc false b mb X W h2 G tk
          have ed := hE sc false d md X W h3 G tk
          exact ⟨snd_chain G.units hop ea.snd eb.snd ed.snd ea.nr eb.nr, .inl rfl, fun _ z => (by cases z), fun _ => sndT_chain G.units hop ea.snd eb.snd ed.snd ea.nr eb.nr⟩
        · cases h
    · cases h
  | IfExp t a b p =>
    simp only [trE] at h
    split at h
    · rename_i ht
      split at h
      · rename_i mt ma mb h1 h2 h3
        cases h
        have et := hE sc false t mt X W h1 G tk
        have ea := hE sc false a ma X W h2 G tk
        have eb := hE sc false b mb X W h3 G tk
        exact ⟨snd_ite (et.tst ht) ea.snd eb.snd ea.nr eb.nr, .inl rfl, fun _ z => (by cases z), fun z => by cases z⟩
      · cases h
    · cases h
  | Call fe args kws p =>
    simp only [trE] at h
    split at h
    · rename_i f fp
      split at h
      · cases h
      · rename_i hf
        simp only [Bool.or_eq_true, Bool.not_eq_true', not_or, Bool.not_eq_false] at hf
        have hg := gl_of G.sc hf.2
        obtain ⟨hdb, _, hnn⟩ := okName_of hf.1
        split at h
        · rename_i key hkey
          obtain ⟨fn, hΦ, hio, F⟩ := G.fns f key true hkey
          split at h
          · rename_i x xp rest
            split at h
            · rename_i hx
              rw [Bool.and_eq_true] at hx
              split at h
              · rename_i i ms h1 h2
                cases h
                obtain ⟨b1, b2, b3, b4⟩ := hL sc rest ms X W h2 G tk
                exact .of (snd_callio hΦ F G.room G.gd tk hg hdb (G.var hx.1 hx.2 h1) b3 b1 b2) rfl (fun _ z => by cases z) rfl
              · cases h
            · cases h
          · cases h
        · rename_i key hkey
          obtain ⟨fn, hΦ, hio, F⟩ := G.fns f key false hkey
          obtain ⟨ms, h1, rfl⟩ := opt_map h
          obtain ⟨b1, b2, b3, b4⟩ := hL sc args ms X W h1 G tk
          exact .of (snd_call hΦ hio F G.room G.gd tk hg hdb b3 b1 b2) rfl (fun _ z => by cases z) rfl
        · split at h
          · cases h
          · rename_i hfree
            have hfree : c.free.contains f = true := by simpa using hfree
            have hm := G.free f hfree
            split at h
            · rename_i a
              split at h
              · rename_i hs
                split at h
                · rename_i b hb
                  obtain ⟨ma, h1, rfl⟩ := opt_map h
                  exact .of (snd_bi G.calm G.gd G.units (bi_of hb) hg hm hnn hdb hs (hE sc true a ma X W h1 G tk).snd) rfl (fun _ z => by cases z) rfl
                · cases h
              · cases h
            · rename_i a C
              split at h
              · rename_i hmm
                obtain ⟨ms, h1, rfl⟩ := opt_map h
                obtain ⟨b1, b2, b3, b4⟩ := hL sc [a, C] ms X W h1 G tk
                rcases hmm with rfl | rfl
                · exact .of (snd_max2 G.calm hg hm b3 b1 b2.symm) rfl (fun _ z => by cases z) rfl
                · exact .of (snd_min2 G.calm hg hm b3 b1 b2.symm) rfl (fun _ z => by cases z) rfl
              split at h
              · rename_i hs
                rw [Bool.and_eq_true, decide_eq_true_eq] at hs
                obtain ⟨hs, rfl⟩ := hs
                split at h
                · rename_i C cp
                  split at h
                  · rename_i hC
                    simp only [Bool.and_eq_true] at hC
                    obtain ⟨⟨c1, c2⟩, c3⟩ := hC
                    split at h
                    · rename_i b ma h1 h2
                      cases h
                      obtain ⟨d1, d2⟩ := isi_of h1
                      obtain ⟨o1, _, o3⟩ := okName_of c1
                      exact .of (snd_isi hg hm (gl_of G.sc c2) (G.free C c3) d1 o3 o1 d2 hs (hE sc true a ma X W h2 G tk).snd) rfl (fun _ z => by cases z) rfl
                    · cases h
                  · cases h
                · cases h
              · cases h
            · cases h
    · rename_i o m ap
      split at h
      · rename_i hd
        rw [Bool.and_eq_true, Bool.and_eq_true, Bool.and_eq_true, decide_eq_true_eq] at hd
        split at h
        · rename_i mo ms h1 h2
          cases h
          obtain ⟨b1, b2, b3, b4⟩ := hL sc args ms X W h2 G tk
          have eo := hE sc false o mo X W h1 G tk
          exact .of (snd_methD G.ownOk G.room G.gd tk eo.nr hd.1.1 hd.2.1 hd.2.2 eo.snd b3 b1 b2) rfl (fun _ z => by cases z) rfl
        · cases h
      · cases h
    · cases h
  | Subscript a b p =>
    simp only [trE] at h
    split at h
    · rename_i lo hi st sp
      split at h
      · cases h
      · rename_i hst
        have hst : st = none := by
          cases st with
          | none => rfl
          | some _ => exact absurd rfl hst
        subst hst
        split at h
        · rename_i ma ml mh h1 h2 h3
          have eo := hO sc lo ml X W h2 G tk
          have eh := hO sc hi mh X W h3 G tk
          split at h
          · split at h
            · rename_i a2 h4
              split at h
              · cases h
              · rename_i hr
                cases h
                exact .of (snd_slc (hE sc false a a2 X W h4 G tk).snd eo eh (fun z => absurd z hr)) rfl (fun _ z => by cases z) rfl
            · cases h
          · rename_i hr
            cases h
            exact .of (snd_slc (hE sc true a ma X W h1 G tk).snd eo eh (fun z => by rw [z] at hr; simpa using hr)) rfl (fun _ z => by cases z) rfl
        · cases h
    · cases h
    · rename_i n1 n2
      have hp : plainIx b = true := by
        cases b <;> first | rfl | exact absurd rfl (n1 _ _ _ _) | exact absurd rfl (n2 _ _ _)
      split at h
      · rename_i ma mb h1 h2
        split at h
        · split at h
          · rename_i a2 h3
            split at h
            · cases h
            · rename_i hr
              cases h
              exact .of (snd_ix G.units (hE sc false a a2 X W h3 G tk).snd (hE sc false b mb X W h2 G tk).snd hp (fun z => absurd z hr)) rfl (fun _ z => by cases z) rfl
          · cases h
        · rename_i hr
          cases h
          exact .of (snd_ix G.units (hE sc true a ma X W h1 G tk).snd (hE sc false b mb X W h2 G tk).snd hp (rd_still hr)) rfl (fun _ z => by cases z) rfl
      · cases h
  | ListComp elt gs scope p =>
    simp only [trE] at h
    split at h
    · rename_i g
      split at h
      · rename_i hg
        obtain ⟨tgE, iter, ifs, as⟩ := g
        dsimp only at hg h
        subst hg
        obtain ⟨a, b, d⟩ := lc_snd (pos := p) G (hC sc elt tgE iter ifs scope m X W h G tk)
        exact .of a b d rfl
      · cases h
    · cases h
  | _ => simp [trE] at h
theorem ih_all (n : Nat) : IHE Φ c L n ∧ IHO Φ c L n ∧ IHD Φ c L n ∧ IHL Φ c L n ∧ IHB Φ c L n ∧ IHC Φ c L n ∧ IHI Φ c L n ∧ IHX Φ c L n := by
  induction n with
  | zero =>
    refine ⟨fun _ _ _ _ _ _ h => ?_, fun _ _ _ _ _ h => ?_, fun _ _ _ _ _ _ h => ?_, fun _ _ _ _ _ h => ?_, fun _ _ _ _ _ _ h => ?_, fun _ _ _ _ _ _ _ _ _ h => ?_, fun _ _ _ _ _ _ _ h => ?_, fun _ _ _ _ _ h => ?_⟩
    · simp [trE] at h
    · simp [trO] at h
    · simp [trD] at h
    · simp [trL] at h
    · simp [trB] at h
    · simp [trC] at h
    · simp [trI] at h
    · simp [trX] at h
  | succ n ih =>
    obtain ⟨hE, hO, hD, hL, hB, hC, hI, hX⟩ := ih
    exact ⟨ihE_step hE hO hD hL hB hC hX, ihO_step hE, ihD_step hE hD, ihL_step hE hL, ihB_step hE hB, ihC_step hE hI, ihI_step hE hL, ihX_step hE hX⟩
theorem trE_ok {n : Nat} {sc : Scope} {rd : Bool} {e : Expr} {m : ME} {X : Cx} {W : WX} (h : trE c n sc rd e = some m) (G : Good c Φ L X sc) (tk : Takes X W) : ExpOk Φ X W e m rd := (ih_all n).1 sc rd e m X W h G tk
theorem trI_ok {n : Nat} {sc : Scope} {tgE iter : Expr} {k : Nat} {ms : List ME} {X : Cx} {W : WX} (h : trI c n sc tgE iter = some (k, ms)) (G : Good c Φ L X sc) (tk : Takes X W) : SndI Φ X W tgE iter k ms ∧ ∀ x, foldedSetIterable iter X.env x = pure x := (ih_all n).2.2.2.2.2.2.1 sc tgE iter k ms X W h G tk
theorem trC_ok {n : Nat} {sc scope : Scope} {elt tgE iter : Expr} {ifs : List Expr} {m : ME} {X : Cx} {W : WX} (h : trC c n sc elt tgE iter ifs scope = some m) (G : Good c Φ L X sc) (tk : Takes X W) : LcOk Φ X W elt tgE iter ifs scope m := (ih_all n).2.2.2.2.2.1 sc elt tgE iter ifs scope m X W h G tk
end
end Z

namespace Z
open PySem PySem.Spec L2
open PyProof.Rows hiding St
/-! ### stores of pairs -/
theorem sw_pair {env : PySem.Env} {x y : Str} {px py pt pt2 : Pos} {a b : Expr} {kt k2 : Nat} (hk : env.scope.kind = .function) (hx : env.scope.names.lookup x = some .local) (hy : env.scope.names.lookup y = some .local) (hne : x ≠ y) (hl : (py.line == px.line) = true) (na : notStar a = true) (nb : notStar b = true)
    (hf : [a, b].all (foldedForSure 8) = false) (hc : [a, b].all (constantsAlone 8) = false) : swappedStores [.Tuple [.Name x px, .Name y py] kt pt] (.Tuple [a, b] k2 pt2) env = pure (some [x, y]) := by
  have kx : env.kindOf x = some .local := hx
  have ky : env.kindOf y = some .local := hy
  have hb : env.blockKind = .function := by unfold Env.blockKind; rw [hk]; rfl
  have hed : [x, y].eraseDups.length = 2 := by
    rw [List.eraseDups_cons]
    have : ([y].filter fun b => !(b == x)) = [y] := by
      rw [List.filter_cons]
      have : (!(y == x)) = true := by simp [Ne.symm hne]
      rw [this]; rfl
    rw [this]; rfl
  unfold swappedStores
  simp only [List.length_cons, List.length_nil, hb]
  simp only [List.head?_cons, Option.map_some, Option.getD_some, Expr.pos, List.filterMap_cons, List.filterMap_nil, kx, ky, hl, beq_self_eq_true, Bool.and_self, Bool.true_and, if_true]
  simp only [hed, hf, hc]
  rw [if_neg (by decide), if_neg ?hh, if_neg (fun h => Bool.noConfusion h), if_neg (by decide), if_neg (by decide)]
  refine fun h => ?_
  cases a <;> first | exact Bool.noConfusion na | (cases b <;> first | exact Bool.noConfusion nb | exact Bool.noConfusion h)
theorem sw_tri {env : PySem.Env} {x y z : Str} {px py pz pt pt2 : Pos} {a b d : Expr} {kt k2 : Nat} (hk : env.scope.kind = .function) (hx : env.scope.names.lookup x = some .local) (hy : env.scope.names.lookup y = some .local) (hz : env.scope.names.lookup z = some .local) (n1 : x ≠ y) (n2 : x ≠ z) (n3 : y ≠ z)
    (h1 : (py.line == px.line) = true) (h2 : (pz.line == px.line) = true) (na : notStar a = true) (nb : notStar b = true) (nd : notStar d = true) (hf : [a, b, d].all (foldedForSure 8) = false) (hc : [a, b, d].all (constantsAlone 8) = false) :
    swappedStores [.Tuple [.Name x px, .Name y py, .Name z pz] kt pt] (.Tuple [a, b, d] k2 pt2) env = pure (some [x, y, z]) := by
  have kx : env.kindOf x = some .local := hx
  have ky : env.kindOf y = some .local := hy
  have kz : env.kindOf z = some .local := hz
  have hb : env.blockKind = .function := by unfold Env.blockKind; rw [hk]; rfl
  have hed : [x, y, z].eraseDups.length = 3 := by
    have e1 : ([y, z].filter fun b => !(b == x)) = [y, z] := by simp [Ne.symm n1, Ne.symm n2]
    have e2 : ([z].filter fun b => !(b == y)) = [z] := by simp [Ne.symm n3]
    rw [List.eraseDups_cons, e1, List.eraseDups_cons, e2]; rfl
  unfold swappedStores
  simp only [List.length_cons, List.length_nil, hb]
  simp only [List.head?_cons, Option.map_some, Option.getD_some, Expr.pos, List.filterMap_cons, List.filterMap_nil, kx, ky, kz, h1, h2, beq_self_eq_true, Bool.and_self, Bool.true_and, if_true]
  simp only [hed, hf, hc]
  rw [if_neg (by decide), if_neg ?hh, if_neg (fun h => Bool.noConfusion h), if_neg (by decide), if_neg (by decide)]
  have st : ∀ {e : Expr}, notStar e = true → (match e with | .Starred .. => true | _ => false) = false := fun {e} h => by
    cases e <;> first | rfl | cases h
  have q1 := st na
  have q2 := st nb
  have q3 := st nd
  simp only [List.any_cons, List.any_nil]
  intro h
  rw [Bool.or_eq_true, Bool.or_eq_true, Bool.or_eq_true] at h
  rcases h with h | h | h | h
  · exact absurd (q1.symm.trans h) (by decide)
  · exact absurd (q2.symm.trans h) (by decide)
  · exact absurd (q3.symm.trans h) (by decide)
  · cases h
theorem sw_none {env : PySem.Env} {ts vs : List Expr} {kt k2 : Nat} {pt pt2 : Pos} (h : (vs.all (foldedForSure 8) || decide (ts.length > 3)) = true) : swappedStores [.Tuple ts kt pt] (.Tuple vs k2 pt2) env = pure none := by
  unfold swappedStores
  simp only []
  rw [Bool.or_eq_true, decide_eq_true_eq] at h
  rcases h with h | h
  · split
    · rfl
    · split
      · rfl
      · split
        · rfl
        · first | rfl | (rw [h]; rfl)
  · have : (!(ts.length == 2 || ts.length == 3)) = true := by
      have h2 : ts.length ≠ 2 := by omega
      have h3 : ts.length ≠ 3 := by omega
      simp [h2, h3]
    rw [this]; rfl
theorem sw_else {env : PySem.Env} {ts : List Expr} {e : Expr} {kt : Nat} {pt : Pos} (h : isTup e = false) : swappedStores [.Tuple ts kt pt] e env = pure none := by
  cases e <;> first | rfl | cases h
structure GoodS (c : Cfg) (Φ : Tab) (L : Nat) (X : Cx) (sc : Scope) : Prop where
  g : Good c Φ L X sc
  kind : sc.kind = .function
  fn : ∀ x, X.fn x = true
  pass : PassesOwn (model X.prog X.w) X.A X.env X.xe
  exc : ∀ C, c.excs.contains C = true → ∃ (B newId initId : String) (bmB : List Value), ExcBaseFacts B newId initId bmB ∧ PySem.W.excIn X.K (He.ga X.K C) bmB newId = true ∧ X.mg C = some (.ref (He.ga X.K C)) ∧ PySem.W.keepIn X.K (.ref (He.ga X.K C)) = true ∧ Raises X (.ref (He.ga X.K C))
section
variable {Φ : Tab} {c : Cfg} {L : Nat}
variable (Φ c L) in
def IHS (n : Nat) : Prop := ∀ (sc : Scope) (st : Stmt) (m : MS) (X : Cx) (W : WX), trS c n sc st = some m → GoodS c Φ L X sc → Takes X W → ∀ k, SndSt Φ X W k st m
variable (Φ c L) in
def IHSs (n : Nat) : Prop := ∀ (sc : Scope) (ss : List Stmt) (X : Cx) (W : WX), GoodS c Φ L X sc → Takes X W → ∀ k, SndSs Φ X W k ss (trSs c n sc ss)
theorem trySlot_of {sc : Scope} {x : Str} {i : Nat} (h : trySlot c sc x = some i) : Loc sc x ∧ c.N[i]? = some x := by
  unfold trySlot at h
  split at h
  · rename_i hc
    rw [Bool.and_eq_true] at hc
    exact ⟨loc_of hc.2, slot_of h⟩
  · cases h
theorem isTup_of {e : Expr} (h : ∀ vs k p, e = .Tuple vs k p → False) : isTup e = false := by
  cases e with
  | Tuple vs k p => exact (h vs k p rfl).elim
  | _ => rfl
theorem ihSs_step {n : Nat} (hS : IHS Φ c L n) (hSs : IHSs Φ c L n) : IHSs Φ c L (n + 1) := by
  intro sc ss X W G tk k
  simp only [trSs]
  split
  · exact ss_nil
  · rename_i s ss
    refine ss_cons ?_ (hSs sc ss X W G tk k)
    cases z : trS c n sc s with
    | none => exact st_bad
    | some m => exact hS sc s m X W z G tk k
theorem ihS_step {n : Nat} (hSs : IHSs Φ c L n) : IHS Φ c L (n + 1) := by
  intro sc st m X W h GS tk k
  have G := GS.g
  have nd : X.N.Nodup := by rw [G.N]; exact G.nd
  have slotN : ∀ {x : Str} {i : Nat}, trySlot c sc x = some i → X.N[i]? = some x := fun {x i} h => by rw [G.N]; exact (trySlot_of h).2
  have locN : ∀ {x : Str} {i : Nat}, trySlot c sc x = some i → Loc X.env.scope x := fun {x i} h => by rw [G.sc]; exact (trySlot_of h).1
  cases st with
  | Pass p => simp only [trS] at h; cases h; exact st_pass
  | Break p => simp only [trS] at h; cases h; exact st_brk
  | Expr e p =>
    have plain : ∀ {e : Expr} {m : MS}, isComp e = false → (trE c fuelT sc false e).map MS.expr = some m → SndSt Φ X W k (.Expr e p) m := fun {e m} hc h => by
      obtain ⟨me, h1, rfl⟩ := opt_map h
      exact st_expr (trE_ok h1 G tk).snd hc
    simp only [trS] at h
    split at h
    · split at h
      · cases h; exact st_doc
      · cases h
    · rename_i fe args kws cp
      split at h
      · rename_i o mm ap a
        split at h
        · rename_i hc
          obtain ⟨rfl, hl, hs⟩ := hc
          split at h
          · rename_i x xp
            split at h
            · rename_i hx
              rw [Bool.and_eq_true] at hx
              split at h
              · rename_i i ma h1 h2
                cases h
                have ea := trE_ok h2 G tk
                exact st_app (G.var hx.1 hx.2 h1) ea.snd ea.nr hs hl
              · cases h
            · cases h
          · cases h
        · cases h
      · exact plain rfl h
    · rename_i n1 n2
      split at h
      · cases h
      · rename_i hc
        exact plain (by simpa using hc) h
  | Return e p =>
    simp only [trS] at h
    split at h
    · cases h; exact st_retN
    · obtain ⟨me, h1, rfl⟩ := opt_map h
      have ea := trE_ok h1 G tk
      exact st_ret ea.snd ea.nr ea.var
  | If t a b p =>
    simp only [trS] at h
    split at h
    · rename_i ht
      obtain ⟨mt, h1, rfl⟩ := opt_map h
      exact st_ite ((trE_ok h1 G tk).tst ht) (hSs sc a X W GS tk k) (hSs sc b X W GS tk k)
    · cases h
  | While t b orl p =>
    simp only [trS] at h
    split at h
    · split at h
      · rename_i ht
        obtain ⟨mt, h1, rfl⟩ := opt_map h
        exact st_while GS.pass ((trE_ok h1 G tk).tst ht) (hSs sc b X W GS tk k)
      · cases h
    · cases h
  | For tgE iter b orl p =>
    simp only [trS] at h
    split at h
    · split at h
      · rename_i tg kk ms h1 h2
        split at h
        · cases h
          obtain ⟨i1, i2⟩ := trI_ok h2 G tk
          exact st_for GS.pass G.calm i1 (pg_of G.calm G.sc G.N G.nd (fun _ => GS.fn) h1) (hSs sc b X W GS tk k) i2
        · cases h
      · cases h
    · cases h
  | Raise e cause p =>
    simp only [trS] at h
    split at h
    · rename_i fe args kws cp
      split at h
      · rename_i C Cp x j xp
        split at h
        · rename_i hc
          simp only [Bool.and_eq_true] at hc
          cases h
          obtain ⟨B, newId, initId, bmB, F, q, gC, kC, r⟩ := GS.exc C hc.2
          exact st_raise G.calm tk (pmk_own F q gC kC r (gl_of G.sc hc.1.2) (okName_of hc.1.1).1)
        · cases h
      · cases h
    · cases h
  | Assign tgs e p =>
    simp only [trS] at h
    split at h
    · rename_i tgE
      split at h
      · rename_i x px
        split at h
        · rename_i i hi
          split at h
          · rename_i elt gs scope lp
            split at h
            · rename_i g
              split at h
              · rename_i hc
                obtain ⟨ha, hl, hln, hno⟩ := hc
                obtain ⟨m', h1, rfl⟩ := opt_map h
                obtain ⟨tgE, iter, ifs, as⟩ := g
                dsimp only at ha h1
                subst ha
                obtain ⟨tg, kk, ms, me, mt, t, own, rfl, rfl, i1, he, hr, ht, hts, ok, hg, hs⟩ := (trC_ok h1 G tk).ex
                have hlx : X.env.scope.names.lookup x = some .local := by rw [G.sc]; exact local_of hl
                exact st_setLc G.calm nd (slotN hi) hlx (sw_true (by rw [G.sc]; exact GS.kind) hlx hln hno) ok hg hs i1 he hr ht hts
              · cases h
            · cases h
          · split at h
            · cases h
            · rename_i hc
              obtain ⟨me, h1, rfl⟩ := opt_map h
              have ea := trE_ok h1 G tk
              exact st_set nd (slotN hi) (locN hi) (.inl (GS.fn x)) ea.snd ea.nr (by simpa using hc)
        · cases h
      · rename_i ts kt pt
        split at h
        · rename_i vs k2 pt2
          split at h
          · rename_i hsw
            split at h
            · rename_i x px y py a b
              split at h
              · rename_i i j ma mb h1 h2 h3 h4
                cases h
                have ea := trE_ok h3 G tk
                have eb := trE_ok h4 G tk
                simp only [swPair, Bool.and_eq_true, decide_eq_true_eq, Bool.not_eq_true'] at hsw
                obtain ⟨⟨⟨⟨⟨⟨⟨l1, l2⟩, l3⟩, l4⟩, l5⟩, l6⟩, l7⟩, l8⟩ := hsw
                have hx : X.env.scope.names.lookup x = some .local := by rw [G.sc]; exact local_of l1
                have hy : X.env.scope.names.lookup y = some .local := by rw [G.sc]; exact local_of l2
                have hij : i ≠ j := fun z => by
                  subst z
                  have p1 := slotN h1
                  have p2 := slotN h2
                  rw [p1] at p2; cases p2; exact l3 rfl
                exact st_par G.calm nd (slotN h1) (slotN h2) hij hx hy ea.snd eb.snd ea.nr eb.nr l5 l6 (sw_pair (by rw [G.sc]; exact GS.kind) hx hy l3 l4 l5 l6 l7 l8)
              · cases h
            · cases h
          · split at h
            · rename_i hsw
              split at h
              · rename_i x px y py z pz a b d hno
                split at h
                · rename_i i j l h1 h2 h3
                  split at h
                  · rename_i ma mb md h4 h5 h6
                    cases h
                    have ea := trE_ok h4 G tk
                    have eb := trE_ok h5 G tk
                    have ed := trE_ok h6 G tk
                    simp only [swTri, Bool.and_eq_true, decide_eq_true_eq, Bool.not_eq_true'] at hsw
                    obtain ⟨⟨⟨⟨⟨⟨⟨⟨⟨⟨⟨⟨l1, l2⟩, l3⟩, n1⟩, n2⟩, n3⟩, g1⟩, g2⟩, s1⟩, s2⟩, s3⟩, f1⟩, f2⟩ := hsw
                    have hx : X.env.scope.names.lookup x = some .local := by rw [G.sc]; exact local_of l1
                    have hy : X.env.scope.names.lookup y = some .local := by rw [G.sc]; exact local_of l2
                    have hz : X.env.scope.names.lookup z = some .local := by rw [G.sc]; exact local_of l3
                    have ne : ∀ {i j : Nat} {x y : Str}, x ≠ y → trySlot c sc x = some i → trySlot c sc y = some j → i ≠ j := fun {i j x y} n q1 q2 z => by
                      subst z
                      have p1 := slotN q1
                      have p2 := slotN q2
                      rw [p1] at p2; cases p2; exact n rfl
                    exact st_tri G.calm nd (slotN h1) (slotN h2) (slotN h3) (ne n1 h1 h2) (ne n2 h1 h3) (ne n3 h2 h3) hx hy hz ea.snd eb.snd ed.snd ea.nr eb.nr ed.nr s1 s2 s3 (sw_tri (by rw [G.sc]; exact GS.kind) hx hy hz n1 n2 n3 g1 g2 s1 s2 s3 f1 f2)
                  · cases h
                · cases h
              · cases h
            split at h
            · rename_i hn
              split at h
              · rename_i tg me h1 h2
                split at h
                · cases h
                · rename_i hnm
                  cases h
                  have ea := trE_ok h2 G tk
                  exact st_asg (fun i z => by subst z; exact hnm rfl) ea.snd ea.nr (pg_of (c := c) (all := true) (tg := tg) G.calm G.sc G.N G.nd (fun _ => GS.fn) h1) rfl (sw_none hn) rfl
              · cases h
            · cases h
        · rename_i nt
          split at h
          · cases h
          · rename_i hc
            split at h
            · rename_i tg me h1 h2
              split at h
              · cases h
              · rename_i hnm
                cases h
                have ea := trE_ok h2 G tk
                have hsw : swapsWithSole [.Tuple ts kt pt] e p.line X.env = pure false := by
                  cases e <;> rfl
                exact st_asg (fun i z => by subst z; exact hnm rfl) ea.snd ea.nr (pg_of (c := c) (all := true) (tg := tg) G.calm G.sc G.N G.nd (fun _ => GS.fn) h1) hsw (sw_else (isTup_of fun vs k p z => nt vs k p z)) rfl
            · cases h
      · rename_i o f pp
        split at h
        · cases h
        · rename_i hcomp
          split at h
          · rename_i x xp
            split at h
            · rename_i hx
              rw [Bool.and_eq_true] at hx
              split at h
              · rename_i i me h1 h2
                cases h
                have ee := trE_ok h2 G tk
                exact st_setF G.ownOk (G.var hx.1 hx.2 h1) ee.snd ee.nr (by simpa using hcomp)
              · cases h
            · cases h
          · cases h
      · rename_i o ix pp
        split at h
        · rename_i hp
          split at h
          · rename_i x xp
            split at h
            · rename_i hx
              rw [Bool.and_eq_true] at hx
              split at h
              · rename_i i mi me h1 h2 h3
                cases h
                have ei := trE_ok h2 G tk
                have ee := trE_ok h3 G tk
                exact st_setIx G.units (G.var hx.1 hx.2 h1) ee.snd ei.snd ee.nr hp
              · cases h
            · cases h
          · cases h
        · cases h
      · cases h
    · cases h
  | _ => simp [trS] at h
theorem ihs_all (n : Nat) : IHS Φ c L n ∧ IHSs Φ c L n := by
  induction n with
  | zero =>
    refine ⟨fun _ _ _ _ _ h => ?_, fun sc ss X W G tk k => ?_⟩
    · simp [trS] at h
    · simp only [trSs]
      intro O ρ σ H D E q
      simp only [exB, exS] at q
      exact q.elim
  | succ n ih => exact ⟨ihS_step ih.2, ihSs_step ih.1 ih.2⟩
theorem trSs_ok {n : Nat} {sc : Scope} {ss : List Stmt} {X : Cx} {W : WX} (G : GoodS c Φ L X sc) (tk : Takes X W) (k : Nat) : SndSs Φ X W k ss (trSs c n sc ss) := (ihs_all n).2 sc ss X W G tk k
end
end Z

namespace Z
open PySem PySem.Spec L2
open PyProof.Rows hiding St
/-! ### a def by its body -/
/-- the slots at the entry -/
def sl0 (io : Bool) (n : Nat) (ds : List D) : Vn := (match ds with
  | [] => []
  | d :: dr => (if io then Sl.io d else Sl.val d) :: dr.map Sl.val) ++ List.replicate (n - ds.length) .non
def Out.as (o : Out) (fn : Fn) : FRes → Prop
  | .ok d s => (∃ fl ρ', o = .rt fl d ρ' ∧ (fn.fresh = true → fl = true) ∧ (fn.io = true → ρ'[0]? = some (.io s))) ∨ ∃ ρ', o = .nx ρ' ∧ d = .non ∧ fn.fresh = false ∧ (fn.io = true → ρ'[0]? = some (.io s))
  | .exn x s => ∃ ρ', o = .exn x ρ' ∧ (fn.io = true → ρ'[0]? = some (.io s))
  | .stuck => True
/-- what is known of the module -/
structure Mdl (c : Cfg) (P : Program) (w : World) (K : PySem.W.Frag) (mg : Str → Option Value) : Prop where
  free : ∀ x, c.free.contains x = true → mg x = none
  cst : ∀ x d, c.cst.lookup x = some d → scalD d = true ∧ ∃ u, mg x = some u ∧ RelV (vOf d) u
  exc : ∀ C, c.excs.contains C = true → ∃ (B newId initId : String) (bmB : List Value), ExcBaseFacts B newId initId bmB ∧ PySem.W.excIn K (He.ga K C) bmB newId = true ∧ mg C = some (.ref (He.ga K C)) ∧ PySem.W.keepIn K (.ref (He.ga K C)) = true ∧ PySem.W.subIn K (.ref (He.ga K C)) (.type "BaseException") = some true ∧ PySem.W.typeIn K (.ref (He.ga K C)) = some (.type "type")
theorem sl0_own {io : Bool} {n : Nat} {ds : List D} {σ : L2.St} {b : Addr} (h : OwnA (sl0 io n ds) σ b) : io = true ∧ σ[0]? = some (some (.ref b)) := by
  obtain ⟨j, s, e, w, q⟩ := h
  unfold sl0 at e
  have rep : ∀ {k : Nat} {j : Nat} {s : Sl}, (List.replicate k Sl.non)[j]? = some s → s = .non := fun {k j s} h => by
    rw [List.getElem?_replicate] at h
    split at h
    · cases h; rfl
    · cases h
  cases ds with
  | nil =>
    simp only [List.nil_append] at e
    have := rep e
    subst this; cases w
  | cons d dr =>
    simp only [List.cons_append] at e
    cases j with
    | zero =>
      simp only [List.getElem?_cons_zero, Option.some.injEq] at e
      cases io with
      | true => exact ⟨rfl, q⟩
      | false => simp only [Bool.false_eq_true, if_false] at e; subst e; cases w
    | succ j =>
      simp only [List.getElem?_cons_succ] at e
      rw [List.getElem?_append] at e
      split at e
      · rw [List.getElem?_map] at e
        cases z : dr[j]? with
        | none => rw [z] at e; cases e
        | some d' => rw [z] at e; cases e; cases w
      · have := rep e
        subst this; cases w
theorem sl0_own0 {io : Bool} {n : Nat} {d : D} {dr : List D} {σ : L2.St} {a : Addr} (h : io = true) (e : σ[0]? = some (some (.ref a))) : OwnA (sl0 io n (d :: dr)) σ a := by
  refine ⟨0, .io d, ?_, rfl, e⟩
  subst h
  simp [sl0]
theorem start_at {N : List Str} {vs : List V} {i : Nat} {v : V} (h : vs[i]? = some v) : (L2.start N vs)[i]? = some (some v) := by
  unfold L2.start
  rw [List.getElem?_append_left (by have := (List.getElem?_eq_some_iff.mp h).1; simpa using this), List.getElem?_map, h]
  rfl
theorem start_len {N : List Str} {vs : List V} (h : vs.length ≤ N.length) : (L2.start N vs).length = N.length := by
  unfold L2.start
  simp; omega
theorem sl0_len {io : Bool} {n : Nat} {ds : List D} (h : ds.length ≤ n) : (sl0 io n ds).length = n := by
  unfold sl0
  cases ds <;> simp at h ⊢ <;> omega
theorem sl0_at {io : Bool} {n : Nat} {ds : List D} {i : Nat} {s : Sl} (h : (sl0 io n ds)[i]? = some s) : s = .non ∨ ∃ d, ds[i]? = some d ∧ ((i = 0 ∧ io = true ∧ s = .io d) ∨ (¬ (i = 0 ∧ io = true) ∧ s = .val d)) := by
  unfold sl0 at h
  have rep : ∀ {k : Nat} {j : Nat} {s : Sl}, (List.replicate k Sl.non)[j]? = some s → s = .non := fun {k j s} h => by
    rw [List.getElem?_replicate] at h
    split at h
    · cases h; rfl
    · cases h
  cases ds with
  | nil =>
    simp only [List.nil_append] at h
    exact .inl (rep h)
  | cons d dr =>
    simp only [List.cons_append] at h
    cases i with
    | zero =>
      simp only [List.getElem?_cons_zero, Option.some.injEq] at h
      refine .inr ⟨d, rfl, ?_⟩
      cases io with
      | true => exact .inl ⟨rfl, rfl, h.symm⟩
      | false => exact .inr ⟨by simp, h.symm⟩
    | succ j =>
      simp only [List.getElem?_cons_succ] at h
      rw [List.getElem?_append] at h
      split at h
      · rw [List.getElem?_map] at h
        cases z : dr[j]? with
        | none => rw [z] at h; cases h
        | some d' => rw [z] at h; cases h; exact .inr ⟨d', by simpa using z, .inr ⟨by simp, rfl⟩⟩
      · exact .inl (rep h)
theorem env0_ok {K : PySem.W.Frag} {O : Addr → Prop} {H : Hp} {N : List Str} {io : Bool} {ds : List D} {vs : List V} {a : Addr} (hl : vs.length ≤ N.length) (dom : ∀ b, O b → H b ≠ none)
    (h : if io = true then ∃ r d0 dr, vs = .ref a :: r ∧ ds = d0 :: dr ∧ O a ∧ Top K (vis O H) H d0 a ∧ Reps K (vis O H) dr r else Reps K (vis O H) ds vs) :
    EnvOk K O (sl0 io N.length ds) (L2.start N vs) H ∧ ds.length = vs.length ∧ (∀ b, OwnA (sl0 io N.length ds) (L2.start N vs) b → io = true ∧ b = a ∧ O a) := by
  have hlen : ds.length = vs.length := by
    split at h
    · obtain ⟨r, d0, dr, rfl, rfl, _, _, rr⟩ := h
      simp [rr.length]
    · exact h.length
  have own : ∀ b, OwnA (sl0 io N.length ds) (L2.start N vs) b → io = true ∧ b = a ∧ O a := fun b z => by
    obtain ⟨h1, h2⟩ := sl0_own z
    subst h1
    rw [if_pos rfl] at h
    obtain ⟨r, d0, dr, rfl, rfl, ha, _, rr⟩ := h
    rw [start_at (i := 0) (v := .ref a) rfl] at h2
    cases h2
    exact ⟨rfl, rfl, ha⟩
  have hh : Hid O (sl0 io N.length ds) (L2.start N vs) = O := by
    funext b
    apply propext
    refine ⟨fun z => z.elim id fun z => ?_, .inl⟩
    obtain ⟨_, rfl, ha⟩ := own b z
    exact ha
  refine ⟨EnvOk.of (by rw [sl0_len (by omega), start_len hl]) dom (fun i j b si sj ei ej wi wj ai aj => ?_) fun i s e => ?_, hlen, own⟩
  · have key : ∀ {i : Nat} {si : Sl}, (sl0 io N.length ds)[i]? = some si → si.isOwn = true → i = 0 := fun {i si} ei wi => by
      rcases sl0_at ei with rfl | ⟨d, _, ⟨h0, _, rfl⟩ | ⟨_, rfl⟩⟩
      · cases wi
      · exact h0
      · cases wi
    rw [key ei wi, key ej wj]
  · rw [hh]
    rcases sl0_at e with rfl | ⟨d, ed, ⟨rfl, rfl, rfl⟩ | ⟨hn, rfl⟩⟩
    · trivial
    · rw [if_pos rfl] at h
      obtain ⟨r, d0, dr, rfl, rfl, ha, t, rr⟩ := h
      simp only [List.getElem?_cons_zero, Option.some.injEq] at ed
      subst ed
      exact ⟨a, start_at (i := 0) rfl, t, ha⟩
    · have hv : ∃ v, vs[i]? = some v ∧ Rep K (vis O H) d v := by
        split at h
        · rename_i hio
          obtain ⟨r, d0, dr, rfl, rfl, ha, t, rr⟩ := h
          cases i with
          | zero => exact absurd ⟨rfl, hio⟩ hn
          | succ i => simpa using rr.get (by simpa using ed)
        · exact h.get ed
      obtain ⟨v, ev, r⟩ := hv
      exact ⟨v, start_at ev, r⟩
section
variable {Φ : Tab} {c : Cfg} {L : Nat} {P : Program} {w : World} {K : PySem.W.Frag} {mg : Str → Option Value} {base : Heap} {x qual : Str} {params : Arguments} {body : List Stmt} {scope : Scope} {dvs : List V} {kws : List (Str × V)} {fa : Addr} {fd : FuncData} {ps : List Str} {fn : Fn} {ms : List MS}
theorem fnG_body (F : FunD K x qual params body scope dvs kws fa fd) (S : FnScope c.N ps scope) (hps : ps.length = fn.ar) (M : Mdl c P w K mg) (hΦ : ∀ x key io, c.fns.lookup x = some (key, io) → ∃ fn, Φ key = some fn ∧ fn.io = io ∧ FnAt P w K mg base L x fn) (hO : ∀ C m o, Φ.own C m = some o → OwnAt P w K mg base L C m o) {fuel : Nat} (htr : trSs c fuel scope body = ms)
    (hrun : ∀ ds : List D, ds.length = fn.ar → fn.run ds ≠ .stuck → ∃ n, (exB Φ n ms (sl0 fn.io c.N.length ds)).as fn (fn.run ds)) : FnG P w K mg base (L + 1) fa fd ps (spF K fn) := by
  refine fnG_of F S (fun vs H Q E h => ?_) fun cdv A outer s H vs Q E hr hg h => ?_
  · obtain ⟨ds, O, a, h1, _⟩ := h
    rw [h1, hps]
  · obtain ⟨ds, O, a, h1, hdom, h2, h3⟩ := h
    have hpN : ps.length ≤ c.N.length := by have := congrArg List.length S.pre; rw [List.length_take] at this; omega
    obtain ⟨E0, hlen, own⟩ := env0_ok (N := c.N) (by omega) hdom h2
    have hns : fn.run ds ≠ .stuck := fun z => by rw [z] at h3; exact h3
    obtain ⟨n, hn⟩ := hrun ds (by omega) hns
    -- the context
    let X : Cx := cxOf (L2.CX P w) P w K mg base c.N qual scope fa cdv A outer s H E
    have GS : GoodS c Φ L X scope := {
      g := ⟨rfl, rfl, S.nd, rfl, M.free, M.cst, hΦ, hr, hg, hO⟩
      kind := S.kind
      fn := fun _ => rfl
      pass := passes_of rfl
      exc := fun C hC => by
        obtain ⟨B, newId, initId, bmB, a1, a2, a3, a4, a5, a6⟩ := M.exc C hC
        exact ⟨B, newId, initId, bmB, a1, a2, a3, a4, raises_own a5 a6⟩ }
    have tk : Takes X (fun cls d _ H => E cls d H) := takes_of rfl rfl rfl rfl
    refine ⟨WB X body, pss_w, ?_⟩
    have snd := trSs_ok (n := fuel) (ss := body) GS tk n
    rw [htr] at snd
    refine snd O _ _ H _ E0 ?_
    -- what is hidden stays so
    have wr0 : ∀ b, WrA (sl0 fn.io c.N.length ds) (L2.start c.N vs) b → fn.io = true ∧ b = a := fun b z => let ⟨p, q, _⟩ := own b z.own; ⟨p, q⟩
    have hid : ∀ {O' : Addr → Prop} {ρ' : Vn} {σ' : L2.St} {H' : Hp}, Ext (vis (Hid O' ρ' σ') H') (vis O' H') := fun {O' ρ' σ' H'} => vis_ext (fun b z _ => .inl z) fun _ _ _ e => e
    have io0 : ∀ {ρ' : Vn} {σ' : L2.St} {H' : Hp} {O' : Addr → Prop} {d : D}, EnvOk K O' ρ' σ' H' → ρ'[0]? = some (.io d) → fn.io = true → (∀ (i : Nat) (s : Sl), (sl0 fn.io c.N.length ds)[i]? = some s → s.free = false → (∃ s', ρ'[i]? = some s' ∧ s.to s') ∧ σ'[i]? = (L2.start c.N vs)[i]?) → Top K (vis O' H') H' d a := fun {ρ' σ' H' O' d} E' e hio prot => by
      rw [if_pos hio] at h2
      obtain ⟨r, d0, dr, rfl, rfl, ha, t, rr⟩ := h2
      obtain ⟨_, q⟩ := prot 0 (.io d0) (by rw [hio]; simp [sl0]) rfl
      rw [start_at (i := 0) (v := .ref a) rfl] at q
      obtain ⟨a', ea, _, t'⟩ := E'.io 0 d e
      rw [q] at ea; cases ea
      exact t'.ext hid fun o e => e
    cases z : fn.run ds with
    | stuck => exact absurd z hns
    | exn xx s' =>
      rw [z] at hn h3
      obtain ⟨ρ', e1, e2⟩ := hn
      rw [e1]
      intro od σ' H' p
      refine h3 od H' (p.kp.mono fun b z => wr0 b z) (fun hio => io0 p.env (e2 hio) hio p.prot) ?_
      have r := p.rep
      unfold ExnRep at r ⊢
      split
      · rename_i e; rw [e] at r; exact r
      · rename_i fs e
        split at r
        · rename_i e2; exact absurd e2 e
        · obtain ⟨d, ws, a1, b1, c1⟩ := r
          exact ⟨d, ws, a1, b1, c1.ext hid⟩
    | ok d s' =>
      rw [z] at hn h3
      rcases hn with ⟨fl, ρ', e1, e2, e3⟩ | ⟨ρ', e1, rfl, e2, e3⟩
      · rw [e1]
        intro v σ' H' p
        have hres : ResOk K fn.fresh O H H' d v := by
          unfold ResOk
          cases hf : fn.fresh with
          | true =>
            rw [if_pos rfl]
            have hfl := e2 hf
            subst hfl
            obtain ⟨q, rfl, nq, g, t⟩ := p.new rfl
            refine ⟨q, rfl, g.elim (fun z => ?_) id, t.ext hid fun o e => e⟩
            obtain ⟨_, rfl, ha⟩ := own q z
            exact absurd ha nq
          | false =>
            rw [if_neg (by decide)]
            cases fl with
            | false => exact (p.rep rfl).ext hid
            | true =>
              obtain ⟨q, rfl, nq, g, t⟩ := p.new rfl
              exact t.rep (vis_ext (fun b z _ => .inl (.inl z)) fun _ _ _ e => e) fun o e => by rw [vis_at nq]; exact e
        refine h3 v H' (p.kp.mono fun b z => wr0 b z) hres fun hio => ?_
        have t := io0 p.env (e3 hio) hio p.prot
        refine t.ext (vis_ext (fun b z _ => ?_) fun _ _ _ e => e) fun o e => e
        rcases z with z | ⟨z1, z2⟩
        · exact .inl z
        · exact .inr ⟨e2 z1, z2⟩
      · rw [e1]
        intro σ' H' p
        refine h3 .non H' (p.kp.mono fun b z => wr0 b z) ?_ fun hio => ?_
        · unfold ResOk
          rw [e2, if_neg (by decide)]
          simp only [Rep]
        · rw [e2, newO_false]
          exact io0 p.env (e3 hio) hio p.prot
end
end Z

namespace Z
open PySem PySem.Spec L2
open PyProof.Rows hiding St
/-! ### a def of the module -/
theorem fnAt_of {Φ : Tab} {c : Cfg} {L : Nat} {P : Program} {w : World} {K : PySem.W.Frag} {mg : Str → Option Value} {base : Heap} {x qual : Str} {params : Arguments} {body : List Stmt} {scope : Scope} {dvs : List V} {kws : List (Str × V)} {fd : FuncData} {ps : List Str} {fn : Fn} {ms : List MS}
    (F : FunD K x qual params body scope dvs kws (He.ga K x) fd) (S : FnScope c.N ps scope) (hps : ps.length = fn.ar) (gl : mg x = some (.ref (He.ga K x))) (sc : ∀ d ∈ fn.dfl, scalD d = true) (hb : ∀ j, j ≤ fn.dfl.length → ∃ ds, Vals ((fn.dfl.drop j).map vOf) ds ∧ Binds K fd ps ds) (M : Mdl c P w K mg)
    (hΦ : ∀ x key io, c.fns.lookup x = some (key, io) → ∃ fn, Φ key = some fn ∧ fn.io = io ∧ FnAt P w K mg base L x fn) (hO : ∀ C m o, Φ.own C m = some o → OwnAt P w K mg base L C m o) {fuel : Nat} (htr : trSs c fuel scope body = ms)
    (hrun : ∀ ds : List D, ds.length = fn.ar → fn.run ds ≠ .stuck → ∃ n, (exB Φ n ms (sl0 fn.io c.N.length ds)).as fn (fn.run ds)) : FnAt P w K mg base (L + 1) x fn :=
  fnAt_fn sc gl F.kp ⟨fd, ps, hps, fnG_body F S hps M hΦ hO htr hrun, hb⟩
/-- no defaults -/
theorem binds_nil {K : PySem.W.Frag} {fd : FuncData} {ps : List Str} (h : Binds K fd ps []) : ∀ j, j ≤ ([] : List D).length → ∃ ds, Vals ((([] : List D).drop j).map vOf) ds ∧ Binds K fd ps ds := fun j _ => ⟨[], by rw [List.drop_nil]; exact .nil, h⟩
/-! ### the law's end -/
theorem hid_ns {h : Heap} {T : Hp} {p : Addr} {m : Str → Option Value} (plain : ∀ {b : Addr} {o : Obj} {es : Array DictEntry} {ep : Nat}, h.get? b = some o → o.data = .dict es ep → T b = none) (q : h.Ns p m) : (hidT h T).Ns p m :=
  let ⟨o, es, ep, e, dd, r⟩ := q
  ⟨o, es, ep, hidT_get e (plain e dd), dd, r⟩
theorem end_core {P : Program} {w : World} {K : PySem.W.Frag} {mg mb : Str → Option Value} {k : Nat} {f a : Addr} {fd : FuncData} {x : Str} {sp : Sp} {s : Shared} {us : List Value}
    (kin : K.In s.heap) (n1 : s.heap.Ns mainGlobals mg) (n2 : s.heap.Ns builtinsNs mb) (n3 : ∀ y : Str, y ≠ "__name__" → mb y = bootBuiltins y) (n4 : s.heap.NoLimit) (n5 : s.gens = #[])
    (obj : s.heap.get? a = some { cls := .type "list", data := .seq us.toArray }) (room : Room k callerA)
    (F : ∀ base : Heap, K.In base → base.Ns mainGlobals mg → FnG P w K mg base k f fd [x] sp) (bnd : ∀ (s : Shared) (u : Value), BindsTo s fd ⟨[u], []⟩ [(x, u)])
    (T : Hp) (only : ∀ b, T b = none ∨ ∃ o xs, T b = some (.frz o (.lst xs))) (good : HOk P w T s.heap) (one : ∀ b, T b ≠ none → b = a) (apart : T a ≠ none → K.lookup a = none) (pr : sp [.ref a] T (fun v _ => v = .bl true) fun _ _ _ => False) :
    codeAny (model P w) callerA (.call (.ref f) ⟨[.ref a], []⟩) (fun r s2 => r = .ok (.ret (.bool true)) ∧ OldK s.heap s2.heap ∧ s2.os = s.os ∧ AllBare s2.gens) s := by
  have plain : ∀ {b : Addr} {o : Obj} {es : Array DictEntry} {ep : Nat}, s.heap.get? b = some o → o.data = .dict es ep → T b = none := fun {b o es ep} e dd => by
    cases z : T b with
    | none => rfl
    | some u =>
      have hb := one b (by rw [z]; exact Option.some_ne_none u)
      subst hb
      rw [obj] at e
      cases e
      exact Data.noConfusion dd
  have kin2 : K.In (hidT s.heap T) := fun b o e => by
    refine hidT_get (kin b o e) ?_
    cases z : T b with
    | none => rfl
    | some u =>
      have hb := one b (by rw [z]; exact Option.some_ne_none u)
      subst hb
      rw [apart (by rw [z]; exact Option.some_ne_none u)] at e
      cases e
  obtain ⟨mc, l1, l2⟩ := n4
  have env : Env0 P w K mg (hidT s.heap T) callerA [] s T := ⟨rfl, ⟨kin2, hid_ns plain n1, ⟨mb, hid_ns plain n2, n3⟩, ⟨mc, hid_ns plain l1, l2⟩⟩, fun _ _ e => of_hidT e, Nat.le_of_eq (hidT_size s.heap T), trivial, fun _ z => (List.not_mem_nil z).elim, good, .of_eq n5⟩
  have main := (F _ kin2 (hid_ns plain n1)).run callerA [] s T ⟨[.ref a], []⟩ [.ref a] [.ref a] (fun v _ => v = .bl true) (fun _ _ _ => False) room rfl env (bnd s (.ref a)) (.cons rfl .nil) pr
  refine codeAny_mono main fun r s2 z => ?_
  match r, z with
  | .error e, z => exact (let ⟨_, _, _, _, _, _, _, _, _, _, _, _, no⟩ := z; no : False).elim
  | .ok (.ret u), z =>
    obtain ⟨v, T2, z1, z2, z3, z4, z5, z6⟩ := z
    have z6 : v = .bl true := z6
    subst z6
    cases (show u = Value.bool true from z5)
    refine ⟨rfl, OldK.of_keep fun b o e => ?_, z1, z2⟩
    rcases only b with zn | ⟨ob, xs, zs⟩
    · exact z3.keep b o e zn (fun y => (List.not_mem_nil y).elim) (List.not_mem_nil)
    · have y1 := (good b _ zs).1
      have y2 := (z4 b _ (z3.frzs b ob _ zs)).1
      rw [e] at y1
      cases y1
      exact y2
  | .ok .next, z => exact z.elim
  | .ok .brk, z => exact z.elim
  | .ok .cont, z => exact z.elim
theorem end_law {l : PySem.W.OpenLaw} {n k : Nat} {q : Program} {loose : List Str} {XP : (Str → Option Value) → Heap → Prop} {YP : World → Heap → Prop} {d : DefRec} {x : Str} {fn : Fn}
    (most : l.most = some n) (small : n ≤ sizeLine) (nodfl : d.params.defaults = []) (room : Room k callerA) (ar : fn.ar = 1) (io : fn.io = false) (fr : fn.fresh = false) (holds : ∀ ns : List Int, ns.length ≤ n → ∃ s, fn.run [.lst (ns.map D.int)] = .ok (.bl true) s)
    (F : ∀ (w : World) (mg : Str → Option Value) (f : Addr) (h : Heap), YP w h → h.Ns mainGlobals mg → mg d.name = some (.ref f) →
      ∃ (K : PySem.W.Frag) (fd : FuncData), K.In h ∧ (∀ (s : Shared) (u : Value), BindsTo s fd ⟨[u], []⟩ [(x, u)]) ∧ ∀ base : Heap, K.In base → base.Ns mainGlobals mg → FnG l.prog w K mg base k f fd [x] (spF K fn)) :
    PySem.W.WalkO q loose XP YP l.row.toRowW d [] (fun f vs => PySem.call f vs) := by
  refine Att.attach_call most nodfl fun w s0 s mg mb f o pm cd doc a us ns G Y _ _ _ hmg obj hin hlen gens => ?_
  obtain ⟨K, fd, kin, bnd, FG⟩ := F w mg f _ Y G.T.g hmg
  have hz : ns.length ≤ sizeLine := Nat.le_trans hlen small
  have rv : Vals (ns.map V.int) us := vals_ints hin
  have pr : ∀ T : Hp, SqL K T a (ns.map V.int) → spF K fn [.ref a] T (fun v _ => v = .bl true) fun _ _ _ => False := fun T hs => by
    refine ⟨[.lst (ns.map D.int)], fun _ => False, 0, by rw [ar]; rfl, fun _ z => z.elim, ?_, ?_⟩
    · rw [io, if_neg (by decide)]
      simp only [Reps, Rep]
      have ri : Reps K (vis (fun _ => False) T) (ns.map D.int) (ns.map V.int) := by
        clear hs rv hz hlen hin
        induction ns with
        | nil => simp [Reps]
        | cons i ns ih => simp only [List.map_cons, Reps, Rep]; exact ⟨_, _, rfl, rfl, ih⟩
      exact ⟨.ref a, [], rfl, ⟨a, _, rfl, sqL_ext (Ext.of fun b o e => by rw [vis_at (fun z => z)]; exact e) hs, ri⟩, rfl⟩
    · obtain ⟨s1, e⟩ := holds ns hlen
      rw [e]
      intro v H' _ r _
      unfold ResOk at r
      rw [fr, if_neg (by decide)] at r
      exact r
  cases lk : K.lookup a with
  | some o =>
    have e := kin a o lk
    rw [obj] at e
    cases e
    exact end_core kin G.T.g G.T.b G.T.builtins G.T.nolimit gens obj room FG bnd (fun _ => none) (fun _ => .inl rfl) (fun _ _ z => by cases z) (fun _ z => (z rfl).elim) (fun z => (z rfl).elim)
      (pr _ (.inr ⟨_, us.toArray, _, lk, rfl, rfl, rfl, by rw [List.size_toArray, hin.length]; exact hz, by rw [List.toList_toArray]; exact rv⟩))
  | none =>
    have at_ : ∀ {b : Addr} {u : HO}, (if b = a then some (HO.frz { cls := .type "list", data := .seq us.toArray } (.lst (ns.map V.int))) else none) = some u → b = a ∧ u = HO.frz { cls := .type "list", data := .seq us.toArray } (.lst (ns.map V.int)) := fun {b u} z => by
      split at z
      · rename_i hb
        exact ⟨hb, (Option.some.inj z).symm⟩
      · cases z
    refine end_core kin G.T.g G.T.b G.T.builtins G.T.nolimit gens obj room FG bnd (fun b => if b = a then some (.frz { cls := .type "list", data := .seq us.toArray } (.lst (ns.map V.int))) else none) (fun b => ?_) (fun b u z => ?_) (fun b z => ?_) (fun _ => lk) (pr _ (.inl (.inr ⟨_, if_pos rfl⟩)))
    · by_cases hb : b = a
      · subst hb; exact .inr ⟨_, _, if_pos rfl⟩
      · exact .inl (if_neg hb)
    · obtain ⟨hb, hu⟩ := at_ z
      subst hb hu
      exact ⟨obj, by rw [List.length_map]; exact hz, us, _, rv, obj⟩
    · refine Classical.byContradiction fun hb => z (if_neg hb)
end Z

namespace Z
open PySem PySem.Spec L2
open PyProof.Rows hiding St
/-! ### defs that are what their bodies do -/
def fuelN : Nat := 1000000
def io0 (io : Bool) (ρ : Vn) : Option D := if io then (match (ρ[0]? : Option Sl) with
  | some (.io s) => some s
  | _ => none) else some .non
def Out.fr (o : Out) (io fresh : Bool) : FRes := match o with
  | .rt fl d ρ => if fresh && !fl then .stuck else (match io0 io ρ with
    | some s => .ok d s
    | none => .stuck)
  | .nx ρ => if fresh then .stuck else (match io0 io ρ with
    | some s => .ok .non s
    | none => .stuck)
  | .exn x ρ => (match io0 io ρ with
    | some s => .exn x s
    | none => .stuck)
  | _ => .stuck
def tbl (l : List (String × Fn)) : Tab := ⟨fun s => l.lookup s, fun _ _ => none⟩
def tblO (l : List (String × Fn)) (o : List (Str × Str × OwnM)) : Tab := ⟨fun s => l.lookup s, fun C m => (o.find? fun x => decide (x.1 = C) && decide (x.2.1 = m)).map (·.2.2)⟩
def mkFn (io fresh : Bool) (ar : Nat) (dfl : List D) (n : Nat) (ms : List MS) (Φ : Tab) : Fn :=
  ⟨io, fresh, ar, dfl, fun ds => (exB Φ fuelN ms (sl0 io n ds)).fr io fresh⟩
theorem io0_at {io : Bool} {ρ : Vn} {s : D} (h : io0 io ρ = some s) : io = true → ρ[0]? = some (.io s) := fun e => by
  subst e
  unfold io0 at h
  rw [if_pos rfl] at h
  split at h
  · cases h; assumption
  · cases h
theorem mk_run {io fresh : Bool} {ar : Nat} {dfl : List D} {n : Nat} {ms : List MS} {Φ : Tab} (ds : List D) : (mkFn io fresh ar dfl n ms Φ).run ds ≠ .stuck → ∃ k, (exB Φ k ms (sl0 (mkFn io fresh ar dfl n ms Φ).io n ds)).as (mkFn io fresh ar dfl n ms Φ) ((mkFn io fresh ar dfl n ms Φ).run ds) := by
  intro h
  refine ⟨fuelN, ?_⟩
  have e : (mkFn io fresh ar dfl n ms Φ).run ds = (exB Φ fuelN ms (sl0 io n ds)).fr io fresh := rfl
  rw [e] at h ⊢
  show (exB Φ fuelN ms (sl0 io n ds)).as _ _
  generalize exB Φ fuelN ms (sl0 io n ds) = o at h
  cases o with
  | rt fl d ρ =>
    unfold Out.fr at h ⊢
    simp only at h ⊢
    split at h
    · exact absurd rfl h
    · rename_i hc
      rw [if_neg hc]
      cases z : io0 io ρ with
      | none => rw [z] at h; exact absurd rfl h
      | some s => exact .inl ⟨fl, ρ, rfl, fun e => by
          have e : fresh = true := e
          rw [e] at hc
          simpa using hc, io0_at z⟩
  | nx ρ =>
    unfold Out.fr at h ⊢
    simp only at h ⊢
    split at h
    · exact absurd rfl h
    · rename_i hc
      rw [if_neg hc]
      cases z : io0 io ρ with
      | none => rw [z] at h; exact absurd rfl h
      | some s => exact .inr ⟨ρ, rfl, rfl, (by simpa using hc : fresh = false), io0_at z⟩
  | exn x ρ =>
    unfold Out.fr at h ⊢
    simp only at h ⊢
    cases z : io0 io ρ with
    | none => rw [z] at h; exact absurd rfl h
    | some s => exact ⟨ρ, rfl, io0_at z⟩
  | _ => exact absurd rfl h
section
variable {Φ : Tab} {c : Cfg} {L : Nat} {P : Program} {w : World} {K : PySem.W.Frag} {mg : Str → Option Value} {base : Heap} {x qual : Str} {params : Arguments} {body : List Stmt} {scope : Scope} {dvs : List V} {kws : List (Str × V)} {fa : Addr} {fd : FuncData} {ps : List Str} {ms : List MS} {io fresh : Bool} {ar : Nat} {dfl : List D}
theorem mk_body (F : FunD K x qual params body scope dvs kws fa fd) (S : FnScope c.N ps scope) (hps : ps.length = ar) (M : Mdl c P w K mg) (hΦ : ∀ x key io, c.fns.lookup x = some (key, io) → ∃ fn, Φ key = some fn ∧ fn.io = io ∧ FnAt P w K mg base L x fn) (hO : ∀ C m o, Φ.own C m = some o → OwnAt P w K mg base L C m o) {fuel : Nat} (htr : trSs c fuel scope body = ms) :
    FnG P w K mg base (L + 1) fa fd ps (spF K (mkFn io fresh ar dfl c.N.length ms Φ)) := fnG_body F S hps M hΦ hO htr fun ds _ h => mk_run ds h
theorem fnAt_mk (F : FunD K x qual params body scope dvs kws (He.ga K x) fd) (S : FnScope c.N ps scope) (hps : ps.length = ar) (gl : mg x = some (.ref (He.ga K x))) (sc : ∀ d ∈ dfl, scalD d = true) (hb : ∀ j, j ≤ dfl.length → ∃ ds, Vals ((dfl.drop j).map vOf) ds ∧ Binds K fd ps ds) (M : Mdl c P w K mg)
    (hΦ : ∀ x key io, c.fns.lookup x = some (key, io) → ∃ fn, Φ key = some fn ∧ fn.io = io ∧ FnAt P w K mg base L x fn) (hO : ∀ C m o, Φ.own C m = some o → OwnAt P w K mg base L C m o) {fuel : Nat} (htr : trSs c fuel scope body = ms) : FnAt P w K mg base (L + 1) x (mkFn io fresh ar dfl c.N.length ms Φ) :=
  fnAt_fn sc gl F.kp ⟨fd, ps, hps, mk_body F S hps M hΦ hO htr, hb⟩
end
/-! ### tables, row by row -/
section
variable {Φ : Tab} {L : Nat} {P : Program} {w : World} {K : PySem.W.Frag} {mg : Str → Option Value} {base : Heap}
theorem fns_nil : ∀ (x : Str) (key : String) (io : Bool), ([] : List (Str × String × Bool)).lookup x = some (key, io) → ∃ fn, Φ key = some fn ∧ fn.io = io ∧ FnAt P w K mg base L x fn := fun _ _ _ h => by cases h
theorem fns_cons {y : Str} {k0 : String} {b0 : Bool} {r : List (Str × String × Bool)} (h0 : ∃ fn, Φ k0 = some fn ∧ fn.io = b0 ∧ FnAt P w K mg base L y fn) (hr : ∀ (x : Str) (key : String) (io : Bool), r.lookup x = some (key, io) → ∃ fn, Φ key = some fn ∧ fn.io = io ∧ FnAt P w K mg base L x fn) :
    ∀ (x : Str) (key : String) (io : Bool), ((y, k0, b0) :: r).lookup x = some (key, io) → ∃ fn, Φ key = some fn ∧ fn.io = io ∧ FnAt P w K mg base L x fn := fun x key io h => by
  rw [List.lookup_cons] at h
  split at h
  · rename_i e
    rw [beq_iff_eq] at e
    subst e
    cases h; exact h0
  · exact hr x key io h
theorem own_nil {t : List (String × Fn)} : ∀ (C m : Str) (o : OwnM), (tbl t).own C m = some o → OwnAt P w K mg base L C m o := fun _ _ _ h => by cases h
theorem free_nil : ∀ x : Str, ([] : List Str).contains x = true → mg x = none := fun _ h => by simp at h
theorem free_cons {y : Str} {r : List Str} (h0 : mg y = none) (hr : ∀ x : Str, r.contains x = true → mg x = none) : ∀ x : Str, (y :: r).contains x = true → mg x = none := fun x h => by
  rw [List.contains_cons, Bool.or_eq_true] at h
  rcases h with h | h
  · rw [beq_iff_eq] at h; subst h; exact h0
  · exact hr x h
theorem cst_nil : ∀ (x : Str) (d : D), ([] : List (Str × D)).lookup x = some d → scalD d = true ∧ ∃ u, mg x = some u ∧ RelV (vOf d) u := fun _ _ h => by cases h
theorem cst_cons {y : Str} {d0 : D} {r : List (Str × D)} (h0 : scalD d0 = true ∧ ∃ u, mg y = some u ∧ RelV (vOf d0) u) (hr : ∀ (x : Str) (d : D), r.lookup x = some d → scalD d = true ∧ ∃ u, mg x = some u ∧ RelV (vOf d) u) : ∀ (x : Str) (d : D), ((y, d0) :: r).lookup x = some d → scalD d = true ∧ ∃ u, mg x = some u ∧ RelV (vOf d) u := fun x d h => by
  rw [List.lookup_cons] at h
  split at h
  · rename_i e
    rw [beq_iff_eq] at e
    subst e
    cases h; exact h0
  · exact hr x d h
theorem cst_int {y : Str} {i : Int} (h : ∃ t, mg y = some (.int i t)) : scalD (.int i) = true ∧ ∃ u, mg y = some u ∧ RelV (vOf (.int i)) u := let ⟨t, e⟩ := h; ⟨rfl, _, e, t, rfl⟩
theorem cst_str {y z : Str} (h : ∃ t, mg y = some (.str z t)) : scalD (.str z) = true ∧ ∃ u, mg y = some u ∧ RelV (vOf (.str z)) u := let ⟨t, e⟩ := h; ⟨rfl, _, e, t, rfl⟩
abbrev ExcAt (K : PySem.W.Frag) (mg : Str → Option Value) (C : Str) : Prop := ∃ (B newId initId : String) (bmB : List Value), ExcBaseFacts B newId initId bmB ∧ PySem.W.excIn K (He.ga K C) bmB newId = true ∧ mg C = some (.ref (He.ga K C)) ∧ PySem.W.keepIn K (.ref (He.ga K C)) = true ∧ PySem.W.subIn K (.ref (He.ga K C)) (.type "BaseException") = some true ∧ PySem.W.typeIn K (.ref (He.ga K C)) = some (.type "type")
theorem exc_nil : ∀ C : Str, ([] : List Str).contains C = true → ExcAt K mg C := fun _ h => by simp at h
theorem exc_cons {y : Str} {r : List Str} (g : mg y = some (.ref (He.ga K y))) (h0 : PySem.W.excIn K (He.ga K y) He.veBase "ValueError.__new__" = true ∧ PySem.W.keepIn K (.ref (He.ga K y)) = true ∧ PySem.W.subIn K (.ref (He.ga K y)) (.type "BaseException") = some true ∧ PySem.W.typeIn K (.ref (He.ga K y)) = some (.type "type"))
    (hr : ∀ C : Str, r.contains C = true → ExcAt K mg C) : ∀ C : Str, (y :: r).contains C = true → ExcAt K mg C := fun x h => by
  rw [List.contains_cons, Bool.or_eq_true] at h
  rcases h with h | h
  · rw [beq_iff_eq] at h; subst h
    obtain ⟨a, b, c, d⟩ := h0
    exact ⟨"ValueError", "ValueError.__new__", "ValueError.__init__", He.veBase, PySem.F.excBase_ValueError, a, g, b, c, d⟩
  · exact hr x h
end
end Z

namespace Z
open PySem PySem.Spec L2
open PyProof.Rows hiding St
/-! ### what runs by itself -/
section
variable {Φ : Tab}
@[simp] theorem cmpF_eq (op : CmpOp) (x y : D) (ρ : Vn) : cmpF op x y ρ = ofOpt (cmpD op x y) ρ := rfl
@[simp] theorem memF_eq (g : Bool) (x y : D) (ρ : Vn) : memF g x y ρ = (ofOpt (memD x y) ρ).bind fun b ρ => .ok (if g then !b else b) ρ := rfl
@[simp] theorem biF_eq (f : String) (ds : List D) (ρ : Vn) : biF f ds ρ = ofOpt (biD f ds) ρ := rfl
@[simp] theorem binF_eq (op : Operator) (x y : D) (ρ : Vn) : binF op x y ρ = ofOpt (binD op x y) ρ := rfl
@[simp] theorem noXif_nx (ρ : Vn) (b : Bool) : (Out.nx ρ).noXif b = .nx ρ := rfl
@[simp] theorem noXif_rt (fl : Bool) (d : D) (ρ : Vn) (b : Bool) : (Out.rt fl d ρ).noXif b = .rt fl d ρ := rfl
@[simp] theorem noXif_bk (ρ : Vn) (b : Bool) : (Out.bk ρ).noXif b = .bk ρ := rfl
@[simp] theorem noXif_ct (ρ : Vn) (b : Bool) : (Out.ct ρ).noXif b = .ct ρ := rfl
@[simp] theorem noXif_exn (x : Exn) (ρ : Vn) : (Out.exn x ρ).noXif false = .exn x ρ := rfl
@[simp] theorem setAt_eq (ρ : Vn) (i : Nat) : setAt ρ i = (match ρ[i]? with
  | some (.own (.lst _)) => true
  | some (.io (.lst _)) => true
  | some (.own (.dct _)) => true
  | some (.io (.dct _)) => true
  | _ => false) := rfl
@[simp] theorem setD_lst (ds : List D) (j : Int) (x : D) : setD (.lst ds) (.int j) x = if 0 ≤ j ∧ j < ds.length then some (.lst (ds.set j.toNat x)) else none := rfl
@[simp] theorem setD_dct (kvs : List (Key × D)) (k x : D) : setD (.dct kvs) k x = if kvs.length < lim then (keyD k).map fun k => .dct (putD kvs k x) else none := rfl
@[simp] theorem dctSrc_l (ds : List D) : dctSrc [.lst ds] = false := rfl
@[simp] theorem dctSrc_t (ds : List D) : dctSrc [.tup ds] = false := rfl
@[simp] theorem dctSrc_i (i : Int) : dctSrc [.int i] = false := rfl
@[simp] theorem dctSrc_d (ds : List (Key × D)) : dctSrc [.dct ds] = true := rfl
end
/-! ### calls, by what the def does -/
theorem callF_ok {Φ : Tab} {f : String} {fn : Fn} {ds : List D} {ρ : Vn} {d s : D} (h : Φ f = some fn) (io : fn.io = false) (ar : ds.length = fn.ar) (r : fn.run ds = .ok d s) : callF Φ f ds ρ = .ok (fn.fresh, d) ρ := by
  unfold callF
  rw [h]
  simp only [io, Bool.false_eq_true, if_false]
  rw [if_pos ⟨by omega, by omega⟩, show fn.dfl.length - (fn.ar - ds.length) = fn.dfl.length by omega, List.drop_length, List.append_nil, r]
theorem callIo_own {Φ : Tab} {f : String} {fn : Fn} {i : Nat} {ds : List D} {ρ : Vn} {d0 d s : D} (h : Φ f = some fn) (io : fn.io = true) (ar : ds.length + 1 = fn.ar) (hi : ρ[i]? = some (.own d0)) (r : fn.run (d0 :: ds) = .ok d s) : callIo Φ f i ds ρ = .ok (fn.fresh, d) (ρ.set i (.own s)) := by
  unfold callIo
  rw [h, hi]
  simp only
  rw [if_pos ⟨io, ar⟩, r]
theorem callIo_io {Φ : Tab} {f : String} {fn : Fn} {i : Nat} {ds : List D} {ρ : Vn} {d0 d s : D} (h : Φ f = some fn) (io : fn.io = true) (ar : ds.length + 1 = fn.ar) (hi : ρ[i]? = some (.io d0)) (r : fn.run (d0 :: ds) = .ok d s) : callIo Φ f i ds ρ = .ok (fn.fresh, d) (ρ.set i (.io s)) := by
  unfold callIo
  rw [h, hi]
  simp only
  rw [if_pos ⟨io, ar⟩, r]
/-! ### equality of plain data -/
theorem eqD_of {x y : D} {b : Bool} (h : eqP x y = some b) : eqD x y = some b := by
  unfold eqD
  rw [h]
theorem neD_of {x y : D} {b : Bool} (h : eqP x y = some b) : neD x y = some (!b) := by
  unfold neD
  rw [h]
@[simp] theorem eqP_int (i j : Int) : eqP (.int i) (.int j) = some (decide (i = j)) := by
  have h : ∀ k : Int, SeqAt.shaped (.int k) = true := fun k => by simp [SeqAt.shaped, PyData.canLay0, PyData.depth]
  unfold eqP
  simp only [D.py, h, Bool.and_self, if_true, PyData.eqv]
  rfl
@[simp] theorem eqP_bl (i j : Bool) : eqP (.bl i) (.bl j) = some (decide (i = j)) := by
  have h : ∀ k : Bool, SeqAt.shaped (.bool k) = true := fun k => by simp [SeqAt.shaped, PyData.canLay0, PyData.depth]
  unfold eqP
  simp only [D.py, h, Bool.and_self, if_true, PyData.eqv]
  rfl
@[simp] theorem eqP_pair (a b c d : Int) : eqP (.tup [.int a, .int b]) (.tup [.int c, .int d]) = some (decide (a = c ∧ b = d)) := by
  have h : ∀ a b : Int, SeqAt.shaped (.tuple [.int a, .int b]) = true := fun a b => by simp [SeqAt.shaped, PyData.canLay0, PyData.canLayAll0, PyData.depth, PyData.depthAll]
  unfold eqP
  simp only [D.py, pyAll, h, Bool.and_self, if_true, PyData.eqv, PyData.eqvAll, Bool.and_true]
  by_cases h1 : a = c <;> by_cases h2 : b = d <;> simp [h1, h2]
@[simp] theorem eqD_int (i j : Int) : eqD (.int i) (.int j) = some (decide (i = j)) := eqD_of (eqP_int i j)
@[simp] theorem eqD_bl (i j : Bool) : eqD (.bl i) (.bl j) = some (decide (i = j)) := eqD_of (eqP_bl i j)
@[simp] theorem eqD_pair (a b c d : Int) : eqD (.tup [.int a, .int b]) (.tup [.int c, .int d]) = some (decide (a = c ∧ b = d)) := eqD_of (eqP_pair a b c d)
@[simp] theorem neD_int (i j : Int) : neD (.int i) (.int j) = some (!decide (i = j)) := neD_of (eqP_int i j)
@[simp] theorem neD_bl (i j : Bool) : neD (.bl i) (.bl j) = some (!decide (i = j)) := neD_of (eqP_bl i j)
@[simp] theorem neD_pair (a b c d : Int) : neD (.tup [.int a, .int b]) (.tup [.int c, .int d]) = some (!decide (a = c ∧ b = d)) := neD_of (eqP_pair a b c d)
/-! ### the text of data -/
mutual
def szD : D → Nat
  | .non => 4
  | .bl _ => 5
  | .int i => if i.natAbs.log2 < 1920 then i.natAbs.log2 + 3 else 10000000
  | .tup ds => szL ds + 3
  | .lst ds => szL ds + 3
  | _ => 10000000
def szL : List D → Nat
  | [] => 0
  | d :: ds => szD d + 2 + szL ds
end
mutual
def dpD : D → Nat
  | .tup ds => dpL ds + 1
  | .lst ds => dpL ds + 1
  | _ => 0
def dpL : List D → Nat
  | [] => 0
  | d :: ds => max (dpD d) (dpL ds)
end
mutual
theorem sz_ok : ∀ {d : D}, szD d ≤ lim → ∃ p, d.py = some p ∧ PyData.showable p = true ∧ p.hasDict = false ∧ p.depth ≤ dpD d + 1 ∧ p.shown.length ≤ szD d
  | .non, _ => ⟨.none, rfl, rfl, by simp [PyData.hasDict], by simp [PyData.depth], by decide +kernel⟩
  | .bl b, _ => ⟨.bool b, rfl, rfl, by simp [PyData.hasDict], by simp [PyData.depth], by cases b <;> decide +kernel⟩
  | .int i, h => by
    simp only [szD] at h ⊢
    split at h
    · rename_i hc
      refine ⟨.int i, rfl, by simp only [PyData.showable, decide_eq_true_eq]; exact hc, by simp [PyData.hasDict], by simp [PyData.depth], ?_⟩
      rw [if_pos hc]
      have := int_text_length_le (a := i) (k := i.natAbs.log2 + 1) (by omega) (by omega)
      have e : (PyData.int i).shown.length = (toString i).length := by
        show (Str.ofString (toString i)).length = _
        rw [Str.ofString_eq_toList]
        show ((toString i).toList.map Char.toNat).toArray.size = _
        rw [List.size_toArray, List.length_map, String.length_toList]
      omega
    · simp only [lim] at h; omega
  | .tup ds, h => by
    simp only [szD] at h ⊢
    obtain ⟨ps, h1, h2, h3, h4, h5, h6⟩ := szL_ok (ds := ds) (by omega)
    refine ⟨.tuple ps, by simp only [D.py, h1], by simp only [PyData.showable]; exact h2, by simp only [PyData.hasDict]; exact h3, by simp only [PyData.depth, dpD]; omega, ?_⟩
    have := tupleText_len_le (PyData.shownAll ps)
    show (tupleText (PyData.shownAll ps)).length ≤ _
    omega
  | .lst ds, h => by
    simp only [szD] at h ⊢
    obtain ⟨ps, h1, h2, h3, h4, h5, h6⟩ := szL_ok (ds := ds) (by omega)
    refine ⟨.list ps, by simp only [D.py, h1], by simp only [PyData.showable]; exact h2, by simp only [PyData.hasDict]; exact h3, by simp only [PyData.depth, dpD]; omega, ?_⟩
    have := listText_len_le (PyData.shownAll ps)
    show (listText (PyData.shownAll ps)).length ≤ _
    omega
  | .str _, h => by simp [szD, lim] at h
  | .dct _, h => by simp [szD, lim] at h
  | .dcT _, h => by simp [szD, lim] at h
  | .ins _ _, h => by simp [szD, lim] at h
theorem szL_ok : ∀ {ds : List D}, szL ds ≤ lim → ∃ ps, pyAll ds = some ps ∧ PyData.showableAll ps = true ∧ PyData.hasDictAll ps = false ∧ PyData.depthAll ps ≤ dpL ds + 1 ∧ ((PyData.shownAll ps).map (·.length)).sum + 2 * (PyData.shownAll ps).length ≤ szL ds ∧ True
  | [], _ => ⟨[], rfl, rfl, rfl, by simp [PyData.depthAll], by simp [PyData.shownAll], trivial⟩
  | d :: ds, h => by
    simp only [szL] at h ⊢
    obtain ⟨p, a1, a2, a3, a4, a5⟩ := sz_ok (d := d) (by omega)
    obtain ⟨ps, b1, b2, b3, b4, b5, _⟩ := szL_ok (ds := ds) (by omega)
    refine ⟨p :: ps, by simp only [pyAll, a1, b1], by simp only [PyData.showableAll, a2, b2, Bool.and_self], by simp only [PyData.hasDictAll, a3, b3, Bool.or_self], by simp only [PyData.depthAll, dpL]; omega, ?_, trivial⟩
    simp only [PyData.shownAll, List.map_cons, List.sum_cons, List.length_cons]
    omega
end
/-- the text of data -/
def rpD (d : D) : Str := match d.py with
  | some p => p.shown
  | none => .empty
theorem bi_repr {d : D} (h1 : szD d ≤ lim) (h2 : dpD d ≤ 50) : biD "repr" [d] = some (false, .str (rpD d)) := by
  obtain ⟨p, a1, a2, a3, a4, a5⟩ := sz_ok h1
  have e : biD "repr" [d] = match d.py with
    | some p => if PyData.showable p && !p.hasDict && decide (p.depth ≤ 60) && decide (p.shown.length ≤ lim) then some (false, .str p.shown) else none
    | none => none := by
    cases d <;> rfl
  rw [e, a1]
  simp only [a2, a3, Bool.not_false, Bool.and_self, Bool.true_and, rpD, a1]
  rw [decide_eq_true (show p.depth ≤ 60 by omega), decide_eq_true (show p.shown.length ≤ lim by omega)]
  rfl
theorem log2_le {n k : Nat} (h : n < 2 ^ (k + 1)) : n.log2 ≤ k := by
  by_cases h0 : n = 0
  · subst h0; simp
  · have := (Nat.log2_lt h0).mpr h
    omega
theorem mulOk_of {i j : Int} {a b : Nat} (hi : i.natAbs < 2 ^ (a + 1)) (hj : j.natAbs < 2 ^ (b + 1)) (h : a + b < 100000000) : mulOk i j = true := by
  have h1 := log2_le hi
  have h2 := log2_le hj
  unfold mulOk
  exact decide_eq_true (by omega)
/-! ### loops -/
theorem forGo_nx {tg : MT} {body : Vn → Out} (I : Nat → Vn → Prop) : ∀ {xs : List D} {i : Nat} {ρ : Vn}, I i ρ → (∀ j d ρ, xs[j]? = some d → I (i + j) ρ → ∃ ρ1 ρ2, asgT tg d ρ = some ρ1 ∧ body ρ1 = .nx ρ2 ∧ I (i + j + 1) ρ2) → ∃ ρ', forGo tg body xs ρ = .nx ρ' ∧ I (i + xs.length) ρ'
  | [], i, ρ, h, _ => ⟨ρ, rfl, by simpa using h⟩
  | d :: xs, i, ρ, h, st => by
    obtain ⟨ρ1, ρ2, e1, e2, h2⟩ := st 0 d ρ rfl (by simpa using h)
    obtain ⟨ρ', e3, h3⟩ := forGo_nx (tg := tg) (body := body) I (xs := xs) (i := i + 1) (ρ := ρ2) (by simpa using h2) fun j d ρ e g => by
      have := st (j + 1) d ρ (by simpa using e) (by rw [show i + (j + 1) = i + 1 + j by omega]; exact g)
      rw [show i + (j + 1) + 1 = i + 1 + j + 1 by omega] at this
      exact this
    refine ⟨ρ', ?_, ?_⟩
    · simp only [forGo, e1, e2]; exact e3
    · rw [List.length_cons, show i + (xs.length + 1) = i + 1 + xs.length by omega]; exact h3
/-- Euclid's steps -/
theorem euclid {W : Nat → Nat → Nat → Out} {R : Nat → Out} (base : ∀ m a, W (m + 1) a 0 = R a) (step : ∀ m a b, 0 < b → W (m + 1) a b = W m b (a % b)) : ∀ k a b, b < 2 ^ k → ∀ j, W (2 * k + 1 + j) a b = R (Nat.gcd a b) := by
  intro k
  induction k with
  | zero =>
    intro a b h j
    have : b = 0 := by simpa using h
    subst this
    rw [Nat.gcd_zero_right, show 2 * 0 + 1 + j = j + 1 by omega, base]
  | succ k ih =>
    intro a b h j
    by_cases hb : b = 0
    · subst hb
      rw [Nat.gcd_zero_right, show 2 * (k + 1) + 1 + j = (2 * k + 2 + j) + 1 by omega, base]
    · have h1 : 0 < b := by omega
      rw [show 2 * (k + 1) + 1 + j = (2 * k + 2 + j) + 1 by omega, step _ _ _ h1, Nat.gcd_comm a b, Nat.gcd_rec b a, Nat.gcd_comm]
      by_cases hr : a % b = 0
      · rw [hr, Nat.gcd_zero_right, show 2 * k + 2 + j = (2 * k + 1 + j) + 1 by omega, base]
      · have h2 : 0 < a % b := by omega
        have h3 : a % b < b := Nat.mod_lt _ h1
        have h4 : b % (a % b) < 2 ^ k := by
          have q1 : b % (a % b) < a % b := Nat.mod_lt _ h2
          have q2 : b % (a % b) ≤ b - a % b := by
            rw [Nat.mod_eq_sub_mod (by omega)]
            exact Nat.mod_le _ _
          rw [Nat.pow_succ] at h
          omega
        rw [show 2 * k + 2 + j = (2 * k + 1 + j) + 1 by omega, step _ _ _ h2, ih _ _ h4 j, Nat.gcd_comm b, Nat.gcd_rec (a % b) b, Nat.gcd_comm]
end Z

namespace Z
open PySem PySem.Spec L2
open PyProof.Rows hiding St
/-! ### operators, case by case -/
@[simp] theorem c_lt (i j : Int) : cmpD .Lt (.int i) (.int j) = some (decide (i < j)) := rfl
@[simp] theorem c_le (i j : Int) : cmpD .LtE (.int i) (.int j) = some (decide (i ≤ j)) := rfl
@[simp] theorem c_gt (i j : Int) : cmpD .Gt (.int i) (.int j) = some (decide (j < i)) := rfl
@[simp] theorem c_ge (i j : Int) : cmpD .GtE (.int i) (.int j) = some (decide (j ≤ i)) := rfl
@[simp] theorem c_eq (i j : Int) : cmpD .Eq (.int i) (.int j) = some (decide (i = j)) := eqD_int i j
@[simp] theorem c_ne (i j : Int) : cmpD .NotEq (.int i) (.int j) = some (!decide (i = j)) := neD_int i j
@[simp] theorem c_eqb (i j : Bool) : cmpD .Eq (.bl i) (.bl j) = some (decide (i = j)) := eqD_bl i j
@[simp] theorem c_neb (i j : Bool) : cmpD .NotEq (.bl i) (.bl j) = some (!decide (i = j)) := neD_bl i j
@[simp] theorem c_eqs (i j : Str) : cmpD .Eq (.str i) (.str j) = some (decide (i = j)) := rfl
@[simp] theorem c_nes (i j : Str) : cmpD .NotEq (.str i) (.str j) = some (!decide (i = j)) := rfl
@[simp] theorem c_eqp (a b c d : Int) : cmpD .Eq (.tup [.int a, .int b]) (.tup [.int c, .int d]) = some (decide (a = c ∧ b = d)) := eqD_pair a b c d
@[simp] theorem c_isn (x : D) : cmpD .Is x .non = some (isNonD x) := by cases x <;> rfl
@[simp] theorem c_nisn (x : D) : cmpD .IsNot x .non = some (!isNonD x) := by cases x <;> rfl
@[simp] theorem c_isb (a b : Bool) : cmpD .Is (.bl a) (.bl b) = some (decide (a = b)) := rfl
@[simp] theorem c_nisb (a b : Bool) : cmpD .IsNot (.bl a) (.bl b) = some (!decide (a = b)) := rfl
@[simp] theorem b_lenl (ds : List D) : biD "len" [.lst ds] = some (false, .int ds.length) := rfl
@[simp] theorem b_lent (ds : List D) : biD "len" [.tup ds] = some (false, .int ds.length) := rfl
@[simp] theorem b_lend (ds : List (Key × D)) : biD "len" [.dct ds] = some (false, .int ds.length) := rfl
@[simp] theorem b_abs (i : Int) : biD "abs" [.int i] = some (false, .int i.natAbs) := rfl
@[simp] theorem b_int (i : Int) : biD "int" [.int i] = some (false, .int i) := rfl
@[simp] theorem b_intb (b : Bool) : biD "int" [.bl b] = some (false, .int (if b then 1 else 0)) := rfl
@[simp] theorem b_listl (ds : List D) : biD "list" [.lst ds] = some (true, .lst ds) := rfl
@[simp] theorem b_listt (ds : List D) : biD "list" [.tup ds] = some (true, .lst ds) := rfl
@[simp] theorem b_listd (ds : List (Key × D)) : biD "list" [.dct ds] = some (true, .lst (ds.map fun kv => kD kv.1)) := rfl
@[simp] theorem b_tupl (ds : List D) : biD "tuple" [.lst ds] = some (false, .tup ds) := rfl
@[simp] theorem b_tupt (ds : List D) : biD "tuple" [.tup ds] = some (false, .tup ds) := rfl
@[simp] theorem b_dict (ds : List (Key × D)) : biD "dict" [.dct ds] = some (true, .dct ds) := rfl
@[simp] theorem b_max2 (i j : Int) : biD "max" [.int i, .int j] = some (false, .int (if i < j then j else i)) := rfl
@[simp] theorem b_min2 (i j : Int) : biD "min" [.int i, .int j] = some (false, .int (if j < i then j else i)) := rfl
@[simp] theorem n_add (i j : Int) : binD .Add (.int i) (.int j) = some (false, .int (i + j)) := rfl
@[simp] theorem n_sub (i j : Int) : binD .Sub (.int i) (.int j) = some (false, .int (i - j)) := rfl
@[simp] theorem n_mul {i j : Int} (h : mulOk i j = true) : binD .Mult (.int i) (.int j) = some (false, .int (i * j)) := by
  show (if mulOk i j then some (false, D.int (i * j)) else none) = _
  rw [if_pos h]
@[simp] theorem n_div {i j : Int} (h : divOk j = true) : binD .FloorDiv (.int i) (.int j) = some (false, .int (i.fdiv j)) := by
  show (if divOk j then some (false, D.int (i.fdiv j)) else none) = _
  rw [if_pos h]
@[simp] theorem n_mod {i j : Int} (h : ¬ j = 0) : binD .Mod (.int i) (.int j) = some (false, .int (i.fmod j)) := by
  show (if j = 0 then none else some (false, D.int (i.fmod j))) = _
  rw [if_neg h]
@[simp] theorem n_pow {i j : Int} (h : powOk i j = true) : binD .Pow (.int i) (.int j) = some (false, .int (i ^ j.toNat)) := by
  show (if powOk i j then some (false, D.int (i ^ j.toNat)) else none) = _
  rw [if_pos h]
@[simp] theorem n_addl {a b : List D} (h : a.length + b.length ≤ lim) : binD .Add (.lst a) (.lst b) = some (true, .lst (a ++ b)) := by
  show (if a.length + b.length ≤ lim then some (true, D.lst (a ++ b)) else none) = _
  rw [if_pos h]
@[simp] theorem n_addt {a b : List D} (h : a.length + b.length ≤ lim) : binD .Add (.tup a) (.tup b) = some (false, .tup (a ++ b)) := by
  simp [binD, h]
@[simp] theorem i_bl (b : Bool) (c : String) : isiD (.bl b) c = if c = "int" ∨ c = "bool" then some true else if c = "str" ∨ c = "tuple" ∨ c = "list" ∨ c = "dict" then some false else none := rfl
@[simp] theorem t_bl (b : Bool) : truD (.bl b) = some b := rfl
end Z

namespace Z
open PySem PySem.Spec L2
open PyProof.Rows hiding St
/-! ### statements, one by one: nothing is run by the kernel -/
theorem run_mk {io fresh : Bool} {ar n : Nat} {dfl : List D} {ms : List MS} {Φ : Tab} {ds : List D} : (mkFn io fresh ar dfl n ms Φ).run ds = (exB Φ fuelN ms (sl0 io n ds)).fr io fresh := rfl
theorem exB_nx {Φ : Tab} {n : Nat} {s : MS} {ss : List MS} {ρ ρ1 : Vn} (h : exS Φ n s ρ = .nx ρ1) : exB Φ n (s :: ss) ρ = exB Φ n ss ρ1 := by
  simp only [exB, h]
theorem exB_one {Φ : Tab} {n : Nat} {s : MS} {ρ ρ1 : Vn} (h : exS Φ n s ρ = .nx ρ1) : exB Φ n [s] ρ = .nx ρ1 := by
  simp only [exB, h]
theorem exB_rt {Φ : Tab} {n : Nat} {s : MS} {ss : List MS} {ρ ρ1 : Vn} {fl : Bool} {d : D} (h : exS Φ n s ρ = .rt fl d ρ1) : exB Φ n (s :: ss) ρ = .rt fl d ρ1 := by
  simp only [exB, h]
theorem exB_app {Φ : Tab} {n : Nat} {l2 : List MS} : ∀ {l1 : List MS} {ρ : Vn}, exB Φ n (l1 ++ l2) ρ = match exB Φ n l1 ρ with
    | .nx ρ' => exB Φ n l2 ρ'
    | o => o
  | [], ρ => by simp only [List.nil_append, exB]
  | s :: l1, ρ => by
    simp only [List.cons_append, exB]
    cases exS Φ n s ρ with
    | nx ρ1 => exact exB_app
    | _ => rfl
theorem exB_app_nx {Φ : Tab} {n : Nat} {l1 l2 : List MS} {ρ ρ1 : Vn} (h : exB Φ n l1 ρ = .nx ρ1) : exB Φ n (l1 ++ l2) ρ = exB Φ n l2 ρ1 := by
  rw [exB_app, h]
theorem for_nx {Φ : Tab} {n k : Nat} {tg : MT} {its : List ME} {body : List MS} {ρ ρ1 ρ2 ρ3 : Vn} {ds xs : List D} (hl : evL Φ its ρ = .ok ds ρ1) (hi : itD k (fresh ρ1 its ds) = some xs) (hg : forGo tg (exB Φ n body) xs (lockV ρ1 (rdIdx its)) = .nx ρ2) (hu : unlockV ρ2 ρ1 (rdIdx its) = ρ3) : exS Φ n (.for tg k its body) ρ = .nx ρ3 := by
  simp only [exS, hl, Res.out_ok, hi, ofOpt, hg, Out.noXif, Out.back, hu]
theorem for_rt {Φ : Tab} {n k : Nat} {tg : MT} {its : List ME} {body : List MS} {ρ ρ1 ρ2 ρ3 : Vn} {ds xs : List D} {fl : Bool} {d : D} (hl : evL Φ its ρ = .ok ds ρ1) (hi : itD k (fresh ρ1 its ds) = some xs) (hg : forGo tg (exB Φ n body) xs (lockV ρ1 (rdIdx its)) = .rt fl d ρ2) (hu : unlockV ρ2 ρ1 (rdIdx its) = ρ3) : exS Φ n (.for tg k its body) ρ = .rt fl d ρ3 := by
  simp only [exS, hl, Res.out_ok, hi, ofOpt, hg, Out.noXif, Out.back, hu]
theorem forGo_cons {tg : MT} {body : Vn → Out} {d : D} {ds : List D} {ρ ρ1 ρ2 : Vn} (h1 : asgT tg d ρ = some ρ1) (h2 : body ρ1 = .nx ρ2) : forGo tg body (d :: ds) ρ = forGo tg body ds ρ2 := by
  simp only [forGo, h1, h2]
theorem ite_t {Φ : Tab} {n : Nat} {c : ME} {a b : List MS} {ρ ρ1 : Vn} {fl : Bool} (h : evE Φ c ρ = .ok (fl, .bl true) ρ1) : exS Φ n (.ite c a b) ρ = exB Φ n a ρ1 := by
  simp [exS, h]
theorem ite_f {Φ : Tab} {n : Nat} {c : ME} {a b : List MS} {ρ ρ1 : Vn} {fl : Bool} (h : evE Φ c ρ = .ok (fl, .bl false) ρ1) : exS Φ n (.ite c a b) ρ = exB Φ n b ρ1 := by
  simp [exS, h]
theorem set_nm {Φ : Tab} {n i : Nat} {e : ME} {ρ ρ1 ρ2 : Vn} {fl : Bool} {d : D} (h : evE Φ e ρ = .ok (fl, d) ρ1) (hs : setS ρ1 i (if fl then .own d else .val d) = some ρ2) : exS Φ n (.set (.nm i) e) ρ = .nx ρ2 := by
  simp only [exS, h, Res.out_ok, hs, ofOpt]
theorem it_range (n : Nat) (h : n ≤ 1000) : itD 1 [.int n] = some (((List.range n).map fun i => ((i : Nat) : Int)).map .int) := by
  have h1 : (-(lim : Int) ≤ (n : Int)) := by simp only [lim]; omega
  have h2 : ((n : Int) ≤ lim) := by simp only [lim]; omega
  simp only [itD, h1, h2, decide_true, Bool.and_self, if_true, List.map_map]
  rfl
end Z

namespace Z
open PySem PySem.Spec L2
open PyProof.Rows hiding St
/-! ### properties, seen at the head's end -/
/-- the member m of a class's text -/
def memOf (st : Stmt) (j : Nat) : Stmt := (C8.clsBody st).getD j (.Pass ⟨0, 0, 0, 0⟩)
structure PrD where
  C : Str
  f : Str
  name : Str
  qual : Str
  params : Arguments
  body : List Stmt
  scope : Scope
def prA (K : PySem.W.Frag) (C f : Str) : Addr := He.ma K (He.ga K C) f
def gtA (K : PySem.W.Frag) (C f : Str) : Addr := match PySem.W.recIn K (prA K C f) "property" with
  | some (.ref g :: _) => g
  | _ => 0
def fnWa (K : PySem.W.Frag) (g : Addr) : He.FnW := match K.lookup g with
  | some ⟨_, _, .func fd, _⟩ => some (fd.name, fd.qualname, fd.params, fd.body, fd.scope, fd.globals, fd.closure, fd.builtins)
  | _ => none
def PrD.val (d : PrD) : He.FnW := some (d.name, d.qual, d.params, .stmts d.body, d.scope, mainGlobals, [], builtinsNs)
def isGet : Option (List Value) → Addr → Bool
  | some (.ref g :: _), g' => decide (g = g')
  | _, _ => false
def PrD.ok (K : PySem.W.Frag) (d : PrD) : Bool := He.eqO (PySem.W.findIn K (.ref (He.ga K d.C)) d.f) (some (some (.ref (prA K d.C d.f)))) && (He.eqO (PySem.W.specialIn K (.ref (prA K d.C d.f)) "__get__") (some (some (.builtin "property.__get__"))) &&
  (decide (PySem.W.takesIn K (.ref (prA K d.C d.f)) = some true) && (isGet (PySem.W.recIn K (prA K d.C d.f) "property") (gtA K d.C d.f) && (PySem.W.keepIn K (.ref (gtA K d.C d.f)) && (match K.lookup (gtA K d.C d.f) with
  | some ⟨_, _, .func fd, _⟩ => PySem.W.codeIn K fd.code d.qual && (He.dflB K fd.defaults [] && He.kwdB K fd.kwdefaults [])
  | _ => false)))))
theorem PrD.funD {K : PySem.W.Frag} {d : PrD} (e : fnWa K (gtA K d.C d.f) = d.val) (c : d.ok K = true) : PropOf K (He.ga K d.C) d.f (prA K d.C d.f) (gtA K d.C d.f) ∧ ∃ fd, FunD K d.name d.qual d.params d.body d.scope [] [] (gtA K d.C d.f) fd := by
  unfold PrD.ok at c
  simp only [Bool.and_eq_true] at c
  obtain ⟨c1, c2, c3, c4, c5, c6⟩ := c
  refine ⟨⟨He.eqO_ok c1, He.eqO_ok c2, of_decide_eq_true c3, ?_⟩, ?_⟩
  · generalize PySem.W.recIn K (prA K d.C d.f) "property" = r at c4
    unfold isGet at c4
    split at c4
    · rename_i g g2 tl
      exact ⟨tl, by rw [of_decide_eq_true c4]⟩
    · cases c4
  · unfold fnWa at e
    split at e
    · rename_i oc od fd osl hl
      rw [hl] at c6
      simp only [Bool.and_eq_true] at c6
      obtain ⟨k1, k2, k3⟩ := c6
      have hv := Option.some.inj e
      obtain ⟨m1, m2, m3, m4, m5, m6, m7, m8, m9, m10, m11, m12, m13, m14, m15⟩ := fd
      simp only [Prod.mk.injEq] at hv
      obtain ⟨g1, g2, g3, g4, g5, g6, g7, g8⟩ := hv
      subst g1 g2 g3 g4 g5 g6 g7 g8
      exact ⟨_, ⟨oc, od, m8, m9, m10, m11, m12, m13, m14, osl, rfl, hl, k1, He.dflB_ok k2, He.kwdB_ok k3⟩, c5⟩
    · cases e
abbrev AlP : Type := He.AlD × (Bool × List He.FnW)
def obsP (fa : List He.Fa) (fn : List He.DefD) (ps : List PrD) (K : PySem.W.Frag) : AlP := (He.obsD fa fn K, ps.all fun d => d.ok K, ps.map fun d => fnWa K (gtA K d.C d.f))
def valP (fn : List He.DefD) (ps : List PrD) : AlP := (He.valD fn, true, ps.map PrD.val)
def SaysP (fa : List He.Fa) (fn : List He.DefD) (ps : List PrD) (K : PySem.W.Frag) : Prop := obsP fa fn ps K = valP fn ps
def obsPG (n : Nat) (fa : List He.Fa) (fn : List He.DefD) (ps : List PrD) (g : Addr → Option Obj) : AlP := obsP fa fn ps (He.frG g (He.asD g n))
def hookP (n : Nat) (fa : List He.Fa) (fn : List He.DefD) (ps : List PrD) : PySem.W.Hook where
  α := AlP
  obs := fun s => obsPG n fa fn ps s.heap.get?
  val := fun _ => valP fn ps
  says := fun _ h => ∃ K : PySem.W.Frag, K.In h ∧ SaysP fa fn ps K
  of := fun _ _ e => ⟨_, He.frG_in, e⟩
  keeps := fun _ _ _ z k => let ⟨K, hK, c⟩ := z; ⟨K, hK.keeps k, c⟩
theorem obsPG_eq {n : Nat} {fa : List He.Fa} {fn : List He.DefD} {ps : List PrD} {g : Addr → Option Obj} {s : Shared} (h : ∀ a, g a = s.heap.get? a) : obsPG n fa fn ps g = (hookP n fa fn ps).obs s := by
  have e : g = s.heap.get? := funext h
  subst e
  rfl
section
variable {fa : List He.Fa} {fn : List He.DefD} {ps : List PrD} {K : PySem.W.Frag}
theorem SaysP.d (c : SaysP fa fn ps K) : He.SaysD fa fn K := congrArg (fun z : AlP => z.1) c
theorem SaysP.prop (c : SaysP fa fn ps K) (i : Nat) {d : PrD} (h : ps[i]? = some d) : PropOf K (He.ga K d.C) d.f (prA K d.C d.f) (gtA K d.C d.f) ∧ ∃ fd, FunD K d.name d.qual d.params d.body d.scope [] [] (gtA K d.C d.f) fd := by
  have c1 : (ps.all fun d => d.ok K) = true := congrArg (fun z : AlP => z.2.1) c
  have c2 : (ps.map fun d => fnWa K (gtA K d.C d.f)) = ps.map PrD.val := congrArg (fun z : AlP => z.2.2) c
  have e := congrArg (fun l : List He.FnW => l[i]?) c2
  simp only [List.getElem?_map, h, Option.map_some, Option.some.injEq] at e
  exact PrD.funD e (List.all_eq_true.mp c1 d (List.mem_of_getElem? h))
end
end Z
namespace Z
open PySem PySem.Spec L2
open PyProof.Rows hiding St
section
variable {P : Program} {w : World} {K : PySem.W.Frag} {mg : Str → Option Value} {base : Heap} {L : Nat} {t : List (String × Fn)}
theorem own_nilO : ∀ (C m : Str) (o : OwnM), (tblO t []).own C m = some o → OwnAt P w K mg base L C m o := fun _ _ _ h => by cases h
theorem own_consO {C0 m0 : Str} {x0 : OwnM} {r : List (Str × Str × OwnM)} (h0 : OwnAt P w K mg base L C0 m0 x0) (hr : ∀ (C m : Str) (o : OwnM), (tblO t r).own C m = some o → OwnAt P w K mg base L C m o) :
    ∀ (C m : Str) (o : OwnM), (tblO t ((C0, m0, x0) :: r)).own C m = some o → OwnAt P w K mg base L C m o := fun C m o h => by
  unfold tblO at h
  simp only [List.find?_cons] at h
  split at h
  · rename_i e
    rw [Bool.and_eq_true, decide_eq_true_eq, decide_eq_true_eq] at e
    obtain ⟨rfl, rfl⟩ := e
    cases h; exact h0
  · exact hr C m o h
theorem meth_at {C m : Str} {f : Addr} {fd : FuncData} {ps : List Str} {fn : Fn} (hc : Cls K (He.ga K C)) (hm : Meth K (He.ga K C) m f) (hio : fn.io = false) (F : FnG P w K mg base L f fd ps (spF K fn)) (hb : Binds K fd ps []) : OwnAt P w K mg base L C m (.meth fn) :=
  ⟨hc, hio, f, hm, by simpa only [List.append_nil] using F.callAt hb .nil⟩
theorem prop_at {C m : Str} {p g : Addr} {fd : FuncData} {ps : List Str} {fn : Fn} (hc : Cls K (He.ga K C)) (hp : PropOf K (He.ga K C) m p g) (hio : fn.io = false) (har : fn.ar = 1) (hps : ps.length = 1) (F : FnG P w K mg base L g fd ps (spF K fn)) (hb : Binds K fd ps []) : OwnAt P w K mg base (L + 1) C m (.prop fn) :=
  ⟨hc, hio, har, p, g, fd, ps, L, Nat.le_refl _, hp, hps, F, hb⟩
end
end Z

namespace Z
open PySem PySem.Spec L2
open PyProof.Rows hiding St
/-! ### comprehensions and loops over typed lists -/
theorem wipeV_ln {ρ : Vn} : ∀ {vs : List Nat}, (wipeV ρ vs).length = ρ.length
  | [] => rfl
  | v :: vs => by simp only [wipeV, List.length_set, wipeV_ln]
theorem wipeV_gt {ρ : Vn} {i : Nat} : ∀ {vs : List Nat}, i ∉ vs → (wipeV ρ vs)[i]? = ρ[i]?
  | [], _ => rfl
  | v :: vs, h => by
    simp only [wipeV]
    rw [List.getElem?_set_ne (by intro e; exact h (by simp [e])), wipeV_gt (fun z => h (List.mem_cons_of_mem _ z))]
theorem backV_ln {ρ ρ0 : Vn} : ∀ {vs : List Nat}, (backV ρ ρ0 vs).length = ρ.length
  | [] => rfl
  | v :: vs => by simp only [backV, List.length_set, backV_ln]
theorem backV_gt {ρ ρ0 : Vn} {i : Nat} : ∀ {vs : List Nat}, i ∉ vs → (backV ρ ρ0 vs)[i]? = ρ[i]?
  | [], _ => rfl
  | v :: vs, h => by
    simp only [backV]
    rw [List.getElem?_set_ne (by intro e; exact h (by simp [e])), backV_gt (fun z => h (List.mem_cons_of_mem _ z))]
theorem backV_mem {ρ ρ0 : Vn} {i : Nat} (hl : i < ρ.length) : ∀ {vs : List Nat}, i ∈ vs → (backV ρ ρ0 vs)[i]? = some (ρ0[i]?.getD .non)
  | v :: vs, h => by
    simp only [backV]
    by_cases e : v = i
    · subst e
      rw [List.getElem?_set_self (by rw [backV_ln]; exact hl)]
    · rw [List.getElem?_set_ne e]
      rcases List.mem_cons.mp h with h | h
      · exact absurd h.symm e
      · exact backV_mem hl h
theorem lockV_len' {ρ : Vn} : ∀ {is : List Nat}, (lockV ρ is).length = ρ.length
  | [] => rfl
  | i :: is => by
    simp only [lockV]
    split <;> simp only [List.length_set, lockV_len']
theorem lockV_get' {ρ : Vn} {i : Nat} : ∀ {is : List Nat}, i ∉ is → (lockV ρ is)[i]? = ρ[i]?
  | [], _ => rfl
  | j :: is, h => by
    have hj : j ≠ i := by intro e; exact h (by simp [e])
    have hi : i ∉ is := fun z => h (List.mem_cons_of_mem _ z)
    simp only [lockV]
    split
    · rw [List.getElem?_set_ne hj, lockV_get' hi]
    · rw [List.getElem?_set_ne hj, lockV_get' hi]
    · exact lockV_get' hi
/-- what stands anew behind a comprehension is what stood ahead of it -/
theorem backV_wipe {ρ ρ' : Vn} {is vs : List Nat} (h : wipeV ρ' vs = wipeV (lockV ρ is) vs) : backV ρ' ρ (is ++ vs) = ρ := by
  have hl : ρ'.length = ρ.length := by
    have := congrArg List.length h
    rwa [wipeV_ln, wipeV_ln, lockV_len'] at this
  apply List.ext_getElem?
  intro i
  by_cases hi : i < ρ.length
  · by_cases hm : i ∈ is ++ vs
    · rw [backV_mem (by omega) hm]
      simp [hi]
    · rw [backV_gt hm]
      have h1 : i ∉ is := fun z => hm (List.mem_append_left _ z)
      have h2 : i ∉ vs := fun z => hm (List.mem_append_right _ z)
      have := congrArg (fun l : Vn => l[i]?) h
      skip
      rw [wipeV_gt h2, wipeV_gt h2, lockV_get' h1] at this
      exact this
  · rw [List.getElem?_eq_none (by rw [backV_ln]; omega), List.getElem?_eq_none (by omega)]
theorem lcGo_typ {α : Type} {vs : List Nat} {tg : MT} {body : Vn → Res (Option D)} (toD : α → D) (g : α → Option D) {W : Vn} : ∀ {ts : List α} {ρ : Vn}, wipeV ρ vs = W →
    (∀ t ∈ ts, ∃ ρ1 ρ2, asgT tg (toD t) W = some ρ1 ∧ body ρ1 = .ok (g t) ρ2 ∧ wipeV ρ2 vs = W) → ∃ ρ', lcGo vs tg body (ts.map toD) ρ = .ok (ts.filterMap g) ρ' ∧ wipeV ρ' vs = W
  | [], ρ, h, _ => ⟨ρ, rfl, h⟩
  | t :: ts, ρ, h, hb => by
    obtain ⟨ρ1, ρ2, e1, e2, e3⟩ := hb t (by simp)
    obtain ⟨ρ', e4, e5⟩ := lcGo_typ toD g (ts := ts) e3 fun t ht => hb t (List.mem_cons_of_mem _ ht)
    refine ⟨ρ', ?_, e5⟩
    simp only [List.map_cons, lcGo, h, e1, ofOpt_some, Res.bind_ok, e2, e4]
    rw [List.filterMap_cons]
    cases g t <;> rfl
def notOwn (ρ : Vn) (vs : List Nat) : Bool := vs.all fun i => match ρ[i]? with
  | some s => !s.isOwn
  | none => false
theorem ev_lc0 {α : Type} {Φ : Tab} {elt : ME} {vs : List Nat} {tg : MT} {k : Nat} {its : List ME} {ρ0 ρ : Vn} {ds : List D} (toD : α → D) (ts : List α) (g : α → D)
    (hl : evL Φ its ρ0 = .ok ds ρ) (hi : itD k (fresh ρ its ds) = some (ts.map toD)) (hx : ts.length ≤ lim) (hv : notOwn ρ vs = true)
    (hb : ∀ t ∈ ts, ∃ ρ1 ρ2 fl, asgT tg (toD t) (wipeV (lockV ρ (rdIdx its)) vs) = some ρ1 ∧ evE Φ elt ρ1 = .ok (fl, g t) ρ2 ∧ wipeV ρ2 vs = wipeV (lockV ρ (rdIdx its)) vs) :
    evE Φ (.lc elt vs tg k its none) ρ0 = .ok (true, .lst (ts.map g)) ρ := by
  obtain ⟨ρ', e1, e2⟩ := lcGo_typ (vs := vs) (tg := tg) (body := fun ρ => (evE Φ elt ρ).bind fun x ρ => .ok (some x.2) ρ) toD (fun t => some (g t)) (W := wipeV (lockV ρ (rdIdx its)) vs) (ts := ts) (ρ := lockV ρ (rdIdx its)) rfl fun t ht => by
    obtain ⟨ρ1, ρ2, fl, a, b, c⟩ := hb t ht
    exact ⟨ρ1, ρ2, a, by rw [b]; rfl, c⟩
  have hv' := hv
  unfold notOwn at hv'
  simp only [evE, hl, Res.bind_ok, hi, ofOpt_some]
  rw [if_pos ⟨by rw [List.length_map]; exact hx, hv'⟩, e1]
  simp only [Res.noX_ok, Res.bind_ok, backV_wipe e2, List.filterMap_eq_map']
theorem ev_lc1 {α : Type} {Φ : Tab} {elt tst : ME} {vs : List Nat} {tg : MT} {k : Nat} {its : List ME} {ρ0 ρ : Vn} {ds : List D} (toD : α → D) (ts : List α) (q : α → Bool) (g : α → D)
    (hl : evL Φ its ρ0 = .ok ds ρ) (hi : itD k (fresh ρ its ds) = some (ts.map toD)) (hx : ts.length ≤ lim) (hv : notOwn ρ vs = true)
    (hb : ∀ t ∈ ts, ∃ ρ1 ρ2 fl, asgT tg (toD t) (wipeV (lockV ρ (rdIdx its)) vs) = some ρ1 ∧ evE Φ tst ρ1 = .ok (fl, .bl (q t)) ρ2 ∧ (q t = false → wipeV ρ2 vs = wipeV (lockV ρ (rdIdx its)) vs) ∧
      (q t = true → ∃ ρ3 fl, evE Φ elt ρ2 = .ok (fl, g t) ρ3 ∧ wipeV ρ3 vs = wipeV (lockV ρ (rdIdx its)) vs)) :
    evE Φ (.lc elt vs tg k its (some tst)) ρ0 = .ok (true, .lst ((ts.filter q).map g)) ρ := by
  obtain ⟨ρ', e1, e2⟩ := lcGo_typ (vs := vs) (tg := tg) (body := fun ρ => (evE Φ tst ρ).bind fun x ρ => (ofOpt (truD x.2) ρ).bind fun c ρ => if c then (evE Φ elt ρ).bind fun x ρ => .ok (some x.2) ρ else .ok none ρ) toD (fun t => if q t then some (g t) else none) (W := wipeV (lockV ρ (rdIdx its)) vs) (ts := ts) (ρ := lockV ρ (rdIdx its)) rfl fun t ht => by
    obtain ⟨ρ1, ρ2, fl, a, b, c, d⟩ := hb t ht
    cases hq : q t with
    | false => exact ⟨ρ1, ρ2, a, by simp [b, truD, hq], c hq⟩
    | true =>
      obtain ⟨ρ3, fl', e, f⟩ := d hq
      exact ⟨ρ1, ρ3, a, by simp [b, truD, hq, e], f⟩
  have hv' := hv
  unfold notOwn at hv'
  have e3 : ts.filterMap (fun t => if q t then some (g t) else none) = (ts.filter q).map g := by
    clear hb e1 hi hx
    induction ts with
    | nil => rfl
    | cons t ts ih =>
      simp only [List.filterMap_cons, List.filter_cons]
      cases q t <;> simp [ih]
  simp only [evE, hl, Res.bind_ok, hi, ofOpt_some]
  rw [if_pos ⟨by rw [List.length_map]; exact hx, hv'⟩, e1]
  simp only [Res.noX_ok, Res.bind_ok, backV_wipe e2, e3]
/-- a loop over a typed list: I done ρ -/
theorem forGo_typ {α : Type} {tg : MT} {body : Vn → Out} (toD : α → D) (I : List α → Vn → Prop) : ∀ {ts done : List α} {ρ : Vn}, I done ρ →
    (∀ (d : List α) (t : α) (r : List α) (ρ : Vn), done ++ ts = d ++ t :: r → I d ρ → ∃ ρ1 ρ2, asgT tg (toD t) ρ = some ρ1 ∧ body ρ1 = .nx ρ2 ∧ I (d ++ [t]) ρ2) → ∃ ρ', forGo tg body (ts.map toD) ρ = .nx ρ' ∧ I (done ++ ts) ρ'
  | [], done, ρ, h, _ => ⟨ρ, rfl, by simpa using h⟩
  | t :: ts, done, ρ, h, st => by
    obtain ⟨ρ1, ρ2, e1, e2, h2⟩ := st done t ts ρ rfl h
    obtain ⟨ρ', e3, h3⟩ := forGo_typ toD I (ts := ts) (done := done ++ [t]) h2 fun d t' r ρ e g => st d t' r ρ (by simpa using e) g
    refine ⟨ρ', ?_, by simpa using h3⟩
    simp only [List.map_cons, forGo, e1, e2]
    exact e3
@[simp] theorem free_v {d : D} : Sl.free (.val d) = true := rfl
@[simp] theorem free_o {d : D} : Sl.free (.own d) = true := rfl
@[simp] theorem free_n : Sl.free .non = true := rfl
/-! ### rules, one for each form: no comprehension, no loop is opened -/
section
variable {Φ : Tab}
theorem e_var (i : Nat) (ρ : Vn) : evE Φ (.var i) ρ = match ρ[i]? with
    | some (.val d) => .ok (false, d) ρ
    | some (.own d) => .ok (false, d) (ρ.set i (.val d))
    | _ => .stuck := by simp only [evE] <;> rfl
theorem e_rd (i : Nat) (ρ : Vn) : evE Φ (.rd i) ρ = match ρ[i]? with
    | some (.val d) => .ok (false, d) ρ
    | some (.own d) => .ok (false, d) ρ
    | some (.io d) => .ok (false, d) ρ
    | some (.lkd d) => .ok (false, d) ρ
    | _ => .stuck := by simp only [evE] <;> rfl
theorem e_cst (d : D) (ρ : Vn) : evE Φ (.cst d) ρ = .ok (false, d) ρ := by simp only [evE] <;> rfl
theorem e_tup (es : List ME) (ρ : Vn) : evE Φ (.tup es) ρ = (evL Φ es ρ).bind fun ds ρ => .ok (false, .tup ds) ρ := by simp only [evE] <;> rfl
theorem e_lst (es : List ME) (ρ : Vn) : evE Φ (.lst es) ρ = (evL Φ es ρ).bind fun ds ρ => .ok (true, .lst ds) ρ := by simp only [evE] <;> rfl
theorem e_bin (op : Operator) (a b : ME) (ρ : Vn) : evE Φ (.bin op a b) ρ = (evE Φ a ρ).bind fun x ρ => (evE Φ b ρ).bind fun y ρ => binF op x.2 y.2 ρ := by simp only [evE] <;> rfl
theorem e_neg (a : ME) (ρ : Vn) : evE Φ (.neg a) ρ = (evE Φ a ρ).bind fun x ρ => match x.2 with
    | .int i => .ok (false, .int (-i)) ρ
    | _ => .stuck := by simp only [evE] <;> rfl
theorem e_not (a : ME) (ρ : Vn) : evE Φ (.not a) ρ = (evE Φ a ρ).bind fun x ρ => (ofOpt (truD x.2) ρ).bind fun b ρ => .ok (false, .bl (!b)) ρ := by simp only [evE] <;> rfl
theorem e_and (a b : ME) (ρ : Vn) : evE Φ (.and a b) ρ = (evE Φ a ρ).bind fun x ρ => (ofOpt (truD x.2) ρ).bind fun c ρ => if c then evE Φ b ρ else .ok (false, .bl false) ρ := by simp only [evE] <;> rfl
theorem e_or (a b : ME) (ρ : Vn) : evE Φ (.or a b) ρ = (evE Φ a ρ).bind fun x ρ => (ofOpt (truD x.2) ρ).bind fun c ρ => if c then .ok (false, .bl true) ρ else evE Φ b ρ := by simp only [evE] <;> rfl
theorem e_cmp (op : CmpOp) (a b : ME) (ρ : Vn) : evE Φ (.cmp op a b) ρ = (evE Φ a ρ).bind fun x ρ => (evE Φ b ρ).bind fun y ρ => (cmpF op x.2 y.2 ρ).bind fun b ρ => .ok (false, .bl b) ρ := by simp only [evE] <;> rfl
theorem e_chain (op op' : CmpOp) (a b c : ME) (ρ : Vn) : evE Φ (.chain op op' a b c) ρ = (evE Φ a ρ).bind fun x ρ => (evE Φ b ρ).bind fun y ρ => (ofOpt (cmpD op x.2 y.2) ρ).bind fun k ρ =>
      if k then (evE Φ c ρ).bind fun z ρ => (ofOpt (cmpD op' y.2 z.2) ρ).bind fun b ρ => .ok (false, .bl b) ρ else .ok (false, .bl false) ρ := by simp only [evE] <;> rfl
theorem e_ite (c a b : ME) (ρ : Vn) : evE Φ (.ite c a b) ρ = (evE Φ c ρ).bind fun x ρ => (ofOpt (truD x.2) ρ).bind fun k ρ => if k then evE Φ a ρ else evE Φ b ρ := by simp only [evE] <;> rfl
theorem e_call (f : String) (es : List ME) (ρ : Vn) : evE Φ (.call f es) ρ = (evL Φ es ρ).bind fun ds ρ => callF Φ f ds ρ := by simp only [evE] <;> rfl
theorem e_callio (f : String) (i : Nat) (es : List ME) (ρ : Vn) : evE Φ (.callio f i es) ρ = if wrAt ρ i then (evL Φ es ρ).bind fun ds ρ => callIo Φ f i ds ρ else .stuck := by simp only [evE] <;> rfl
theorem e_bi (f : String) (es : List ME) (ρ : Vn) : evE Φ (.bi f es) ρ = (evL Φ es ρ).bind fun ds ρ => biF f ds ρ := by simp only [evE] <;> rfl
theorem e_isi (a : ME) (c : String) (ρ : Vn) : evE Φ (.isi a [c]) ρ = (evE Φ a ρ).bind fun x ρ => (ofOpt (isiD x.2 c) ρ).bind fun b ρ => .ok (false, .bl b) ρ := by simp only [evE] <;> rfl
theorem e_iso (a : ME) (subs : List Str) (ρ : Vn) : evE Φ (.iso a subs) ρ = (evE Φ a ρ).bind fun x ρ => (ofOpt (isoD subs x.2) ρ).bind fun b ρ => .ok (false, .bl b) ρ := by simp only [evE] <;> rfl
theorem e_mem (neg : Bool) (a b : ME) (ρ : Vn) : evE Φ (.mem neg a b) ρ = (evE Φ a ρ).bind fun x ρ => (evE Φ b ρ).bind fun y ρ => (memF neg x.2 y.2 ρ).bind fun b ρ => .ok (false, .bl b) ρ := by simp only [evE] <;> rfl
theorem e_get (a k : ME) (ρ : Vn) : evE Φ (.get a k none) ρ = (evE Φ a ρ).bind fun x ρ => (evE Φ k ρ).bind fun y ρ => (ofOpt (getD1 x.2 y.2 .non) ρ).bind fun d ρ => .ok (false, d) ρ := by simp only [evE] <;> rfl
theorem e_getd (a k d : ME) (ρ : Vn) : evE Φ (.get a k (some d)) ρ = (evE Φ a ρ).bind fun x ρ => (evE Φ k ρ).bind fun y ρ => (evE Φ d ρ).bind fun z ρ => (ofOpt (getD1 x.2 y.2 z.2) ρ).bind fun d ρ => .ok (false, d) ρ := by simp only [evE] <;> rfl
theorem e_fld (a : ME) (f : Str) (ρ : Vn) : evE Φ (.fld a f) ρ = (evE Φ a ρ).bind fun x ρ => fldF Φ a.isRd f x.2 ρ := by simp only [evE] <;> rfl
theorem e_meth (a : ME) (m : Str) (es : List ME) (ρ : Vn) : evE Φ (.meth a m es) ρ = (evE Φ a ρ).bind fun x ρ => (ofOpt (methOf Φ m x.2) ρ).bind fun fn ρ => (evL Φ es ρ).bind fun ds ρ => if ds.length + 1 = fn.ar then runF fn (x.2 :: ds) ρ else .stuck := by simp only [evE] <;> rfl
theorem e_stup (fl : List Bool) (es : List ME) (ρ : Vn) : evE Φ (.stup fl es) ρ = (evX Φ fl es ρ).bind fun xs ρ => if xs.length ≤ lim then .ok (false, .tup xs) ρ else .stuck := by simp only [evE] <;> rfl
theorem e_slst (fl : List Bool) (es : List ME) (ρ : Vn) : evE Φ (.slst fl es) ρ = (evX Φ fl es ρ).bind fun xs ρ => if xs.length ≤ lim then .ok (true, .lst xs) ρ else .stuck := by simp only [evE] <;> rfl
theorem e_dup (a : ME) (es : List ME) (ρ : Vn) : evE Φ (.dup a es) ρ = (evE Φ a ρ).bind fun x ρ => (evL Φ es ρ).bind fun ds ρ => ofOpt (dupD x.2 ds) ρ := by simp only [evE] <;> rfl
theorem e_ix (a b : ME) (ρ : Vn) : evE Φ (.ix a b) ρ = (evE Φ a ρ).bind fun x ρ => (evE Φ b ρ).bind fun y ρ => (ofOpt (ixD x.2 y.2) ρ).bind fun d ρ => .ok (false, d) ρ := by simp only [evE] <;> rfl
theorem e_slc (a : ME) (lo hi : Option ME) (ρ : Vn) : evE Φ (.slc a lo hi) ρ = (evE Φ a ρ).bind fun x ρ => (evO Φ lo ρ).bind fun l ρ => (evO Φ hi ρ).bind fun h ρ => ofOpt (slcD x.2 l h) ρ := by simp only [evE] <;> rfl
theorem e_dsp (es : List ME) (ρ : Vn) : evE Φ (.dsp es) ρ = (evL Φ es ρ).bind fun ds ρ => ofOpt (dspD ds) ρ := by simp only [evE] <;> rfl
theorem l_nil (ρ : Vn) : evL Φ [] ρ = .ok [] ρ := by simp only [evL] <;> rfl
theorem l_cons (e : ME) (es : List ME) (ρ : Vn) : evL Φ (e :: es) ρ = (evE Φ e ρ).bind fun x ρ => (evL Φ es ρ).bind fun xs ρ => .ok (x.2 :: xs) ρ := by simp only [evL] <;> rfl
theorem o_none (ρ : Vn) : evO Φ none ρ = .ok none ρ := by simp only [evO] <;> rfl
theorem o_some (m : ME) (ρ : Vn) : evO Φ (some m) ρ = (evE Φ m ρ).bind fun x ρ => match x.2 with
    | .int i => .ok (some i) ρ
    | _ => .stuck := by simp only [evO] <;> rfl
theorem x_nil (fl : List Bool) (ρ : Vn) : evX Φ fl [] ρ = .ok [] ρ := by simp only [evX] <;> rfl
theorem x_cons (fl : List Bool) (e : ME) (es : List ME) (ρ : Vn) : evX Φ fl (e :: es) ρ = (evE Φ e ρ).bind fun x ρ => if fl.headD false then (ofOpt (seqD x.2) ρ).bind fun ys ρ => (evX Φ fl.tail es ρ).bind fun xs ρ => .ok (ys ++ xs) ρ else (evX Φ fl.tail es ρ).bind fun xs ρ => .ok (x.2 :: xs) ρ := by simp only [evX] <;> rfl
variable {n : Nat}
theorem s_set (i : Nat) (e : ME) (ρ : Vn) : exS Φ n (.set (.nm i) e) ρ = (evE Φ e ρ).out fun x ρ => (ofOpt (setS ρ i (if x.1 then .own x.2 else .val x.2)) ρ).out fun ρ _ => .nx ρ := by simp only [exS] <;> rfl
theorem s_stp (is : List Nat) (e : ME) (ρ : Vn) : exS Φ n (.set (.tp is) e) ρ = (evE Φ e ρ).out fun x ρ => (ofOpt (asgT (.tp is) x.2 ρ) ρ).out fun ρ _ => .nx ρ := by simp only [exS] <;> rfl
theorem s_stq (ts : List MT) (e : ME) (ρ : Vn) : exS Φ n (.set (.tq ts) e) ρ = (evE Φ e ρ).out fun x ρ => (ofOpt (asgT (.tq ts) x.2 ρ) ρ).out fun ρ _ => .nx ρ := by simp only [exS] <;> rfl
theorem s_tri (i j k : Nat) (a b c : ME) (ρ : Vn) : exS Φ n (.tri i j k a b c) ρ = (evE Φ a ρ).out fun x ρ => (evE Φ b ρ).out fun y ρ => (evE Φ c ρ).out fun z ρ => (ofOpt (setS ρ k (if z.1 then .own z.2 else .val z.2)) ρ).out fun ρ _ => (ofOpt (setS ρ i (.val x.2)) ρ).out fun ρ _ => (ofOpt (setS ρ j (.val y.2)) ρ).out fun ρ _ => .nx ρ := by simp only [exS] <;> rfl
theorem s_setF (i : Nat) (f : Str) (e : ME) (ρ : Vn) : exS Φ n (.setF i f e) ρ = (evE Φ e ρ).out fun x ρ => (ofOpt (updS ρ i (setFD Φ f x.2)) ρ).out fun ρ _ => .nx ρ := by simp only [exS] <;> rfl
theorem s_mut (i : Nat) (m : String) (es : List ME) (ρ : Vn) : exS Φ n (.mut i m es) ρ = if setAt ρ i then (evL Φ es ρ).out fun ds ρ => (ofOpt (updS ρ i fun d => mutD m d ds) ρ).out fun ρ _ => .nx ρ else .stuck := by simp only [exS] <;> rfl
theorem s_par (i j : Nat) (a b : ME) (ρ : Vn) : exS Φ n (.par i j a b) ρ = (evE Φ a ρ).out fun x ρ => (evE Φ b ρ).out fun y ρ => (ofOpt (setS ρ i (.val x.2)) ρ).out fun ρ _ => (ofOpt (setS ρ j (.val y.2)) ρ).out fun ρ _ => .nx ρ := by simp only [exS] <;> rfl
theorem s_setIx (i : Nat) (ix e : ME) (ρ : Vn) : exS Φ n (.setIx i ix e) ρ = (evE Φ e ρ).out fun x ρ => if setAt ρ i then (evE Φ ix ρ).out fun k ρ => (ofOpt (updS ρ i fun d => setD d k.2 x.2) ρ).out fun ρ _ => .nx ρ else .stuck := by simp only [exS] <;> rfl
theorem s_expr (e : ME) (ρ : Vn) : exS Φ n (.expr e) ρ = (evE Φ e ρ).out fun _ ρ => .nx ρ := by simp only [exS] <;> rfl
theorem s_app (i : Nat) (e : ME) (ρ : Vn) : exS Φ n (.app i e) ρ = if lstAt ρ i then (evE Φ e ρ).out fun x ρ => (ofOpt (updS ρ i fun d => match d with
      | .lst ds => if ds.length ≤ lim then some (.lst (ds ++ [x.2])) else none
      | _ => none) ρ).out fun ρ _ => .nx ρ else .stuck := by simp only [exS] <;> rfl
theorem s_ite (c : ME) (a b : List MS) (ρ : Vn) : exS Φ n (.ite c a b) ρ = (evE Φ c ρ).out fun x ρ => (ofOpt (truD x.2) ρ).out fun k ρ => if k then exB Φ n a ρ else exB Φ n b ρ := by simp only [exS] <;> rfl
theorem s_rvar (i : Nat) (ρ : Vn) : exS Φ n (.ret (.var i)) ρ = match ρ[i]? with
      | some (.own d) => .rt true d (ρ.set i .non)
      | some (.val d) => .rt false d ρ
      | _ => .stuck := by simp only [exS] <;> rfl
theorem s_ret (e : ME) (ρ : Vn) (h : ∀ i, e ≠ .var i) : exS Φ n (.ret e) ρ = (evE Φ e ρ).out fun x ρ => .rt x.1 x.2 ρ := by
  cases e <;> first | exact absurd rfl (h _) | simp only [exS]
theorem s_raise (C : Str) (ρ : Vn) : exS Φ n (.raise C) ρ = .exn ⟨C, []⟩ ρ := by simp only [exS] <;> rfl
theorem s_brk (ρ : Vn) : exS Φ n .brk ρ = .bk ρ := by simp only [exS] <;> rfl
theorem s_pass (ρ : Vn) : exS Φ n .pass ρ = .nx ρ := by simp only [exS] <;> rfl
theorem b_nil (ρ : Vn) : exB Φ n [] ρ = .nx ρ := by simp only [exB] <;> rfl
theorem b_cons (s : MS) (ss : List MS) (ρ : Vn) : exB Φ n (s :: ss) ρ = match exS Φ n s ρ with
    | .nx ρ => exB Φ n ss ρ
    | o => o := by simp only [exB] <;> rfl
end
/-- a turn of a comprehension -/
def step0 (Φ : Tab) (elt : ME) (vs : List Nat) (tg : MT) (d : D) (W : Vn) : Option (D × Vn) := match asgT tg d W with
  | some ρ1 => match evE Φ elt ρ1 with
    | .ok x ρ2 => some (x.2, wipeV ρ2 vs)
    | _ => none
  | none => none
def step1 (Φ : Tab) (tst elt : ME) (vs : List Nat) (tg : MT) (d : D) (W : Vn) : Option (Option D × Vn) := match asgT tg d W with
  | some ρ1 => match evE Φ tst ρ1 with
    | .ok (_, .bl true) ρ2 => match evE Φ elt ρ2 with
      | .ok x ρ3 => some (some x.2, wipeV ρ3 vs)
      | _ => none
    | .ok (_, .bl false) ρ2 => some (none, wipeV ρ2 vs)
    | _ => none
  | none => none
theorem lc_map {α : Type} {Φ : Tab} {elt : ME} {vs : List Nat} {tg : MT} {k : Nat} {its : List ME} {ρ0 ρ : Vn} {ds : List D} (toD : α → D) (ts : List α) (g : α → D)
    (hl : evL Φ its ρ0 = .ok ds ρ) (hi : itD k (fresh ρ its ds) = some (ts.map toD)) (hx : ts.length ≤ lim) (hv : notOwn ρ vs = true)
    (hb : ∀ t ∈ ts, step0 Φ elt vs tg (toD t) (wipeV (lockV ρ (rdIdx its)) vs) = some (g t, wipeV (lockV ρ (rdIdx its)) vs)) :
    evE Φ (.lc elt vs tg k its none) ρ0 = .ok (true, .lst (ts.map g)) ρ := by
  refine ev_lc0 toD ts g hl hi hx hv fun t ht => ?_
  have e := hb t ht
  unfold step0 at e
  split at e
  · rename_i ρ1 h1
    split at e
    · rename_i x ρ2 h2
      simp at e
      exact ⟨ρ1, ρ2, x.1, h1, by rw [h2, ← e.1], e.2⟩
    · cases e
  · cases e
theorem lc_filter {α : Type} {Φ : Tab} {elt tst : ME} {vs : List Nat} {tg : MT} {k : Nat} {its : List ME} {ρ0 ρ : Vn} {ds : List D} (toD : α → D) (ts : List α) (q : α → Bool) (g : α → D)
    (hl : evL Φ its ρ0 = .ok ds ρ) (hi : itD k (fresh ρ its ds) = some (ts.map toD)) (hx : ts.length ≤ lim) (hv : notOwn ρ vs = true)
    (hb : ∀ t ∈ ts, step1 Φ tst elt vs tg (toD t) (wipeV (lockV ρ (rdIdx its)) vs) = some (if q t then some (g t) else none, wipeV (lockV ρ (rdIdx its)) vs)) :
    evE Φ (.lc elt vs tg k its (some tst)) ρ0 = .ok (true, .lst ((ts.filter q).map g)) ρ := by
  refine ev_lc1 toD ts q g hl hi hx hv fun t ht => ?_
  have e := hb t ht
  unfold step1 at e
  split at e
  · rename_i ρ1 h1
    split at e
    · rename_i fl ρ2 h2
      split at e
      · rename_i x ρ3 h3
        cases hq : q t with
        | false => rw [hq] at e; simp at e
        | true =>
          rw [hq] at e
          simp at e
          exact ⟨ρ1, ρ2, fl, h1, by rw [h2], (fun z => by cases z), fun _ => ⟨ρ3, x.1, by rw [h3, ← e.1], e.2⟩⟩
      · cases e
    · rename_i fl ρ2 h2
      cases hq : q t with
      | true => rw [hq] at e; simp at e
      | false =>
        rw [hq] at e
        simp at e
        exact ⟨ρ1, ρ2, fl, h1, by rw [h2], fun _ => e, fun z => by cases z⟩
    · cases e
  · cases e
@[simp] theorem ix_t0 (a : D) (l : List D) : ixD (.tup (a :: l)) (.int 0) = some a := rfl
@[simp] theorem ix_t1 (a b : D) (l : List D) : ixD (.tup (a :: b :: l)) (.int 1) = some b := rfl
@[simp] theorem ix_t2 (a b c : D) (l : List D) : ixD (.tup (a :: b :: c :: l)) (.int 2) = some c := rfl
@[simp] theorem ix_t3 (a b c d : D) (l : List D) : ixD (.tup (a :: b :: c :: d :: l)) (.int 3) = some d := rfl
@[simp] theorem ix_t4 (a b c d e : D) (l : List D) : ixD (.tup (a :: b :: c :: d :: e :: l)) (.int 4) = some e := rfl
@[simp] theorem ix_l0 (a : D) (l : List D) : ixD (.lst (a :: l)) (.int 0) = some a := rfl
@[simp] theorem ix_l1 (a b : D) (l : List D) : ixD (.lst (a :: b :: l)) (.int 1) = some b := rfl
@[simp] theorem ix_l2 (a b c : D) (l : List D) : ixD (.lst (a :: b :: c :: l)) (.int 2) = some c := rfl
theorem ix_lst {ds : List D} {i : Int} {d : D} (h0 : 0 ≤ i) (h : ds[i.toNat]? = some d) : ixD (.lst ds) (.int i) = some d := by
  show (if 0 ≤ i then ds[i.toNat]? else _) = _
  rw [if_pos h0, h]
theorem ix_tup {ds : List D} {i : Int} {d : D} (h0 : 0 ≤ i) (h : ds[i.toNat]? = some d) : ixD (.tup ds) (.int i) = some d := by
  show (if 0 ≤ i then ds[i.toNat]? else _) = _
  rw [if_pos h0, h]
theorem ix_last_l (l : List D) (a : D) : ixD (.lst (l ++ [a])) (.int (-1)) = some a := by
  show (if (0 : Int) ≤ -1 then (l ++ [a])[(-1 : Int).toNat]? else if -((l ++ [a]).length : Int) ≤ -1 then (l ++ [a])[(((l ++ [a]).length : Int) + -1).toNat]? else none) = _
  rw [if_neg (by omega), if_pos (by simp; omega)]
  have : (((l ++ [a]).length : Int) + -1).toNat = l.length := by simp; omega
  rw [this]
  simp
theorem it_zip_lst (a b : List D) : itD 2 [.lst a, .lst b] = some ((a.zip b).map fun p => .tup [p.1, p.2]) := rfl
theorem it_zip_tup (a b : List D) : itD 2 [.tup a, .tup b] = some ((a.zip b).map fun p => .tup [p.1, p.2]) := rfl
/-- a loop's first turns -/
theorem forGo_pre {α : Type} {tg : MT} {body : Vn → Out} (toD : α → D) (I : List α → Vn → Prop) : ∀ {ts done : List α} {ρ : Vn}, I done ρ →
    (∀ (d : List α) (t : α) (r : List α) (ρ : Vn), done ++ ts = d ++ t :: r → I d ρ → ∃ ρ1 ρ2, asgT tg (toD t) ρ = some ρ1 ∧ body ρ1 = .nx ρ2 ∧ I (d ++ [t]) ρ2) → ∃ ρ', (∀ ys, forGo tg body (ts.map toD ++ ys) ρ = forGo tg body ys ρ') ∧ I (done ++ ts) ρ'
  | [], done, ρ, h, _ => ⟨ρ, fun _ => rfl, by simpa using h⟩
  | t :: ts, done, ρ, h, st => by
    obtain ⟨ρ1, ρ2, e1, e2, h2⟩ := st done t ts ρ rfl h
    obtain ⟨ρ', e3, h3⟩ := forGo_pre toD I (ts := ts) (done := done ++ [t]) h2 fun d t' r ρ e g => st d t' r ρ (by simpa using e) g
    refine ⟨ρ', fun ys => ?_, by simpa using h3⟩
    simp only [List.map_cons, List.cons_append, forGo, e1, e2]
    exact e3 ys
theorem whGo_inv {c : Vn → Res (Bool × D)} {body : Vn → Out} {Q : Vn → Prop} (I : Nat → Vn → Prop) (h : ∀ m ρ, I m ρ → (∃ fl ρ1, c ρ = .ok (fl, .bl false) ρ1 ∧ Q ρ1) ∨ (∃ fl ρ1 ρ2 m', c ρ = .ok (fl, .bl true) ρ1 ∧ body ρ1 = .nx ρ2 ∧ m' < m ∧ I m' ρ2)) :
    ∀ (n m : Nat) (ρ : Vn), m < n → I m ρ → ∃ ρ', whGo c body n ρ = .nx ρ' ∧ Q ρ' := by
  intro n
  induction n with
  | zero => intro m ρ hm; omega
  | succ n ih =>
    intro m ρ hm hi
    rcases h m ρ hi with ⟨fl, ρ1, e1, q⟩ | ⟨fl, ρ1, ρ2, m', e1, e2, lt, hi'⟩
    · exact ⟨ρ1, by simp [whGo, e1], q⟩
    · obtain ⟨ρ', e3, q⟩ := ih m' ρ2 (by omega) hi'
      exact ⟨ρ', by simp [whGo, e1, e2, e3], q⟩
end Z

namespace Z
open PySem PySem.Spec L2
open PyProof.Rows hiding St
/-! ### data is equal to itself -/
mutual
theorem sz_lay : ∀ {d : D} {p : PyData}, szD d ≤ lim → d.py = some p → p.canLay0 = true
  | .non, p, _, e => by cases e; rfl
  | .bl b, p, _, e => by cases e; rfl
  | .int i, p, _, e => by cases e; rfl
  | .tup ds, p, h, e => by
    simp only [szD] at h
    simp only [D.py] at e
    split at e
    · rename_i ps hp
      cases e
      simp only [PyData.canLay0]
      exact szL_lay (by omega) hp
    · cases e
  | .lst ds, p, h, e => by
    simp only [szD] at h
    simp only [D.py] at e
    split at e
    · rename_i ps hp
      cases e
      simp only [PyData.canLay0]
      exact szL_lay (by omega) hp
    · cases e
  | .str _, _, h, _ => by simp [szD, lim] at h
  | .dct _, _, h, _ => by simp [szD, lim] at h
  | .dcT _, _, h, _ => by simp [szD, lim] at h
  | .ins _ _, _, h, _ => by simp [szD, lim] at h
theorem szL_lay : ∀ {ds : List D} {ps : List PyData}, szL ds ≤ lim → pyAll ds = some ps → PyData.canLayAll0 ps = true
  | [], _, _, e => by cases e; rfl
  | d :: ds, ps, h, e => by
    simp only [szL] at h
    simp only [pyAll] at e
    split at e
    · rename_i p qs h1 h2
      cases e
      simp only [PyData.canLayAll0]
      rw [sz_lay (by omega) h1, szL_lay (by omega) h2]
      rfl
    · cases e
end
theorem eqP_self {d : D} (h1 : szD d ≤ lim) (h2 : dpD d ≤ 50) : eqP d d = some true := by
  obtain ⟨p, a1, a2, a3, a4, a5⟩ := sz_ok h1
  have h := sz_lay h1 a1
  have hs : SeqAt.shaped p = true := by
    have e : SeqAt.shaped p = (p.canLay0 && decide (p.depth ≤ 64)) := rfl
    rw [e, h, Bool.true_and, decide_eq_true_eq]
    omega
  unfold eqP
  rw [a1]
  simp only [hs, Bool.and_self, if_true]
  rw [SeqAt.eqv_refl p h]
theorem eq_self_l {ds : List D} (h1 : szD (.lst ds) ≤ lim) (h2 : dpD (.lst ds) ≤ 50) : cmpD .Eq (.lst ds) (.lst ds) = some true := eqD_of (eqP_self h1 h2)
theorem szL_map {α : Type} {f : α → D} {c : Nat} : ∀ {l : List α}, (∀ a ∈ l, szD (f a) + 2 ≤ c) → szL (l.map f) ≤ c * l.length
  | [], _ => by simp [szL]
  | a :: l, h => by
    have h1 := h a (by simp)
    have h2 := szL_map (f := f) (c := c) (l := l) fun b hb => h b (List.mem_cons_of_mem _ hb)
    simp only [List.map_cons, szL, List.length_cons, Nat.mul_add, Nat.mul_one]
    omega
theorem dpL_map {α : Type} {f : α → D} {c : Nat} : ∀ {l : List α}, (∀ a ∈ l, dpD (f a) ≤ c) → dpL (l.map f) ≤ c
  | [], _ => by simp [dpL]
  | a :: l, h => by
    have h1 := h a (by simp)
    have h2 := dpL_map (f := f) (c := c) (l := l) fun b hb => h b (List.mem_cons_of_mem _ hb)
    simp only [List.map_cons, dpL]
    omega
@[simp] theorem own_h4 (a b c d : Sl) (p : D) (ρ : Vn) : wrAt (a :: b :: c :: d :: .own p :: ρ) 4 = true := rfl
end Z

namespace S
open PySem PySem.Spec L2 Z
def b1_l_purse : List MS := [.ite (.cmp .GtE (.bi "abs" [(.rd 1)]) (.bin .Pow (.cst (.int 10)) (.cst (.int 18)))) [.set (.nm 2) (.bin .Add (.bin .Mult (.rd 2) (.bin .Pow (.cst (.int 10)) (.cst (.int 60)))) (.bin .Mod (.bi "int" [(.bi "abs" [(.rd 1)])]) (.bin .Pow
   (.cst (.int 10)) (.cst (.int 60)))))] [], .set (.nm 3) (.bin .Mod (.bi "int" [(.bin .Add (.bin .Add (.bin .Mult (.rd 3) (.cst (.int 69621))) (.bin .Mod (.bi "int" [(.rd 1)]) (.cst (.int 2305843009213693907)))) (.cst (.int 31)))]) (.cst
   (.int 2305843009213693951)))]
def m_l_purse : List MS := [.set (.tp [2, 3]) (.tup [(.cst (.int 0)), (.cst (.int 660179))]), .for (.nm 1) 0 [(.slc (.rd 0) none (some (.cst (.int 40))))] b1_l_purse, .ret (.lst [(.var 2), (.var 3), (.cst (.int 0))])]
def t_l_purse : List (String × Fn) := []
def f_l_purse : Fn := mkFn false true 1 [] 4 m_l_purse (tbl t_l_purse)
def m_l_below : List MS := [.ret (.cmp .Lt (.bin .Mult (.ix (.rd 0) (.cst (.int 0))) (.ix (.rd 1) (.cst (.int 1)))) (.bin .Mult (.ix (.rd 1) (.cst (.int 0))) (.ix (.rd 0) (.cst (.int 1)))))]
def t_l_below : List (String × Fn) := []
def f_l_below : Fn := mkFn false false 2 [] 2 m_l_below (tbl t_l_below)
def w1_l_cut : ME := (.cmp .Gt (.rd 3) (.cst (.int 0)))
def b1_l_cut : List MS := [.par 2 3 (.var 3) (.bin .Mod (.bi "int" [(.rd 2)]) (.rd 3))]
def m_l_cut : List MS := [.par 2 3 (.bi "abs" [(.rd 0)]) (.bi "abs" [(.rd 1)]), .while w1_l_cut b1_l_cut, .set (.nm 2) (.bin .Mult (.rd 2) (.bin .Sub (.cst (.int 1)) (.bin .Mult (.cst (.int 2)) (.bi "int" [(.cmp .Lt (.rd 1) (.cst (.int 0)))])))), .ret (.tup
   [(.bin .FloorDiv (.rd 0) (.rd 2)), (.bin .FloorDiv (.rd 1) (.rd 2))])]
def t_l_cut : List (String × Fn) := []
def f_l_cut : Fn := mkFn false false 2 [] 4 m_l_cut (tbl t_l_cut)
def b1_l_sum : List MS := [.set (.nm 1) (.call "_law_cut" [(.bin .Add (.bin .Mult (.ix (.rd 1) (.cst (.int 0))) (.rd 3)) (.bin .Mult (.rd 2) (.ix (.rd 1) (.cst (.int 1))))), (.bin .Mult (.ix (.rd 1) (.cst (.int 1))) (.rd 3))])]
def m_l_sum : List MS := [.set (.nm 1) (.tup [(.cst (.int 0)), (.cst (.int 1))]), .for (.tp [2, 3]) 0 [(.rd 0)] b1_l_sum, .ret (.var 1)]
def t_l_sum : List (String × Fn) := [("_law_cut", S.f_l_cut)]
def f_l_sum : Fn := mkFn false false 1 [] 4 m_l_sum (tbl t_l_sum)
def m_l_diff : List MS := [.ret (.call "_law_sum" [(.lst [(.var 0), (.tup [(.bin .Sub (.cst (.int 0)) (.ix (.rd 1) (.cst (.int 0)))), (.ix (.rd 1) (.cst (.int 1)))])])])]
def t_l_diff : List (String × Fn) := [("_law_sum", S.f_l_sum)]
def f_l_diff : Fn := mkFn false false 2 [] 2 m_l_diff (tbl t_l_diff)
def m_l_pair : List MS := [.ret (.ite (.isi (.rd 0) ["tuple"]) (.var 0) (.tup [(.var 0), (.cst (.int 1))]))]
def t_l_pair : List (String × Fn) := []
def f_l_pair : Fn := mkFn false false 1 [] 1 m_l_pair (tbl t_l_pair)
def m_l_part : List MS := [.ret (.call "_law_cut" [(.bin .Mult (.ix (.rd 0) (.cst (.int 0))) (.ix (.rd 1) (.cst (.int 1)))), (.bin .Mult (.ix (.rd 0) (.cst (.int 1))) (.ix (.rd 1) (.cst (.int 0))))])]
def t_l_part : List (String × Fn) := [("_law_cut", S.f_l_cut)]
def f_l_part : Fn := mkFn false false 2 [] 2 m_l_part (tbl t_l_part)
def m_l_prod : List MS := [.ret (.call "_law_cut" [(.bin .Mult (.ix (.rd 0) (.cst (.int 0))) (.ix (.rd 1) (.cst (.int 0)))), (.bin .Mult (.ix (.rd 0) (.cst (.int 1))) (.ix (.rd 1) (.cst (.int 1))))])]
def t_l_prod : List (String × Fn) := [("_law_cut", S.f_l_cut)]
def f_l_prod : Fn := mkFn false false 2 [] 2 m_l_prod (tbl t_l_prod)
def m_l_shown : List MS := [.ret (.ite (.cmp .Eq (.ix (.rd 0) (.cst (.int 1))) (.cst (.int 1))) (.ix (.rd 0) (.cst (.int 0))) (.var 0))]
def t_l_shown : List (String × Fn) := []
def f_l_shown : Fn := mkFn false false 1 [] 1 m_l_shown (tbl t_l_shown)
def m_less : List MS := [.par 2 3 (.call "pair_of" [(.var 0)]) (.call "pair_of" [(.var 1)]), .ret (.cmp .Lt (.bin .Mult (.ix (.rd 2) (.cst (.int 0))) (.ix (.rd 3) (.cst (.int 1)))) (.bin .Mult (.ix (.rd 3) (.cst (.int 0))) (.ix (.rd 2) (.cst (.int 1)))))]
def t_less : List (String × Fn) := [("pair_of", S.f_l_pair)]
def f_less : Fn := mkFn false false 2 [] 4 m_less (tbl t_less)
def w1_common_divisor : ME := (.cmp .Gt (.rd 1) (.cst (.int 0)))
def b1_common_divisor : List MS := [.par 0 1 (.var 1) (.bin .Mod (.rd 0) (.rd 1))]
def m_common_divisor : List MS := [.while w1_common_divisor b1_common_divisor, .ret (.var 0)]
def t_common_divisor : List (String × Fn) := []
def f_common_divisor : Fn := mkFn false false 2 [] 2 m_common_divisor (tbl t_common_divisor)
def m_is_int : List MS := [.ret (.and (.isi (.rd 0) ["int"]) (.not (.isi (.rd 0) ["bool"])))]
def t_is_int : List (String × Fn) := []
def f_is_int : Fn := mkFn false false 1 [] 1 m_is_int (tbl t_is_int)
def m_is_number : List MS := [.ite (.not (.isi (.rd 0) ["tuple"])) [.ret (.call "is_int" [(.var 0)])] [], .ite (.or (.cmp .NotEq (.bi "len" [(.rd 0)]) (.cst (.int 2))) (.or (.not (.call "is_int" [(.ix (.rd 0) (.cst (.int 0)))])) (.not (.call "is_int" [(.ix (.rd
   0) (.cst (.int 1)))])))) [.ret (.cst (.bl false))] [], .ret (.and (.cmp .GtE (.ix (.rd 0) (.cst (.int 1))) (.cst (.int 2))) (.cmp .Eq (.call "common_divisor" [(.bi "abs" [(.ix (.rd 0) (.cst (.int 0)))]), (.ix (.rd 0) (.cst (.int 1)))])
   (.cst (.int 1))))]
def t_is_number : List (String × Fn) := [("common_divisor", S.f_common_divisor), ("is_int", S.f_is_int)]
def f_is_number : Fn := mkFn false false 1 [] 1 m_is_number (tbl t_is_number)
def m_require_number : List MS := [.ite (.or (.not (.call "is_number" [(.var 0)])) (.and (.cmp .IsNot (.rd 1) (.cst .non)) (.call "less" [(.var 0), (.var 1)]))) [.raise "InvalidNumber"] []]
def t_require_number : List (String × Fn) := [("is_number", S.f_is_number), ("less", S.f_less)]
def f_require_number : Fn := mkFn false false 2 [.non] 2 m_require_number (tbl t_require_number)
def m_is_less : List MS := [.expr (.call "require_number" [(.var 0)]), .expr (.call "require_number" [(.var 1)]), .ret (.call "less" [(.var 0), (.var 1)])]
def t_is_less : List (String × Fn) := [("less", S.f_less), ("require_number", S.f_require_number)]
def f_is_less : Fn := mkFn false false 2 [] 2 m_is_less (tbl t_is_less)
def m_number_of : List MS := [.ite (.cmp .Eq (.rd 1) (.cst (.int 1))) [.ret (.var 0)] [], .set (.nm 2) (.call "common_divisor" [(.bi "abs" [(.rd 0)]), (.bi "abs" [(.rd 1)])]), .ite (.cmp .Lt (.rd 1) (.cst (.int 0))) [.set (.nm 2) (.bin .Sub (.cst (.int 0)) (.rd
   2))] [], .par 0 1 (.bin .FloorDiv (.rd 0) (.rd 2)) (.bin .FloorDiv (.rd 1) (.rd 2)), .ret (.ite (.cmp .Eq (.rd 1) (.cst (.int 1))) (.var 0) (.tup [(.var 0), (.var 1)]))]
def t_number_of : List (String × Fn) := [("common_divisor", S.f_common_divisor)]
def f_number_of : Fn := mkFn false false 2 [] 3 m_number_of (tbl t_number_of)
def m_minus : List MS := [.expr (.call "require_number" [(.var 0)]), .expr (.call "require_number" [(.var 1)]), .par 2 3 (.call "pair_of" [(.var 0)]) (.call "pair_of" [(.var 1)]), .ret (.call "number_of" [(.bin .Sub (.bin .Mult (.ix (.rd 2) (.cst (.int 0)))
   (.ix (.rd 3) (.cst (.int 1)))) (.bin .Mult (.ix (.rd 3) (.cst (.int 0))) (.ix (.rd 2) (.cst (.int 1))))), (.bin .Mult (.ix (.rd 2) (.cst (.int 1))) (.ix (.rd 3) (.cst (.int 1))))])]
def t_minus : List (String × Fn) := [("number_of", S.f_number_of), ("pair_of", S.f_l_pair), ("require_number", S.f_require_number)]
def f_minus : Fn := mkFn false false 2 [] 4 m_minus (tbl t_minus)
def m_over : List MS := [.expr (.call "require_number" [(.var 0)]), .expr (.call "require_number" [(.var 1)]), .ite (.cmp .Eq (.rd 1) (.cst (.int 0))) [.raise "InvalidNumber"] [], .par 2 3 (.call "pair_of" [(.var 0)]) (.call "pair_of" [(.var 1)]), .ret (.call
   "number_of" [(.bin .Mult (.ix (.rd 2) (.cst (.int 0))) (.ix (.rd 3) (.cst (.int 1)))), (.bin .Mult (.ix (.rd 2) (.cst (.int 1))) (.ix (.rd 3) (.cst (.int 0))))])]
def t_over : List (String × Fn) := [("number_of", S.f_number_of), ("pair_of", S.f_l_pair), ("require_number", S.f_require_number)]
def f_over : Fn := mkFn false false 2 [] 4 m_over (tbl t_over)
def b1_total : List MS := [.set (.nm 4) (.call "pair_of" [(.var 1)]), .ite (.cmp .Eq (.ix (.rd 4) (.cst (.int 1))) (.rd 3)) [.set (.nm 2) (.bin .Add (.rd 2) (.ix (.rd 4) (.cst (.int 0))))] [.par 2 3 (.bin .Add (.bin .Mult (.rd 2) (.ix (.rd 4) (.cst (.int 1))))
   (.bin .Mult (.ix (.rd 4) (.cst (.int 0))) (.rd 3))) (.bin .Mult (.rd 3) (.ix (.rd 4) (.cst (.int 1))))]]
def m_total : List MS := [.set (.tp [2, 3]) (.tup [(.cst (.int 0)), (.cst (.int 1))]), .for (.nm 1) 0 [(.rd 0)] b1_total, .ret (.call "number_of" [(.var 2), (.var 3)])]
def t_total : List (String × Fn) := [("number_of", S.f_number_of), ("pair_of", S.f_l_pair)]
def f_total : Fn := mkFn false false 1 [] 5 m_total (tbl t_total)
def m_plus : List MS := [.expr (.call "require_number" [(.var 0)]), .expr (.call "require_number" [(.var 1)]), .ret (.call "total" [(.lst [(.var 0), (.var 1)])])]
def t_plus : List (String × Fn) := [("require_number", S.f_require_number), ("total", S.f_total)]
def f_plus : Fn := mkFn false false 2 [] 2 m_plus (tbl t_plus)
def m_times : List MS := [.expr (.call "require_number" [(.var 0)]), .expr (.call "require_number" [(.var 1)]), .par 2 3 (.call "pair_of" [(.var 0)]) (.call "pair_of" [(.var 1)]), .ret (.call "number_of" [(.bin .Mult (.ix (.rd 2) (.cst (.int 0))) (.ix (.rd
   3) (.cst (.int 0)))), (.bin .Mult (.ix (.rd 2) (.cst (.int 1))) (.ix (.rd 3) (.cst (.int 1))))])]
def t_times : List (String × Fn) := [("number_of", S.f_number_of), ("pair_of", S.f_l_pair), ("require_number", S.f_require_number)]
def f_times : Fn := mkFn false false 2 [] 4 m_times (tbl t_times)
def m_l_right : List MS := [.par 6 7 (.call "_law_pair" [(.var 0)]) (.call "_law_pair" [(.var 1)]), .set (.nm 2) (.lst [(.call "_law_sum" [(.lst [(.var 6), (.var 7)])]), (.call "_law_diff" [(.var 6), (.var 7)]), (.call "_law_prod" [(.var 6), (.var 7)])]), .set
   (.nm 3) (.lst [(.call "plus" [(.var 0), (.var 1)]), (.call "minus" [(.var 0), (.var 1)]), (.call "times" [(.var 0), (.var 1)])]), .ite (.cmp .NotEq (.ix (.rd 7) (.cst (.int 0))) (.cst (.int 0))) [.app 2 (.call "_law_part" [(.var 6),
   (.var 7)]), .app 3 (.call "over" [(.var 0), (.var 1)])] [], .ite (.cmp .NotEq (.bi "repr" [(.rd 3)]) (.bi "repr" [(.lc (.call "_law_shown" [(.var 9)]) [9] (.nm 9) 0 [(.rd 2)] none)])) [.ret (.cst (.bl false))] [], .set (.nm 4) (.lst
   [(.call "_law_below" [(.var 6), (.var 7)]), (.call "_law_below" [(.var 7), (.var 6)])]), .ite (.cmp .NotEq (.bi "repr" [(.lst [(.call "is_less" [(.var 0), (.var 1)]), (.call "is_less" [(.var 1), (.var 0)])])]) (.bi "repr" [(.rd 4)]))
   [.ret (.cst (.bl false))] [], .set (.nm 5) (.lst [(.call "plus" [(.ix (.rd 3) (.cst (.int 1))), (.var 1)]), (.call "plus" [(.var 1), (.var 0)]), (.call "times" [(.var 1), (.var 0)]), (.call "minus" [(.cst (.int 0)), (.call "minus"
   [(.var 1), (.var 0)])])]), .ite (.cmp .NotEq (.rd 5) (.lst [(.var 0), (.ix (.rd 3) (.cst (.int 0))), (.ix (.rd 3) (.cst (.int 2))), (.ix (.rd 3) (.cst (.int 1)))])) [.ret (.cst (.bl false))] [], .ret (.cmp .Eq (.lc (.var 8) [8] (.nm
   8) 0 [(.rd 3)] (some (.not (.call "is_number" [(.var 8)])))) (.lst []))]
def t_l_right : List (String × Fn) := [("_law_below", S.f_l_below), ("_law_diff", S.f_l_diff), ("_law_pair", S.f_l_pair), ("_law_part", S.f_l_part), ("_law_prod", S.f_l_prod), ("_law_shown", S.f_l_shown), ("_law_sum", S.f_l_sum), ("is_less", S.f_is_less), ("is_number", S.f_is_number), ("minus", S.f_minus), ("over", S.f_over), ("plus", S.f_plus), ("times", S.f_times)]
def f_l_right : Fn := mkFn false false 2 [] 10 m_l_right (tbl t_l_right)
def m_l_toss : List MS := [.ite (.cmp .Gt (.ix (.rd 0) (.cst (.int 0))) (.cst (.int 0))) [.set (.nm 3) (.bin .Mod (.bi "int" [(.ix (.rd 0) (.cst (.int 0)))]) (.rd 1)), .setIx 0 (.cst (.int 0)) (.bin .FloorDiv (.ix (.rd 0) (.cst (.int 0))) (.rd 1)), .ret (.var
   3)] [], .setIx 0 (.cst (.int 2)) (.bin .Add (.ix (.rd 0) (.cst (.int 2))) (.cst (.int 1))), .set (.nm 2) (.bin .Mod (.bi "int" [(.bin .Pow (.bin .Add (.ix (.rd 0) (.cst (.int 1))) (.bin .Mult (.cst (.int 179424691)) (.ix (.rd 0) (.cst
   (.int 2))))) (.cst (.int 3)))]) (.bin .Add (.bin .Pow (.cst (.int 10)) (.cst (.int 38))) (.cst (.int 133)))), .set (.nm 2) (.bin .Mod (.bi "int" [(.bin .Pow (.bin .Add (.rd 2) (.bin .Mult (.cst (.int 982451653)) (.ix (.rd 0) (.cst
   (.int 2))))) (.cst (.int 3)))]) (.bin .Add (.bin .Pow (.cst (.int 10)) (.cst (.int 44))) (.cst (.int 31)))), .ret (.bin .Mod (.bi "int" [(.bin .FloorDiv (.rd 2) (.cst (.int 1299721)))]) (.rd 1))]
def t_l_toss : List (String × Fn) := []
def f_l_toss : Fn := mkFn true false 2 [] 4 m_l_toss (tbl t_l_toss)
def m_l_amount : List MS := [.set (.nm 2) (.callio "_law_toss" 0 [(.cst (.int 9))]), .ite (.cmp .Lt (.rd 2) (.cst (.int 3))) [.ret (.bin .Add (.var 1) (.callio "_law_toss" 0 [(.cst (.int 12))]))] [], .ite (.cmp .Eq (.rd 2) (.cst (.int 3))) [.ret (.call "_law_shown"
   [(.call "_law_cut" [(.bin .Add (.bin .Mult (.cst (.int 2)) (.callio "_law_toss" 0 [(.cst (.int 9))])) (.cst (.int 1))), (.cst (.int 2))])])] [], .ite (.cmp .Eq (.rd 2) (.cst (.int 4))) [.ret (.call "_law_shown" [(.call "_law_cut" [(.bin
   .Add (.var 1) (.callio "_law_toss" 0 [(.cst (.int 40))])), (.bin .Add (.cst (.int 2)) (.callio "_law_toss" 0 [(.cst (.int 11))]))])])] [], .ite (.cmp .Eq (.rd 2) (.cst (.int 5))) [.ret (.bin .Add (.bin .Add (.rd 1) (.bin .Pow (.cst
   (.int 10)) (.cst (.int 9)))) (.callio "_law_toss" 0 [(.bin .Pow (.cst (.int 10)) (.cst (.int 12)))]))] [], .ite (.cmp .Eq (.rd 2) (.cst (.int 6))) [.ret (.call "_law_shown" [(.call "_law_cut" [(.bin .Add (.var 1) (.callio "_law_toss"
   0 [(.bin .Pow (.cst (.int 10)) (.cst (.int 29)))])), (.bin .Add (.cst (.int 1)) (.callio "_law_toss" 0 [(.bin .Pow (.cst (.int 10)) (.cst (.int 28)))]))])])] [], .ret (.bin .Add (.var 1) (.callio "_law_toss" 0 [(.cst (.int 60))]))]
def t_l_amount : List (String × Fn) := [("_law_cut", S.f_l_cut), ("_law_shown", S.f_l_shown), ("_law_toss", S.f_l_toss)]
def f_l_amount : Fn := mkFn true false 2 [] 3 m_l_amount (tbl t_l_amount)
def m_l_signed : List MS := [.set (.nm 1) (.call "_law_pair" [(.callio "_law_amount" 0 [(.cst (.int 0))])]), .ret (.call "_law_shown" [(.tup [(.bin .Mult (.ix (.rd 1) (.cst (.int 0))) (.ix (.lst [(.cst (.int 1)), (.neg (.cst (.int 1)))]) (.callio "_law_toss" 0
   [(.cst (.int 2))]))), (.ix (.rd 1) (.cst (.int 1)))])])]
def t_l_signed : List (String × Fn) := [("_law_amount", S.f_l_amount), ("_law_pair", S.f_l_pair), ("_law_shown", S.f_l_shown), ("_law_toss", S.f_l_toss)]
def f_l_signed : Fn := mkFn true false 1 [] 2 m_l_signed (tbl t_l_signed)
def m_l_wide : List MS := [.ret (.call "_law_shown" [(.call "_law_cut" [(.callio "_law_toss" 0 [(.bin .Pow (.cst (.int 10)) (.cst (.int 40)))]), (.bin .Add (.cst (.int 1)) (.callio "_law_toss" 0 [(.bin .Sub (.bin .Pow (.cst (.int 10)) (.cst (.int 40))) (.cst
   (.int 1)))]))])])]
def t_l_wide : List (String × Fn) := [("_law_cut", S.f_l_cut), ("_law_shown", S.f_l_shown), ("_law_toss", S.f_l_toss)]
def f_l_wide : Fn := mkFn true false 1 [] 1 m_l_wide (tbl t_l_wide)
end S

namespace S
open PySem PySem.Spec L2 Z
/-! ### draws -/
def Pu (k : Nat) (p : D) : Prop := ∃ dg sd ct : Int, p = .lst [.int dg, .int sd, .int ct] ∧ 0 ≤ dg ∧ 0 ≤ sd ∧ sd < 2 ^ 62 ∧ 0 ≤ ct ∧ ct ≤ k
theorem Pu.mono {j k : Nat} {p : D} (h : Pu j p) (le : j ≤ k) : Pu k p := by
  obtain ⟨dg, sd, ct, e, a1, a2, a3, a4, a5⟩ := h
  exact ⟨dg, sd, ct, e, a1, a2, a3, a4, by omega⟩
theorem pow3 {x : Int} (h0 : 0 ≤ x) (h : x < 2 ^ 300) : powOk x 3 = true := by
  unfold powOk
  have : x.natAbs < 2 ^ (299 + 1) := by omega
  have := log2_le this
  simp
  omega
theorem divOk_of {j : Int} {k : Nat} (hk : k < 8000) (h : j ≠ 0) (h2 : j.natAbs < 2 ^ k) : divOk j = true := by
  unfold divOk
  have := log2_le (k := k) (Nat.lt_of_lt_of_le h2 (Nat.pow_le_pow_right (by omega) (by omega)))
  simp [h]; omega
theorem r_toss {k : Nat} {p : D} {m : Int} (h : Pu k p) (hk : k < 1000000) (h0 : 0 < m) (h1 : m < 2 ^ 200) : ∃ r p', f_l_toss.run [p, .int m] = .ok (.int r) p' ∧ 0 ≤ r ∧ r < m ∧ Pu (k + 1) p' := by
  obtain ⟨dg, sd, ct, rfl, a1, a2, a3, a4, a5⟩ := h
  have hm : m ≠ 0 := by omega
  have hd : divOk m = true := divOk_of (k := 250) (by omega) hm (by omega)
  show ∃ r p', (exB (tbl t_l_toss) fuelN m_l_toss (sl0 true 4 [.lst [.int dg, .int sd, .int ct], .int m])).fr true false = .ok (.int r) p' ∧ _
  by_cases hg : 0 < dg
  · refine ⟨dg.fmod m, .lst [.int (dg.fdiv m), .int sd, .int ct], ?_, Int.fmod_nonneg_of_pos dg h0, Int.fmod_lt_of_pos dg h0, _, _, _, rfl, Int.fdiv_nonneg a1 (by omega), a2, a3, a4, by omega⟩
    simp [m_l_toss, sl0, exB, exS, evE, evL, ixD, cmpD, hg, truD, biD, binD, hm, hd, setS, lstAt, updS, Sl.free, asgT, Out.fr, io0]
  · have e1 : mulOk 179424691 (ct + 1) = true := mulOk_of (a := 40) (b := 40) (by omega) (by omega) (by omega)
    have e2 : mulOk 982451653 (ct + 1) = true := mulOk_of (a := 40) (b := 40) (by omega) (by omega) (by omega)
    have e3 : powOk (sd + 179424691 * (ct + 1)) 3 = true := pow3 (by omega) (by omega)
    have e4 : ∀ z : Int, powOk (z.fmod 100000000000000000000000000000000000133 + 982451653 * (ct + 1)) 3 = true := fun z => by
      have := Int.fmod_nonneg_of_pos z (b := 100000000000000000000000000000000000133) (by omega)
      have := Int.fmod_lt_of_pos z (b := 100000000000000000000000000000000000133) (by omega)
      exact pow3 (by omega) (by omega)
    have e5 : divOk 1299721 = true := by decide
    have e6 : powOk 10 38 = true := by decide
    have e7 : powOk 10 44 = true := by decide
    simp [m_l_toss, sl0, exB, exS, evE, evL, ixD, cmpD, hg, truD, biD, binD, hm, hd, setS, lstAt, updS, Sl.free, asgT, Out.fr, io0, e1, e2, e3, e4, e5, e6, e7]
    exact ⟨_, _, ⟨rfl, rfl⟩, Int.fmod_nonneg_of_pos _ h0, Int.fmod_lt_of_pos _ h0, _, _, _, rfl, a1, a2, a3, by omega, by omega⟩
/-- a draw, from the drawer's own slot or its caller's -/
theorem c_toss_io {Φ : Tab} {k : Nat} {p : D} {m : Int} {ρ : Vn} {i : Nat} (hf : Φ "_law_toss" = some f_l_toss) (hi : ρ[i]? = some (.io p)) (h : Pu k p) (hk : k < 1000000) (h0 : 0 < m) (h1 : m < 2 ^ 200) : ∃ r p', callIo Φ "_law_toss" i [.int m] ρ = .ok (false, .int r) (ρ.set i (.io p')) ∧ 0 ≤ r ∧ r < m ∧ Pu (k + 1) p' := by
  obtain ⟨r, p', e, a, b, c⟩ := r_toss h hk h0 h1
  exact ⟨r, p', callIo_io hf rfl rfl hi e, a, b, c⟩
theorem c_toss_own {Φ : Tab} {k : Nat} {p : D} {m : Int} {ρ : Vn} {i : Nat} (hf : Φ "_law_toss" = some f_l_toss) (hi : ρ[i]? = some (.own p)) (h : Pu k p) (hk : k < 1000000) (h0 : 0 < m) (h1 : m < 2 ^ 200) : ∃ r p', callIo Φ "_law_toss" i [.int m] ρ = .ok (false, .int r) (ρ.set i (.own p')) ∧ 0 ≤ r ∧ r < m ∧ Pu (k + 1) p' := by
  obtain ⟨r, p', e, a, b, c⟩ := r_toss h hk h0 h1
  exact ⟨r, p', callIo_own hf rfl rfl hi e, a, b, c⟩
/-! ### the purse -/
theorem r_purse {ns : List Int} : ∃ p, f_l_purse.run [.lst (ns.map D.int)] = .ok p .non ∧ Pu 0 p := by
  show ∃ p, (exB (tbl t_l_purse) fuelN m_l_purse (sl0 false 4 [.lst (ns.map D.int)])).fr false true = .ok p .non ∧ Pu 0 p
  have e18 : powOk 10 18 = true := by decide
  have e60 : powOk 10 60 = true := by decide
  -- the loop
  have loop : ∃ ρ', forGo (.nm 1) (exB (tbl t_l_purse) fuelN b1_l_purse) (cutD (ns.map D.int) none (some 40)) [.val (.lst (ns.map D.int)), .non, .val (.int 0), .val (.int 660179)] = .nx ρ' ∧
      ∃ c, ∃ dg sd : Int, ρ' = [.val (.lst (ns.map D.int)), c, .val (.int dg), .val (.int sd)] ∧ 0 ≤ dg ∧ 0 ≤ sd ∧ sd < 2 ^ 61 := by
    have hl : (cutD (ns.map D.int) none (some 40)).length ≤ 40 := by
      unfold cutD
      have : HT.sIx (List.map D.int ns).length (List.map D.int ns).length (some 40) ≤ 40 := by
        simp [HT.sIx]; omega
      simp only [List.length_take, List.length_drop]
      omega
    obtain ⟨ρ', e, c, hc, dg, sd, h1, h2, h3, h4, h5⟩ := forGo_nx (tg := .nm 1) (body := exB (tbl t_l_purse) fuelN b1_l_purse) (xs := cutD (ns.map D.int) none (some 40)) (i := 0)
      (I := fun i ρ => ∃ c : Sl, c.free = true ∧ ∃ dg sd : Int, ρ = [.val (.lst (ns.map D.int)), c, .val (.int dg), .val (.int sd)] ∧ 0 ≤ dg ∧ dg.natAbs < 2 ^ (202 * i + 1) ∧ 0 ≤ sd ∧ sd < 2 ^ 61) ⟨.non, rfl, 0, 660179, rfl, by omega, by simp, by omega, by omega⟩ (by
      rintro j d ρ hd ⟨c, hc, dg, sd, rfl, a1, a2, a3, a4⟩
      have hj : j < 40 := by
        have := (List.getElem?_eq_some_iff.mp hd).1
        omega
      obtain ⟨x, rfl⟩ : ∃ x, d = .int x := by
        have := List.mem_of_getElem? hd
        unfold cutD at this
        have := List.mem_of_mem_drop (List.mem_of_mem_take this)
        obtain ⟨x, _, rfl⟩ := List.mem_map.mp this
        exact ⟨x, rfl⟩
      simp only [Nat.zero_add] at a2 ⊢
      have m1 : mulOk sd 69621 = true := mulOk_of (a := 60) (b := 60) (by omega) (by omega) (by omega)
      have m2 : mulOk dg 1000000000000000000000000000000000000000000000000000000000000 = true := mulOk_of (a := 202 * j) (b := 250) a2 (by omega) (by omega)
      have sdn : ∀ z : Int, 0 ≤ z.fmod 2305843009213693951 ∧ z.fmod 2305843009213693951 < 2 ^ 61 := fun z => ⟨Int.fmod_nonneg_of_pos _ (by omega), by have := Int.fmod_lt_of_pos z (b := 2305843009213693951) (by omega); omega⟩
      by_cases hx : (1000000000000000000 : Int) ≤ (x.natAbs : Int)
      · refine ⟨_, _, by simp [asgT, setS, hc]; rfl, by simp [b1_l_purse, exB, exS, evE, evL, cmpD, truD, biD, binD, e18, e60, m1, m2, hx, setS, Sl.free]; exact ⟨rfl, rfl⟩, .val (.int x), rfl, _, _, rfl, ?_, ?_, (sdn _).1, (sdn _).2⟩
        · have := Int.fmod_nonneg_of_pos (x.natAbs : Int) (b := 1000000000000000000000000000000000000000000000000000000000000) (by omega)
          omega
        · have q1 := Int.fmod_nonneg_of_pos (x.natAbs : Int) (b := 1000000000000000000000000000000000000000000000000000000000000) (by omega)
          have q2 := Int.fmod_lt_of_pos (x.natAbs : Int) (b := 1000000000000000000000000000000000000000000000000000000000000) (by omega)
          have q3 : 2 ^ (202 * (j + 1) + 1) = 2 ^ (202 * j + 1) * 2 ^ 202 := by rw [← Nat.pow_add]; congr 1
          rw [q3]
          generalize 2 ^ (202 * j + 1) = B at a2
          omega
      · refine ⟨_, _, by simp [asgT, setS, hc]; rfl, by simp [b1_l_purse, exB, exS, evE, evL, cmpD, truD, biD, binD, e18, e60, m1, m2, hx, setS, Sl.free]; rfl, .val (.int x), rfl, _, _, rfl, a1, ?_, (sdn _).1, (sdn _).2⟩
        exact Nat.lt_of_lt_of_le a2 (Nat.pow_le_pow_right (by omega) (by omega)))
    exact ⟨ρ', e, c, dg, sd, h1, h2, h4, h5⟩
  obtain ⟨ρ', e, c, dg, sd, rfl, h1, h2, h3⟩ := loop
  refine ⟨.lst [.int dg, .int sd, .int 0], ?_, dg, sd, 0, rfl, h1, h2, by omega, by omega, by omega⟩
  simp [m_l_purse, sl0, exB, exS, evE, evL, evO, slcD, asgT, sets, setS, Sl.free, Z.fresh, itD, rdIdx, lockV, e, Out.back, unlockV, Out.fr, io0]
/-! ### divisors -/
theorem fmod_nat (a b : Nat) : Int.fmod (a : Int) (b : Int) = ((a % b : Nat) : Int) := by
  rw [Int.fmod_eq_emod_of_nonneg _ (by omega)]; rfl
theorem w_gcd {k : Nat} (hk : k < 400000) (a b : Nat) (h : b < 2 ^ k) : whGo (evE (tbl t_common_divisor) w1_common_divisor) (exB (tbl t_common_divisor) fuelN b1_common_divisor) fuelN [.val (.int a), .val (.int b)] = .nx [.val (.int (Nat.gcd a b : Nat)), .val (.int 0)] := by
  have key := euclid (W := fun m a b => whGo (evE (tbl t_common_divisor) w1_common_divisor) (exB (tbl t_common_divisor) fuelN b1_common_divisor) m [.val (.int (a : Nat)), .val (.int (b : Nat))]) (R := fun g => .nx [.val (.int (g : Nat)), .val (.int 0)])
    (fun m a => by simp [whGo, w1_common_divisor, evE, cmpD, truD]) (fun m a b hb => by
      have hb0 : (b : Int) ≠ 0 := by omega
      have hb1 : (0 : Int) < b := by omega
      have hb2 : b ≠ 0 := by omega
      simp [whGo, w1_common_divisor, hb2, evE, cmpD, truD, hb1, hb0, b1_common_divisor, exB, exS, binD, setS, Sl.free, fmod_nat, hb]) k a b h (fuelN - (2 * k + 1))
  rw [show 2 * k + 1 + (fuelN - (2 * k + 1)) = fuelN by unfold fuelN; omega] at key
  exact key
theorem r_gcd {k : Nat} (hk : k < 400000) (a b : Nat) (h : b < 2 ^ k) : f_common_divisor.run [.int a, .int b] = .ok (.int (Nat.gcd a b : Nat)) .non := by
  show (exB (tbl t_common_divisor) fuelN m_common_divisor (sl0 false 2 [.int a, .int b])).fr false false = _
  simp [m_common_divisor, sl0, exB, exS, w_gcd hk a b h, Out.fr, io0]
theorem w_cut {k : Nat} (hk : k < 400000) (x y : Int) (a b : Nat) (h : b < 2 ^ k) : whGo (evE (tbl t_l_cut) w1_l_cut) (exB (tbl t_l_cut) fuelN b1_l_cut) fuelN [.val (.int x), .val (.int y), .val (.int a), .val (.int b)] = .nx [.val (.int x), .val (.int y), .val (.int (Nat.gcd a b : Nat)), .val (.int 0)] := by
  have key := euclid (W := fun m a b => whGo (evE (tbl t_l_cut) w1_l_cut) (exB (tbl t_l_cut) fuelN b1_l_cut) m [.val (.int x), .val (.int y), .val (.int (a : Nat)), .val (.int (b : Nat))]) (R := fun g => .nx [.val (.int x), .val (.int y), .val (.int (g : Nat)), .val (.int 0)])
    (fun m a => by simp [whGo, w1_l_cut, evE, cmpD, truD]) (fun m a b hb => by
      have hb0 : (b : Int) ≠ 0 := by omega
      have hb1 : (0 : Int) < b := by omega
      have hb2 : b ≠ 0 := by omega
      simp [whGo, w1_l_cut, hb2, evE, evL, biD, cmpD, truD, hb1, hb0, b1_l_cut, exB, exS, binD, setS, Sl.free, fmod_nat, hb]) k a b h (fuelN - (2 * k + 1))
  rw [show 2 * k + 1 + (fuelN - (2 * k + 1)) = fuelN by unfold fuelN; omega] at key
  exact key
/-- the signed divisor -/
def sg (a b : Int) : Int := if b < 0 then -((Nat.gcd a.natAbs b.natAbs : Nat) : Int) else ((Nat.gcd a.natAbs b.natAbs : Nat) : Int)
theorem sg_ne {a b : Int} (h : b ≠ 0) : sg a b ≠ 0 := by
  have : Nat.gcd a.natAbs b.natAbs ≠ 0 := by
    intro z
    have := (Nat.gcd_eq_zero_iff.mp z).2
    omega
  unfold sg
  split <;> omega
theorem sg_abs {a b : Int} : (sg a b).natAbs = Nat.gcd a.natAbs b.natAbs := by
  unfold sg
  split <;> omega
theorem gcd_lt {a b : Int} {k : Nat} (h : b ≠ 0) (hb : b.natAbs < 2 ^ k) : Nat.gcd a.natAbs b.natAbs < 2 ^ k := by
  have := Nat.gcd_le_right a.natAbs (n := b.natAbs) (by omega)
  omega
theorem divOk_sg {a b : Int} {k : Nat} (hk : k < 8000) (h : b ≠ 0) (hb : b.natAbs < 2 ^ k) : divOk (sg a b) = true := by
  refine divOk_of hk (sg_ne h) ?_
  rw [sg_abs]
  exact gcd_lt h hb
theorem r_cut {a b : Int} {k : Nat} (hk : k < 8000) (h : b ≠ 0) (hb : b.natAbs < 2 ^ k) : f_l_cut.run [.int a, .int b] = .ok (.tup [.int (a.fdiv (sg a b)), .int (b.fdiv (sg a b))]) .non := by
  show (exB (tbl t_l_cut) fuelN m_l_cut (sl0 false 4 [.int a, .int b])).fr false false = _
  have w := w_cut (k := k) (by omega) a b a.natAbs b.natAbs hb
  have d := divOk_sg (a := a) hk h hb
  have g := Nat.lt_of_lt_of_le (gcd_lt (a := a) h hb) (Nat.pow_le_pow_right (show 0 < 2 by omega) (Nat.le_succ k))
  have m1 : mulOk 2 1 = true := by decide
  have m0 : mulOk 2 0 = true := by decide
  have m2 : mulOk (Nat.gcd a.natAbs b.natAbs : Nat) (-1) = true := mulOk_of (a := k) (b := 1) (by simpa using g) (by omega) (by omega)
  have m3 : mulOk (Nat.gcd a.natAbs b.natAbs : Nat) 1 = true := mulOk_of (a := k) (b := 1) (by simpa using g) (by omega) (by omega)
  by_cases hs : b < 0
  · have e : sg a b = -((Nat.gcd a.natAbs b.natAbs : Nat) : Int) := by unfold sg; rw [if_pos hs]
    rw [e] at d ⊢
    simp [m_l_cut, sl0, exB, exS, evE, evL, biD, setS, Sl.free, w, cmpD, truD, binD, hs, m1, m0, m2, m3, d, Out.fr, io0]
  · have e : sg a b = ((Nat.gcd a.natAbs b.natAbs : Nat) : Int) := by unfold sg; rw [if_neg hs]
    rw [e] at d ⊢
    simp [m_l_cut, sl0, exB, exS, evE, evL, biD, setS, Sl.free, w, cmpD, truD, binD, hs, m1, m0, m2, m3, d, Out.fr, io0]
/-! ### numbers -/
def plainD : D → Bool
  | .dcT _ => false | .ins _ _ => false | _ => true
def isIntD : D → Bool
  | .int _ => true | _ => false
theorem r_is_int {d : D} (h : plainD d = true) : f_is_int.run [d] = .ok (.bl (isIntD d)) .non := by
  show (exB (tbl t_is_int) fuelN m_is_int (sl0 false 1 [d])).fr false false = _
  cases d <;> first | (simp [m_is_int, sl0, exB, exS, evE, evL, isiD, truD, Out.fr, io0, isIntD]; done) | cases h
/-- top / bottom -/
def numD (a b : Int) : D := if b.fdiv (sg a b) = 1 then .int (a.fdiv (sg a b)) else .tup [.int (a.fdiv (sg a b)), .int (b.fdiv (sg a b))]
theorem sg_one (a : Int) : sg a 1 = 1 := by simp [sg]
theorem r_shown {a b : Int} : f_l_shown.run [.tup [.int a, .int b]] = .ok (if b = 1 then .int a else .tup [.int a, .int b]) .non := by
  show (exB (tbl t_l_shown) fuelN m_l_shown (sl0 false 1 [.tup [.int a, .int b]])).fr false false = _
  by_cases h : b = 1
  · simp [m_l_shown, sl0, exB, exS, evE, evL, ixD, cmpD, h, truD, Out.fr, io0]
  · simp [m_l_shown, sl0, exB, exS, evE, evL, ixD, cmpD, h, truD, Out.fr, io0]
theorem c_gcd {Φ : Tab} (hf : Φ "common_divisor" = some f_common_divisor) {a b k : Nat} (hk : k < 8000) (h : b < 2 ^ k) {ρ : Vn} : callF Φ "common_divisor" [.int a, .int b] ρ = .ok (false, .int (Nat.gcd a b : Nat)) ρ := callF_ok hf rfl rfl (r_gcd (by omega) a b h)
theorem r_number_of {a b : Int} {k : Nat} (hk : k < 8000) (h : b ≠ 0) (hb : b.natAbs < 2 ^ k) : f_number_of.run [.int a, .int b] = .ok (numD a b) .non := by
  show (exB (tbl t_number_of) fuelN m_number_of (sl0 false 3 [.int a, .int b])).fr false false = _
  have w : ∀ ρ, callF (tbl t_number_of) "common_divisor" [.int (a.natAbs : Nat), .int (b.natAbs : Nat)] ρ = .ok (false, .int (Nat.gcd a.natAbs b.natAbs : Nat)) ρ := fun ρ => c_gcd rfl hk hb
  have d := divOk_sg (a := a) hk h hb
  by_cases h1 : b = 1
  · subst h1
    have e : numD a 1 = .int a := by unfold numD; rw [sg_one]; simp
    rw [e]
    simp [m_number_of, sl0, exB, exS, evE, evL, cmpD, truD, Out.fr, io0]
  · by_cases hs : b < 0
    · have e : sg a b = -((Nat.gcd a.natAbs b.natAbs : Nat) : Int) := by unfold sg; rw [if_pos hs]
      unfold numD
      rw [e] at d ⊢
      by_cases h2 : b.fdiv (-((Nat.gcd a.natAbs b.natAbs : Nat) : Int)) = 1
      · simp [m_number_of, sl0, exB, exS, evE, evL, biD, cmpD, h1, truD, w, setS, Sl.free, binD, hs, d, h2, Out.fr, io0]
      · simp [m_number_of, sl0, exB, exS, evE, evL, biD, cmpD, h1, truD, w, setS, Sl.free, binD, hs, d, h2, Out.fr, io0]
    · have e : sg a b = ((Nat.gcd a.natAbs b.natAbs : Nat) : Int) := by unfold sg; rw [if_neg hs]
      unfold numD
      rw [e] at d ⊢
      by_cases h2 : b.fdiv ((Nat.gcd a.natAbs b.natAbs : Nat) : Int) = 1
      · simp [m_number_of, sl0, exB, exS, evE, evL, biD, cmpD, h1, truD, w, setS, Sl.free, binD, hs, d, h2, Out.fr, io0]
      · simp [m_number_of, sl0, exB, exS, evE, evL, biD, cmpD, h1, truD, w, setS, Sl.free, binD, hs, d, h2, Out.fr, io0]
end S

namespace S
open PySem PySem.Spec L2 Z
/-! ### fractions -/
theorem sg_split {a b : Int} (h : b ≠ 0) : ∃ q r : Int, a = sg a b * q ∧ b = sg a b * r ∧ a.fdiv (sg a b) = q ∧ b.fdiv (sg a b) = r ∧ 0 < r ∧ Nat.gcd q.natAbs r.natAbs = 1 := by
  have g0 : 0 < Nat.gcd a.natAbs b.natAbs := Nat.gcd_pos_of_pos_right _ (by omega)
  have d1 : sg a b ∣ a := Int.natAbs_dvd_natAbs.mp (by rw [sg_abs]; exact Nat.gcd_dvd_left _ _)
  have d2 : sg a b ∣ b := Int.natAbs_dvd_natAbs.mp (by rw [sg_abs]; exact Nat.gcd_dvd_right _ _)
  obtain ⟨q, hq⟩ := d1
  obtain ⟨r, hr⟩ := d2
  have hs := sg_ne (a := a) h
  refine ⟨q, r, hq, hr, ?_, ?_, ?_, ?_⟩
  · conv => lhs; arg 1; rw [hq]
    exact Int.mul_fdiv_cancel_left _ hs
  · conv => lhs; arg 1; rw [hr]
    exact Int.mul_fdiv_cancel_left _ hs
  · refine Classical.byContradiction fun hn => ?_
    by_cases hb : b < 0
    · have e : sg a b = -((Nat.gcd a.natAbs b.natAbs : Nat) : Int) := by unfold sg; rw [if_pos hb]
      have : 0 ≤ sg a b * r := Int.mul_nonneg_of_nonpos_of_nonpos (by omega) (by omega)
      omega
    · have e : sg a b = ((Nat.gcd a.natAbs b.natAbs : Nat) : Int) := by unfold sg; rw [if_neg hb]
      have : sg a b * r ≤ 0 := Int.mul_nonpos_of_nonneg_of_nonpos (by omega) (by omega)
      omega
  · have e1 : a.natAbs = Nat.gcd a.natAbs b.natAbs * q.natAbs := by conv => lhs; rw [hq, Int.natAbs_mul, sg_abs]
    have e2 : b.natAbs = Nat.gcd a.natAbs b.natAbs * r.natAbs := by conv => lhs; rw [hr, Int.natAbs_mul, sg_abs]
    clear hq hr hs
    generalize hg : Nat.gcd a.natAbs b.natAbs = g at e1 e2 g0
    have e3 : g = g * Nat.gcd q.natAbs r.natAbs := by
      rw [← Nat.gcd_mul_left, ← e1, ← e2, hg]
    have e4 : g * 1 = g * Nat.gcd q.natAbs r.natAbs := by rw [Nat.mul_one]; exact e3
    exact (Nat.eq_of_mul_eq_mul_left g0 e4).symm
theorem num_q {a b : Int} (h : b ≠ 0) : a.fdiv (sg a b) = (Rat.divInt a b).num ∧ b.fdiv (sg a b) = ((Rat.divInt a b).den : Int) ∧ a = sg a b * (Rat.divInt a b).num ∧ b = sg a b * ((Rat.divInt a b).den : Int) := by
  obtain ⟨q, r, h1, h2, h3, h4, h5, h6⟩ := sg_split (a := a) h
  have hs := sg_ne (a := a) h
  let y : Rat := ⟨q, r.natAbs, by omega, h6⟩
  have er : ((r.natAbs : Nat) : Int) = r := by omega
  have e : Rat.divInt a b = y := by
    have e1 : Rat.divInt a b = Rat.divInt (sg a b * q) (sg a b * r) := by rw [← h1, ← h2]
    rw [e1, Rat.divInt_mul_left hs]
    have := Rat.num_divInt_den y
    rw [show y.num = q from rfl, show ((y.den : Nat) : Int) = r from er] at this
    exact this
  rw [e, h3, h4]
  exact ⟨rfl, er.symm, h1, by rw [show ((y.den : Nat) : Int) = r from er]; exact h2⟩
/-- a number as the program holds it; its top and bottom -/
def ofQ (x : Rat) : D := if x.den = 1 then .int x.num else .tup [.int x.num, .int (x.den : Nat)]
def prQ (x : Rat) : D := .tup [.int x.num, .int (x.den : Nat)]
theorem numD_q {a b : Int} (h : b ≠ 0) : numD a b = ofQ (Rat.divInt a b) := by
  obtain ⟨e1, e2, _⟩ := num_q (a := a) h
  unfold numD ofQ
  rw [e1, e2]
  by_cases hd : (Rat.divInt a b).den = 1
  · rw [if_pos (by omega), if_pos hd]
  · rw [if_neg (by omega), if_neg hd]
/-- the size of a number, by bits -/
def Sz (k : Nat) (x : Rat) : Prop := x.num.natAbs < 2 ^ k ∧ x.den < 2 ^ k
theorem Sz.mono {j k : Nat} {x : Rat} (h : Sz j x) (le : j ≤ k) : Sz k x := ⟨Nat.lt_of_lt_of_le h.1 (Nat.pow_le_pow_right (by omega) le), Nat.lt_of_lt_of_le h.2 (Nat.pow_le_pow_right (by omega) le)⟩
theorem sz_div {k : Nat} {a b : Int} (h : b ≠ 0) (ha : a.natAbs < 2 ^ k) (hb : b.natAbs < 2 ^ k) : Sz k (Rat.divInt a b) := by
  obtain ⟨_, _, e3, e4⟩ := num_q (a := a) h
  have hs := sg_ne (a := a) h
  have le : ∀ z : Int, z.natAbs ≤ (sg a b * z).natAbs := fun z => by
    rw [Int.natAbs_mul]
    exact Nat.le_mul_of_pos_left _ (by omega)
  have l1 := le (Rat.divInt a b).num
  have l2 := le ((Rat.divInt a b).den : Int)
  rw [← e3] at l1
  rw [← e4] at l2
  exact ⟨by omega, by omega⟩
theorem mul_lt {i j : Nat} {a b : Int} (ha : a.natAbs < 2 ^ i) (hb : b.natAbs < 2 ^ j) : (a * b).natAbs < 2 ^ (i + j) := by
  rw [Int.natAbs_mul, Nat.pow_add]
  exact Nat.mul_lt_mul'' ha hb
theorem add_lt {i : Nat} {a b : Int} (ha : a.natAbs < 2 ^ i) (hb : b.natAbs < 2 ^ i) : (a + b).natAbs < 2 ^ (i + 1) := by
  rw [Nat.pow_succ]
  omega
theorem sub_lt {i : Nat} {a b : Int} (ha : a.natAbs < 2 ^ i) (hb : b.natAbs < 2 ^ i) : (a - b).natAbs < 2 ^ (i + 1) := by
  rw [Nat.pow_succ]
  omega
theorem mulOk_lt {i j : Nat} {a b : Int} (ha : a.natAbs < 2 ^ i) (hb : b.natAbs < 2 ^ j) (h : i + j < 100000000) : mulOk a b = true :=
  mulOk_of (a := i) (b := j) (Nat.lt_of_lt_of_le ha (Nat.pow_le_pow_right (by omega) (by omega))) (Nat.lt_of_lt_of_le hb (Nat.pow_le_pow_right (by omega) (by omega))) h
theorem add_q (x y : Rat) : Rat.divInt (x.num * y.den + y.num * x.den) (x.den * y.den) = x + y := by
  have := Rat.divInt_add_divInt x.num y.num (d₁ := x.den) (d₂ := y.den) (by have := x.den_nz; omega) (by have := y.den_nz; omega)
  rw [Rat.num_divInt_den, Rat.num_divInt_den] at this
  exact this.symm
theorem sub_q (x y : Rat) : Rat.divInt (x.num * y.den - y.num * x.den) (x.den * y.den) = x - y := by
  have := Rat.divInt_sub_divInt x.num y.num (d₁ := x.den) (d₂ := y.den) (by have := x.den_nz; omega) (by have := y.den_nz; omega)
  rw [Rat.num_divInt_den, Rat.num_divInt_den] at this
  exact this.symm
theorem mul_q (x y : Rat) : Rat.divInt (x.num * y.num) (x.den * y.den) = x * y := by
  have := Rat.divInt_mul_divInt x.num y.num (d₁ := x.den) (d₂ := y.den)
  rw [Rat.num_divInt_den, Rat.num_divInt_den] at this
  exact this.symm
theorem div_q (x y : Rat) : Rat.divInt (x.num * y.den) (x.den * y.num) = x / y := by
  rw [Rat.div_def, Rat.inv_def]
  have := Rat.divInt_mul_divInt x.num (y.den : Int) (d₁ := x.den) (d₂ := y.num)
  rw [Rat.num_divInt_den] at this
  exact this.symm
theorem Sz.den {k : Nat} {x : Rat} (h : Sz k x) : ((x.den : Nat) : Int).natAbs < 2 ^ k := by simpa using h.2
theorem sz_add {k : Nat} {x y : Rat} (hx : Sz k x) (hy : Sz k y) : Sz (k + k + 1) (x + y) := by
  rw [← add_q]
  refine sz_div (by have := x.den_nz; have := y.den_nz; simp [*]) (add_lt (mul_lt hx.1 hy.den) (mul_lt hy.1 hx.den)) ?_
  exact Nat.lt_of_lt_of_le (mul_lt hx.den hy.den) (Nat.pow_le_pow_right (by omega) (by omega))
theorem sz_sub {k : Nat} {x y : Rat} (hx : Sz k x) (hy : Sz k y) : Sz (k + k + 1) (x - y) := by
  rw [← sub_q]
  refine sz_div (by have := x.den_nz; have := y.den_nz; simp [*]) (sub_lt (mul_lt hx.1 hy.den) (mul_lt hy.1 hx.den)) ?_
  exact Nat.lt_of_lt_of_le (mul_lt hx.den hy.den) (Nat.pow_le_pow_right (by omega) (by omega))
theorem sz_mul {k : Nat} {x y : Rat} (hx : Sz k x) (hy : Sz k y) : Sz (k + k) (x * y) := by
  rw [← mul_q]
  exact sz_div (by have := x.den_nz; have := y.den_nz; simp [*]) (mul_lt hx.1 hy.1) (mul_lt hx.den hy.den)
theorem sz_quo {k : Nat} {x y : Rat} (hx : Sz k x) (hy : Sz k y) (h : y ≠ 0) : Sz (k + k) (x / y) := by
  rw [← div_q]
  have hn : y.num ≠ 0 := fun z => h (Rat.num_eq_zero.mp z)
  exact sz_div (by have := x.den_nz; simp [*]) (mul_lt hx.1 hy.den) (mul_lt hx.den hy.1)
end S

namespace S
open PySem PySem.Spec L2 Z
/-- a call that leaves its last arguments out -/
theorem callF_dfl {Φ : Tab} {f : String} {fn : Fn} {ds : List D} {ρ : Vn} {d s : D} (h : Φ f = some fn) (io : fn.io = false) (a1 : ds.length ≤ fn.ar) (a2 : fn.ar ≤ ds.length + fn.dfl.length) (r : fn.run (ds ++ fn.dfl.drop (fn.dfl.length - (fn.ar - ds.length))) = .ok d s) : callF Φ f ds ρ = .ok (fn.fresh, d) ρ := by
  unfold callF
  rw [h]
  simp only [io, Bool.false_eq_true, if_false]
  rw [if_pos ⟨a1, a2⟩, r]
theorem r_cut_q {a b : Int} {k : Nat} (hk : k < 8000) (h : b ≠ 0) (hb : b.natAbs < 2 ^ k) : f_l_cut.run [.int a, .int b] = .ok (prQ (Rat.divInt a b)) .non := by
  rw [r_cut hk h hb, (num_q (a := a) h).1, (num_q (a := a) h).2.1]
  rfl
theorem r_number_q {a b : Int} {k : Nat} (hk : k < 8000) (h : b ≠ 0) (hb : b.natAbs < 2 ^ k) : f_number_of.run [.int a, .int b] = .ok (ofQ (Rat.divInt a b)) .non := by
  rw [r_number_of hk h hb, numD_q h]
theorem r_shown_q (x : Rat) : f_l_shown.run [prQ x] = .ok (ofQ x) .non := by
  have := r_shown (a := x.num) (b := (x.den : Nat))
  rw [show (if ((x.den : Nat) : Int) = 1 then D.int x.num else .tup [.int x.num, .int (x.den : Nat)]) = ofQ x by
    unfold ofQ
    by_cases h : x.den = 1
    · rw [if_pos (by omega), if_pos h]
    · rw [if_neg (by omega), if_neg h]] at this
  exact this
theorem r_pair (x : Rat) : f_l_pair.run [ofQ x] = .ok (prQ x) .non := by
  show (exB (tbl t_l_pair) fuelN m_l_pair (sl0 false 1 [ofQ x])).fr false false = _
  unfold ofQ
  by_cases h : x.den = 1
  · rw [if_pos h]
    simp [m_l_pair, sl0, exB, exS, evE, evL, isiD, truD, Out.fr, io0, prQ, h]
  · rw [if_neg h]
    simp [m_l_pair, sl0, exB, exS, evE, evL, isiD, truD, Out.fr, io0, prQ]
theorem k_pair {Φ : Tab} (x : Rat) (ρ : Vn) (h : Φ "pair_of" = some f_l_pair) : callF Φ "pair_of" [ofQ x] ρ = .ok (false, prQ x) ρ := callF_ok h rfl rfl (r_pair x)
theorem r_less {x y : Rat} {k : Nat} (hk : k < 8000) (hx : Sz k x) (hy : Sz k y) : f_less.run [ofQ x, ofQ y] = .ok (.bl (decide (x < y))) .non := by
  show (exB (tbl t_less) fuelN m_less (sl0 false 4 [ofQ x, ofQ y])).fr false false = _
  have p1 := fun ρ => k_pair (Φ := tbl t_less) x ρ rfl
  have p2 := fun ρ => k_pair (Φ := tbl t_less) y ρ rfl
  have m1 := mulOk_lt hx.1 hy.den (by omega)
  have m2 := mulOk_lt hy.1 hx.den (by omega)
  simp [m_less, sl0, exB, exS, evE, evL, p1, p2, setS, Sl.free, prQ, ixD, binD, m1, m2, cmpD, Out.fr, io0, Rat.lt_iff]
theorem r_is_number_q {x : Rat} {k : Nat} (hk : k < 8000) (hx : Sz k x) : f_is_number.run [ofQ x] = .ok (.bl true) .non := by
  show (exB (tbl t_is_number) fuelN m_is_number (sl0 false 1 [ofQ x])).fr false false = _
  have w1 : ∀ (z : Int) ρ, callF (tbl t_is_number) "is_int" [.int z] ρ = .ok (false, .bl true) ρ := fun z ρ => callF_ok rfl rfl rfl (r_is_int (d := .int z) rfl)
  unfold ofQ
  by_cases h : x.den = 1
  · rw [if_pos h]
    simp [m_is_number, sl0, exB, exS, evE, evL, isiD, truD, w1, Out.fr, io0]
  · rw [if_neg h]
    have h2 : (2 : Int) ≤ (x.den : Nat) := by have := x.den_nz; omega
    have g : ∀ ρ, callF (tbl t_is_number) "common_divisor" [.int (x.num.natAbs : Nat), .int (x.den : Nat)] ρ = .ok (false, .int 1) ρ := fun ρ => by
      have := c_gcd (Φ := tbl t_is_number) rfl hk (a := x.num.natAbs) (b := x.den) hx.2 (ρ := ρ)
      rw [show Nat.gcd x.num.natAbs x.den = 1 from x.reduced] at this
      exact this
    simp [m_is_number, sl0, exB, exS, evE, evL, isiD, truD, biD, cmpD, ixD, w1, h2, g, Out.fr, io0]
theorem k_is_number {Φ : Tab} {x : Rat} {k : Nat} (hk : k < 8000) (hx : Sz k x) (ρ : Vn) (h : Φ "is_number" = some f_is_number) : callF Φ "is_number" [ofQ x] ρ = .ok (false, .bl true) ρ := callF_ok h rfl rfl (r_is_number_q hk hx)
theorem r_require {x : Rat} {k : Nat} (hk : k < 8000) (hx : Sz k x) : f_require_number.run [ofQ x, .non] = .ok .non .non := by
  show (exB (tbl t_require_number) fuelN m_require_number (sl0 false 2 [ofQ x, .non])).fr false false = _
  have w := fun ρ => k_is_number (Φ := tbl t_require_number) hk hx ρ rfl
  simp [m_require_number, sl0, exB, exS, evE, evL, w, truD, cmpD, isNonD, Out.fr, io0]
theorem k_require {Φ : Tab} {x : Rat} {k : Nat} (hk : k < 8000) (hx : Sz k x) (ρ : Vn) (h : Φ "require_number" = some f_require_number) : callF Φ "require_number" [ofQ x] ρ = .ok (false, .non) ρ := callF_dfl h rfl (show 1 ≤ 2 by decide) (show 2 ≤ 1 + 1 by decide) (r_require hk hx)
theorem k_number_of {Φ : Tab} {a b : Int} {k : Nat} (hk : k < 8000) (h : b ≠ 0) (hb : b.natAbs < 2 ^ k) (ρ : Vn) (e : Φ "number_of" = some f_number_of) : callF Φ "number_of" [.int a, .int b] ρ = .ok (false, ofQ (Rat.divInt a b)) ρ := callF_ok e rfl rfl (r_number_q hk h hb)
theorem den_mul (x y : Rat) : ((x.den : Nat) : Int) * ((y.den : Nat) : Int) ≠ 0 := by
  have h1 := x.den_nz
  have h2 := y.den_nz
  simp [h1, h2]
theorem r_minus {x y : Rat} {k : Nat} (hk : k < 3000) (hx : Sz k x) (hy : Sz k y) : f_minus.run [ofQ x, ofQ y] = .ok (ofQ (x - y)) .non := by
  show (exB (tbl t_minus) fuelN m_minus (sl0 false 4 [ofQ x, ofQ y])).fr false false = _
  have q1 := fun ρ => k_require (Φ := tbl t_minus) (by omega) hx ρ rfl
  have q2 := fun ρ => k_require (Φ := tbl t_minus) (by omega) hy ρ rfl
  have p1 := fun ρ => k_pair (Φ := tbl t_minus) x ρ rfl
  have p2 := fun ρ => k_pair (Φ := tbl t_minus) y ρ rfl
  have m1 := mulOk_lt hx.1 hy.den (by omega)
  have m2 := mulOk_lt hy.1 hx.den (by omega)
  have m3 := mulOk_lt hx.den hy.den (by omega)
  have n := fun ρ => k_number_of (Φ := tbl t_minus) (k := k + k) (a := x.num * y.den - y.num * x.den) (by omega) (den_mul x y) (mul_lt hx.den hy.den) ρ rfl
  rw [sub_q] at n
  simp [m_minus, sl0, exB, exS, evE, evL, q1, q2, p1, p2, setS, Sl.free, prQ, ixD, binD, m1, m2, m3, n, Out.fr, io0]
theorem r_times {x y : Rat} {k : Nat} (hk : k < 3000) (hx : Sz k x) (hy : Sz k y) : f_times.run [ofQ x, ofQ y] = .ok (ofQ (x * y)) .non := by
  show (exB (tbl t_times) fuelN m_times (sl0 false 4 [ofQ x, ofQ y])).fr false false = _
  have q1 := fun ρ => k_require (Φ := tbl t_times) (by omega) hx ρ rfl
  have q2 := fun ρ => k_require (Φ := tbl t_times) (by omega) hy ρ rfl
  have p1 := fun ρ => k_pair (Φ := tbl t_times) x ρ rfl
  have p2 := fun ρ => k_pair (Φ := tbl t_times) y ρ rfl
  have m1 := mulOk_lt hx.1 hy.1 (by omega)
  have m3 := mulOk_lt hx.den hy.den (by omega)
  have n := fun ρ => k_number_of (Φ := tbl t_times) (k := k + k) (a := x.num * y.num) (by omega) (den_mul x y) (mul_lt hx.den hy.den) ρ rfl
  rw [mul_q] at n
  simp [m_times, sl0, exB, exS, evE, evL, q1, q2, p1, p2, setS, Sl.free, prQ, ixD, binD, m1, m3, n, Out.fr, io0]
theorem r_is_less {x y : Rat} {k : Nat} (hk : k < 3000) (hx : Sz k x) (hy : Sz k y) : f_is_less.run [ofQ x, ofQ y] = .ok (.bl (decide (x < y))) .non := by
  show (exB (tbl t_is_less) fuelN m_is_less (sl0 false 2 [ofQ x, ofQ y])).fr false false = _
  have q1 := fun ρ => k_require (Φ := tbl t_is_less) (by omega) hx ρ rfl
  have q2 := fun ρ => k_require (Φ := tbl t_is_less) (by omega) hy ρ rfl
  have l : ∀ ρ, callF (tbl t_is_less) "less" [ofQ x, ofQ y] ρ = .ok (false, .bl (decide (x < y))) ρ := fun ρ => callF_ok rfl rfl rfl (r_less (by omega) hx hy)
  simp [m_is_less, sl0, exB, exS, evE, evL, q1, q2, l, Out.fr, io0]
theorem eq_zero {y : Rat} (h : y ≠ 0) : eqD (ofQ y) (.int 0) = some false := by
  unfold ofQ
  by_cases hd : y.den = 1
  · rw [if_pos hd, eqD_int]
    have : y.num ≠ 0 := fun z => h (Rat.num_eq_zero.mp z)
    simp [this]
  · rw [if_neg hd]
    have e : ∀ a b : Int, eqD (.tup [.int a, .int b]) (.int 0) = some false := fun a b => by
      refine eqD_of ?_
      unfold eqP
      simp [D.py, pyAll, SeqAt.shaped, PyData.canLay0, PyData.canLayAll0, PyData.depth, PyData.depthAll, PyData.eqv]
    exact e _ _
theorem r_over {x y : Rat} {k : Nat} (hk : k < 3000) (hx : Sz k x) (hy : Sz k y) (h0 : y ≠ 0) : f_over.run [ofQ x, ofQ y] = .ok (ofQ (x / y)) .non := by
  show (exB (tbl t_over) fuelN m_over (sl0 false 4 [ofQ x, ofQ y])).fr false false = _
  have q1 := fun ρ => k_require (Φ := tbl t_over) (by omega) hx ρ rfl
  have q2 := fun ρ => k_require (Φ := tbl t_over) (by omega) hy ρ rfl
  have p1 := fun ρ => k_pair (Φ := tbl t_over) x ρ rfl
  have p2 := fun ρ => k_pair (Φ := tbl t_over) y ρ rfl
  have m1 := mulOk_lt hx.1 hy.den (by omega)
  have m3 := mulOk_lt hx.den hy.1 (by omega)
  have hn : y.num ≠ 0 := fun z => h0 (Rat.num_eq_zero.mp z)
  have n := fun ρ => k_number_of (Φ := tbl t_over) (k := k + k) (a := x.num * y.den) (b := x.den * y.num) (by omega) (by have := x.den_nz; simp [*]) (mul_lt hx.den hy.1) ρ rfl
  rw [div_q] at n
  have ez := eq_zero h0
  simp [m_over, sl0, exB, exS, evE, evL, q1, q2, p1, p2, setS, Sl.free, prQ, ixD, binD, m1, m3, n, cmpD, ez, truD, Out.fr, io0]
end S

namespace S
open PySem PySem.Spec L2 Z
theorem fr1 {d : D} : Sl.free (.val d) = true := rfl
theorem fr2 {d : D} : Sl.free (.own d) = true := rfl
theorem fr3 : Sl.free .non = true := rfl
theorem add_div (a b : Int) (x : Rat) (h : b ≠ 0) : Rat.divInt (a * x.den + x.num * b) (b * x.den) = Rat.divInt a b + x := by
  have := Rat.divInt_add_divInt a x.num (d₁ := b) (d₂ := x.den) h (by have := x.den_nz; omega)
  rw [Rat.num_divInt_den] at this
  exact this.symm
theorem add_same (a : Int) (x : Rat) : Rat.divInt (a + x.num) x.den = Rat.divInt a x.den + x := by
  have hd : ((x.den : Nat) : Int) ≠ 0 := by have := x.den_nz; omega
  rw [← add_div a x.den x hd, ← Int.add_mul, Int.mul_comm (a + x.num), Rat.divInt_mul_left hd]
def sumQ (xs : List Rat) : Rat := xs.foldl (fun s x => s + x) 0
theorem r_total {xs : List Rat} {k : Nat} (hk : k * (xs.length + 1) + xs.length < 7000) (hx : ∀ x ∈ xs, Sz k x) : f_total.run [.lst (xs.map ofQ)] = .ok (ofQ (sumQ xs)) .non := by
  show (exB (tbl t_total) fuelN m_total (sl0 false 5 [.lst (xs.map ofQ)])).fr false false = _
  obtain ⟨ρ', e, c1, c4, a, b, rfl, _, _, hb, hs, ba, bb⟩ := forGo_nx (tg := .nm 1) (body := exB (tbl t_total) fuelN b1_total) (xs := xs.map ofQ) (i := 0) (ρ := [.val (.lst (xs.map ofQ)), .non, .val (.int 0), .val (.int 1), .non])
    (I := fun i ρ => ∃ c1 c4 a b, ρ = [.val (.lst (xs.map ofQ)), c1, .val (.int a), .val (.int b), c4] ∧ c1.free = true ∧ c4.free = true ∧ b ≠ 0 ∧ Rat.divInt a b = sumQ (xs.take i) ∧ a.natAbs < 2 ^ ((k + 1) * i + 1) ∧ b.natAbs < 2 ^ ((k + 1) * i + 1))
    ⟨.non, .non, 0, 1, rfl, rfl, rfl, by omega, by simp [sumQ], by simp, by simp⟩ (by
      rintro j d ρ hd ⟨c1, c4, a, b, rfl, f1, f4, hb, hs, ba, bb⟩
      rw [List.getElem?_map] at hd
      cases hj : xs[j]? with
      | none => rw [hj] at hd; cases hd
      | some x =>
        rw [hj] at hd; cases hd
        have hl : j < xs.length := (List.getElem?_eq_some_iff.mp hj).1
        have sx := hx x (List.mem_of_getElem? hj)
        simp only [Nat.zero_add] at hs ba bb ⊢
        have st : sumQ (xs.take (j + 1)) = sumQ (xs.take j) + x := by
          rw [List.take_succ, hj]
          simp [sumQ, List.foldl_append]
        have hlim : (k + 1) * j + 1 + k < 50000000 := by
          have : (k + 1) * j ≤ (k + 1) * xs.length := Nat.mul_le_mul_left _ (by omega)
          have e2 : (k + 1) * xs.length = k * xs.length + xs.length := by rw [Nat.add_mul, Nat.one_mul]
          have e3 : k * (xs.length + 1) = k * xs.length + k := by rw [Nat.mul_add, Nat.mul_one]
          omega
        have ex : (k + 1) * (j + 1) + 1 = ((k + 1) * j + 1 + k) + 1 := by rw [Nat.mul_add]; omega
        have m1 := mulOk_lt ba sx.den (by omega)
        have m2 := mulOk_lt sx.1 bb (by omega)
        have m3 := mulOk_lt bb sx.den (by omega)
        have p1 := fun ρ => k_pair (Φ := tbl t_total) x ρ rfl
        refine ⟨[.val (.lst (xs.map ofQ)), .val (ofQ x), .val (.int a), .val (.int b), c4], ?_⟩
        by_cases hbd : ((x.den : Nat) : Int) = b
        · refine ⟨[.val (.lst (xs.map ofQ)), .val (ofQ x), .val (.int (a + x.num)), .val (.int b), .val (prQ x)], by simp [asgT, setS, f1], ?_, _, _, _, _, rfl, rfl, rfl, hb, ?_, ?_, ?_⟩
          · simp [b1_total, exB, exS, evE, evL, p1, setS, f4, fr1, prQ, ixD, cmpD, hbd, truD, binD]
          · rw [st, ← hs, ← hbd, add_same]
          · rw [ex]
            exact add_lt (Nat.lt_of_lt_of_le ba (Nat.pow_le_pow_right (by omega) (by omega))) (Nat.lt_of_lt_of_le sx.1 (Nat.pow_le_pow_right (by omega) (by omega)))
          · exact Nat.lt_of_lt_of_le bb (Nat.pow_le_pow_right (by omega) (by rw [ex]; omega))
        · refine ⟨[.val (.lst (xs.map ofQ)), .val (ofQ x), .val (.int (a * x.den + x.num * b)), .val (.int (b * x.den)), .val (prQ x)], by simp [asgT, setS, f1], ?_, _, _, _, _, rfl, rfl, rfl, ?_, ?_, ?_, ?_⟩
          · simp [b1_total, exB, exS, evE, evL, p1, setS, f4, fr1, prQ, ixD, cmpD, hbd, truD, binD, m1, m2, m3]
          · have := x.den_nz; simp [*]
          · rw [st, ← hs, add_div _ _ _ hb]
          · rw [ex]
            refine add_lt (mul_lt ba sx.den) ?_
            rw [Nat.add_comm]
            exact mul_lt sx.1 bb
          · exact Nat.lt_of_lt_of_le (mul_lt bb sx.den) (Nat.pow_le_pow_right (by omega) (by rw [ex]; omega)))
  have hl : (0 : Nat) + (xs.map ofQ).length = xs.length := by simp
  rw [hl] at hs ba bb
  rw [List.take_length] at hs
  have hlim : (k + 1) * xs.length + 1 < 8000 := by
    have e2 : (k + 1) * xs.length = k * xs.length + xs.length := by rw [Nat.add_mul, Nat.one_mul]
    have e3 : k * (xs.length + 1) = k * xs.length + k := by rw [Nat.mul_add, Nat.mul_one]
    omega
  have n := fun ρ => k_number_of (Φ := tbl t_total) hlim hb bb (a := a) ρ rfl
  rw [hs] at n
  have fr : Z.fresh [.val (.lst (xs.map ofQ)), .non, .val (.int 0), .val (.int 1), .non] [(.rd 0)] [.lst (xs.map ofQ)] = [.lst (xs.map ofQ)] := rfl
  simp [m_total, sl0, exB, exS, evE, evL, asgT, sets, setS, fr1, fr3, fr, itD, rdIdx, lockV, e, Out.back, unlockV, n, Out.fr, io0]
theorem r_plus {x y : Rat} {k : Nat} (hk : k < 2000) (hx : Sz k x) (hy : Sz k y) : f_plus.run [ofQ x, ofQ y] = .ok (ofQ (x + y)) .non := by
  show (exB (tbl t_plus) fuelN m_plus (sl0 false 2 [ofQ x, ofQ y])).fr false false = _
  have q1 := fun ρ => k_require (Φ := tbl t_plus) (by omega) hx ρ rfl
  have q2 := fun ρ => k_require (Φ := tbl t_plus) (by omega) hy ρ rfl
  have t : ∀ ρ, callF (tbl t_plus) "total" [.lst [ofQ x, ofQ y]] ρ = .ok (false, ofQ (x + y)) ρ := fun ρ => by
    have := r_total (xs := [x, y]) (k := k) (by simp; omega) (fun z hz => by
      simp only [List.mem_cons, List.not_mem_nil, or_false] at hz
      rcases hz with rfl | rfl <;> assumption)
    rw [show sumQ [x, y] = x + y by simp [sumQ, Rat.zero_add]] at this
    exact callF_ok rfl rfl rfl this
  simp [m_plus, sl0, exB, exS, evE, evL, q1, q2, t, Out.fr, io0]
end S

namespace S
open PySem PySem.Spec L2 Z
def m_l_number_from : List MS := [.ite (.isi (.rd 0) ["tuple"]) [.ite (.or (.cmp .NotEq (.bi "len" [(.rd 0)]) (.cst (.int 2))) (.or (.not (.call "_law_is_int" [(.ix (.rd 0) (.cst (.int 0)))])) (.or (.not (.call "_law_is_int" [(.ix (.rd 0) (.cst (.int 1)))])) (.cmp
   .Lt (.ix (.rd 0) (.cst (.int 1))) (.cst (.int 2)))))) [.ret (.cst (.bl false))] [], .ret (.and (.cmp .Eq (.call "_law_cut" [(.ix (.rd 0) (.cst (.int 0))), (.ix (.rd 0) (.cst (.int 1)))]) (.rd 0)) (.cmp .GtE (.ix (.rd 0) (.cst (.int
   0))) (.rd 1)))] [], .ret (.and (.call "_law_is_int" [(.var 0)]) (.cmp .GtE (.rd 0) (.rd 1)))]
def t_l_number_from : List (String × Fn) := [("_law_cut", S.f_l_cut), ("_law_is_int", S.f_is_int)]
def f_l_number_from : Fn := mkFn false false 2 [] 2 m_l_number_from (tbl t_l_number_from)
def m_l_is_terms : List MS := [.ite (.or (.not (.isi (.rd 0) ["tuple"])) (.or (.cmp .Eq (.rd 0) (.tup [])) (.not (.isi (.ix (.rd 0) (.cst (.int 0))) ["str"])))) [.ret (.cst (.bl false))] [], .ite (.cmp .Eq (.ix (.rd 0) (.cst (.int 0))) (.cst (.str "common"))) [.ret
   (.and (.cmp .Eq (.bi "len" [(.rd 0)]) (.cst (.int 2))) (.call "_law_number_from" [(.ix (.rd 0) (.cst (.int 1))), (.cst (.int 1))]))] [], .ite (.cmp .Eq (.ix (.rd 0) (.cst (.int 0))) (.cst (.str "options"))) [.ret (.and (.cmp .Eq (.bi
   "len" [(.rd 0)]) (.cst (.int 3))) (.and (.call "_law_number_from" [(.ix (.rd 0) (.cst (.int 1))), (.cst (.int 1))]) (.call "_law_number_from" [(.ix (.rd 0) (.cst (.int 2))), (.cst (.int 1))])))] [], .ite (.or (.cmp .NotEq (.ix (.rd
   0) (.cst (.int 0))) (.cst (.str "preferred"))) (.cmp .NotEq (.bi "len" [(.rd 0)]) (.cst (.int 5)))) [.ret (.cst (.bl false))] [], .ite (.or (.not (.call "_law_number_from" [(.ix (.rd 0) (.cst (.int 1))), (.cst (.int 1))])) (.not (.call
   "_law_number_from" [(.ix (.rd 0) (.cst (.int 2))), (.cst (.int 0))]))) [.ret (.cst (.bl false))] [], .ite (.or (.not (.call "_law_is_int" [(.ix (.rd 0) (.cst (.int 3)))])) (.not (.chain .LtE .LtE (.cst (.int 0)) (.ix (.rd 0) (.cst
   (.int 3))) (.cst (.int 9))))) [.ret (.cst (.bl false))] [], .ite (.or (.cmp .Is (.ix (.rd 0) (.cst (.int 4))) (.cst .non)) (.cmp .Eq (.ix (.rd 0) (.cst (.int 4))) (.cst (.str "all")))) [.ret (.cst (.bl true))] [], .ret (.and (.call
   "_law_number_from" [(.ix (.rd 0) (.cst (.int 4))), (.cst (.int 0))]) (.not (.call "_law_below" [(.call "_law_pair" [(.ix (.rd 0) (.cst (.int 4)))]), (.call "_law_pair" [(.ix (.rd 0) (.cst (.int 2)))])])))]
def t_l_is_terms : List (String × Fn) := [("_law_below", S.f_l_below), ("_law_is_int", S.f_is_int), ("_law_number_from", S.f_l_number_from), ("_law_pair", S.f_l_pair)]
def f_l_is_terms : Fn := mkFn false false 1 [] 1 m_l_is_terms (tbl t_l_is_terms)
def b1_l_deep : List MS := [.set (.nm 0) (.ix (.lst [(.tup [(.var 0)]), (.lst [(.var 0)]), (.dsp [(.cst (.str "a")), (.var 0)])]) (.bin .Mod (.bi "int" [(.rd 1)]) (.cst (.int 3))))]
def m_l_deep : List MS := [.for (.nm 1) 1 [(.cst (.int 6))] b1_l_deep, .ret (.var 0)]
def t_l_deep : List (String × Fn) := []
def f_l_deep : Fn := mkFn false false 1 [] 2 m_l_deep (tbl t_l_deep)
def b1_l_odd : List MS := [.app 2 (.bin .Add (.bin .Add (.slc (.rd 1) none (some (.rd 4))) (.tup [(.var 6)])) (.slc (.rd 1) (some (.bin .Add (.rd 4) (.cst (.int 1)))) none))]
def b2_l_odd : List MS := [.for (.nm 6) 0 [(.rd 3)] b1_l_odd]
def b3_l_odd : List MS := [.setIx 7 (.callio "_law_toss" 0 [(.bi "len" [(.rd 7)])]) (.ix (.var 3) (.callio "_law_toss" 0 [(.bi "len" [(.rd 3)])]))]
def b4_l_odd : List MS := [.set (.nm 7) (.bi "list" [(.rd 1)]), .for (.nm 8) 1 [(.cst (.int 2))] b3_l_odd, .app 2 (.bi "tuple" [(.rd 7)])]
def m_l_odd : List MS := [.set (.nm 2) (.lst [(.var 1), (.bi "list" [(.rd 1)]), (.bin .Add (.rd 1) (.tup [(.cst (.int 0))])), (.slc (.rd 1) none (some (.neg (.cst (.int 1))))), (.slc (.rd 1) (some (.cst (.int 1))) none), (.tup [(.var 1)]), (.tup []), (.ix (.rd
   1) (.cst (.int 0)))]), .set (.nm 2) (.bin .Add (.rd 2) (.lst [(.call "_law_deep" [(.var 1)]), (.dsp [(.ix (.rd 1) (.cst (.int 0))), (.ix (.rd 1) (.cst (.int 1)))])])), .set (.nm 3) (.lst [(.cst .non), (.cst (.int 0)), (.cst (.int 1)),
   (.neg (.cst (.int 1))), (.tup [(.cst (.int 1)), (.cst (.int 2))]), (.tup [(.neg (.cst (.int 1))), (.cst (.int 2))]), (.tup [(.cst (.int 2)), (.cst (.int 4))]), (.tup [(.cst (.int 3)), (.cst (.int 1))]), (.cst (.bl true)), (.cst (.bl
   false)), (.cst (.str "all")), (.cst (.str "ALL")), (.cst (.str "1")), (.cst (.str "")), (.lst []), (.lst [(.cst (.int 1))]), (.cst (.int 10)), (.cst (.int 9))]), .set (.nm 3) (.bin .Add (.rd 3) (.lst [(.bin .Pow (.cst (.int 10)) (.cst
   (.int 29))), (.bin .Sub (.bin .Pow (.cst (.int 10)) (.cst (.int 40))) (.cst (.int 1))), (.tup [(.cst (.int 1)), (.bin .Sub (.bin .Pow (.cst (.int 10)) (.cst (.int 40))) (.cst (.int 1)))]), (.call "_law_deep" [(.cst (.int 1))])])),
   .set (.nm 3) (.bin .Add (.rd 3) (.lst [(.cst (.str "common")), (.cst (.str "options")), (.cst (.str "preferred")), (.cst (.str "Common")), (.dsp []), (.tup [(.cst (.str "all"))]), (.tup [(.cst (.int 0)), (.cst (.int 1))])])), .for
   (.nm 4) 1 [(.bi "len" [(.rd 1)])] b2_l_odd, .for (.nm 5) 1 [(.cst (.int 10))] b4_l_odd, .ret (.var 2)]
def t_l_odd : List (String × Fn) := [("_law_deep", S.f_l_deep), ("_law_toss", S.f_l_toss)]
def f_l_odd : Fn := mkFn true true 2 [] 9 m_l_odd (tbl t_l_odd)
def m_l_terms : List MS := [.ite (.and (.cmp .NotEq (.rd 1) (.lst [])) (.cmp .Eq (.callio "_law_toss" 0 [(.cst (.int 6))]) (.cst (.int 0)))) [.ret (.ix (.var 1) (.callio "_law_toss" 0 [(.bi "len" [(.rd 1)])]))] [], .par 3 4 (.callio "_law_toss" 0 [(.cst (.int
   9))]) (.callio "_law_amount" 0 [(.cst (.int 1))]), .ite (.cmp .Eq (.rd 3) (.cst (.int 0))) [.ret (.tup [(.cst (.str "common")), (.var 4)])] [], .ite (.cmp .Lt (.rd 3) (.cst (.int 3))) [.ret (.tup [(.cst (.str "options")), (.var 4),
   (.callio "_law_amount" 0 [(.cst (.int 1))])])] [], .par 5 6 (.callio "_law_amount" 0 [(.cst (.int 0))]) (.ix (.lst [(.cst (.int 0)), (.cst (.int 1)), (.cst (.int 1)), (.callio "_law_toss" 0 [(.cst (.int 10))])]) (.callio "_law_toss"
   0 [(.cst (.int 4))])), .ite (.cmp .Eq (.rd 3) (.cst (.int 8))) [.set (.nm 5) (.cst (.int 0))] [], .set (.nm 2) (.call "_law_shown" [(.call "_law_sum" [(.lst [(.call "_law_pair" [(.var 5)]), (.tup [(.callio "_law_toss" 0 [(.ix (.lst
   [(.cst (.int 2)), (.cst (.int 60))]) (.callio "_law_toss" 0 [(.cst (.int 2))]))]), (.cst (.int 1))])])])]), .ret (.tup [(.cst (.str "preferred")), (.var 4), (.var 5), (.var 6), (.ix (.lst [(.cst .non), (.cst (.str "all")), (.var 2),
   (.var 2), (.var 5)]) (.callio "_law_toss" 0 [(.cst (.int 5))]))])]
def t_l_terms : List (String × Fn) := [("_law_amount", S.f_l_amount), ("_law_pair", S.f_l_pair), ("_law_shown", S.f_l_shown), ("_law_sum", S.f_l_sum), ("_law_toss", S.f_l_toss)]
def f_l_terms : Fn := mkFn true false 2 [] 7 m_l_terms (tbl t_l_terms)
def m_is_at_least : List MS := [.ret (.not (.call "less" [(.var 0), (.var 1)]))]
def t_is_at_least : List (String × Fn) := [("less", S.f_less)]
def f_is_at_least : Fn := mkFn false false 2 [] 2 m_is_at_least (tbl t_is_at_least)
def m_is_part : List MS := [.ite (.or (.cmp .Is (.rd 0) (.cst .non)) (.isi (.rd 0) ["str"])) [.ret (.mem false (.rd 0) (.tup [(.cst .non), (.cst (.str "all"))]))] [], .ret (.and (.call "is_number" [(.var 0)]) (.call "is_at_least" [(.var 0), (.var 1)]))]
def t_is_part : List (String × Fn) := [("is_at_least", S.f_is_at_least), ("is_number", S.f_is_number)]
def f_is_part : Fn := mkFn false false 2 [] 2 m_is_part (tbl t_is_part)
def m_is_positive : List MS := [.ret (.and (.call "is_number" [(.var 0)]) (.call "less" [(.cst (.int 0)), (.var 0)]))]
def t_is_positive : List (String × Fn) := [("is_number", S.f_is_number), ("less", S.f_less)]
def f_is_positive : Fn := mkFn false false 1 [] 1 m_is_positive (tbl t_is_positive)
def m_is_rank : List MS := [.ret (.and (.call "is_int" [(.var 0)]) (.chain .LtE .LtE (.cst (.int 0)) (.var 0) (.cst (.int 9))))]
def t_is_rank : List (String × Fn) := [("is_int", S.f_is_int)]
def f_is_rank : Fn := mkFn false false 1 [] 1 m_is_rank (tbl t_is_rank)
def m_is_terms : List MS := [.ite (.or (.not (.isi (.rd 0) ["tuple"])) (.or (.cmp .Lt (.bi "len" [(.rd 0)]) (.cst (.int 2))) (.not (.call "is_positive" [(.ix (.rd 0) (.cst (.int 1)))])))) [.ret (.cst (.bl false))] [], .ite (.and (.cmp .Eq (.ix (.rd 0) (.cst (.int
   0))) (.cst (.str "options"))) (.cmp .Eq (.bi "len" [(.rd 0)]) (.cst (.int 3)))) [.ret (.call "is_positive" [(.ix (.rd 0) (.cst (.int 2)))])] [], .ite (.and (.cmp .Eq (.ix (.rd 0) (.cst (.int 0))) (.cst (.str "preferred"))) (.cmp .Eq
   (.bi "len" [(.rd 0)]) (.cst (.int 5)))) [.set (.nm 1) (.and (.call "is_number" [(.ix (.rd 0) (.cst (.int 2)))]) (.call "is_at_least" [(.ix (.rd 0) (.cst (.int 2))), (.cst (.int 0))])), .ret (.and (.var 1) (.and (.call "is_rank" [(.ix
   (.rd 0) (.cst (.int 3)))]) (.call "is_part" [(.ix (.rd 0) (.cst (.int 4))), (.ix (.rd 0) (.cst (.int 2)))])))] [], .ret (.and (.cmp .Eq (.ix (.rd 0) (.cst (.int 0))) (.cst (.str "common"))) (.cmp .Eq (.bi "len" [(.rd 0)]) (.cst (.int
   2))))]
def t_is_terms : List (String × Fn) := [("is_at_least", S.f_is_at_least), ("is_number", S.f_is_number), ("is_part", S.f_is_part), ("is_positive", S.f_is_positive), ("is_rank", S.f_is_rank)]
def f_is_terms : Fn := mkFn false false 1 [] 2 m_is_terms (tbl t_is_terms)
end S

namespace S
open PySem PySem.Spec L2 Z
def m_is_point : List MS := [.ite (.or (.not (.isi (.rd 0) ["tuple"])) (.or (.cmp .NotEq (.bi "len" [(.rd 0)]) (.cst (.int 2))) (.or (.not (.call "is_number" [(.ix (.rd 0) (.cst (.int 0)))])) (.not (.call "is_number" [(.ix (.rd 0) (.cst (.int 1)))]))))) [.ret
   (.cst (.bl false))] [], .ret (.and (.not (.call "is_less" [(.ix (.rd 0) (.cst (.int 0))), (.cst (.int 0))])) (.not (.call "is_less" [(.ix (.rd 0) (.cst (.int 1))), (.cst (.int 0))])))]
def t_is_point : List (String × Fn) := [("is_less", S.f_is_less), ("is_number", S.f_is_number)]
def f_is_point : Fn := mkFn false false 1 [] 1 m_is_point (tbl t_is_point)
def m_are_points : List MS := [.ite (.or (.not (.isi (.rd 0) ["list"])) (.or (.cmp .Eq (.bi "len" [(.rd 0)]) (.cst (.int 0))) (.not (.bi "all" [(.lc (.call "is_point" [(.var 2)]) [2] (.nm 2) 0 [(.rd 0)] none)])))) [.ret (.cst (.bl false))] [], .set (.nm 1) (.lc
   (.and (.call "is_less" [(.ix (.rd 2) (.cst (.int 0))), (.ix (.rd 3) (.cst (.int 0)))]) (.not (.call "is_less" [(.ix (.rd 3) (.cst (.int 1))), (.ix (.rd 2) (.cst (.int 1)))]))) [2, 3] (.tp [2, 3]) 2 [(.rd 0), (.slc (.rd 0) (some (.cst
   (.int 1))) none)] none), .ret (.and (.cmp .Eq (.ix (.ix (.rd 0) (.cst (.int 0))) (.cst (.int 0))) (.cst (.int 0))) (.bi "all" [(.rd 1)]))]
def t_are_points : List (String × Fn) := [("is_less", S.f_is_less), ("is_point", S.f_is_point)]
def f_are_points : Fn := mkFn false false 1 [] 4 m_are_points (tbl t_are_points)
def m_slope_between : List MS := [.ret (.call "over" [(.call "minus" [(.ix (.rd 1) (.cst (.int 1))), (.ix (.rd 0) (.cst (.int 1)))]), (.call "minus" [(.ix (.rd 1) (.cst (.int 0))), (.ix (.rd 0) (.cst (.int 0)))])])]
def t_slope_between : List (String × Fn) := [("minus", S.f_minus), ("over", S.f_over)]
def f_slope_between : Fn := mkFn false false 2 [] 2 m_slope_between (tbl t_slope_between)
def m_slopes_of : List MS := [.ret (.bin .Add (.lc (.call "slope_between" [(.var 2), (.var 3)]) [2, 3] (.tp [2, 3]) 2 [(.rd 0), (.slc (.rd 0) (some (.cst (.int 1))) none)] none) (.lst [(.var 1)]))]
def t_slopes_of : List (String × Fn) := [("slope_between", S.f_slope_between)]
def f_slopes_of : Fn := mkFn false true 2 [] 4 m_slopes_of (tbl t_slopes_of)
def m_true_corners : List MS := [.set (.nm 2) (.call "slopes_of" [(.var 0), (.var 1)]), .set (.nm 3) (.lc (.ix (.rd 0) (.var 4)) [4] (.nm 4) 1 [(.cst (.int 1)), (.bi "len" [(.rd 0)])] (some (.cmp .NotEq (.ix (.rd 2) (.var 4)) (.ix (.rd 2) (.bin .Sub (.rd 4) (.cst
   (.int 1))))))), .ret (.stup [false, true] [(.ix (.rd 0) (.cst (.int 0))), (.rd 3)])]
def t_true_corners : List (String × Fn) := [("slopes_of", S.f_slopes_of)]
def f_true_corners : Fn := mkFn false false 2 [] 5 m_true_corners (tbl t_true_corners)
def m_Curve_init : List MS := [.ite (.or (.not (.call "are_points" [(.var 1)])) (.or (.not (.call "is_number" [(.var 2)])) (.call "is_less" [(.var 2), (.cst (.int 0))]))) [.raise "InvalidCurve"] [], .setF 0 "kept_corners" (.call "true_corners" [(.var 1), (.var 2)]),
   .setF 0 "kept_slopes" (.bi "tuple" [(.call "slopes_of" [(.fld (.rd 0) "kept_corners"), (.var 2)])])]
def t_Curve_init : List (String × Fn) := [("are_points", S.f_are_points), ("is_less", S.f_is_less), ("is_number", S.f_is_number), ("slopes_of", S.f_slopes_of), ("true_corners", S.f_true_corners)]
def o_Curve_init : List (Str × Str × OwnM) := [("Curve", "kept_corners", .fld), ("Curve", "kept_slopes", .fld)]
def f_Curve_init : Fn := mkFn true false 3 [] 3 m_Curve_init (tblO t_Curve_init o_Curve_init)
def w1_place_of : ME := (.cmp .Gt (.bin .Sub (.rd 3) (.rd 2)) (.cst (.int 1)))
def b1_place_of : List MS := [.set (.nm 4) (.bin .FloorDiv (.bin .Add (.rd 2) (.rd 3)) (.cst (.int 2))), .ite (.call "is_less" [(.var 1), (.ix (.ix (.rd 0) (.var 4)) (.cst (.int 0)))]) [.set (.nm 3) (.var 4)] [.set (.nm 2) (.var 4)]]
def m_place_of : List MS := [.par 2 3 (.cst (.int 0)) (.bi "len" [(.rd 0)]), .while w1_place_of b1_place_of, .ret (.var 2)]
def t_place_of : List (String × Fn) := [("is_less", S.f_is_less)]
def f_place_of : Fn := mkFn false false 2 [] 5 m_place_of (tbl t_place_of)
def m_Curve_at : List MS := [.expr (.call "require_number" [(.var 1), (.cst (.int 0))]), .set (.nm 2) (.call "place_of" [(.fld (.var 0) "kept_corners"), (.var 1)]), .set (.tp [3, 4]) (.ix (.fld (.var 0) "kept_corners") (.var 2)), .ret (.call "plus" [(.var 4),
   (.call "times" [(.call "minus" [(.var 1), (.var 3)]), (.ix (.fld (.var 0) "kept_slopes") (.var 2))])])]
def t_Curve_at : List (String × Fn) := [("minus", S.f_minus), ("place_of", S.f_place_of), ("plus", S.f_plus), ("require_number", S.f_require_number), ("times", S.f_times)]
def o_Curve_at : List (Str × Str × OwnM) := [("Curve", "kept_corners", .fld), ("Curve", "kept_slopes", .fld)]
def f_Curve_at : Fn := mkFn false false 2 [] 5 m_Curve_at (tblO t_Curve_at o_Curve_at)
def m_Curve_least : List MS := [.expr (.call "require_number" [(.var 1), (.cst (.int 0))]), .set (.nm 2) (.lc (.var 6) [6, 7] (.tp [6, 7]) 3 [(.fld (.var 0) "kept_corners")] (some (.call "is_less" [(.ix (.rd 7) (.cst (.int 1))), (.var 1)]))), .ite (.cmp .Eq (.rd
   2) (.lst [])) [.ret (.cst (.int 0))] [], .set (.tp [4, 5]) (.ix (.fld (.var 0) "kept_corners") (.ix (.rd 2) (.neg (.cst (.int 1))))), .set (.nm 3) (.ix (.fld (.var 0) "kept_slopes") (.ix (.rd 2) (.neg (.cst (.int 1))))), .ret (.ite
   (.cmp .Eq (.rd 3) (.cst (.int 0))) (.cst .non) (.call "plus" [(.var 4), (.call "over" [(.call "minus" [(.var 1), (.var 5)]), (.var 3)])]))]
def t_Curve_least : List (String × Fn) := [("is_less", S.f_is_less), ("minus", S.f_minus), ("over", S.f_over), ("plus", S.f_plus), ("require_number", S.f_require_number)]
def o_Curve_least : List (Str × Str × OwnM) := [("Curve", "kept_corners", .fld), ("Curve", "kept_slopes", .fld)]
def f_Curve_least : Fn := mkFn false false 2 [] 8 m_Curve_least (tblO t_Curve_least o_Curve_least)
def m_Curve_slope_behind : List MS := [.expr (.call "require_number" [(.var 1), (.cst (.int 0))]), .ret (.ix (.fld (.var 0) "kept_slopes") (.call "place_of" [(.fld (.var 0) "kept_corners"), (.var 1)]))]
def t_Curve_slope_behind : List (String × Fn) := [("place_of", S.f_place_of), ("require_number", S.f_require_number)]
def o_Curve_slope_behind : List (Str × Str × OwnM) := [("Curve", "kept_corners", .fld), ("Curve", "kept_slopes", .fld)]
def f_Curve_slope_behind : Fn := mkFn false false 2 [] 2 m_Curve_slope_behind (tblO t_Curve_slope_behind o_Curve_slope_behind)
def m_l_draw : List MS := [.ite (.cmp .Gt (.ix (.rd 0) (.cst (.int 0))) (.cst (.int 0))) [.set (.nm 3) (.bin .Mod (.bi "int" [(.ix (.rd 0) (.cst (.int 0)))]) (.rd 1)), .setIx 0 (.cst (.int 0)) (.bin .FloorDiv (.ix (.rd 0) (.cst (.int 0))) (.rd 1)), .ret (.var
   3)] [], .setIx 0 (.cst (.int 2)) (.bin .Add (.ix (.rd 0) (.cst (.int 2))) (.cst (.int 1))), .set (.nm 2) (.bin .Mod (.bi "int" [(.bin .Pow (.bin .Add (.ix (.rd 0) (.cst (.int 1))) (.bin .Mult (.cst (.int 86028121)) (.ix (.rd 0) (.cst
   (.int 2))))) (.cst (.int 3)))]) (.bin .Add (.bin .Pow (.cst (.int 10)) (.cst (.int 41))) (.cst (.int 81)))), .set (.nm 2) (.bin .Mod (.bi "int" [(.bin .Pow (.bin .Add (.rd 2) (.bin .Mult (.cst (.int 179424673)) (.ix (.rd 0) (.cst (.int
   2))))) (.cst (.int 2)))]) (.bin .Add (.bin .Pow (.cst (.int 10)) (.cst (.int 38))) (.cst (.int 133)))), .ret (.bin .Mod (.bi "int" [(.bin .FloorDiv (.rd 2) (.bin .Pow (.cst (.int 10)) (.cst (.int 8))))]) (.rd 1))]
def t_l_draw : List (String × Fn) := []
def f_l_draw : Fn := mkFn true false 2 [] 4 m_l_draw (tbl t_l_draw)
def w1_l_low : ME := (.cmp .Gt (.rd 3) (.cst (.int 0)))
def b1_l_low : List MS := [.par 2 3 (.var 3) (.bin .Mod (.bi "int" [(.rd 2)]) (.rd 3))]
def m_l_low : List MS := [.par 2 3 (.bi "abs" [(.rd 0)]) (.var 1), .while w1_l_low b1_l_low, .ret (.ite (.cmp .Eq (.rd 2) (.rd 1)) (.bin .FloorDiv (.rd 0) (.rd 2)) (.tup [(.bin .FloorDiv (.rd 0) (.rd 2)), (.bin .FloorDiv (.rd 1) (.rd 2))]))]
def t_l_low : List (String × Fn) := []
def f_l_low : Fn := mkFn false false 2 [] 4 m_l_low (tbl t_l_low)
def m_l_number : List MS := [.set (.nm 1) (.bin .Add (.cst (.int 1)) (.callio "_law_draw" 0 [(.cst (.int 6))])), .set (.nm 2) (.lst [(.var 1), (.bin .Mult (.rd 1) (.cst (.int 10))), (.call "_law_low" [(.var 1), (.bin .Add (.cst (.int 1)) (.callio "_law_draw" 0
   [(.cst (.int 4))]))]), (.bin .Add (.cst (.int 1)) (.callio "_law_draw" 0 [(.bin .Pow (.cst (.int 10)) (.cst (.int 6)))]))]), .ret (.ix (.var 2) (.callio "_law_draw" 0 [(.cst (.int 4))]))]
def t_l_number : List (String × Fn) := [("_law_draw", S.f_l_draw), ("_law_low", S.f_l_low)]
def f_l_number : Fn := mkFn true false 1 [] 3 m_l_number (tbl t_l_number)
def b1_l_sum2 : List MS := [.set (.tp [4, 5]) (.call "_law_pair" [(.var 1)]), .par 2 3 (.bin .Add (.bin .Mult (.rd 2) (.rd 5)) (.bin .Mult (.rd 4) (.rd 3))) (.bin .Mult (.rd 3) (.rd 5))]
def m_l_sum2 : List MS := [.set (.tp [2, 3]) (.tup [(.cst (.int 0)), (.cst (.int 1))]), .for (.nm 1) 0 [(.rd 0)] b1_l_sum2, .ret (.call "_law_low" [(.var 2), (.var 3)])]
def t_l_sum2 : List (String × Fn) := [("_law_low", S.f_l_low), ("_law_pair", S.f_l_pair)]
def f_l_sum2 : Fn := mkFn false false 1 [] 6 m_l_sum2 (tbl t_l_sum2)
def m_l_times : List MS := [.set (.tp [2, 3]) (.call "_law_pair" [(.var 0)]), .set (.tp [4, 5]) (.call "_law_pair" [(.var 1)]), .ret (.call "_law_low" [(.bin .Mult (.rd 2) (.rd 4)), (.bin .Mult (.rd 3) (.rd 5))])]
def t_l_times : List (String × Fn) := [("_law_low", S.f_l_low), ("_law_pair", S.f_l_pair)]
def f_l_times : Fn := mkFn false false 2 [] 6 m_l_times (tbl t_l_times)
def b1_l_drawn : List MS := [.app 6 (.tup [(.var 4), (.var 5)]), .par 7 8 (.callio "_law_number" 0 []) (.ix (.var 2) (.callio "_law_draw" 0 [(.cst (.int 6))])), .par 4 5 (.call "_law_sum" [(.lst [(.var 4), (.var 7)])]) (.call "_law_sum" [(.lst [(.var 5), (.call
   "_law_times" [(.var 7), (.var 8)])])])]
def m_l_drawn : List MS := [.tri 4 5 6 (.cst (.int 0)) (.ix (.lst [(.cst (.int 0)), (.callio "_law_number" 0 [])]) (.callio "_law_draw" 0 [(.cst (.int 2))])) (.lst []), .set (.nm 2) (.lst [(.cst (.int 0)), (.cst (.int 1)), (.tup [(.cst (.int 1)), (.cst (.int
   2))]), (.cst (.int 2)), (.tup [(.cst (.int 1)), (.cst (.int 3))]), (.callio "_law_number" 0 [])]), .for (.nm 3) 1 [(.var 1)] b1_l_drawn, .ret (.tup [(.var 6), (.ix (.var 2) (.callio "_law_draw" 0 [(.cst (.int 6))]))])]
def t_l_drawn : List (String × Fn) := [("_law_draw", S.f_l_draw), ("_law_number", S.f_l_number), ("_law_sum", S.f_l_sum2), ("_law_times", S.f_l_times)]
def f_l_drawn : Fn := mkFn true false 2 [] 9 m_l_drawn (tbl t_l_drawn)
def m_Curve_corners : List MS := [.ret (.bi "list" [(.fld (.var 0) "kept_corners")])]
def t_Curve_corners : List (String × Fn) := []
def o_Curve_corners : List (Str × Str × OwnM) := [("Curve", "kept_corners", .fld)]
def f_Curve_corners : Fn := mkFn false true 1 [] 1 m_Curve_corners (tblO t_Curve_corners o_Curve_corners)
def m_l_less : List MS := [.set (.tp [2, 3]) (.call "_law_pair" [(.var 0)]), .set (.tp [4, 5]) (.call "_law_pair" [(.var 1)]), .ret (.cmp .Lt (.bin .Mult (.rd 2) (.rd 5)) (.bin .Mult (.rd 4) (.rd 3)))]
def t_l_less : List (String × Fn) := [("_law_pair", S.f_l_pair)]
def f_l_less : Fn := mkFn false false 2 [] 6 m_l_less (tbl t_l_less)
def m_l_minus : List MS := [.set (.tp [2, 3]) (.call "_law_pair" [(.var 1)]), .ret (.call "_law_sum" [(.lst [(.var 0), (.tup [(.bin .Sub (.cst (.int 0)) (.rd 2)), (.var 3)])])])]
def t_l_minus : List (String × Fn) := [("_law_pair", S.f_l_pair), ("_law_sum", S.f_l_sum2)]
def f_l_minus : Fn := mkFn false false 2 [] 4 m_l_minus (tbl t_l_minus)
def m_l_over : List MS := [.set (.tp [2, 3]) (.call "_law_pair" [(.var 0)]), .set (.tp [4, 5]) (.call "_law_pair" [(.var 1)]), .ret (.call "_law_low" [(.bin .Mult (.rd 2) (.rd 5)), (.bin .Mult (.rd 3) (.rd 4))])]
def t_l_over : List (String × Fn) := [("_law_low", S.f_l_low), ("_law_pair", S.f_l_pair)]
def f_l_over : Fn := mkFn false false 2 [] 6 m_l_over (tbl t_l_over)
def b1_l_first : List MS := [.set (.tq [(.tq [(.nm 6), (.nm 7)]), (.nm 5)]) (.var 3), .set (.nm 4) (.cmp .NotEq (.rd 5) (.cst (.int 0))), .ite (.cmp .Lt (.bin .Add (.rd 2) (.cst (.int 1))) (.bi "len" [(.rd 0)])) [.set (.nm 4) (.not (.call "_law_less" [(.ix (.ix
   (.ix (.rd 0) (.bin .Add (.rd 2) (.cst (.int 1)))) (.cst (.int 0))) (.cst (.int 1))), (.var 1)]))] [], .ite (.var 4) [.ret (.call "_law_sum" [(.lst [(.var 6), (.call "_law_over" [(.call "_law_minus" [(.var 1), (.var 7)]), (.var 5)])])])]
   []]
def m_l_first : List MS := [.ite (.not (.call "_law_less" [(.ix (.ix (.ix (.rd 0) (.cst (.int 0))) (.cst (.int 0))) (.cst (.int 1))), (.var 1)])) [.ret (.cst (.int 0))] [], .for (.tp [2, 3]) 3 [(.rd 0)] b1_l_first, .ret (.cst .non)]
def t_l_first : List (String × Fn) := [("_law_less", S.f_l_less), ("_law_minus", S.f_l_minus), ("_law_over", S.f_l_over), ("_law_sum", S.f_l_sum2)]
def f_l_first : Fn := mkFn false false 2 [] 8 m_l_first (tbl t_l_first)
def m_l_piece : List MS := [.set (.nm 2) (.ix (.lc (.var 3) [3] (.nm 3) 0 [(.rd 0)] (some (.not (.call "_law_less" [(.var 1), (.ix (.ix (.rd 3) (.cst (.int 0))) (.cst (.int 0)))])))) (.neg (.cst (.int 1)))), .ret (.tup [(.call "_law_sum" [(.lst [(.ix (.ix (.rd
   2) (.cst (.int 0))) (.cst (.int 1))), (.call "_law_times" [(.ix (.rd 2) (.cst (.int 1))), (.call "_law_minus" [(.var 1), (.ix (.ix (.rd 2) (.cst (.int 0))) (.cst (.int 0)))])])])]), (.ix (.rd 2) (.cst (.int 1)))])]
def t_l_piece : List (String × Fn) := [("_law_less", S.f_l_less), ("_law_minus", S.f_l_minus), ("_law_sum", S.f_l_sum2), ("_law_times", S.f_l_times)]
def f_l_piece : Fn := mkFn false false 2 [] 4 m_l_piece (tbl t_l_piece)
def m_l_somewhere : List MS := [.set (.nm 2) (.callio "_law_draw" 0 [(.bi "len" [(.rd 1)])]), .set (.nm 3) (.ix (.ix (.ix (.rd 1) (.var 2)) (.cst (.int 0))) (.cst (.int 0))), .set (.nm 4) (.ite (.cmp .Lt (.bin .Add (.rd 2) (.cst (.int 1))) (.bi "len" [(.rd 1)]))
   (.ix (.ix (.ix (.rd 1) (.bin .Add (.rd 2) (.cst (.int 1)))) (.cst (.int 0))) (.cst (.int 0))) (.call "_law_sum" [(.lst [(.var 3), (.callio "_law_number" 0 [])])])), .set (.nm 5) (.lst [(.var 3), (.var 4), (.call "_law_over" [(.call
   "_law_sum" [(.lst [(.var 3), (.var 4)])]), (.cst (.int 2))]), (.call "_law_sum" [(.lst [(.var 3), (.call "_law_low" [(.cst (.int 1)), (.bin .Pow (.cst (.int 10)) (.cst (.int 6)))])])])]), .ret (.ix (.bin .Add (.rd 5) (.lst [(.call
   "_law_sum" [(.lst [(.var 4), (.bin .Pow (.cst (.int 10)) (.cst (.int 12)))])])])) (.callio "_law_draw" 0 [(.cst (.int 5))]))]
def t_l_somewhere : List (String × Fn) := [("_law_draw", S.f_l_draw), ("_law_low", S.f_l_low), ("_law_number", S.f_l_number), ("_law_over", S.f_l_over), ("_law_sum", S.f_l_sum2)]
def f_l_somewhere : Fn := mkFn true false 2 [] 6 m_l_somewhere (tbl t_l_somewhere)
def b1_l_true : List MS := [.app 2 (.call "_law_over" [(.call "_law_minus" [(.ix (.rd 6) (.cst (.int 1))), (.ix (.rd 5) (.cst (.int 1)))]), (.call "_law_minus" [(.ix (.rd 6) (.cst (.int 0))), (.ix (.rd 5) (.cst (.int 0)))])])]
def b2_l_true : List MS := [.ite (.cmp .NotEq (.ix (.rd 2) (.var 4)) (.ix (.rd 2) (.bin .Sub (.rd 4) (.cst (.int 1))))) [.app 3 (.tup [(.ix (.rd 0) (.var 4)), (.ix (.rd 2) (.var 4))])] []]
def m_l_true : List MS := [.set (.nm 2) (.lst []), .for (.tp [5, 6]) 2 [(.rd 0), (.slc (.rd 0) (some (.cst (.int 1))) none)] b1_l_true, .app 2 (.var 1), .set (.nm 3) (.lst [(.tup [(.ix (.rd 0) (.cst (.int 0))), (.ix (.rd 2) (.cst (.int 0)))])]), .for (.nm 4)
   1 [(.cst (.int 1)), (.bi "len" [(.rd 0)])] b2_l_true, .ret (.var 3)]
def t_l_true : List (String × Fn) := [("_law_minus", S.f_l_minus), ("_law_over", S.f_l_over)]
def f_l_true : Fn := mkFn false true 2 [] 7 m_l_true (tbl t_l_true)
def b1_l_right2 : List MS := [.ite (.cmp .NotEq (.bi "repr" [(.meth (.var 5) "least" [(.var 8)])]) (.bi "repr" [(.call "_law_first" [(.var 4), (.var 8)])])) [.ret (.cst (.bl false))] []]
def b2_l_right2 : List MS := [.set (.nm 6) (.callio "_law_somewhere" 0 [(.var 4)]), .set (.tp [9, 10]) (.call "_law_piece" [(.var 4), (.var 6)]), .ite (.cmp .NotEq (.bi "repr" [(.lst [(.meth (.var 5) "at" [(.var 6)]), (.meth (.var 5) "slope_behind" [(.var 6)])])])
   (.bi "repr" [(.lst [(.var 9), (.var 10)])])) [.ret (.cst (.bl false))] [], .set (.nm 7) (.call "_law_sum" [(.lst [(.var 9), (.ix (.lst [(.cst (.int 0)), (.tup [(.cst (.int 1)), (.bin .Pow (.cst (.int 10)) (.cst (.int 6)))]), (.callio
   "_law_number" 0 []), (.bin .Pow (.cst (.int 10)) (.cst (.int 20)))]) (.callio "_law_draw" 0 [(.cst (.int 4))]))])]), .for (.nm 8) 0 [(.tup [(.var 9), (.var 7), (.cst (.int 0)), (.ix (.ix (.ix (.rd 4) (.neg (.cst (.int 1)))) (.cst (.int
   0))) (.cst (.int 1)))])] b1_l_right2]
def m_l_right2 : List MS := [.par 4 5 (.call "_law_true" [(.var 1), (.var 2)]) (.call "Curve" [(.var 1), (.var 2)]), .for (.nm 3) 1 [(.cst (.int 6))] b2_l_right2, .ret (.cmp .Eq (.fld (.var 5) "corners") (.lc (.ix (.rd 11) (.cst (.int 0))) [11] (.nm 11) 0 [(.rd
   4)] none))]
def t_l_right2 : List (String × Fn) := [("_law_draw", S.f_l_draw), ("_law_first", S.f_l_first), ("_law_number", S.f_l_number), ("_law_piece", S.f_l_piece), ("_law_somewhere", S.f_l_somewhere), ("_law_sum", S.f_l_sum2), ("_law_true", S.f_l_true), ("Curve", ctorFn "Curve" S.f_Curve_init)]
def o_l_right2 : List (Str × Str × OwnM) := [("Curve", "at", .meth S.f_Curve_at), ("Curve", "corners", .prop S.f_Curve_corners), ("Curve", "least", .meth S.f_Curve_least), ("Curve", "slope_behind", .meth S.f_Curve_slope_behind)]
def f_l_right2 : Fn := mkFn true false 3 [] 12 m_l_right2 (tblO t_l_right2 o_l_right2)
def m_l_spring : List MS := [.set (.nm 2) (.ite (.cmp .Lt (.rd 1) (.bi "len" [(.rd 0)])) (.bi "abs" [(.bi "int" [(.ix (.rd 0) (.var 1))])]) (.cst (.int 0))), .ret (.lst [(.bi "max" [(.cst (.int 0)), (.bin .Sub (.rd 2) (.bin .Pow (.cst (.int 10)) (.cst (.int 18))))]),
   (.bin .Add (.bin .Add (.bin .Mult (.bin .Mod (.bi "int" [(.rd 2)]) (.bin .Add (.bin .Pow (.cst (.int 10)) (.cst (.int 39))) (.cst (.int 3)))) (.cst (.int 32))) (.bin .Mult (.cst (.int 15485867)) (.cst (.int 32)))) (.rd 1)), (.cst (.int
   0))])]
def t_l_spring : List (String × Fn) := []
def f_l_spring : Fn := mkFn false true 2 [] 3 m_l_spring (tbl t_l_spring)
end S

set_option exponentiation.threshold 2000
namespace S
open PySem PySem.Spec L2 Z
/-! ### numbers with a common bottom -/
/-- x is n / d with |n| ≤ N -/
def Fr (d N : Nat) (x : Rat) : Prop := ∃ n : Int, x = Rat.divInt n d ∧ n.natAbs ≤ N
theorem Fr.mono {d N M : Nat} {x : Rat} (h : Fr d N x) (le : N ≤ M) : Fr d M x := let ⟨n, e, l⟩ := h; ⟨n, e, Nat.le_trans l le⟩
theorem Fr.sz {d N k : Nat} {x : Rat} (h : Fr d N x) (hd : d ≠ 0) (h1 : N < 2 ^ k) (h2 : d < 2 ^ k) : Sz k x := by
  obtain ⟨n, rfl, l⟩ := h
  exact sz_div (by omega) (by omega) (by simpa using h2)
theorem Fr.add {d N M : Nat} {x y : Rat} (hd : d ≠ 0) (hx : Fr d N x) (hy : Fr d M y) : Fr d (N + M) (x + y) := by
  obtain ⟨n, rfl, l⟩ := hx
  obtain ⟨m, rfl, l'⟩ := hy
  refine ⟨n + m, ?_, by omega⟩
  rw [Rat.divInt_add_divInt _ _ (by omega) (by omega), ← Int.add_mul, Rat.divInt_mul_right (by omega)]
theorem Fr.neg {d N : Nat} {x : Rat} (hx : Fr d N x) : Fr d N (-x) := by
  obtain ⟨n, rfl, l⟩ := hx
  exact ⟨-n, by rw [Rat.neg_divInt], by omega⟩
theorem Fr.sub {d N M : Nat} {x y : Rat} (hd : d ≠ 0) (hx : Fr d N x) (hy : Fr d M y) : Fr d (N + M) (x - y) := by
  rw [Rat.sub_eq_add_neg]
  exact hx.add hd hy.neg
theorem Fr.mul {d e N M : Nat} {x y : Rat} (hx : Fr d N x) (hy : Fr e M y) : Fr (d * e) (N * M) (x * y) := by
  obtain ⟨n, rfl, l⟩ := hx
  obtain ⟨m, rfl, l'⟩ := hy
  refine ⟨n * m, ?_, by rw [Int.natAbs_mul]; exact Nat.mul_le_mul l l'⟩
  rw [Rat.divInt_mul_divInt, Int.natCast_mul]
theorem Fr.up {d N : Nat} {x : Rat} (e : Nat) (he : e ≠ 0) (hx : Fr d N x) : Fr (d * e) (N * e) x := by
  obtain ⟨n, rfl, l⟩ := hx
  refine ⟨n * e, ?_, by rw [Int.natAbs_mul]; simpa using Nat.mul_le_mul_right e l⟩
  rw [Int.natCast_mul, Rat.divInt_mul_right (by omega)]
theorem Fr.int (a : Int) : Fr 1 a.natAbs (a : Rat) := ⟨a, by
  have h := Rat.num_divInt_den (a : Rat)
  rw [Rat.num_intCast, Rat.den_intCast] at h
  exact h.symm, Nat.le_refl _⟩
/-! ### draws from a spring -/
def Sp (k : Nat) (p : D) : Prop := ∃ dg sd ct : Int, p = .lst [.int dg, .int sd, .int ct] ∧ 0 ≤ dg ∧ 0 ≤ sd ∧ sd < 2 ^ 140 ∧ 0 ≤ ct ∧ ct ≤ k
theorem Sp.mono {j k : Nat} {p : D} (h : Sp j p) (le : j ≤ k) : Sp k p := by
  obtain ⟨dg, sd, ct, e, a1, a2, a3, a4, a5⟩ := h
  exact ⟨dg, sd, ct, e, a1, a2, a3, a4, by omega⟩
theorem pow2 {x : Int} (h0 : 0 ≤ x) (h : x < 2 ^ 300) : powOk x 2 = true := by
  unfold powOk
  have : x.natAbs < 2 ^ (299 + 1) := by omega
  have := log2_le this
  simp
  omega
theorem r_draw {k : Nat} {p : D} {m : Int} (h : Sp k p) (hk : k < 1000000) (h0 : 0 < m) (h1 : m < 2 ^ 200) : ∃ r p', f_l_draw.run [p, .int m] = .ok (.int r) p' ∧ 0 ≤ r ∧ r < m ∧ Sp (k + 1) p' := by
  obtain ⟨dg, sd, ct, rfl, a1, a2, a3, a4, a5⟩ := h
  have hm : ¬ m = 0 := by omega
  have hd : divOk m = true := divOk_of (k := 250) (by omega) hm (by omega)
  show ∃ r p', (exB (tbl t_l_draw) fuelN m_l_draw (sl0 true 4 [.lst [.int dg, .int sd, .int ct], .int m])).fr true false = .ok (.int r) p' ∧ _
  by_cases hg : 0 < dg
  · refine ⟨dg.fmod m, .lst [.int (dg.fdiv m), .int sd, .int ct], ?_, Int.fmod_nonneg_of_pos dg h0, Int.fmod_lt_of_pos dg h0, _, _, _, rfl, Int.fdiv_nonneg a1 (by omega), a2, a3, a4, by omega⟩
    simp [m_l_draw, sl0, exB, exS, evE, evL, ixD, cmpD, hg, truD, biD, binD, hm, hd, setS, lstAt, updS, Sl.free, asgT, Out.fr, io0]
  · have e1 : mulOk 86028121 (ct + 1) = true := mulOk_of (a := 40) (b := 40) (by omega) (by omega) (by omega)
    have e2 : mulOk 179424673 (ct + 1) = true := mulOk_of (a := 40) (b := 40) (by omega) (by omega) (by omega)
    have e3 : powOk (sd + 86028121 * (ct + 1)) 3 = true := pow3 (by omega) (by omega)
    have e4 : ∀ z : Int, powOk (z.fmod 100000000000000000000000000000000000000081 + 179424673 * (ct + 1)) 2 = true := fun z => by
      have := Int.fmod_nonneg_of_pos z (b := 100000000000000000000000000000000000000081) (by omega)
      have := Int.fmod_lt_of_pos z (b := 100000000000000000000000000000000000000081) (by omega)
      exact pow2 (by omega) (by omega)
    have e5 : divOk 100000000 = true := by decide
    have e6 : powOk 10 38 = true := by decide
    have e7 : powOk 10 41 = true := by decide
    have e8 : powOk 10 8 = true := by decide
    simp [m_l_draw, sl0, exB, exS, evE, evL, ixD, cmpD, hg, truD, biD, binD, hm, hd, setS, lstAt, updS, Sl.free, asgT, Out.fr, io0, e1, e2, e3, e4, e5, e6, e7, e8]
    exact ⟨_, _, ⟨rfl, rfl⟩, Int.fmod_nonneg_of_pos _ h0, Int.fmod_lt_of_pos _ h0, _, _, _, rfl, a1, a2, a3, by omega, by omega⟩
theorem k_draw_io {Φ : Tab} {k : Nat} {p : D} {m : Int} {ρ : Vn} {i : Nat} (hf : Φ "_law_draw" = some f_l_draw) (hi : ρ[i]? = some (.io p)) (h : Sp k p) (hk : k < 1000000) (h0 : 0 < m) (h1 : m < 2 ^ 200) : ∃ r p', callIo Φ "_law_draw" i [.int m] ρ = .ok (false, .int r) (ρ.set i (.io p')) ∧ 0 ≤ r ∧ r < m ∧ Sp (k + 1) p' := by
  obtain ⟨r, p', e, a, b, c⟩ := r_draw h hk h0 h1
  exact ⟨r, p', callIo_io hf rfl rfl hi e, a, b, c⟩
theorem k_draw_own {Φ : Tab} {k : Nat} {p : D} {m : Int} {ρ : Vn} {i : Nat} (hf : Φ "_law_draw" = some f_l_draw) (hi : ρ[i]? = some (.own p)) (h : Sp k p) (hk : k < 1000000) (h0 : 0 < m) (h1 : m < 2 ^ 200) : ∃ r p', callIo Φ "_law_draw" i [.int m] ρ = .ok (false, .int r) (ρ.set i (.own p')) ∧ 0 ≤ r ∧ r < m ∧ Sp (k + 1) p' := by
  obtain ⟨r, p', e, a, b, c⟩ := r_draw h hk h0 h1
  exact ⟨r, p', callIo_own hf rfl rfl hi e, a, b, c⟩
end S

set_option exponentiation.threshold 2000
namespace S
open PySem PySem.Spec L2 Z
theorem w_low {k : Nat} (hk : k < 400000) (x y : Int) (a b : Nat) (h : b < 2 ^ k) : whGo (evE (tbl t_l_low) w1_l_low) (exB (tbl t_l_low) fuelN b1_l_low) fuelN [.val (.int x), .val (.int y), .val (.int a), .val (.int b)] = .nx [.val (.int x), .val (.int y), .val (.int (Nat.gcd a b : Nat)), .val (.int 0)] := by
  have key := euclid (W := fun m a b => whGo (evE (tbl t_l_low) w1_l_low) (exB (tbl t_l_low) fuelN b1_l_low) m [.val (.int x), .val (.int y), .val (.int (a : Nat)), .val (.int (b : Nat))]) (R := fun g => .nx [.val (.int x), .val (.int y), .val (.int (g : Nat)), .val (.int 0)])
    (fun m a => by simp [whGo, w1_l_low, evE, cmpD, truD]) (fun m a b hb => by
      have hb0 : (b : Int) ≠ 0 := by omega
      have hb1 : (0 : Int) < b := by omega
      have hb2 : b ≠ 0 := by omega
      simp [whGo, w1_l_low, hb2, evE, evL, biD, cmpD, truD, hb1, hb0, b1_l_low, exB, exS, binD, setS, Sl.free, fmod_nat, hb]) k a b h (fuelN - (2 * k + 1))
  rw [show 2 * k + 1 + (fuelN - (2 * k + 1)) = fuelN by unfold fuelN; omega] at key
  exact key
theorem r_low {a b : Int} {k : Nat} (hk : k < 8000) (h : 0 < b) (hb : b.natAbs < 2 ^ k) : f_l_low.run [.int a, .int b] = .ok (ofQ (Rat.divInt a b)) .non := by
  rw [← numD_q (show b ≠ 0 by omega)]
  have w := w_low (k := k) (by omega) a b a.natAbs b.natAbs hb
  have eb : ((b.natAbs : Nat) : Int) = b := by omega
  rw [eb] at w
  have e : sg a b = ((Nat.gcd a.natAbs b.natAbs : Nat) : Int) := by unfold sg; rw [if_neg (by omega)]
  have d := divOk_sg (a := a) hk (show b ≠ 0 by omega) hb
  obtain ⟨q, r, h1, h2, h3, h4, h5, h6⟩ := sg_split (a := a) (show b ≠ 0 by omega)
  have hs := sg_ne (a := a) (show b ≠ 0 by omega)
  have one : (b.fdiv (sg a b) = 1) ↔ sg a b = b := by
    rw [h4]
    constructor
    · intro z; rw [z, Int.mul_one] at h2; exact h2.symm
    · intro z
      have : sg a b * 1 = sg a b * r := by rw [Int.mul_one, ← h2, z]
      exact (Int.eq_of_mul_eq_mul_left hs this).symm
  unfold numD
  rw [f_l_low, run_mk]
  rw [e] at d one ⊢
  by_cases z : ((Nat.gcd a.natAbs b.natAbs : Nat) : Int) = b
  · rw [if_pos (one.mpr z)]
    simp [m_l_low, sl0, exB, exS, evE, evL, setS, Sl.free, w, d, z, Out.fr, io0]
    rw [z] at d
    simp [d]
  · rw [if_neg (fun y => z (one.mp y))]
    simp [m_l_low, sl0, exB, exS, evE, evL, setS, Sl.free, w, d, z, Out.fr, io0]
end S

set_option exponentiation.threshold 2000
namespace S
open PySem PySem.Spec L2 Z
/-- a number as it is shown, or as a pair -/
def PairOf (d : D) (x : Rat) : Prop := d = ofQ x ∨ d = prQ x
theorem r_pairO {d : D} {x : Rat} (h : PairOf d x) : f_l_pair.run [d] = .ok (prQ x) .non := by
  rcases h with rfl | rfl
  · exact r_pair x
  · rw [f_l_pair, run_mk]
    simp [m_l_pair, sl0, exB, exS, evE, evL, isiD, Out.fr, io0, prQ]
theorem k_pairO {Φ : Tab} {d : D} {x : Rat} (h : PairOf d x) (ρ : Vn) (e : Φ "_law_pair" = some f_l_pair) : callF Φ "_law_pair" [d] ρ = .ok (false, prQ x) ρ := callF_ok e rfl rfl (r_pairO h)
theorem k_low {Φ : Tab} {a b : Int} {k : Nat} (hk : k < 8000) (h : 0 < b) (hb : b.natAbs < 2 ^ k) (ρ : Vn) (e : Φ "_law_low" = some f_l_low) : callF Φ "_law_low" [.int a, .int b] ρ = .ok (false, ofQ (Rat.divInt a b)) ρ := callF_ok e rfl rfl (r_low hk h hb)
theorem den_pos (x y : Rat) : 0 < ((x.den : Nat) : Int) * ((y.den : Nat) : Int) := by
  have h1 := x.den_nz
  have h2 := y.den_nz
  exact Int.mul_pos (by omega) (by omega)
theorem r_sum2 {d1 d2 : D} {x y : Rat} {k : Nat} (hk : k < 3000) (h1 : PairOf d1 x) (h2 : PairOf d2 y) (hx : Sz k x) (hy : Sz k y) : f_l_sum2.run [.lst [d1, d2]] = .ok (ofQ (x + y)) .non := by
  have q1 := fun ρ => k_pairO (Φ := tbl t_l_sum2) h1 ρ rfl
  have q2 := fun ρ => k_pairO (Φ := tbl t_l_sum2) h2 ρ rfl
  have one : ((1 : Int)).natAbs < 2 ^ 1 := by decide
  have zer : ((0 : Int)).natAbs < 2 ^ 1 := by decide
  have m1 := mulOk_lt zer hx.den (by omega)
  have m2 := mulOk_lt hx.1 one (by omega)
  have m3 := mulOk_lt one hx.den (by omega)
  have m4 := mulOk_lt hx.1 hy.den (by omega)
  have m5 := mulOk_lt hy.1 hx.den (by omega)
  have m6 := mulOk_lt hx.den hy.den (by omega)
  have n := fun ρ => k_low (Φ := tbl t_l_sum2) (k := k + k) (a := x.num * y.den + y.num * x.den) (by omega) (den_pos x y) (mul_lt hx.den hy.den) ρ rfl
  rw [add_q] at n
  have s1 : exB (tbl t_l_sum2) fuelN b1_l_sum2 [.val (.lst [d1, d2]), .val d1, .val (.int 0), .val (.int 1), .non, .non] = .nx [.val (.lst [d1, d2]), .val d1, .val (.int x.num), .val (.int x.den), .val (.int x.num), .val (.int x.den)] := by
    simp [b1_l_sum2, exB, exS, evE, evL, q1, prQ, asgT, sets, setS, Sl.free, m1, m2, m3]
  have s2 : exB (tbl t_l_sum2) fuelN b1_l_sum2 [.val (.lst [d1, d2]), .val d2, .val (.int x.num), .val (.int x.den), .val (.int x.num), .val (.int x.den)] = .nx [.val (.lst [d1, d2]), .val d2, .val (.int (x.num * y.den + y.num * x.den)), .val (.int (x.den * y.den)), .val (.int y.num), .val (.int y.den)] := by
    simp [b1_l_sum2, exB, exS, evE, evL, q2, prQ, asgT, sets, setS, Sl.free, m4, m5, m6]
  have g : forGo (.nm 1) (exB (tbl t_l_sum2) fuelN b1_l_sum2) [d1, d2] [.val (.lst [d1, d2]), .non, .val (.int 0), .val (.int 1), .non, .non] = .nx [.val (.lst [d1, d2]), .val d2, .val (.int (x.num * y.den + y.num * x.den)), .val (.int (x.den * y.den)), .val (.int y.num), .val (.int y.den)] := by
    rw [forGo_cons (by simp [asgT, setS, Sl.free]) s1, forGo_cons (by simp [asgT, setS, Sl.free]) s2]
    rfl
  rw [f_l_sum2, run_mk]
  have e0 : exS (tbl t_l_sum2) fuelN (.set (.tp [2, 3]) (.tup [(.cst (.int 0)), (.cst (.int 1))])) [.val (.lst [d1, d2]), .non, .non, .non, .non, .non] = .nx [.val (.lst [d1, d2]), .non, .val (.int 0), .val (.int 1), .non, .non] := by
    simp [exS, evE, evL, asgT, sets, setS, Sl.free]
  rw [show sl0 false 6 [.lst [d1, d2]] = [.val (.lst [d1, d2]), .non, .non, .non, .non, .non] from rfl, m_l_sum2, exB_nx e0, exB_nx (for_nx (ρ1 := [.val (.lst [d1, d2]), .non, .val (.int 0), .val (.int 1), .non, .non]) (ds := [.lst [d1, d2]]) (by simp [evL, evE]) rfl g rfl)]
  simp [exB, exS, evE, evL, rdIdx, unlockV, n, Out.fr, io0]
end S

set_option exponentiation.threshold 2000
namespace C
open PySem PySem.Spec L2 Z S
@[simp] theorem io_hd (p : D) (ρ : Vn) : wrAt (.io p :: ρ) 0 = true := rfl
theorem prQ_neg (y : Rat) : D.tup [.int (0 - y.num), .int (y.den : Nat)] = prQ (-y) := by
  unfold prQ
  rw [Rat.neg_num, Rat.neg_den, Int.zero_sub]
theorem sz_neg {k : Nat} {x : Rat} (h : Sz k x) : Sz k (-x) := by
  refine ⟨?_, ?_⟩
  · rw [Rat.neg_num, Int.natAbs_neg]; exact h.1
  · rw [Rat.neg_den]; exact h.2
theorem k_sum2 {Φ : Tab} {d1 d2 : D} {x y : Rat} {k : Nat} (hk : k < 3000) (h1 : PairOf d1 x) (h2 : PairOf d2 y) (hx : Sz k x) (hy : Sz k y) (ρ : Vn) (e : Φ "_law_sum" = some f_l_sum2) : callF Φ "_law_sum" [.lst [d1, d2]] ρ = .ok (false, ofQ (x + y)) ρ := callF_ok e rfl rfl (r_sum2 hk h1 h2 hx hy)
theorem r_ltimes {d1 d2 : D} {x y : Rat} {k : Nat} (hk : k < 3000) (h1 : PairOf d1 x) (h2 : PairOf d2 y) (hx : Sz k x) (hy : Sz k y) : f_l_times.run [d1, d2] = .ok (ofQ (x * y)) .non := by
  have q1 := fun ρ => k_pairO (Φ := tbl t_l_times) h1 ρ rfl
  have q2 := fun ρ => k_pairO (Φ := tbl t_l_times) h2 ρ rfl
  have m1 := mulOk_lt hx.1 hy.1 (by omega)
  have m2 := mulOk_lt hx.den hy.den (by omega)
  have n := fun ρ => k_low (Φ := tbl t_l_times) (k := k + k) (a := x.num * y.num) (by omega) (den_pos x y) (mul_lt hx.den hy.den) ρ rfl
  rw [mul_q] at n
  rw [f_l_times, run_mk, m_l_times]
  simp [sl0, b_nil, b_cons, s_set, s_stp, s_stq, s_tri, s_setF, s_mut, s_par, s_setIx, s_expr, s_app, s_ite, s_rvar, s_ret, s_raise, s_brk, s_pass, e_var, e_rd, e_cst, e_tup, e_lst, e_bin, e_neg, e_not, e_and, e_or, e_cmp, e_chain, e_ite, e_call, e_callio, e_bi, e_isi, e_iso, e_mem, e_get, e_getd, e_fld, e_meth, e_stup, e_slst, e_dup, e_ix, e_slc, e_dsp, l_nil, l_cons, o_none, o_some, x_nil, x_cons, setS, asgT, asgTs, sets, updS, Out.fr, io0, wrAt, Sl.isWr, ME.isRd, io_hd, q1, q2, prQ, n_mul m1, n_mul m2, n]
theorem k_ltimes {Φ : Tab} {d1 d2 : D} {x y : Rat} {k : Nat} (hk : k < 3000) (h1 : PairOf d1 x) (h2 : PairOf d2 y) (hx : Sz k x) (hy : Sz k y) (ρ : Vn) (e : Φ "_law_times" = some f_l_times) : callF Φ "_law_times" [d1, d2] ρ = .ok (false, ofQ (x * y)) ρ := callF_ok e rfl rfl (r_ltimes hk h1 h2 hx hy)
theorem r_lminus {d1 d2 : D} {x y : Rat} {k : Nat} (hk : k < 3000) (h1 : PairOf d1 x) (h2 : PairOf d2 y) (hx : Sz k x) (hy : Sz k y) : f_l_minus.run [d1, d2] = .ok (ofQ (x - y)) .non := by
  have q2 := fun ρ => k_pairO (Φ := tbl t_l_minus) h2 ρ rfl
  have n := fun ρ => k_sum2 (Φ := tbl t_l_minus) hk h1 (.inr rfl) hx (sz_neg hy) ρ rfl
  rw [← prQ_neg, ← Rat.sub_eq_add_neg, Int.zero_sub] at n
  rw [f_l_minus, run_mk, m_l_minus]
  simp [sl0, b_nil, b_cons, s_set, s_stp, s_stq, s_tri, s_setF, s_mut, s_par, s_setIx, s_expr, s_app, s_ite, s_rvar, s_ret, s_raise, s_brk, s_pass, e_var, e_rd, e_cst, e_tup, e_lst, e_bin, e_neg, e_not, e_and, e_or, e_cmp, e_chain, e_ite, e_call, e_callio, e_bi, e_isi, e_iso, e_mem, e_get, e_getd, e_fld, e_meth, e_stup, e_slst, e_dup, e_ix, e_slc, e_dsp, l_nil, l_cons, o_none, o_some, x_nil, x_cons, setS, asgT, asgTs, sets, updS, Out.fr, io0, wrAt, Sl.isWr, ME.isRd, io_hd, q2, prQ, n]
theorem k_lminus {Φ : Tab} {d1 d2 : D} {x y : Rat} {k : Nat} (hk : k < 3000) (h1 : PairOf d1 x) (h2 : PairOf d2 y) (hx : Sz k x) (hy : Sz k y) (ρ : Vn) (e : Φ "_law_minus" = some f_l_minus) : callF Φ "_law_minus" [d1, d2] ρ = .ok (false, ofQ (x - y)) ρ := callF_ok e rfl rfl (r_lminus hk h1 h2 hx hy)
theorem num_pos {y : Rat} (h : 0 < y) : 0 < y.num := by
  have h1 : 0 ≤ y.num := Rat.num_nonneg.mpr (Rat.le_of_lt h)
  have h2 : y.num ≠ 0 := fun z => by
    rw [Rat.num_eq_zero] at z
    subst z
    exact absurd h (Rat.lt_irrefl)
  omega
theorem quo_pos {a b : Rat} (ha : 0 < a) (hb : 0 < b) : 0 < a / b := by
  refine Classical.byContradiction fun n => ?_
  have h1 := Rat.mul_nonneg (show 0 ≤ -(a / b) by grind) (Rat.le_of_lt hb)
  have h2 : a / b * b = a := by grind
  grind
theorem quo_nonneg {a b : Rat} (ha : 0 ≤ a) (hb : 0 < b) : 0 ≤ a / b := by
  refine Classical.byContradiction fun n => ?_
  have h1 := Rat.mul_pos (show 0 < -(a / b) by grind) hb
  have h2 : a / b * b = a := by grind
  grind
theorem r_lover {d1 d2 : D} {x y : Rat} {k : Nat} (hk : k < 3000) (h1 : PairOf d1 x) (h2 : PairOf d2 y) (hx : Sz k x) (hy : Sz k y) (h0 : 0 < y) : f_l_over.run [d1, d2] = .ok (ofQ (x / y)) .non := by
  have q1 := fun ρ => k_pairO (Φ := tbl t_l_over) h1 ρ rfl
  have q2 := fun ρ => k_pairO (Φ := tbl t_l_over) h2 ρ rfl
  have m1 := mulOk_lt hx.1 hy.den (by omega)
  have m2 := mulOk_lt hx.den hy.1 (by omega)
  have n := fun ρ => k_low (Φ := tbl t_l_over) (k := k + k) (a := x.num * y.den) (b := x.den * y.num) (by omega) (Int.mul_pos (by have := x.den_nz; omega) (num_pos h0)) (mul_lt hx.den hy.1) ρ rfl
  rw [div_q] at n
  rw [f_l_over, run_mk, m_l_over]
  simp [sl0, b_nil, b_cons, s_set, s_stp, s_stq, s_tri, s_setF, s_mut, s_par, s_setIx, s_expr, s_app, s_ite, s_rvar, s_ret, s_raise, s_brk, s_pass, e_var, e_rd, e_cst, e_tup, e_lst, e_bin, e_neg, e_not, e_and, e_or, e_cmp, e_chain, e_ite, e_call, e_callio, e_bi, e_isi, e_iso, e_mem, e_get, e_getd, e_fld, e_meth, e_stup, e_slst, e_dup, e_ix, e_slc, e_dsp, l_nil, l_cons, o_none, o_some, x_nil, x_cons, setS, asgT, asgTs, sets, updS, Out.fr, io0, wrAt, Sl.isWr, ME.isRd, io_hd, q1, q2, prQ, n_mul m1, n_mul m2, n]
theorem k_lover {Φ : Tab} {d1 d2 : D} {x y : Rat} {k : Nat} (hk : k < 3000) (h1 : PairOf d1 x) (h2 : PairOf d2 y) (hx : Sz k x) (hy : Sz k y) (h0 : 0 < y) (ρ : Vn) (e : Φ "_law_over" = some f_l_over) : callF Φ "_law_over" [d1, d2] ρ = .ok (false, ofQ (x / y)) ρ := callF_ok e rfl rfl (r_lover hk h1 h2 hx hy h0)
theorem r_lless {d1 d2 : D} {x y : Rat} {k : Nat} (hk : k < 3000) (h1 : PairOf d1 x) (h2 : PairOf d2 y) (hx : Sz k x) (hy : Sz k y) : f_l_less.run [d1, d2] = .ok (.bl (decide (x < y))) .non := by
  have q1 := fun ρ => k_pairO (Φ := tbl t_l_less) h1 ρ rfl
  have q2 := fun ρ => k_pairO (Φ := tbl t_l_less) h2 ρ rfl
  have m1 := mulOk_lt hx.1 hy.den (by omega)
  have m2 := mulOk_lt hy.1 hx.den (by omega)
  rw [f_l_less, run_mk, m_l_less]
  simp [sl0, b_nil, b_cons, s_set, s_stp, s_stq, s_tri, s_setF, s_mut, s_par, s_setIx, s_expr, s_app, s_ite, s_rvar, s_ret, s_raise, s_brk, s_pass, e_var, e_rd, e_cst, e_tup, e_lst, e_bin, e_neg, e_not, e_and, e_or, e_cmp, e_chain, e_ite, e_call, e_callio, e_bi, e_isi, e_iso, e_mem, e_get, e_getd, e_fld, e_meth, e_stup, e_slst, e_dup, e_ix, e_slc, e_dsp, l_nil, l_cons, o_none, o_some, x_nil, x_cons, setS, asgT, asgTs, sets, updS, Out.fr, io0, wrAt, Sl.isWr, ME.isRd, io_hd, q1, q2, prQ, n_mul m1, n_mul m2, Rat.lt_iff]
theorem k_lless {Φ : Tab} {d1 d2 : D} {x y : Rat} {k : Nat} (hk : k < 3000) (h1 : PairOf d1 x) (h2 : PairOf d2 y) (hx : Sz k x) (hy : Sz k y) (ρ : Vn) (e : Φ "_law_less" = some f_l_less) : callF Φ "_law_less" [d1, d2] ρ = .ok (false, .bl (decide (x < y))) ρ := callF_ok e rfl rfl (r_lless hk h1 h2 hx hy)
/-! ### small things -/
theorem ofQ_int (a : Int) : ofQ (a : Rat) = .int a := by
  unfold ofQ
  rw [Rat.den_intCast, if_pos rfl, Rat.num_intCast]
theorem ofQ_nat (a : Nat) : ofQ ((a : Nat) : Rat) = .int (a : Nat) := by
  have := ofQ_int (a : Int)
  rwa [Rat.intCast_natCast] at this
theorem pair_q (x : Rat) : PairOf (ofQ x) x := .inl rfl
theorem pair_i (a : Int) : PairOf (.int a) (a : Rat) := .inl (ofQ_int a).symm
/-- an item of a list, by an index that is there -/
theorem ix_pick {ds : List D} {r : Int} (h0 : 0 ≤ r) (h1 : r < ds.length) : ∃ d ∈ ds, ixD (.lst ds) (.int r) = some d := by
  have hl : r.toNat < ds.length := by omega
  refine ⟨ds[r.toNat], List.getElem_mem hl, ?_⟩
  show (if 0 ≤ r then ds[r.toNat]? else _) = _
  rw [if_pos h0]
  simp [hl]
theorem d_draw {Φ : Tab} {k : Nat} {p : D} {m : Int} (hf : Φ "_law_draw" = some f_l_draw) (h : Sp k p) (hk : k < 1000000) (h0 : 0 < m) (h1 : m < 2 ^ 200) : ∃ r p', (∀ ρ, callIo Φ "_law_draw" 0 [.int m] (.io p :: ρ) = .ok (false, .int r) (.io p' :: ρ)) ∧ 0 ≤ r ∧ r < m ∧ Sp (k + 1) p' := by
  obtain ⟨r, p', e, a, b, c⟩ := r_draw h hk h0 h1
  exact ⟨r, p', fun ρ => callIo_io hf rfl rfl rfl e, a, b, c⟩
end C

set_option exponentiation.threshold 2000
namespace C
open PySem PySem.Spec L2 Z S
/-! ### points -/
def ptD (p : Rat × Rat) : D := .tup [ofQ p.1, ofQ p.2]
def sl (p q : Rat × Rat) : Rat := (q.2 - p.2) / (q.1 - p.1)
def SlOk (m : Rat) : Prop := 0 ≤ m ∧ Fr 12 12000000 m
def NX : Nat := 61 * 12000000
def NY : Nat := 62 * 144000000000000
def PtOk (p : Rat × Rat) : Prop := 0 ≤ p.1 ∧ 0 ≤ p.2 ∧ Fr 12 NX p.1 ∧ Fr 144 NY p.2
/-- points of a curve -/
def Up : List (Rat × Rat) → Prop
  | [] => True
  | [p] => PtOk p
  | p :: q :: r => PtOk p ∧ p.1 < q.1 ∧ SlOk (sl p q) ∧ Up (q :: r)
theorem Up.snoc {p q : Rat × Rat} (hq : PtOk q) (h1 : p.1 < q.1) (h2 : SlOk (sl p q)) : ∀ {l : List (Rat × Rat)}, Up (l ++ [p]) → Up (l ++ [p] ++ [q])
  | [], h => ⟨h, h1, h2, hq⟩
  | [a], h => by
    obtain ⟨a1, a2, a3, a4⟩ := h
    exact ⟨a1, a2, a3, a4, h1, h2, hq⟩
  | a :: b :: l, h => by
    obtain ⟨a1, a2, a3, a4⟩ := h
    exact ⟨a1, a2, a3, Up.snoc hq h1 h2 (l := b :: l) a4⟩
theorem Up.init {q : Rat × Rat} : ∀ {l : List (Rat × Rat)}, Up (l ++ [q]) → Up l
  | [], _ => trivial
  | [a], h => h.1
  | a :: b :: l, h => by
    obtain ⟨a1, a2, a3, a4⟩ := h
    exact ⟨a1, a2, a3, Up.init (l := b :: l) a4⟩
theorem Up.last {q : Rat × Rat} : ∀ {l : List (Rat × Rat)}, Up (l ++ [q]) → PtOk q
  | [], h => h
  | [a], h => h.2.2.2
  | a :: b :: l, h => Up.last (l := b :: l) h.2.2.2
/-! ### a number -/
theorem fr_div {a : Int} {c e N : Nat} (hc : c ≠ 0) (he : e ≠ 0) (h : a.natAbs * e ≤ N) : Fr (c * e) N (Rat.divInt a c) := by
  refine ⟨a * e, ?_, by rw [Int.natAbs_mul]; simpa using h⟩
  rw [Int.natCast_mul, Rat.divInt_mul_right (by omega)]
theorem fr_int {a : Int} {N : Nat} (h : a.natAbs * 12 ≤ N) : Fr 12 N (a : Rat) := ((Fr.int a).up 12 (by omega)).mono h
theorem div_pos' {a b : Int} (ha : 0 < a) (hb : 0 < b) : 0 < Rat.divInt a b := by
  rw [Rat.divInt_eq_div]
  exact quo_pos (Rat.intCast_pos.mpr ha) (Rat.intCast_pos.mpr hb)
theorem r_lnumber {k : Nat} {p : D} (h : Sp k p) (hk : k + 4 < 1000000) : ∃ x p', f_l_number.run [p] = .ok (ofQ x) p' ∧ 0 < x ∧ Fr 12 12000000 x ∧ Sp (k + 4) p' := by
  obtain ⟨r1, p1, e1, a1, b1, h1⟩ := d_draw (Φ := tbl t_l_number) (m := 6) rfl h (by omega) (by omega) (by omega)
  obtain ⟨r2, p2, e2, a2, b2, h2⟩ := d_draw (Φ := tbl t_l_number) (m := 4) rfl h1 (by omega) (by omega) (by omega)
  obtain ⟨r3, p3, e3, a3, b3, h3⟩ := d_draw (Φ := tbl t_l_number) (m := 1000000) rfl h2 (by omega) (by omega) (by omega)
  obtain ⟨r4, p4, e4, a4, b4, h4⟩ := d_draw (Φ := tbl t_l_number) (m := 4) rfl h3 (by omega) (by omega) (by omega)
  have n := fun ρ => k_low (Φ := tbl t_l_number) (k := 10) (a := 1 + r1) (b := 1 + r2) (by omega) (by omega) (by omega) ρ rfl
  have m1 : mulOk (1 + r1) 10 = true := mulOk_of (a := 10) (b := 10) (by omega) (by omega) (by omega)
  have e6 : powOk 10 6 = true := by decide
  obtain ⟨d, hd, ed⟩ := ix_pick (ds := [.int (1 + r1), .int ((1 + r1) * 10), ofQ (Rat.divInt (1 + r1) (1 + r2)), .int (1 + r3)]) a4 b4
  have key : ∃ x, d = ofQ x ∧ 0 < x ∧ Fr 12 12000000 x := by
    simp only [List.mem_cons, List.not_mem_nil, or_false] at hd
    rcases hd with rfl | rfl | rfl | rfl
    · exact ⟨_, (ofQ_int _).symm, Rat.intCast_pos.mpr (by omega), fr_int (by omega)⟩
    · exact ⟨_, (ofQ_int _).symm, Rat.intCast_pos.mpr (by omega), fr_int (by omega)⟩
    · refine ⟨_, rfl, div_pos' (by omega) (by omega), ?_⟩
      have : r2 = 0 ∨ r2 = 1 ∨ r2 = 2 ∨ r2 = 3 := by omega
      rcases this with rfl | rfl | rfl | rfl
      · exact fr_div (c := 1) (e := 12) (by omega) (by omega) (by omega)
      · exact fr_div (c := 2) (e := 6) (by omega) (by omega) (by omega)
      · exact fr_div (c := 3) (e := 4) (by omega) (by omega) (by omega)
      · exact fr_div (c := 4) (e := 3) (by omega) (by omega) (by omega)
    · exact ⟨_, (ofQ_int _).symm, Rat.intCast_pos.mpr (by omega), fr_int (by omega)⟩
  obtain ⟨x, rfl, hx, fx⟩ := key
  refine ⟨x, p4, ?_, hx, fx, h4⟩
  rw [f_l_number, run_mk, m_l_number]
  simp [sl0, b_nil, b_cons, s_set, s_stp, s_stq, s_tri, s_setF, s_mut, s_par, s_setIx, s_expr, s_app, s_ite, s_rvar, s_ret, s_raise, s_brk, s_pass, e_var, e_rd, e_cst, e_tup, e_lst, e_bin, e_neg, e_not, e_and, e_or, e_cmp, e_chain, e_ite, e_call, e_callio, e_bi, e_isi, e_iso, e_mem, e_get, e_getd, e_fld, e_meth, e_stup, e_slst, e_dup, e_ix, e_slc, e_dsp, l_nil, l_cons, o_none, o_some, x_nil, x_cons, setS, asgT, asgTs, sets, updS, Out.fr, io0, wrAt, Sl.isWr, ME.isRd, io_hd, e1, e2, e3, e4, n, n_mul m1, n_pow e6, ed]
theorem d_number {Φ : Tab} {k : Nat} {p : D} (hf : Φ "_law_number" = some f_l_number) (h : Sp k p) (hk : k + 4 < 1000000) : ∃ x p', (∀ ρ, callIo Φ "_law_number" 0 [] (.io p :: ρ) = .ok (false, ofQ x) (.io p' :: ρ)) ∧ 0 < x ∧ Fr 12 12000000 x ∧ Sp (k + 4) p' := by
  obtain ⟨x, p', e, a, b, c⟩ := r_lnumber h hk
  exact ⟨x, p', fun ρ => callIo_io hf rfl rfl rfl e, a, b, c⟩
theorem fr_sz {x : Rat} (h : Fr 12 12000000 x) : Sz 30 x := h.sz (by omega) (by decide) (by decide)
/-- an item of the drawn slopes -/
theorem steep_ok {z : Rat} (hz : 0 < z) (fz : Fr 12 12000000 z) {d : D} (hd : d ∈ [D.int 0, .int 1, .tup [.int 1, .int 2], .int 2, .tup [.int 1, .int 3], ofQ z]) : ∃ m, d = ofQ m ∧ SlOk m := by
  simp only [List.mem_cons, List.not_mem_nil, or_false] at hd
  rcases hd with rfl | rfl | rfl | rfl | rfl | rfl
  · exact ⟨((0 : Int) : Rat), (ofQ_int _).symm, Rat.intCast_nonneg.mpr (by omega), fr_int (by decide)⟩
  · exact ⟨((1 : Int) : Rat), (ofQ_int _).symm, Rat.intCast_nonneg.mpr (by omega), fr_int (by decide)⟩
  · exact ⟨Rat.divInt 1 2, by kernel_rfl, Rat.le_of_lt (div_pos' (by omega) (by omega)), fr_div (c := 2) (e := 6) (by omega) (by omega) (by decide)⟩
  · exact ⟨((2 : Int) : Rat), (ofQ_int _).symm, Rat.intCast_nonneg.mpr (by omega), fr_int (by decide)⟩
  · exact ⟨Rat.divInt 1 3, by kernel_rfl, Rat.le_of_lt (div_pos' (by omega) (by omega)), fr_div (c := 3) (e := 4) (by omega) (by omega) (by decide)⟩
  · exact ⟨z, rfl, Rat.le_of_lt hz, fz⟩
end C

set_option exponentiation.threshold 2000
namespace C
open PySem PySem.Spec L2 Z S
theorem fr_szX {x : Rat} (h : Fr 12 NX x) : Sz 40 x := h.sz (by omega) (by decide) (by decide)
theorem fr_szY {y : Rat} (h : Fr 144 NY y) : Sz 60 y := h.sz (by omega) (by decide) (by decide)
def headX (l : List (Rat × Rat)) : Prop := ∃ y r, l = (0, y) :: r
theorem headX.snoc {l : List (Rat × Rat)} (h : headX l) (q : Rat × Rat) : headX (l ++ [q]) := by
  obtain ⟨y, r, rfl⟩ := h
  exact ⟨y, r ++ [q], rfl⟩
def steepL (z : Rat) : List D := [D.int 0, .int 1, .tup [.int 1, .int 2], .int 2, .tup [.int 1, .int 3], ofQ z]
theorem sl_step {x y s m : Rat} (h : 0 < s) : sl (x, y) (x + s, y + s * m) = m := by
  unfold sl
  grind
def IDr (many : Int) (z : Rat) (k : Nat) (done : List Int) (ρ : Vn) : Prop := ∃ (p' : D) (pts : List (Rat × Rat)) (x y : Rat) (s2 s3 s7 s8 : Sl), ρ = [.io p', .val (.int many), s2, s3, .val (ofQ x), .val (ofQ y), .own (.lst (pts.map ptD)), s7, s8] ∧
  (s2 = .own (.lst (steepL z)) ∨ s2 = .val (.lst (steepL z))) ∧ s3.free = true ∧ s7.free = true ∧ s8.free = true ∧ pts.length = done.length ∧ Up (pts ++ [(x, y)]) ∧ headX (pts ++ [(x, y)]) ∧
  Fr 12 (done.length * 12000000) x ∧ Fr 144 (144000000 + done.length * 144000000000000) y ∧ Sp (k + 5 * done.length) p'
theorem r_ldrawn {k : Nat} {p : D} {many : Nat} (h : Sp k p) (h1 : 1 ≤ many) (h2 : many ≤ 60) (hk : k + 400 < 1000000) : ∃ pts last p', f_l_drawn.run [p, .int many] = .ok (.tup [.lst (pts.map ptD), ofQ last]) p' ∧ pts.length = many ∧ Up pts ∧ headX pts ∧ SlOk last ∧ Sp (k + 400) p' := by
  obtain ⟨y0, p1, e1, a1, b1, g1⟩ := d_number (Φ := tbl t_l_drawn) rfl h (by omega)
  obtain ⟨r2, p2, e2, a2, b2, g2⟩ := d_draw (Φ := tbl t_l_drawn) (m := 2) rfl g1 (by omega) (by omega) (by omega)
  obtain ⟨z, p3, e3, a3, b3, g3⟩ := d_number (Φ := tbl t_l_drawn) rfl g2 (by omega)
  obtain ⟨d, hd, ed⟩ := ix_pick (ds := [.int 0, ofQ y0]) a2 b2
  have key : ∃ y, d = ofQ y ∧ 0 ≤ y ∧ Fr 12 12000000 y := by
    simp only [List.mem_cons, List.not_mem_nil, or_false] at hd
    rcases hd with rfl | rfl
    · exact ⟨_, (ofQ_int _).symm, Rat.intCast_nonneg.mpr (by omega), fr_int (by decide)⟩
    · exact ⟨y0, rfl, Rat.le_of_lt a1, b1⟩
  obtain ⟨y, rfl, hy, fy⟩ := key
  have z0 : ofQ (0 : Rat) = .int 0 := ofQ_int 0
  -- the loop
  have hI : IDr many z (k + 9) [] [.io p3, .val (.int many), .own (.lst (steepL z)), .non, .val (ofQ 0), .val (ofQ y), .own (.lst []), .non, .non] := by
    have f0 : Fr 12 0 (0 : Rat) := fr_int (a := 0) (by decide)
    have fy2 : Fr 144 144000000 y := fy.up (d := 12) 12 (by omega)
    refine ⟨p3, [], 0, y, _, _, _, _, rfl, .inl rfl, rfl, rfl, rfl, rfl, ⟨Rat.le_refl, hy, f0.mono (Nat.zero_le _), fy2.mono (by decide)⟩, ⟨y, [], rfl⟩, by simpa using f0, by simpa using fy2, by simpa using g3⟩
  obtain ⟨ρ', eL, p4, pts, x', y', s2, s3, s7, s8, rfl, q2, q3, q7, q8, q9, q10, q11, q12, q13, q14⟩ := forGo_typ (tg := .nm 3) (body := exB (tbl t_l_drawn) fuelN b1_l_drawn) D.int (IDr many z (k + 9)) (ts := (List.range many).map fun i => ((i : Nat) : Int)) (done := []) hI (by
    rintro dn t r ρ hsp ⟨p4, pts, x, y, s2, s3, s7, s8, rfl, q2, q3, q7, q8, q9, q10, q11, q12, q13, q14⟩
    have hl : dn.length < many := by
      have := congrArg List.length hsp
      simp at this
      omega
    obtain ⟨st, p5, e5, a5, b5, g5⟩ := d_number (Φ := tbl t_l_drawn) rfl q14 (by omega)
    obtain ⟨r6, p6, e6, a6, b6, g6⟩ := d_draw (Φ := tbl t_l_drawn) (m := 6) rfl g5 (by omega) (by omega) (by omega)
    obtain ⟨d, hd, ed⟩ := ix_pick (ds := steepL z) a6 b6
    obtain ⟨m, rfl, hm, fm⟩ := steep_ok a3 b3 hd
    obtain ⟨o1, o2, o3, o4⟩ := q10.last
    have z1 := fr_szX o3
    have z2 := fr_szY o4
    have z3 := fr_sz b5
    have z4 := fr_sz fm
    have n1 := fun ρ => k_sum2 (Φ := tbl t_l_drawn) (k := 40) (by omega) (pair_q x) (pair_q st) z1 (z3.mono (by omega)) ρ rfl
    have n2 := fun ρ => k_ltimes (Φ := tbl t_l_drawn) (k := 30) (by omega) (pair_q st) (pair_q m) z3 z4 ρ rfl
    have n3 := fun ρ => k_sum2 (Φ := tbl t_l_drawn) (k := 60) (by omega) (pair_q y) (pair_q (st * m)) z2 (sz_mul z3 z4) ρ rfl
    have fx' : Fr 12 ((dn.length + 1) * 12000000) (x + st) := (q12.add (by omega) b5).mono (by omega)
    have fy' : Fr 144 (144000000 + (dn.length + 1) * 144000000000000) (y + st * m) := (q13.add (by omega) (b5.mul fm)).mono (by omega)
    have ok' : PtOk (x + st, y + st * m) := by
      refine ⟨?_, ?_, fx'.mono ?_, fy'.mono ?_⟩
      · show 0 ≤ x + st
        have := o1
        grind
      · show 0 ≤ y + st * m
        have h1 := o2
        have h2 := Rat.mul_nonneg (Rat.le_of_lt a5) hm
        grind
      · unfold NX; omega
      · unfold NY; omega
    have lt' : x < x + st := by grind
    have fin : IDr many z (k + 9) (dn ++ [t]) [.io p6, .val (.int many), .val (.lst (steepL z)), .val (.int t), .val (ofQ (x + st)), .val (ofQ (y + st * m)), .own (.lst ((pts ++ [(x, y)]).map ptD)), .val (ofQ st), .val (ofQ m)] := by
      refine ⟨p6, pts ++ [(x, y)], x + st, y + st * m, _, _, _, _, rfl, .inr rfl, rfl, rfl, rfl, by simp [q9], q10.snoc ok' lt' (by rw [sl_step a5]; exact ⟨hm, fm⟩), q11.snoc _, by simpa using fx', by simpa using fy', ?_⟩
      rw [List.length_append, List.length_singleton]
      exact g6.mono (by omega)
    have lm : pts.length ≤ lim := by unfold lim; omega
    refine ⟨_, _, by simp only [asgT]; rw [setS]; simp [q3]; rfl, ?_, fin⟩

    rcases q2 with rfl | rfl
    · simp [sl0, b_nil, b_cons, s_set, s_stp, s_stq, s_tri, s_setF, s_mut, s_par, s_setIx, s_expr, s_app, s_ite, s_rvar, s_ret, s_raise, s_brk, s_pass, e_var, e_rd, e_cst, e_tup, e_lst, e_bin, e_neg, e_not, e_and, e_or, e_cmp, e_chain, e_ite, e_call, e_callio, e_bi, e_isi, e_iso, e_mem, e_get, e_getd, e_fld, e_meth, e_stup, e_slst, e_dup, e_ix, e_slc, e_dsp, l_nil, l_cons, o_none, o_some, x_nil, x_cons, setS, asgT, asgTs, sets, updS, Out.fr, io0, wrAt, Sl.isWr, ME.isRd, io_hd, b1_l_drawn, lstAt, lm, q3, q7, q8, e5, e6, ed, n1, n2, n3, ptD, List.map_append]
    · simp [sl0, b_nil, b_cons, s_set, s_stp, s_stq, s_tri, s_setF, s_mut, s_par, s_setIx, s_expr, s_app, s_ite, s_rvar, s_ret, s_raise, s_brk, s_pass, e_var, e_rd, e_cst, e_tup, e_lst, e_bin, e_neg, e_not, e_and, e_or, e_cmp, e_chain, e_ite, e_call, e_callio, e_bi, e_isi, e_iso, e_mem, e_get, e_getd, e_fld, e_meth, e_stup, e_slst, e_dup, e_ix, e_slc, e_dsp, l_nil, l_cons, o_none, o_some, x_nil, x_cons, setS, asgT, asgTs, sets, updS, Out.fr, io0, wrAt, Sl.isWr, ME.isRd, io_hd, b1_l_drawn, lstAt, lm, q3, q7, q8, e5, e6, ed, n1, n2, n3, ptD, List.map_append])
  rw [List.nil_append] at *
  simp only [List.length_map, List.length_range] at q9 q12 q13 q14
  obtain ⟨r7, p7, e7, a7, b7, g7⟩ := d_draw (Φ := tbl t_l_drawn) (m := 6) rfl q14 (by omega) (by omega) (by omega)
  obtain ⟨d, hd, ed'⟩ := ix_pick (ds := steepL z) a7 b7
  obtain ⟨last, rfl, hm⟩ := steep_ok a3 b3 hd
  have hp : headX pts := by
    obtain ⟨y0, r, e⟩ := q11
    cases pts with
    | nil => simp at q9; omega
    | cons a l => cases e; exact ⟨y0, l, rfl⟩
  refine ⟨pts, last, p7, ?_, q9, q10.init, hp, hm, g7.mono (by omega)⟩
  rw [f_l_drawn, run_mk, m_l_drawn]
  have s1 : exS (tbl t_l_drawn) fuelN (.tri 4 5 6 (.cst (.int 0)) (.ix (.lst [(.cst (.int 0)), (.callio "_law_number" 0 [])]) (.callio "_law_draw" 0 [(.cst (.int 2))])) (.lst [])) (sl0 true 9 [p, .int many]) = .nx [.io p2, .val (.int many), .non, .non, .val (.int 0), .val (ofQ y), .own (.lst []), .non, .non] := by
    simp [sl0, b_nil, b_cons, s_set, s_stp, s_stq, s_tri, s_setF, s_mut, s_par, s_setIx, s_expr, s_app, s_ite, s_rvar, s_ret, s_raise, s_brk, s_pass, e_var, e_rd, e_cst, e_tup, e_lst, e_bin, e_neg, e_not, e_and, e_or, e_cmp, e_chain, e_ite, e_call, e_callio, e_bi, e_isi, e_iso, e_mem, e_get, e_getd, e_fld, e_meth, e_stup, e_slst, e_dup, e_ix, e_slc, e_dsp, l_nil, l_cons, o_none, o_some, x_nil, x_cons, setS, asgT, asgTs, sets, updS, Out.fr, io0, wrAt, Sl.isWr, ME.isRd, io_hd, e1, e2, ed]
  rw [exB_nx s1]
  have s2' : exS (tbl t_l_drawn) fuelN (.set (.nm 2) (.lst [(.cst (.int 0)), (.cst (.int 1)), (.tup [(.cst (.int 1)), (.cst (.int 2))]), (.cst (.int 2)), (.tup [(.cst (.int 1)), (.cst (.int 3))]), (.callio "_law_number" 0 [])])) [.io p2, .val (.int many), .non, .non, .val (.int 0), .val (ofQ y), .own (.lst []), .non, .non] = .nx [.io p3, .val (.int many), .own (.lst (steepL z)), .non, .val (.int 0), .val (ofQ y), .own (.lst []), .non, .non] := by
    simp [sl0, b_nil, b_cons, s_set, s_stp, s_stq, s_tri, s_setF, s_mut, s_par, s_setIx, s_expr, s_app, s_ite, s_rvar, s_ret, s_raise, s_brk, s_pass, e_var, e_rd, e_cst, e_tup, e_lst, e_bin, e_neg, e_not, e_and, e_or, e_cmp, e_chain, e_ite, e_call, e_callio, e_bi, e_isi, e_iso, e_mem, e_get, e_getd, e_fld, e_meth, e_stup, e_slst, e_dup, e_ix, e_slc, e_dsp, l_nil, l_cons, o_none, o_some, x_nil, x_cons, setS, asgT, asgTs, sets, updS, Out.fr, io0, wrAt, Sl.isWr, ME.isRd, io_hd, e3, steepL]
  rw [exB_nx s2', ← z0, exB_nx (for_nx (ρ1 := [.io p3, .val (.int many), .own (.lst (steepL z)), .non, .val (ofQ 0), .val (ofQ y), .own (.lst []), .non, .non]) (ds := [.int many]) (by simp [evL, evE]) (it_range many (by omega)) eL rfl)]
  rcases q2 with rfl | rfl
  · simp [sl0, b_nil, b_cons, s_set, s_stp, s_stq, s_tri, s_setF, s_mut, s_par, s_setIx, s_expr, s_app, s_ite, s_rvar, s_ret, s_raise, s_brk, s_pass, e_var, e_rd, e_cst, e_tup, e_lst, e_bin, e_neg, e_not, e_and, e_or, e_cmp, e_chain, e_ite, e_call, e_callio, e_bi, e_isi, e_iso, e_mem, e_get, e_getd, e_fld, e_meth, e_stup, e_slst, e_dup, e_ix, e_slc, e_dsp, l_nil, l_cons, o_none, o_some, x_nil, x_cons, setS, asgT, asgTs, sets, updS, Out.fr, io0, wrAt, Sl.isWr, ME.isRd, io_hd, e7, ed', rdIdx, unlockV]
  · simp [sl0, b_nil, b_cons, s_set, s_stp, s_stq, s_tri, s_setF, s_mut, s_par, s_setIx, s_expr, s_app, s_ite, s_rvar, s_ret, s_raise, s_brk, s_pass, e_var, e_rd, e_cst, e_tup, e_lst, e_bin, e_neg, e_not, e_and, e_or, e_cmp, e_chain, e_ite, e_call, e_callio, e_bi, e_isi, e_iso, e_mem, e_get, e_getd, e_fld, e_meth, e_stup, e_slst, e_dup, e_ix, e_slc, e_dsp, l_nil, l_cons, o_none, o_some, x_nil, x_cons, setS, asgT, asgTs, sets, updS, Out.fr, io0, wrAt, Sl.isWr, ME.isRd, io_hd, e7, ed', rdIdx, unlockV]
end C

set_option exponentiation.threshold 2000
namespace C
open PySem PySem.Spec L2 Z S
/-! ### rows: points with the slope behind them -/
abbrev Row := (Rat × Rat) × Rat
def Lk (last : Rat) : List Row → Prop
  | [] => False
  | [a] => PtOk a.1 ∧ SlOk a.2 ∧ a.2 = last
  | a :: b :: r => PtOk a.1 ∧ a.1.1 < b.1.1 ∧ SlOk a.2 ∧ sl a.1 b.1 = a.2 ∧ Lk last (b :: r)
def keep : List Row → List Row
  | [] => []
  | [_] => []
  | a :: b :: r => if a.2 = b.2 then keep (b :: r) else b :: keep (b :: r)
def rowsOf : List Row → List Row
  | [] => []
  | a :: r => a :: keep (a :: r)
theorem keep_len : ∀ {l : List Row}, (keep l).length ≤ l.length
  | [] => by simp [keep]
  | [a] => by simp [keep]
  | a :: b :: r => by
    have := keep_len (l := b :: r)
    simp only [keep]
    split <;> simp only [List.length_cons] at * <;> omega
theorem Lk.rows {last : Rat} : ∀ {a : Row} {r : List Row}, Lk last (a :: r) → Lk last (a :: keep (a :: r))
  | a, [], h => h
  | a, b :: r, h => by
    obtain ⟨h1, h2, h3, h4, h5⟩ := h
    have ih := Lk.rows h5
    simp only [keep]
    by_cases e : a.2 = b.2
    · rw [if_pos e]
      generalize keep (b :: r) = k at ih
      cases k with
      | nil =>
        obtain ⟨i1, i2, i3⟩ := ih
        exact ⟨h1, h3, by rw [e]; exact i3⟩
      | cons c k =>
        obtain ⟨i1, i2, i3, i4, i5⟩ := ih
        refine ⟨h1, by grind, h3, ?_, i5⟩
        obtain ⟨⟨ax, ay⟩, am⟩ := a
        obtain ⟨⟨bx, bY⟩, bm⟩ := b
        obtain ⟨⟨cx, cy⟩, cm⟩ := c
        simp only [sl] at *
        subst e
        grind
    · rw [if_neg e]
      exact ⟨h1, h2, h3, h4, ih⟩
/-- slopes behind points -/
def slopesQ (pts : List (Rat × Rat)) (last : Rat) : List Rat := (pts.zip (pts.drop 1)).map (fun p => sl p.1 p.2) ++ [last]
theorem slopesQ_cons (a b : Rat × Rat) (r : List (Rat × Rat)) (last : Rat) : slopesQ (a :: b :: r) last = sl a b :: slopesQ (b :: r) last := rfl
theorem slopesQ_len {pts : List (Rat × Rat)} {last : Rat} (h : pts ≠ []) : (slopesQ pts last).length = pts.length := by
  unfold slopesQ
  have : pts.length ≠ 0 := by simpa using h
  simp
  omega
theorem Lk.of {last : Rat} (hl : SlOk last) : ∀ {pts : List (Rat × Rat)}, pts ≠ [] → Up pts → Lk last (pts.zip (slopesQ pts last))
  | [a], _, h => ⟨h, hl, rfl⟩
  | a :: b :: r, _, h => by
    obtain ⟨h1, h2, h3, h4⟩ := h
    have ih := Lk.of hl (pts := b :: r) (by simp) h4
    rw [slopesQ_cons, List.zip_cons_cons]
    cases hz : (b :: r).zip (slopesQ (b :: r) last) with
    | nil => rw [hz] at ih; exact ih.elim
    | cons c k =>
      have hc : c.1 = b := by
        have e := congrArg (fun l : List Row => l.head?.map (·.1)) hz
        have : slopesQ (b :: r) last ≠ [] := by unfold slopesQ; simp
        cases hs : slopesQ (b :: r) last with
        | nil => exact absurd hs this
        | cons m ms => rw [hs] at e; simpa using e.symm
      rw [hz] at ih
      refine ⟨h1, by rw [hc]; exact h2, h3, by rw [hc], ih⟩
theorem Lk.up {last : Rat} : ∀ {l : List Row}, Lk last l → Up (l.map (·.1)) ∧ slopesQ (l.map (·.1)) last = l.map (·.2)
  | [a], h => ⟨h.1, by simp [slopesQ, h.2.2]⟩
  | a :: b :: r, h => by
    obtain ⟨h1, h2, h3, h4, h5⟩ := h
    obtain ⟨i1, i2⟩ := Lk.up h5
    refine ⟨⟨h1, h2, by rw [h4]; exact h3, i1⟩, ?_⟩
    simp only [List.map_cons] at *
    rw [slopesQ_cons, h4, i2]
theorem Up.all : ∀ {l : List (Rat × Rat)}, Up l → ∀ p ∈ l, PtOk p
  | [a], h, p, hp => by
    rcases List.mem_cons.mp hp with rfl | hp
    · exact h
    · cases hp
  | a :: b :: r, h, p, hp => by
    rcases List.mem_cons.mp hp with rfl | hp
    · exact h.1
    · exact Up.all h.2.2.2 p hp
theorem Up.pair : ∀ {l : List (Rat × Rat)}, Up l → ∀ p ∈ l.zip (l.drop 1), PtOk p.1 ∧ PtOk p.2 ∧ p.1.1 < p.2.1 ∧ SlOk (sl p.1 p.2)
  | [a], h, p, hp => by simp at hp
  | a :: b :: r, h, p, hp => by
    have e : (a :: b :: r).zip ((a :: b :: r).drop 1) = (a, b) :: (b :: r).zip ((b :: r).drop 1) := rfl
    rw [e] at hp
    rcases List.mem_cons.mp hp with rfl | hp
    · refine ⟨h.1, ?_, h.2.1, h.2.2.1⟩
      exact Up.all h.2.2.2 b (by simp)
    · exact Up.pair h.2.2.2 p hp
theorem le_of_sl {p q : Rat × Rat} (h : p.1 < q.1) (h2 : 0 ≤ sl p q) : p.2 ≤ q.2 := by
  unfold sl at h2
  have e : q.2 - p.2 = (q.2 - p.2) / (q.1 - p.1) * (q.1 - p.1) := by grind
  have := Rat.mul_nonneg h2 (show 0 ≤ q.1 - p.1 by grind)
  grind
/-! ### calls of the program's own -/
theorem z0 : ofQ (0 : Rat) = .int 0 := ofQ_int 0
theorem sz0 (k : Nat) : Sz (k + 1) (0 : Rat) := ⟨by show (0 : Int).natAbs < _; exact Nat.pow_pos (by omega), by show 1 < _; rw [Nat.pow_succ]; have := Nat.pow_pos (n := k) (show 0 < 2 by omega); omega⟩
theorem k_isless {Φ : Tab} {x y : Rat} {k : Nat} (hk : k < 3000) (hx : Sz k x) (hy : Sz k y) (ρ : Vn) (e : Φ "is_less" = some f_is_less) : callF Φ "is_less" [ofQ x, ofQ y] ρ = .ok (false, .bl (decide (x < y))) ρ := callF_ok e rfl rfl (r_is_less hk hx hy)
theorem k_isless0 {Φ : Tab} {x : Rat} {k : Nat} (hk : k + 1 < 3000) (hx : Sz (k + 1) x) (ρ : Vn) (e : Φ "is_less" = some f_is_less) : callF Φ "is_less" [ofQ x, .int 0] ρ = .ok (false, .bl (decide (x < 0))) ρ := by
  rw [← z0]
  exact k_isless hk hx (sz0 k) ρ e
theorem k_minus {Φ : Tab} {x y : Rat} {k : Nat} (hk : k < 3000) (hx : Sz k x) (hy : Sz k y) (ρ : Vn) (e : Φ "minus" = some f_minus) : callF Φ "minus" [ofQ x, ofQ y] ρ = .ok (false, ofQ (x - y)) ρ := callF_ok e rfl rfl (r_minus hk hx hy)
theorem k_times {Φ : Tab} {x y : Rat} {k : Nat} (hk : k < 3000) (hx : Sz k x) (hy : Sz k y) (ρ : Vn) (e : Φ "times" = some f_times) : callF Φ "times" [ofQ x, ofQ y] ρ = .ok (false, ofQ (x * y)) ρ := callF_ok e rfl rfl (r_times hk hx hy)
theorem k_plus {Φ : Tab} {x y : Rat} {k : Nat} (hk : k < 2000) (hx : Sz k x) (hy : Sz k y) (ρ : Vn) (e : Φ "plus" = some f_plus) : callF Φ "plus" [ofQ x, ofQ y] ρ = .ok (false, ofQ (x + y)) ρ := callF_ok e rfl rfl (r_plus hk hx hy)
theorem k_over {Φ : Tab} {x y : Rat} {k : Nat} (hk : k < 3000) (hx : Sz k x) (hy : Sz k y) (h0 : y ≠ 0) (ρ : Vn) (e : Φ "over" = some f_over) : callF Φ "over" [ofQ x, ofQ y] ρ = .ok (false, ofQ (x / y)) ρ := callF_ok e rfl rfl (r_over hk hx hy h0)
theorem r_require0 {x : Rat} {k : Nat} (hk : k + 1 < 3000) (hx : Sz (k + 1) x) (h0 : 0 ≤ x) : f_require_number.run [ofQ x, .int 0] = .ok .non .non := by
  have w := fun ρ => k_is_number (Φ := tbl t_require_number) (by omega) hx ρ rfl
  have l : ∀ ρ, callF (tbl t_require_number) "less" [ofQ x, .int 0] ρ = .ok (false, .bl (decide (x < 0))) ρ := fun ρ => by
    rw [← z0]
    exact callF_ok rfl rfl rfl (r_less (by omega) hx (sz0 k))
  have n : ¬ x < 0 := Rat.not_lt.mpr h0
  rw [f_require_number, run_mk, m_require_number]
  simp [sl0, b_nil, b_cons, s_set, s_stp, s_stq, s_tri, s_setF, s_mut, s_par, s_setIx, s_expr, s_app, s_ite, s_rvar, s_ret, s_raise, s_brk, s_pass, e_var, e_rd, e_cst, e_tup, e_lst, e_bin, e_neg, e_not, e_and, e_or, e_cmp, e_chain, e_ite, e_call, e_callio, e_bi, e_isi, e_iso, e_mem, e_get, e_getd, e_fld, e_meth, e_stup, e_slst, e_dup, e_ix, e_slc, e_dsp, l_nil, l_cons, o_none, o_some, x_nil, x_cons, setS, asgT, asgTs, sets, updS, Out.fr, io0, wrAt, Sl.isWr, ME.isRd, io_hd, w, l, n, isNonD]
theorem k_require0 {Φ : Tab} {x : Rat} {k : Nat} (hk : k + 1 < 3000) (hx : Sz (k + 1) x) (h0 : 0 ≤ x) (ρ : Vn) (e : Φ "require_number" = some f_require_number) : callF Φ "require_number" [ofQ x, .int 0] ρ = .ok (false, .non) ρ := callF_ok e rfl rfl (r_require0 hk hx h0)
theorem r_is_point {p : Rat × Rat} (h : PtOk p) : f_is_point.run [ptD p] = .ok (.bl true) .non := by
  obtain ⟨h1, h2, h3, h4⟩ := h
  have z1 := fr_szX h3
  have z2 := fr_szY h4
  have w1 := fun ρ => k_is_number (Φ := tbl t_is_point) (by omega) z1 ρ rfl
  have w2 := fun ρ => k_is_number (Φ := tbl t_is_point) (by omega) z2 ρ rfl
  have l1 := fun ρ => k_isless0 (Φ := tbl t_is_point) (by omega) z1 ρ rfl
  have l2 := fun ρ => k_isless0 (Φ := tbl t_is_point) (by omega) z2 ρ rfl
  have n1 : ¬ p.1 < 0 := Rat.not_lt.mpr h1
  have n2 : ¬ p.2 < 0 := Rat.not_lt.mpr h2
  rw [f_is_point, run_mk, m_is_point]
  simp [sl0, b_nil, b_cons, s_set, s_stp, s_stq, s_tri, s_setF, s_mut, s_par, s_setIx, s_expr, s_app, s_ite, s_rvar, s_ret, s_raise, s_brk, s_pass, e_var, e_rd, e_cst, e_tup, e_lst, e_bin, e_neg, e_not, e_and, e_or, e_cmp, e_chain, e_ite, e_call, e_callio, e_bi, e_isi, e_iso, e_mem, e_get, e_getd, e_fld, e_meth, e_stup, e_slst, e_dup, e_ix, e_slc, e_dsp, l_nil, l_cons, o_none, o_some, x_nil, x_cons, setS, asgT, asgTs, sets, updS, Out.fr, io0, wrAt, Sl.isWr, ME.isRd, io_hd, ptD, isiD, w1, w2, l1, l2, n1, n2, ixD]
theorem k_is_point {Φ : Tab} {p : Rat × Rat} (h : PtOk p) (ρ : Vn) (e : Φ "is_point" = some f_is_point) : callF Φ "is_point" [ptD p] ρ = .ok (false, .bl true) ρ := callF_ok e rfl rfl (r_is_point h)
theorem r_slope_between {p q : Rat × Rat} (hp : PtOk p) (hq : PtOk q) (h : p.1 < q.1) : f_slope_between.run [ptD p, ptD q] = .ok (ofQ (sl p q)) .non := by
  have x1 := (fr_szX hp.2.2.1).mono (show 40 ≤ 60 by omega)
  have x2 := (fr_szX hq.2.2.1).mono (show 40 ≤ 60 by omega)
  have y1 := fr_szY hp.2.2.2
  have y2 := fr_szY hq.2.2.2
  have n1 := fun ρ => k_minus (Φ := tbl t_slope_between) (by omega) y2 y1 ρ rfl
  have n2 := fun ρ => k_minus (Φ := tbl t_slope_between) (by omega) x2 x1 ρ rfl
  have n3 := fun ρ => k_over (Φ := tbl t_slope_between) (by omega) (sz_sub y2 y1) (sz_sub x2 x1) (by grind) ρ rfl
  rw [f_slope_between, run_mk, m_slope_between]
  simp [sl0, b_nil, b_cons, s_set, s_stp, s_stq, s_tri, s_setF, s_mut, s_par, s_setIx, s_expr, s_app, s_ite, s_rvar, s_ret, s_raise, s_brk, s_pass, e_var, e_rd, e_cst, e_tup, e_lst, e_bin, e_neg, e_not, e_and, e_or, e_cmp, e_chain, e_ite, e_call, e_callio, e_bi, e_isi, e_iso, e_mem, e_get, e_getd, e_fld, e_meth, e_stup, e_slst, e_dup, e_ix, e_slc, e_dsp, l_nil, l_cons, o_none, o_some, x_nil, x_cons, setS, asgT, asgTs, sets, updS, Out.fr, io0, wrAt, Sl.isWr, ME.isRd, io_hd, ptD, ixD, n1, n2, n3, sl]
theorem k_slope_between {Φ : Tab} {p q : Rat × Rat} (hp : PtOk p) (hq : PtOk q) (h : p.1 < q.1) (ρ : Vn) (e : Φ "slope_between" = some f_slope_between) : callF Φ "slope_between" [ptD p, ptD q] ρ = .ok (false, ofQ (sl p q)) ρ := callF_ok e rfl rfl (r_slope_between hp hq h)
end C

set_option exponentiation.threshold 2000
namespace C
open PySem PySem.Spec L2 Z S
/-! ### equality of numbers, of data with itself -/
theorem ofQ_inj {x y : Rat} (h : ofQ x = ofQ y) : x = y := by
  unfold ofQ at h
  have key : x.num = y.num ∧ x.den = y.den := by
    by_cases hx : x.den = 1 <;> by_cases hy : y.den = 1
    · rw [if_pos hx, if_pos hy] at h
      injection h with h
      exact ⟨h, by omega⟩
    · rw [if_pos hx, if_neg hy] at h; cases h
    · rw [if_neg hx, if_pos hy] at h; cases h
    · rw [if_neg hx, if_neg hy] at h
      simp at h
      exact ⟨h.1, by omega⟩
  have h1 := Rat.num_divInt_den x
  have h2 := Rat.num_divInt_den y
  rw [← h1, ← h2, key.1, key.2]
theorem eqP_it (a b c : Int) : eqP (.int a) (.tup [.int b, .int c]) = some false := by
  unfold eqP
  simp [D.py, pyAll, SeqAt.shaped, PyData.canLay0, PyData.canLayAll0, PyData.depth, PyData.depthAll, PyData.eqv]
theorem eqP_ti (a b c : Int) : eqP (.tup [.int b, .int c]) (.int a) = some false := by
  unfold eqP
  simp [D.py, pyAll, SeqAt.shaped, PyData.canLay0, PyData.canLayAll0, PyData.depth, PyData.depthAll, PyData.eqv]
theorem eqP_q (x y : Rat) : eqP (ofQ x) (ofQ y) = some (decide (x = y)) := by
  have key : x = y ↔ (x.num = y.num ∧ x.den = y.den) := by
    constructor
    · intro e; subst e; exact ⟨rfl, rfl⟩
    · intro ⟨e1, e2⟩
      rw [← Rat.num_divInt_den x, ← Rat.num_divInt_den y, e1, e2]
  unfold ofQ
  by_cases hx : x.den = 1 <;> by_cases hy : y.den = 1
  · rw [if_pos hx, if_pos hy, eqP_int]
    simp [key, hx, hy]
  · rw [if_pos hx, if_neg hy, eqP_it]
    have : ¬ x = y := by intro e; subst e; exact hy hx
    simp [this]
  · rw [if_neg hx, if_pos hy, eqP_ti]
    have : ¬ x = y := by intro e; subst e; exact hx hy
    simp [this]
  · rw [if_neg hx, if_neg hy, eqP_pair]
    have : (x.num = y.num ∧ ((x.den : Nat) : Int) = ((y.den : Nat) : Int)) ↔ x = y := by
      rw [key]
      constructor
      · intro ⟨a, b⟩; exact ⟨a, by omega⟩
      · intro ⟨a, b⟩; exact ⟨a, by omega⟩
    simp only [this]
theorem c_neq (x y : Rat) : cmpD .NotEq (ofQ x) (ofQ y) = some (!decide (x = y)) := by
  have e := neD_of (eqP_q x y)
  have n : ∀ a : D, (∀ s, a ≠ .str s) → ∀ b, cmpD .NotEq a b = neD a b := fun a ha b => by
    cases a <;> first | rfl | exact absurd rfl (ha _)
  rw [n _ (by intro s; unfold ofQ; split <;> simp), e]
theorem c_eqq (x y : Rat) : cmpD .Eq (ofQ x) (ofQ y) = some (decide (x = y)) := by
  have e := eqD_of (eqP_q x y)
  have n : ∀ a : D, (∀ s, a ≠ .str s) → ∀ b, cmpD .Eq a b = eqD a b := fun a ha b => by
    cases a <;> first | rfl | exact absurd rfl (ha _)
  rw [n _ (by intro s; unfold ofQ; split <;> simp), e]
/-! ### lists of what was reckoned -/
theorem bls_map {α : Type} (q : α → Bool) : ∀ ts : List α, blsD (ts.map fun t => D.bl (q t)) = some (ts.map q)
  | [] => rfl
  | t :: ts => by simp [blsD, bls_map q ts]
theorem b_all {α : Type} (q : α → Bool) (ts : List α) : biD "all" [.lst (ts.map fun t => D.bl (q t))] = some (false, .bl (ts.all q)) := by
  show (blsD _).map _ = _
  rw [bls_map]
  simp [List.all_map]
theorem cut1 {α : Type} (xs : List α) : cutD xs (some 1) none = xs.drop 1 := by
  unfold cutD
  have h1 : HT.sIx xs.length 0 (some 1) = min 1 xs.length := HT.sIx_nat _ _ 1
  have h2 : HT.sIx xs.length xs.length none = xs.length := rfl
  rw [h1, h2]
  cases xs with
  | nil => rfl
  | cons a l =>
    have : min 1 (a :: l).length = 1 := by simp
    rw [this]
    simp
theorem slc_lst (xs : List D) : slcD (.lst xs) (some 1) none = some (true, .lst (xs.drop 1)) := by
  show some (true, D.lst (cutD xs (some 1) none)) = _
  rw [cut1]
theorem slc_tup (xs : List D) : slcD (.tup xs) (some 1) none = some (false, .tup (xs.drop 1)) := by
  show some (false, D.tup (cutD xs (some 1) none)) = _
  rw [cut1]
def ppD (p : (Rat × Rat) × (Rat × Rat)) : D := .tup [ptD p.1, ptD p.2]
theorem zip_pts (pts : List (Rat × Rat)) : ((pts.map ptD).zip ((pts.map ptD).drop 1)).map (fun p => D.tup [p.1, p.2]) = (pts.zip (pts.drop 1)).map ppD := by
  rw [← List.map_drop, List.zip_map, List.map_map]
  rfl
theorem it_lst (xs : List D) : itD 0 [.lst xs] = some xs := rfl
theorem it_tup (xs : List D) : itD 0 [.tup xs] = some xs := rfl
def lcP : ME := .lc (.call "is_point" [(.var 2)]) [2] (.nm 2) 0 [(.rd 0)] none
def lcR : ME := .lc (.and (.call "is_less" [(.ix (.rd 2) (.cst (.int 0))), (.ix (.rd 3) (.cst (.int 0)))]) (.not (.call "is_less" [(.ix (.rd 3) (.cst (.int 1))), (.ix (.rd 2) (.cst (.int 1)))]))) [2, 3] (.tp [2, 3]) 2 [(.rd 0), (.slc (.rd 0) (some (.cst (.int 1))) none)] none
theorem m_are_points_eq : m_are_points = [.ite (.or (.not (.isi (.rd 0) ["list"])) (.or (.cmp .Eq (.bi "len" [(.rd 0)]) (.cst (.int 0))) (.not (.bi "all" [lcP])))) [.ret (.cst (.bl false))] [], .set (.nm 1) lcR, .ret (.and (.cmp .Eq (.ix (.ix (.rd 0) (.cst (.int 0))) (.cst (.int 0))) (.cst (.int 0))) (.bi "all" [(.rd 1)]))] := rfl
theorem r_are_points {pts : List (Rat × Rat)} (h : Up pts) (hh : headX pts) (hl : pts.length ≤ 1000) : f_are_points.run [.lst (pts.map ptD)] = .ok (.bl true) .non := by
  have l1 : evE (tbl t_are_points) lcP [.val (.lst (pts.map ptD)), .non, .non, .non] = .ok (true, .lst (pts.map fun _ => .bl true)) [.val (.lst (pts.map ptD)), .non, .non, .non] := by
    refine lc_map (ds := [.lst (pts.map ptD)]) ptD pts (fun _ => D.bl true) (by simp [sl0, b_nil, b_cons, s_set, s_stp, s_stq, s_tri, s_setF, s_mut, s_par, s_setIx, s_expr, s_app, s_ite, s_rvar, s_ret, s_raise, s_brk, s_pass, e_var, e_rd, e_cst, e_tup, e_lst, e_bin, e_neg, e_not, e_and, e_or, e_cmp, e_chain, e_ite, e_call, e_callio, e_bi, e_isi, e_iso, e_mem, e_get, e_getd, e_fld, e_meth, e_stup, e_slst, e_dup, e_ix, e_slc, e_dsp, l_nil, l_cons, o_none, o_some, x_nil, x_cons, setS, asgT, asgTs, sets, updS, Out.fr, io0, wrAt, Sl.isWr, ME.isRd, io_hd]) rfl (by unfold lim; omega) rfl fun t ht => ?_
    have p := fun ρ => k_is_point (Φ := tbl t_are_points) (h.all t ht) ρ rfl
    simp [sl0, b_nil, b_cons, s_set, s_stp, s_stq, s_tri, s_setF, s_mut, s_par, s_setIx, s_expr, s_app, s_ite, s_rvar, s_ret, s_raise, s_brk, s_pass, e_var, e_rd, e_cst, e_tup, e_lst, e_bin, e_neg, e_not, e_and, e_or, e_cmp, e_chain, e_ite, e_call, e_callio, e_bi, e_isi, e_iso, e_mem, e_get, e_getd, e_fld, e_meth, e_stup, e_slst, e_dup, e_ix, e_slc, e_dsp, l_nil, l_cons, o_none, o_some, x_nil, x_cons, setS, asgT, asgTs, sets, updS, Out.fr, io0, wrAt, Sl.isWr, ME.isRd, io_hd, step0, lockV, wipeV, rdIdx, p]
  have l2 : evE (tbl t_are_points) lcR [.val (.lst (pts.map ptD)), .non, .non, .non] = .ok (true, .lst ((pts.zip (pts.drop 1)).map fun _ => .bl true)) [.val (.lst (pts.map ptD)), .non, .non, .non] := by
    refine lc_map (ds := [.lst (pts.map ptD), .lst ((pts.map ptD).drop 1)]) ppD (pts.zip (pts.drop 1)) (fun _ => D.bl true) (by simp [sl0, b_nil, b_cons, s_set, s_stp, s_stq, s_tri, s_setF, s_mut, s_par, s_setIx, s_expr, s_app, s_ite, s_rvar, s_ret, s_raise, s_brk, s_pass, e_var, e_rd, e_cst, e_tup, e_lst, e_bin, e_neg, e_not, e_and, e_or, e_cmp, e_chain, e_ite, e_call, e_callio, e_bi, e_isi, e_iso, e_mem, e_get, e_getd, e_fld, e_meth, e_stup, e_slst, e_dup, e_ix, e_slc, e_dsp, l_nil, l_cons, o_none, o_some, x_nil, x_cons, setS, asgT, asgTs, sets, updS, Out.fr, io0, wrAt, Sl.isWr, ME.isRd, io_hd, slc_lst]) ?_ (by unfold lim; rw [List.length_zip]; omega) rfl fun t ht => ?_
    · show itD 2 [.lst (pts.map ptD), .lst ((pts.map ptD).drop 1)] = _
      rw [it_zip_lst, zip_pts]
    obtain ⟨o1, o2, o3, o4⟩ := h.pair t ht
    have x1 := fr_szX o1.2.2.1
    have x2 := fr_szX o2.2.2.1
    have y1 := fr_szY o1.2.2.2
    have y2 := fr_szY o2.2.2.2
    have p1 := fun ρ => k_isless (Φ := tbl t_are_points) (by omega) x1 x2 ρ rfl
    have p2 := fun ρ => k_isless (Φ := tbl t_are_points) (by omega) y2 y1 ρ rfl
    have n2 : ¬ t.2.2 < t.1.2 := Rat.not_lt.mpr (le_of_sl o3 o4.1)
    simp [sl0, b_nil, b_cons, s_set, s_stp, s_stq, s_tri, s_setF, s_mut, s_par, s_setIx, s_expr, s_app, s_ite, s_rvar, s_ret, s_raise, s_brk, s_pass, e_var, e_rd, e_cst, e_tup, e_lst, e_bin, e_neg, e_not, e_and, e_or, e_cmp, e_chain, e_ite, e_call, e_callio, e_bi, e_isi, e_iso, e_mem, e_get, e_getd, e_fld, e_meth, e_stup, e_slst, e_dup, e_ix, e_slc, e_dsp, l_nil, l_cons, o_none, o_some, x_nil, x_cons, setS, asgT, asgTs, sets, updS, Out.fr, io0, wrAt, Sl.isWr, ME.isRd, io_hd, step0, lockV, wipeV, rdIdx, ppD, ptD, ixD, p1, p2, o3, n2]
  obtain ⟨y, r, e⟩ := hh
  have a1 := b_all (fun _ : Rat × Rat => true) pts
  have a2 := b_all (fun _ : (Rat × Rat) × (Rat × Rat) => true) (pts.zip (pts.drop 1))
  rw [List.all_eq_true.mpr (by simp)] at a1 a2
  have i0 : ixD (.lst (pts.map ptD)) (.int 0) = some (.tup [.int 0, ofQ y]) := by rw [e]; simp [ixD, ptD, z0]
  have ln : pts.map ptD ≠ [] := by rw [e]; simp
  generalize (pts.map fun _ => D.bl true) = u1 at *
  generalize ((pts.zip (pts.drop 1)).map fun _ => D.bl true) = u2 at *
  generalize pts.map ptD = ps at *
  rw [f_are_points, run_mk, m_are_points_eq]
  simp [sl0, b_nil, b_cons, s_set, s_stp, s_stq, s_tri, s_setF, s_mut, s_par, s_setIx, s_expr, s_app, s_ite, s_rvar, s_ret, s_raise, s_brk, s_pass, e_var, e_rd, e_cst, e_tup, e_lst, e_bin, e_neg, e_not, e_and, e_or, e_cmp, e_chain, e_ite, e_call, e_callio, e_bi, e_isi, e_iso, e_mem, e_get, e_getd, e_fld, e_meth, e_stup, e_slst, e_dup, e_ix, e_slc, e_dsp, l_nil, l_cons, o_none, o_some, x_nil, x_cons, setS, asgT, asgTs, sets, updS, Out.fr, io0, wrAt, Sl.isWr, ME.isRd, io_hd, isiD, l1, l2, a1, a2, i0, ln]
theorem k_are_points {Φ : Tab} {pts : List (Rat × Rat)} (h : Up pts) (hh : headX pts) (hl : pts.length ≤ 1000) (ρ : Vn) (e : Φ "are_points" = some f_are_points) : callF Φ "are_points" [.lst (pts.map ptD)] ρ = .ok (false, .bl true) ρ := callF_ok e rfl rfl (r_are_points h hh hl)
/-! ### slopes -/
def lcS : ME := .lc (.call "slope_between" [(.var 2), (.var 3)]) [2, 3] (.tp [2, 3]) 2 [(.rd 0), (.slc (.rd 0) (some (.cst (.int 1))) none)] none
theorem m_slopes_of_eq : m_slopes_of = [.ret (.bin .Add lcS (.lst [(.var 1)]))] := rfl
def SeqOf (d : D) (xs : List D) : Prop := d = .lst xs ∨ d = .tup xs
theorem r_slopes_of {pts : List (Rat × Rat)} {last : Rat} {d : D} (hd : SeqOf d (pts.map ptD)) (h : Up pts) (hl : pts.length ≤ 1000) : f_slopes_of.run [d, ofQ last] = .ok (.lst ((slopesQ pts last).map ofQ)) .non := by
  have turn : ∀ t ∈ pts.zip (pts.drop 1), step0 (tbl t_slopes_of) (.call "slope_between" [(.var 2), (.var 3)]) [2, 3] (.tp [2, 3]) (ppD t) [.val d, .val (ofQ last), .non, .non] = some (ofQ (sl t.1 t.2), [.val d, .val (ofQ last), .non, .non]) := fun t ht => by
    obtain ⟨o1, o2, o3, o4⟩ := h.pair t ht
    have p := fun ρ => k_slope_between (Φ := tbl t_slopes_of) o1 o2 o3 ρ rfl
    simp [sl0, b_nil, b_cons, s_set, s_stp, s_stq, s_tri, s_setF, s_mut, s_par, s_setIx, s_expr, s_app, s_ite, s_rvar, s_ret, s_raise, s_brk, s_pass, e_var, e_rd, e_cst, e_tup, e_lst, e_bin, e_neg, e_not, e_and, e_or, e_cmp, e_chain, e_ite, e_call, e_callio, e_bi, e_isi, e_iso, e_mem, e_get, e_getd, e_fld, e_meth, e_stup, e_slst, e_dup, e_ix, e_slc, e_dsp, l_nil, l_cons, o_none, o_some, x_nil, x_cons, setS, asgT, asgTs, sets, updS, Out.fr, io0, wrAt, Sl.isWr, ME.isRd, io_hd, step0, wipeV, ppD, p]
  have l1 : evE (tbl t_slopes_of) lcS [.val d, .val (ofQ last), .non, .non] = .ok (true, .lst ((pts.zip (pts.drop 1)).map fun t => ofQ (sl t.1 t.2))) [.val d, .val (ofQ last), .non, .non] := by
    rcases hd with rfl | rfl
    · refine lc_map (ds := [.lst (pts.map ptD), .lst ((pts.map ptD).drop 1)]) ppD (pts.zip (pts.drop 1)) (fun t => ofQ (sl t.1 t.2)) (by simp [sl0, b_nil, b_cons, s_set, s_stp, s_stq, s_tri, s_setF, s_mut, s_par, s_setIx, s_expr, s_app, s_ite, s_rvar, s_ret, s_raise, s_brk, s_pass, e_var, e_rd, e_cst, e_tup, e_lst, e_bin, e_neg, e_not, e_and, e_or, e_cmp, e_chain, e_ite, e_call, e_callio, e_bi, e_isi, e_iso, e_mem, e_get, e_getd, e_fld, e_meth, e_stup, e_slst, e_dup, e_ix, e_slc, e_dsp, l_nil, l_cons, o_none, o_some, x_nil, x_cons, setS, asgT, asgTs, sets, updS, Out.fr, io0, wrAt, Sl.isWr, ME.isRd, io_hd, slc_lst]) ?_ (by unfold lim; rw [List.length_zip]; omega) rfl turn
      show itD 2 [.lst (pts.map ptD), .lst ((pts.map ptD).drop 1)] = _
      rw [it_zip_lst, zip_pts]
    · refine lc_map (ds := [.tup (pts.map ptD), .tup ((pts.map ptD).drop 1)]) ppD (pts.zip (pts.drop 1)) (fun t => ofQ (sl t.1 t.2)) (by simp [sl0, b_nil, b_cons, s_set, s_stp, s_stq, s_tri, s_setF, s_mut, s_par, s_setIx, s_expr, s_app, s_ite, s_rvar, s_ret, s_raise, s_brk, s_pass, e_var, e_rd, e_cst, e_tup, e_lst, e_bin, e_neg, e_not, e_and, e_or, e_cmp, e_chain, e_ite, e_call, e_callio, e_bi, e_isi, e_iso, e_mem, e_get, e_getd, e_fld, e_meth, e_stup, e_slst, e_dup, e_ix, e_slc, e_dsp, l_nil, l_cons, o_none, o_some, x_nil, x_cons, setS, asgT, asgTs, sets, updS, Out.fr, io0, wrAt, Sl.isWr, ME.isRd, io_hd, slc_tup]) ?_ (by unfold lim; rw [List.length_zip]; omega) rfl turn
      show itD 2 [.tup (pts.map ptD), .tup ((pts.map ptD).drop 1)] = _
      rw [it_zip_tup, zip_pts]
  have hn : (pts.zip (pts.drop 1)).length ≤ 1000 := by rw [List.length_zip]; omega
  have e : (slopesQ pts last).map ofQ = ((pts.zip (pts.drop 1)).map fun t => ofQ (sl t.1 t.2)) ++ [ofQ last] := by
    unfold slopesQ
    rw [List.map_append, List.map_map]
    rfl
  rw [e]
  have hn2 : ((pts.zip (pts.drop 1)).map fun t => ofQ (sl t.1 t.2)).length + [ofQ last].length ≤ lim := by unfold lim; simp only [List.length_map, List.length_singleton]; omega
  generalize ((pts.zip (pts.drop 1)).map fun t => ofQ (sl t.1 t.2)) = u1 at *
  have ad := n_addl hn2
  rw [f_slopes_of, run_mk, m_slopes_of_eq]
  simp [sl0, b_nil, b_cons, s_set, s_stp, s_stq, s_tri, s_setF, s_mut, s_par, s_setIx, s_expr, s_app, s_ite, s_rvar, s_ret, s_raise, s_brk, s_pass, e_var, e_rd, e_cst, e_tup, e_lst, e_bin, e_neg, e_not, e_and, e_or, e_cmp, e_chain, e_ite, e_call, e_callio, e_bi, e_isi, e_iso, e_mem, e_get, e_getd, e_fld, e_meth, e_stup, e_slst, e_dup, e_ix, e_slc, e_dsp, l_nil, l_cons, o_none, o_some, x_nil, x_cons, setS, asgT, asgTs, sets, updS, Out.fr, io0, wrAt, Sl.isWr, ME.isRd, io_hd, l1, ad]
theorem k_slopes_of {Φ : Tab} {pts : List (Rat × Rat)} {last : Rat} {d : D} (hd : SeqOf d (pts.map ptD)) (h : Up pts) (hl : pts.length ≤ 1000) (ρ : Vn) (e : Φ "slopes_of" = some f_slopes_of) : callF Φ "slopes_of" [d, ofQ last] ρ = .ok (true, .lst ((slopesQ pts last).map ofQ)) ρ := callF_ok e rfl rfl (r_slopes_of hd h hl)
end C

set_option exponentiation.threshold 2000
namespace C
open PySem PySem.Spec L2 Z S
def cD (r : Row) : D := ptD r.1
def mD (r : Row) : D := ofQ r.2
def rD (r : Row) : D := .tup [cD r, mD r]
def crv (R : List Row) : D := .ins "Curve" [("kept_corners", .tup (R.map cD)), ("kept_slopes", .tup (R.map mD))]
def bendB (L : List Row) (i : Nat) : Bool := !decide ((L[i + 1]?.getD default).2 = (L[i]?.getD default).2)
theorem keep_ix : ∀ {L : List Row}, ((List.range (L.length - 1)).filter (bendB L)).map (fun i => L[i + 1]?.getD default) = keep L
  | [] => rfl
  | [a] => rfl
  | a :: b :: r => by
    have ih := keep_ix (L := b :: r)
    have e1 : (a :: b :: r).length - 1 = r.length + 1 := by simp
    have e2 : (b :: r).length - 1 = r.length := by simp
    rw [e2] at ih
    rw [e1, List.range_succ_eq_map, List.filter_cons, List.filter_map]
    have e3 : bendB (a :: b :: r) ∘ Nat.succ = bendB (b :: r) := by
      funext i
      simp [bendB]
    have e4 : bendB (a :: b :: r) 0 = !decide (b.2 = a.2) := by simp [bendB]
    rw [e3, e4]
    simp only [keep]
    by_cases e : a.2 = b.2
    · have : (!decide (b.2 = a.2)) = false := by simp [e]
      rw [this, if_neg (by simp), if_pos e, ← ih, List.map_map]
      rfl
    · have : (!decide (b.2 = a.2)) = true := by simp [Ne.symm e]
      rw [this, if_pos rfl, if_neg e, ← ih, List.map_cons, List.map_map]
      rfl
theorem it_range1 {n : Nat} (h1 : 1 ≤ n) (h : n ≤ 1000) : itD 1 [.int 1, .int n] = some ((List.range (n - 1)).map fun i => D.int ((i : Nat) + 1 : Int)) := by
  have h1' : (-(lim : Int) ≤ 1) := by simp only [lim]; omega
  have h2 : ((1 : Int) ≤ lim) := by simp only [lim]; omega
  have h3 : (-(lim : Int) ≤ (n : Int)) := by simp only [lim]; omega
  have h4 : ((n : Int) ≤ lim) := by simp only [lim]; omega
  have e : ((n : Int) - 1).toNat = n - 1 := by omega
  simp only [itD, h1', h2, h3, h4, decide_true, Bool.and_self, if_true, e]
  congr 2
  funext i
  rw [Int.add_comm]
def lcB : ME := .lc (.ix (.rd 0) (.var 4)) [4] (.nm 4) 1 [(.cst (.int 1)), (.bi "len" [(.rd 0)])] (some (.cmp .NotEq (.ix (.rd 2) (.var 4)) (.ix (.rd 2) (.bin .Sub (.rd 4) (.cst (.int 1))))))
theorem m_true_corners_eq : m_true_corners = [.set (.nm 2) (.call "slopes_of" [(.var 0), (.var 1)]), .set (.nm 3) lcB, .ret (.stup [false, true] [(.ix (.rd 0) (.cst (.int 0))), (.rd 3)])] := rfl
theorem get_map {α : Type} {L : List α} {f : α → D} {i : Nat} {a : α} (h : L[i]? = some a) : (L.map f)[i]? = some (f a) := by
  rw [List.getElem?_map, h]; rfl
theorem Lk.ne {last : Rat} {L : List Row} (h : Lk last L) : L ≠ [] := by
  intro e; subst e; exact h
theorem Lk.fst {last : Rat} {L : List Row} (h : Lk last L) : (L.map (·.1)).map ptD = L.map cD := by rw [List.map_map]; rfl
theorem Lk.snd {last : Rat} {L : List Row} (h : Lk last L) : (L.map (·.2)).map ofQ = L.map mD := by rw [List.map_map]; rfl
theorem k_slopes_L {Φ : Tab} {L : List Row} {last : Rat} {d : D} (hd : SeqOf d (L.map cD)) (h : Lk last L) (hl : L.length ≤ 1000) (ρ : Vn) (e : Φ "slopes_of" = some f_slopes_of) : callF Φ "slopes_of" [d, ofQ last] ρ = .ok (true, .lst (L.map mD)) ρ := by
  have := k_slopes_of (Φ := Φ) (pts := L.map (·.1)) (last := last) (d := d) (by rw [h.fst]; exact hd) h.up.1 (by rw [List.length_map]; exact hl) ρ e
  rw [h.up.2, h.snd] at this
  exact this
theorem r_true_corners {L : List Row} {last : Rat} (h : Lk last L) (hl : L.length ≤ 1000) : f_true_corners.run [.lst (L.map cD), ofQ last] = .ok (.tup ((rowsOf L).map cD)) .non := by
  have n1 : 1 ≤ L.length := by have := h.ne; cases L <;> simp at *
  have s1 := fun ρ => k_slopes_L (Φ := tbl t_true_corners) (.inl rfl) h hl ρ rfl
  have l1 : evE (tbl t_true_corners) lcB [.val (.lst (L.map cD)), .val (ofQ last), .own (.lst (L.map mD)), .non, .non] = .ok (true, .lst (((List.range (L.length - 1)).filter (bendB L)).map fun i => cD (L[i + 1]?.getD default))) [.val (.lst (L.map cD)), .val (ofQ last), .own (.lst (L.map mD)), .non, .non] := by
    refine lc_filter (ds := [.int 1, .int L.length]) (fun i => D.int ((i : Nat) + 1 : Int)) (List.range (L.length - 1)) (bendB L) (fun i => cD (L[i + 1]?.getD default)) (by simp [sl0, b_nil, b_cons, s_set, s_stp, s_stq, s_tri, s_setF, s_mut, s_par, s_setIx, s_expr, s_app, s_ite, s_rvar, s_ret, s_raise, s_brk, s_pass, e_var, e_rd, e_cst, e_tup, e_lst, e_bin, e_neg, e_not, e_and, e_or, e_cmp, e_chain, e_ite, e_call, e_callio, e_bi, e_isi, e_iso, e_mem, e_get, e_getd, e_fld, e_meth, e_stup, e_slst, e_dup, e_ix, e_slc, e_dsp, l_nil, l_cons, o_none, o_some, x_nil, x_cons, setS, asgT, asgTs, sets, updS, Out.fr, io0, wrAt, Sl.isWr, ME.isRd, io_hd]) (by
      show itD 1 [.int 1, .int L.length] = _
      exact it_range1 n1 hl) (by unfold lim; rw [List.length_range]; omega) rfl fun t ht => ?_
    have ht := List.mem_range.mp ht
    obtain ⟨a, ha⟩ : ∃ a, L[t]? = some a := ⟨L[t]'(by omega), by simp⟩
    obtain ⟨b, hb⟩ : ∃ b, L[t + 1]? = some b := ⟨L[t + 1]'(by omega), by simp⟩
    have i1 : ixD (.lst (L.map mD)) (.int ((t : Int) + 1)) = some (ofQ b.2) := ix_lst (by omega) (by rw [show ((t : Int) + 1).toNat = t + 1 by omega]; exact get_map (f := mD) hb)
    have i2 : ixD (.lst (L.map mD)) (.int (t : Int)) = some (ofQ a.2) := ix_lst (by omega) (by rw [show ((t : Int)).toNat = t by omega]; exact get_map (f := mD) ha)
    have i3 : ixD (.lst (L.map cD)) (.int ((t : Int) + 1)) = some (cD b) := ix_lst (by omega) (by rw [show ((t : Int) + 1).toNat = t + 1 by omega]; exact get_map hb)
    have sb : (t : Int) + 1 - 1 = t := by omega
    have eb : bendB L t = !decide (b.2 = a.2) := by simp [bendB, ha, hb]
    rw [eb]
    generalize L.map mD = ms at *
    generalize L.map cD = cs at *
    by_cases hq : b.2 = a.2
    · simp [sl0, b_nil, b_cons, s_set, s_stp, s_stq, s_tri, s_setF, s_mut, s_par, s_setIx, s_expr, s_app, s_ite, s_rvar, s_ret, s_raise, s_brk, s_pass, e_var, e_rd, e_cst, e_tup, e_lst, e_bin, e_neg, e_not, e_and, e_or, e_cmp, e_chain, e_ite, e_call, e_callio, e_bi, e_isi, e_iso, e_mem, e_get, e_getd, e_fld, e_meth, e_stup, e_slst, e_dup, e_ix, e_slc, e_dsp, l_nil, l_cons, o_none, o_some, x_nil, x_cons, setS, asgT, asgTs, sets, updS, Out.fr, io0, wrAt, Sl.isWr, ME.isRd, io_hd, step1, lockV, wipeV, rdIdx, i1, i2, i3, sb, c_neq, hq]
    · simp [sl0, b_nil, b_cons, s_set, s_stp, s_stq, s_tri, s_setF, s_mut, s_par, s_setIx, s_expr, s_app, s_ite, s_rvar, s_ret, s_raise, s_brk, s_pass, e_var, e_rd, e_cst, e_tup, e_lst, e_bin, e_neg, e_not, e_and, e_or, e_cmp, e_chain, e_ite, e_call, e_callio, e_bi, e_isi, e_iso, e_mem, e_get, e_getd, e_fld, e_meth, e_stup, e_slst, e_dup, e_ix, e_slc, e_dsp, l_nil, l_cons, o_none, o_some, x_nil, x_cons, setS, asgT, asgTs, sets, updS, Out.fr, io0, wrAt, Sl.isWr, ME.isRd, io_hd, step1, lockV, wipeV, rdIdx, i1, i2, i3, sb, c_neq, hq, hb]
  have e : ((List.range (L.length - 1)).filter (bendB L)).map (fun i => cD (L[i + 1]?.getD default)) = (keep L).map cD := by
    rw [← keep_ix, List.map_map]; rfl
  rw [e] at l1
  obtain ⟨a, r, rfl⟩ : ∃ a r, L = a :: r := by cases L with | nil => exact h.elim | cons a r => exact ⟨a, r, rfl⟩
  have i0 : ixD (.lst ((a :: r).map cD)) (.int 0) = some (cD a) := rfl
  have kl : ((keep (a :: r)).map cD).length + 1 ≤ lim := by
    have := keep_len (l := a :: r)
    unfold lim
    rw [List.length_map]
    omega
  have er : (rowsOf (a :: r)).map cD = cD a :: (keep (a :: r)).map cD := rfl
  rw [er]
  generalize (keep (a :: r)).map cD = ks at *
  generalize (a :: r).map mD = ms at *
  generalize (a :: r).map cD = cs at *
  rw [f_true_corners, run_mk, m_true_corners_eq]
  simp [sl0, b_nil, b_cons, s_set, s_stp, s_stq, s_tri, s_setF, s_mut, s_par, s_setIx, s_expr, s_app, s_ite, s_rvar, s_ret, s_raise, s_brk, s_pass, e_var, e_rd, e_cst, e_tup, e_lst, e_bin, e_neg, e_not, e_and, e_or, e_cmp, e_chain, e_ite, e_call, e_callio, e_bi, e_isi, e_iso, e_mem, e_get, e_getd, e_fld, e_meth, e_stup, e_slst, e_dup, e_ix, e_slc, e_dsp, l_nil, l_cons, o_none, o_some, x_nil, x_cons, setS, asgT, asgTs, sets, updS, Out.fr, io0, wrAt, Sl.isWr, ME.isRd, io_hd, s1, l1, i0, seqD, kl]
theorem k_true_corners {Φ : Tab} {L : List Row} {last : Rat} (h : Lk last L) (hl : L.length ≤ 1000) (ρ : Vn) (e : Φ "true_corners" = some f_true_corners) : callF Φ "true_corners" [.lst (L.map cD), ofQ last] ρ = .ok (false, .tup ((rowsOf L).map cD)) ρ := callF_ok e rfl rfl (r_true_corners h hl)
theorem Lk.rowsOf {last : Rat} {L : List Row} (h : Lk last L) : Lk last (rowsOf L) := by
  cases L with
  | nil => exact h
  | cons a r => exact h.rows
theorem rowsOf_len {L : List Row} : (rowsOf L).length ≤ L.length + 1 := by
  cases L with
  | nil => simp [C.rowsOf]
  | cons a r => 
    have := keep_len (l := a :: r)
    simp only [C.rowsOf, List.length_cons] at *
    omega
theorem sl_sz {m : Rat} (h : SlOk m) : Sz 30 m := fr_sz h.2
theorem Lk.lastOk {last : Rat} : ∀ {L : List Row}, Lk last L → SlOk last
  | [a], h => by rw [← h.2.2]; exact h.2.1
  | a :: b :: r, h => Lk.lastOk h.2.2.2.2
theorem r_Curve_init {L : List Row} {last : Rat} (h : Lk last L) (hh : headX (L.map (·.1))) (hl : L.length ≤ 900) : f_Curve_init.run [.ins "Curve" [], .lst (L.map cD), ofQ last] = .ok .non (crv (C.rowsOf L)) := by
  have s1 := fun ρ => k_are_points (Φ := tblO t_Curve_init o_Curve_init) h.up.1 hh (by rw [List.length_map]; omega) ρ rfl
  rw [h.fst] at s1
  have z := sl_sz h.lastOk
  have s2 := fun ρ => k_is_number (Φ := tblO t_Curve_init o_Curve_init) (by omega) z ρ rfl
  have s3 := fun ρ => k_isless0 (Φ := tblO t_Curve_init o_Curve_init) (by omega) z ρ rfl
  have n3 : ¬ last < 0 := Rat.not_lt.mpr h.lastOk.1
  have s4 := fun ρ => k_true_corners (Φ := tblO t_Curve_init o_Curve_init) h (by omega) ρ rfl
  have s5 := fun ρ => k_slopes_L (Φ := tblO t_Curve_init o_Curve_init) (L := C.rowsOf L) (d := .tup ((C.rowsOf L).map cD)) (.inr rfl) h.rowsOf (by have := rowsOf_len (L := L); omega) ρ rfl
  have o1 : (tblO t_Curve_init o_Curve_init).own "Curve" "kept_corners" = some .fld := by kernel_rfl
  have o2 : (tblO t_Curve_init o_Curve_init).own "Curve" "kept_slopes" = some .fld := by kernel_rfl
  have ns : ¬ (("kept_corners" : Str) = ("kept_slopes" : Str)) := by decide +kernel
  unfold crv
  generalize (C.rowsOf L).map mD = rm at *
  generalize (C.rowsOf L).map cD = rc at *
  generalize L.map cD = cs at *
  rw [f_Curve_init, run_mk, m_Curve_init]
  simp [sl0, b_nil, b_cons, s_set, s_stp, s_stq, s_tri, s_setF, s_mut, s_par, s_setIx, s_expr, s_app, s_ite, s_rvar, s_ret, s_raise, s_brk, s_pass, e_var, e_rd, e_cst, e_tup, e_lst, e_bin, e_neg, e_not, e_and, e_or, e_cmp, e_chain, e_ite, e_call, e_callio, e_bi, e_isi, e_iso, e_mem, e_get, e_getd, e_fld, e_meth, e_stup, e_slst, e_dup, e_ix, e_slc, e_dsp, l_nil, l_cons, o_none, o_some, x_nil, x_cons, setS, asgT, asgTs, sets, updS, Out.fr, io0, wrAt, Sl.isWr, ME.isRd, io_hd, s1, s2, s3, n3, s4, s5, setFD, o1, o2, putF', fldF, ns]
theorem k_Curve {Φ : Tab} {L : List Row} {last : Rat} (h : Lk last L) (hh : headX (L.map (·.1))) (hl : L.length ≤ 900) (ρ : Vn) (e : Φ "Curve" = some (ctorFn "Curve" f_Curve_init)) : callF Φ "Curve" [.lst (L.map cD), ofQ last] ρ = .ok (false, crv (C.rowsOf L)) ρ := by
  refine callF_ok (s := .non) e rfl rfl ?_
  show (match f_Curve_init.run [.ins "Curve" [], .lst (L.map cD), ofQ last] with
    | .ok d s => match d with
      | .non => FRes.ok s .non
      | _ => .stuck
    | .exn x _ => .exn x .non
    | .stuck => .stuck) = _
  rw [r_Curve_init h hh hl]
/-! ### the law's rows -/
def rngL (n : Nat) : List Int := (List.range (n - 1)).map fun i => ((i : Nat) + 1 : Int)
theorem ltrue_loop1 {pts : List (Rat × Rat)} {last : Rat} (h : Up pts) (hl : pts.length ≤ 900) : ∃ s5 s6, s5.free = true ∧ s6.free = true ∧ forGo (.tp [5, 6]) (exB (tbl t_l_true) fuelN b1_l_true) ((pts.zip (pts.drop 1)).map ppD) [.val (.lst (pts.map ptD)), .val (ofQ last), .own (.lst []), .non, .non, .non, .non] = .nx [.val (.lst (pts.map ptD)), .val (ofQ last), .own (.lst ((pts.zip (pts.drop 1)).map fun t => ofQ (sl t.1 t.2))), .non, .non, s5, s6] := by
  obtain ⟨ρ', e, s5, s6, rfl, f5, f6⟩ := forGo_typ (tg := .tp [5, 6]) (body := exB (tbl t_l_true) fuelN b1_l_true) ppD (fun done ρ => ∃ s5 s6, ρ = [.val (.lst (pts.map ptD)), .val (ofQ last), .own (.lst (done.map fun t => ofQ (sl t.1 t.2))), .non, .non, s5, s6] ∧ s5.free = true ∧ s6.free = true) (ts := pts.zip (pts.drop 1)) (done := []) ⟨.non, .non, rfl, rfl, rfl⟩ (by
    rintro d t r ρ hsp ⟨s5, s6, rfl, f5, f6⟩
    have hm : t ∈ pts.zip (pts.drop 1) := by rw [List.nil_append] at hsp; rw [hsp]; simp
    have hdl : d.length ≤ 900 := by
      have := congrArg List.length hsp
      rw [List.nil_append, List.length_zip, List.length_append, List.length_cons] at this
      omega
    obtain ⟨o1, o2, o3, o4⟩ := h.pair t hm
    have x1 := (fr_szX o1.2.2.1).mono (show 40 ≤ 60 by omega)
    have x2 := (fr_szX o2.2.2.1).mono (show 40 ≤ 60 by omega)
    have y1 := fr_szY o1.2.2.2
    have y2 := fr_szY o2.2.2.2
    have n1 := fun ρ => k_lminus (Φ := tbl t_l_true) (by omega) (pair_q _) (pair_q _) y2 y1 ρ rfl
    have n2 := fun ρ => k_lminus (Φ := tbl t_l_true) (by omega) (pair_q _) (pair_q _) x2 x1 ρ rfl
    have n3 := fun ρ => k_lover (Φ := tbl t_l_true) (by omega) (pair_q _) (pair_q _) (sz_sub y2 y1) (sz_sub x2 x1) (by grind) ρ rfl
    have lm : d.length ≤ lim := by unfold lim; omega
    refine ⟨[.val (.lst (pts.map ptD)), .val (ofQ last), .own (.lst (d.map fun t => ofQ (sl t.1 t.2))), .non, .non, .val (ptD t.1), .val (ptD t.2)], _, ?_, ?_, .val (ptD t.1), .val (ptD t.2), rfl, rfl, rfl⟩
    · simp [ppD, asgT, sets, setS, f5, f6]
    · simp [sl0, b_nil, b_cons, s_set, s_stp, s_stq, s_tri, s_setF, s_mut, s_par, s_setIx, s_expr, s_app, s_ite, s_rvar, s_ret, s_raise, s_brk, s_pass, e_var, e_rd, e_cst, e_tup, e_lst, e_bin, e_neg, e_not, e_and, e_or, e_cmp, e_chain, e_ite, e_call, e_callio, e_bi, e_isi, e_iso, e_mem, e_get, e_getd, e_fld, e_meth, e_stup, e_slst, e_dup, e_ix, e_slc, e_dsp, l_nil, l_cons, o_none, o_some, x_nil, x_cons, setS, asgT, asgTs, sets, updS, Out.fr, io0, wrAt, Sl.isWr, ME.isRd, io_hd, b1_l_true, lstAt, ptD, n1, n2, n3, lm, sl, List.map_append])
  exact ⟨s5, s6, f5, f6, by simpa using e⟩
end C

set_option exponentiation.threshold 2000
namespace C
open PySem PySem.Spec L2 Z S
theorem ltrue_loop2 {a : Row} {L : List Row} {cs ms : List D} {last : D} {s5 s6 : Sl} (ec : cs = L.map cD) (em : ms = L.map mD) (hl : L.length ≤ 900) : ∃ s4, s4.free = true ∧ forGo (.nm 4) (exB (tbl t_l_true) fuelN b2_l_true) ((List.range (L.length - 1)).map fun i => D.int ((i : Nat) + 1 : Int)) [.val (.lst cs), .val last, .own (.lst ms), .own (.lst [rD a]), .non, s5, s6] = .nx [.val (.lst cs), .val last, .own (.lst ms), .own (.lst (rD a :: (keep L).map rD)), s4, s5, s6] := by
  obtain ⟨ρ', e, s4, rfl, f4⟩ := forGo_typ (tg := .nm 4) (body := exB (tbl t_l_true) fuelN b2_l_true) (fun i => D.int ((i : Nat) + 1 : Int)) (fun done ρ => ∃ s4, ρ = [.val (.lst cs), .val last, .own (.lst ms), .own (.lst (rD a :: (done.filter (bendB L)).map fun i => rD (L[i + 1]?.getD default))), s4, s5, s6] ∧ s4.free = true) (ts := List.range (L.length - 1)) (done := [])
    (ρ := [.val (.lst cs), .val last, .own (.lst ms), .own (.lst [rD a]), .non, s5, s6]) ⟨.non, rfl, rfl⟩ (by
    rintro d t r ρ hsp ⟨s4, rfl, f4⟩
    rw [List.nil_append] at hsp
    have ht : t < L.length - 1 := List.mem_range.mp (by rw [hsp]; simp)
    have hdl : d.length ≤ 900 := by
      have := congrArg List.length hsp
      rw [List.length_range, List.length_append, List.length_cons] at this
      omega
    obtain ⟨x, hx⟩ : ∃ x, L[t]? = some x := ⟨L[t]'(by omega), by simp⟩
    obtain ⟨y, hy⟩ : ∃ y, L[t + 1]? = some y := ⟨L[t + 1]'(by omega), by simp⟩
    have i1 : ixD (.lst ms) (.int ((t : Int) + 1)) = some (ofQ y.2) := ix_lst (by omega) (by rw [show ((t : Int) + 1).toNat = t + 1 by omega, em]; exact get_map (f := mD) hy)
    have i2 : ixD (.lst ms) (.int (t : Int)) = some (ofQ x.2) := ix_lst (by omega) (by rw [show ((t : Int)).toNat = t by omega, em]; exact get_map (f := mD) hx)
    have i3 : ixD (.lst cs) (.int ((t : Int) + 1)) = some (cD y) := ix_lst (by omega) (by rw [show ((t : Int) + 1).toNat = t + 1 by omega, ec]; exact get_map hy)
    have sb : (t : Int) + 1 - 1 = t := by omega
    have eb : bendB L t = !decide (y.2 = x.2) := by simp [bendB, hx, hy]
    have hf : ((d.filter (bendB L)).map fun i => rD (L[i + 1]?.getD default)).length + 1 ≤ lim := by
      have := List.length_filter_le (bendB L) d
      rw [List.length_map]
      unfold lim; omega
    rw [List.filter_append, List.map_append]
    generalize ((d.filter (bendB L)).map fun i => rD (L[i + 1]?.getD default)) = fs at *
    refine ⟨[.val (.lst cs), .val last, .own (.lst ms), .own (.lst (rD a :: fs)), .val (.int ((t : Int) + 1)), s5, s6], [.val (.lst cs), .val last, .own (.lst ms), .own (.lst (rD a :: (fs ++ ([t].filter (bendB L)).map fun i => rD (L[i + 1]?.getD default)))), .val (.int ((t : Int) + 1)), s5, s6], by simp [asgT, setS, f4], ?_, .val (.int ((t : Int) + 1)), rfl, rfl⟩
    by_cases hq : y.2 = x.2
    · simp [sl0, b_nil, b_cons, s_set, s_stp, s_stq, s_tri, s_setF, s_mut, s_par, s_setIx, s_expr, s_app, s_ite, s_rvar, s_ret, s_raise, s_brk, s_pass, e_var, e_rd, e_cst, e_tup, e_lst, e_bin, e_neg, e_not, e_and, e_or, e_cmp, e_chain, e_ite, e_call, e_callio, e_bi, e_isi, e_iso, e_mem, e_get, e_getd, e_fld, e_meth, e_stup, e_slst, e_dup, e_ix, e_slc, e_dsp, l_nil, l_cons, o_none, o_some, x_nil, x_cons, setS, asgT, asgTs, sets, updS, Out.fr, io0, wrAt, Sl.isWr, ME.isRd, io_hd, b2_l_true, i1, i2, i3, sb, c_neq, hq, eb]
    · simp [sl0, b_nil, b_cons, s_set, s_stp, s_stq, s_tri, s_setF, s_mut, s_par, s_setIx, s_expr, s_app, s_ite, s_rvar, s_ret, s_raise, s_brk, s_pass, e_var, e_rd, e_cst, e_tup, e_lst, e_bin, e_neg, e_not, e_and, e_or, e_cmp, e_chain, e_ite, e_call, e_callio, e_bi, e_isi, e_iso, e_mem, e_get, e_getd, e_fld, e_meth, e_stup, e_slst, e_dup, e_ix, e_slc, e_dsp, l_nil, l_cons, o_none, o_some, x_nil, x_cons, setS, asgT, asgTs, sets, updS, Out.fr, io0, wrAt, Sl.isWr, ME.isRd, io_hd, b2_l_true, i1, i2, i3, sb, c_neq, hq, eb, lstAt, hf, hy, rD, mD])
  refine ⟨s4, f4, ?_⟩
  have k : ((List.range (L.length - 1)).filter (bendB L)).map (fun i => rD (L[i + 1]?.getD default)) = (keep L).map rD := by
    rw [← keep_ix, List.map_map]; rfl
  rw [List.nil_append, k] at e
  exact e
theorem r_ltrue {L : List Row} {last : Rat} (h : Lk last L) (hl : L.length ≤ 900) : f_l_true.run [.lst (L.map cD), ofQ last] = .ok (.lst ((C.rowsOf L).map rD)) .non := by
  obtain ⟨s5, s6, f5, f6, g1⟩ := ltrue_loop1 (last := last) h.up.1 (by rw [List.length_map]; exact hl)
  obtain ⟨a, r, e⟩ : ∃ a r, L = a :: r := by cases L with | nil => exact h.elim | cons a r => exact ⟨a, r, rfl⟩
  obtain ⟨s4, f4, g2⟩ := ltrue_loop2 (a := a) (L := L) (last := ofQ last) (s5 := s5) (s6 := s6) rfl rfl hl
  have n1 : 1 ≤ L.length := by rw [e]; simp
  have em : ((L.map (·.1)).zip ((L.map (·.1)).drop 1)).map (fun t => ofQ (sl t.1 t.2)) ++ [ofQ last] = L.map mD := by
    have := h.up.2
    rw [← h.snd, ← this]
    unfold slopesQ
    rw [List.map_append, List.map_map]
    rfl
  have zi : itD 2 [.lst (L.map cD), .lst ((L.map cD).drop 1)] = some (((L.map (·.1)).zip ((L.map (·.1)).drop 1)).map ppD) := by
    rw [it_zip_lst, ← h.fst, zip_pts]
  rw [h.fst] at g1
  have i0 : ixD (.lst (L.map cD)) (.int 0) = some (cD a) := by rw [e]; rfl
  have i0' : ixD (.lst (L.map mD)) (.int 0) = some (mD a) := by rw [e]; rfl
  have lm : (((L.map (·.1)).zip ((L.map (·.1)).drop 1)).map (fun t => ofQ (sl t.1 t.2))).length ≤ lim := by
    unfold lim
    rw [List.length_map, List.length_zip, List.length_map]
    omega
  have er : (C.rowsOf L).map rD = rD a :: (keep L).map rD := by rw [e]; rfl
  have rg := it_range1 n1 (show L.length ≤ 1000 by omega)
  have ln : (L.map cD).length = L.length := List.length_map ..
  rw [er]
  generalize ((L.map (·.1)).zip ((L.map (·.1)).drop 1)).map ppD = zs at *
  generalize ((L.map (·.1)).zip ((L.map (·.1)).drop 1)).map (fun t => ofQ (sl t.1 t.2)) = us at *
  generalize L.map mD = ms at *
  generalize L.map cD = cs at *
  generalize (keep L).map rD = ks at *
  rw [f_l_true, run_mk, m_l_true]
  have f1 : exS (tbl t_l_true) fuelN (.for (.tp [5, 6]) 2 [(.rd 0), (.slc (.rd 0) (some (.cst (.int 1))) none)] b1_l_true) [.val (.lst cs), .val (ofQ last), .own (.lst []), .non, .non, .non, .non] = .nx [.val (.lst cs), .val (ofQ last), .own (.lst us), .non, .non, s5, s6] :=
    for_nx (ρ1 := [.val (.lst cs), .val (ofQ last), .own (.lst []), .non, .non, .non, .non]) (ds := [.lst cs, .lst (cs.drop 1)]) (by simp [sl0, b_nil, b_cons, s_set, s_stp, s_stq, s_tri, s_setF, s_mut, s_par, s_setIx, s_expr, s_app, s_ite, s_rvar, s_ret, s_raise, s_brk, s_pass, e_var, e_rd, e_cst, e_tup, e_lst, e_bin, e_neg, e_not, e_and, e_or, e_cmp, e_chain, e_ite, e_call, e_callio, e_bi, e_isi, e_iso, e_mem, e_get, e_getd, e_fld, e_meth, e_stup, e_slst, e_dup, e_ix, e_slc, e_dsp, l_nil, l_cons, o_none, o_some, x_nil, x_cons, setS, asgT, asgTs, sets, updS, Out.fr, io0, wrAt, Sl.isWr, ME.isRd, io_hd, slc_lst]) zi g1 rfl
  have f2 : exS (tbl t_l_true) fuelN (.for (.nm 4) 1 [(.cst (.int 1)), (.bi "len" [(.rd 0)])] b2_l_true) [.val (.lst cs), .val (ofQ last), .own (.lst ms), .own (.lst [rD a]), .non, s5, s6] = .nx [.val (.lst cs), .val (ofQ last), .own (.lst ms), .own (.lst (rD a :: ks)), s4, s5, s6] :=
    for_nx (ρ1 := [.val (.lst cs), .val (ofQ last), .own (.lst ms), .own (.lst [rD a]), .non, s5, s6]) (ds := [.int 1, .int L.length]) (by simp [sl0, b_nil, b_cons, s_set, s_stp, s_stq, s_tri, s_setF, s_mut, s_par, s_setIx, s_expr, s_app, s_ite, s_rvar, s_ret, s_raise, s_brk, s_pass, e_var, e_rd, e_cst, e_tup, e_lst, e_bin, e_neg, e_not, e_and, e_or, e_cmp, e_chain, e_ite, e_call, e_callio, e_bi, e_isi, e_iso, e_mem, e_get, e_getd, e_fld, e_meth, e_stup, e_slst, e_dup, e_ix, e_slc, e_dsp, l_nil, l_cons, o_none, o_some, x_nil, x_cons, setS, asgT, asgTs, sets, updS, Out.fr, io0, wrAt, Sl.isWr, ME.isRd, io_hd, ln]) rg g2 rfl
  have ra : D.tup [cD a, mD a] = rD a := rfl
  simp [sl0, b_nil, b_cons, s_set, s_stp, s_stq, s_tri, s_setF, s_mut, s_par, s_setIx, s_expr, s_app, s_ite, s_rvar, s_ret, s_raise, s_brk, s_pass, e_var, e_rd, e_cst, e_tup, e_lst, e_bin, e_neg, e_not, e_and, e_or, e_cmp, e_chain, e_ite, e_call, e_callio, e_bi, e_isi, e_iso, e_mem, e_get, e_getd, e_fld, e_meth, e_stup, e_slst, e_dup, e_ix, e_slc, e_dsp, l_nil, l_cons, o_none, o_some, x_nil, x_cons, setS, asgT, asgTs, sets, updS, Out.fr, io0, wrAt, Sl.isWr, ME.isRd, io_hd, f1, lstAt, lm, em, i0, i0', ra, f2]
theorem k_ltrue {Φ : Tab} {L : List Row} {last : Rat} (h : Lk last L) (hl : L.length ≤ 900) (ρ : Vn) (e : Φ "_law_true" = some f_l_true) : callF Φ "_law_true" [.lst (L.map cD), ofQ last] ρ = .ok (true, .lst ((C.rowsOf L).map rD)) ρ := callF_ok e rfl rfl (r_ltrue h hl)
end C

set_option exponentiation.threshold 2000
namespace C
open PySem PySem.Spec L2 Z S
theorem Lk.all {last : Rat} : ∀ {L : List Row}, Lk last L → ∀ a ∈ L, PtOk a.1 ∧ SlOk a.2
  | [a], h, b, hb => by
    rcases List.mem_cons.mp hb with rfl | hb
    · exact ⟨h.1, h.2.1⟩
    · cases hb
  | a :: b :: r, h, c, hc => by
    rcases List.mem_cons.mp hc with rfl | hc
    · exact ⟨h.1, h.2.2.1⟩
    · exact Lk.all h.2.2.2.2 c hc
theorem Lk.sorted {last : Rat} : ∀ {L : List Row}, Lk last L → L.Pairwise fun a b => a.1.1 < b.1.1 ∧ a.1.2 ≤ b.1.2
  | [a], h => by simp
  | a :: b :: r, h => by
    obtain ⟨h1, h2, h3, h4, h5⟩ := h
    have ih := Lk.sorted h5
    refine List.pairwise_cons.mpr ⟨fun c hc => ?_, ih⟩
    have hab : a.1.2 ≤ b.1.2 := le_of_sl h2 (by rw [h4]; exact h3.1)
    rcases List.mem_cons.mp hc with rfl | hc
    · exact ⟨h2, hab⟩
    · have := (List.pairwise_cons.mp ih).1 c hc
      exact ⟨by grind, by grind⟩
/-! ### the place of a price -/
theorem r_place {R : List Row} {w : Rat} {k : Nat} (hk : 40 ≤ k) (hk2 : k < 3000) (hw : Sz k w) (hR : ∀ a ∈ R, PtOk a.1) (h0 : ∀ a, R[0]? = some a → a.1.1 ≤ w) (hn : R ≠ []) (hl : R.length ≤ 1000) :
    ∃ (i : Nat) (a : Row), f_place_of.run [.tup (R.map cD), ofQ w] = .ok (.int i) .non ∧ R[i]? = some a ∧ a.1.1 ≤ w ∧ ∀ b, R[i + 1]? = some b → w < b.1.1 := by
  have n0 : 0 < R.length := List.length_pos_iff.mpr hn
  obtain ⟨a0, ha0⟩ : ∃ a, R[0]? = some a := ⟨R[0], by simp⟩
  have ln : (R.map cD).length = R.length := List.length_map ..
  obtain ⟨ρ', ew, i, s4, a, rfl, ha, q1, q2⟩ := whGo_inv (c := evE (tbl t_place_of) w1_place_of) (body := exB (tbl t_place_of) fuelN b1_place_of)
    (Q := fun ρ => ∃ (i : Nat) (s4 : Sl) (a : Row), ρ = [.val (.tup (R.map cD)), .val (ofQ w), .val (.int i), .val (.int ((i : Int) + 1)), s4] ∧ R[i]? = some a ∧ a.1.1 ≤ w ∧ ∀ b, R[i + 1]? = some b → w < b.1.1)
    (fun m ρ => ∃ (lo hi : Nat) (s4 : Sl) (a : Row), ρ = [.val (.tup (R.map cD)), .val (ofQ w), .val (.int lo), .val (.int hi), s4] ∧ s4.free = true ∧ lo < hi ∧ hi ≤ R.length ∧ R[lo]? = some a ∧ a.1.1 ≤ w ∧ (∀ b, R[hi]? = some b → w < b.1.1) ∧ hi - lo = m) (by
    rintro m ρ ⟨lo, hi, s4, a, rfl, f4, h1, h2, h3, h4, h5, h6⟩
    by_cases hc : lo + 1 < hi
    · right
      obtain ⟨md, g1, g2, fd⟩ : ∃ md : Nat, lo < md ∧ md < hi ∧ ((lo : Int) + hi).fdiv 2 = (md : Int) := ⟨(lo + hi) / 2, by omega, by omega, by rw [Int.fdiv_eq_ediv_of_nonneg _ (by omega)]; omega⟩
      obtain ⟨b, hb⟩ : ∃ b, R[md]? = some b := ⟨R[md]'(by omega), by simp⟩
      have ib : ixD (.tup (R.map cD)) (.int (md : Int)) = some (cD b) := ix_tup (by omega) (by rw [show (md : Int).toNat = md by omega]; exact get_map hb)
      have zb := (fr_szX (hR b (List.mem_of_getElem? hb)).2.2.1).mono hk
      have p1 := fun ρ => k_isless (Φ := tbl t_place_of) hk2 hw zb ρ rfl
      have d2 : divOk 2 = true := by decide
      have c1 : (1 : Int) < (hi : Int) - lo := by omega
      by_cases hq : w < b.1.1
      · refine ⟨false, [.val (.tup (R.map cD)), .val (ofQ w), .val (.int lo), .val (.int hi), s4], [.val (.tup (R.map cD)), .val (ofQ w), .val (.int lo), .val (.int (md : Int)), .val (.int (md : Int))], md - lo, by simp [sl0, b_nil, b_cons, s_set, s_stp, s_stq, s_tri, s_setF, s_mut, s_par, s_setIx, s_expr, s_app, s_ite, s_rvar, s_ret, s_raise, s_brk, s_pass, e_var, e_rd, e_cst, e_tup, e_lst, e_bin, e_neg, e_not, e_and, e_or, e_cmp, e_chain, e_ite, e_call, e_callio, e_bi, e_isi, e_iso, e_mem, e_get, e_getd, e_fld, e_meth, e_stup, e_slst, e_dup, e_ix, e_slc, e_dsp, l_nil, l_cons, o_none, o_some, x_nil, x_cons, setS, asgT, asgTs, sets, updS, Out.fr, io0, wrAt, Sl.isWr, ME.isRd, io_hd, w1_place_of, c1], ?_, by omega, lo, md, _, a, rfl, rfl, by omega, by omega, h3, h4, fun b' e' => ?_, rfl⟩
        · generalize R.map cD = cs at *
          simp [sl0, b_nil, b_cons, s_set, s_stp, s_stq, s_tri, s_setF, s_mut, s_par, s_setIx, s_expr, s_app, s_ite, s_rvar, s_ret, s_raise, s_brk, s_pass, e_var, e_rd, e_cst, e_tup, e_lst, e_bin, e_neg, e_not, e_and, e_or, e_cmp, e_chain, e_ite, e_call, e_callio, e_bi, e_isi, e_iso, e_mem, e_get, e_getd, e_fld, e_meth, e_stup, e_slst, e_dup, e_ix, e_slc, e_dsp, l_nil, l_cons, o_none, o_some, x_nil, x_cons, setS, asgT, asgTs, sets, updS, Out.fr, io0, wrAt, Sl.isWr, ME.isRd, io_hd, b1_place_of, n_div d2, fd, ib, cD, ptD, p1, hq, f4]
        · rw [hb] at e'; cases e'; exact hq
      · refine ⟨false, [.val (.tup (R.map cD)), .val (ofQ w), .val (.int lo), .val (.int hi), s4], [.val (.tup (R.map cD)), .val (ofQ w), .val (.int (md : Int)), .val (.int hi), .val (.int (md : Int))], hi - md, by simp [sl0, b_nil, b_cons, s_set, s_stp, s_stq, s_tri, s_setF, s_mut, s_par, s_setIx, s_expr, s_app, s_ite, s_rvar, s_ret, s_raise, s_brk, s_pass, e_var, e_rd, e_cst, e_tup, e_lst, e_bin, e_neg, e_not, e_and, e_or, e_cmp, e_chain, e_ite, e_call, e_callio, e_bi, e_isi, e_iso, e_mem, e_get, e_getd, e_fld, e_meth, e_stup, e_slst, e_dup, e_ix, e_slc, e_dsp, l_nil, l_cons, o_none, o_some, x_nil, x_cons, setS, asgT, asgTs, sets, updS, Out.fr, io0, wrAt, Sl.isWr, ME.isRd, io_hd, w1_place_of, c1], ?_, by omega, md, hi, _, b, rfl, rfl, by omega, by omega, hb, Rat.not_lt.mp hq, h5, rfl⟩
        generalize R.map cD = cs at *
        simp [sl0, b_nil, b_cons, s_set, s_stp, s_stq, s_tri, s_setF, s_mut, s_par, s_setIx, s_expr, s_app, s_ite, s_rvar, s_ret, s_raise, s_brk, s_pass, e_var, e_rd, e_cst, e_tup, e_lst, e_bin, e_neg, e_not, e_and, e_or, e_cmp, e_chain, e_ite, e_call, e_callio, e_bi, e_isi, e_iso, e_mem, e_get, e_getd, e_fld, e_meth, e_stup, e_slst, e_dup, e_ix, e_slc, e_dsp, l_nil, l_cons, o_none, o_some, x_nil, x_cons, setS, asgT, asgTs, sets, updS, Out.fr, io0, wrAt, Sl.isWr, ME.isRd, io_hd, b1_place_of, n_div d2, fd, ib, cD, ptD, p1, hq, f4]
    · left
      have e : hi = lo + 1 := by omega
      subst e
      refine ⟨false, _, ?_, lo, s4, a, rfl, h3, h4, h5⟩
      have c1 : ¬ (1 : Int) < (lo : Int) + 1 - lo := by omega
      simp [sl0, b_nil, b_cons, s_set, s_stp, s_stq, s_tri, s_setF, s_mut, s_par, s_setIx, s_expr, s_app, s_ite, s_rvar, s_ret, s_raise, s_brk, s_pass, e_var, e_rd, e_cst, e_tup, e_lst, e_bin, e_neg, e_not, e_and, e_or, e_cmp, e_chain, e_ite, e_call, e_callio, e_bi, e_isi, e_iso, e_mem, e_get, e_getd, e_fld, e_meth, e_stup, e_slst, e_dup, e_ix, e_slc, e_dsp, l_nil, l_cons, o_none, o_some, x_nil, x_cons, setS, asgT, asgTs, sets, updS, Out.fr, io0, wrAt, Sl.isWr, ME.isRd, io_hd, w1_place_of, c1]) fuelN R.length [.val (.tup (R.map cD)), .val (ofQ w), .val (.int 0), .val (.int R.length), .non] (by unfold fuelN; omega) ⟨0, R.length, .non, a0, rfl, rfl, n0, Nat.le_refl _, ha0, h0 a0 ha0, fun b e => by simp at e, rfl⟩
  refine ⟨i, a, ?_, ha, q1, q2⟩
  generalize R.map cD = cs at *
  have wl : exS (tbl t_place_of) fuelN (.while w1_place_of b1_place_of) [.val (.tup cs), .val (ofQ w), .val (.int 0), .val (.int R.length), .non] = .nx [.val (.tup cs), .val (ofQ w), .val (.int i), .val (.int ((i : Int) + 1)), s4] := by
    simp only [exS]
    exact ew
  rw [f_place_of, run_mk, m_place_of]
  simp [sl0, b_nil, b_cons, s_set, s_stp, s_stq, s_tri, s_setF, s_mut, s_par, s_setIx, s_expr, s_app, s_ite, s_rvar, s_ret, s_raise, s_brk, s_pass, e_var, e_rd, e_cst, e_tup, e_lst, e_bin, e_neg, e_not, e_and, e_or, e_cmp, e_chain, e_ite, e_call, e_callio, e_bi, e_isi, e_iso, e_mem, e_get, e_getd, e_fld, e_meth, e_stup, e_slst, e_dup, e_ix, e_slc, e_dsp, l_nil, l_cons, o_none, o_some, x_nil, x_cons, setS, asgT, asgTs, sets, updS, Out.fr, io0, wrAt, Sl.isWr, ME.isRd, io_hd, ln, wl]
end C

set_option exponentiation.threshold 2000
namespace C
open PySem PySem.Spec L2 Z S
/-- a price, a wish -/
def PrOk (w : Rat) : Prop := 0 ≤ w ∧ Fr 24000000 100000000000000000000 w
def WsOk (v : Rat) : Prop := 0 ≤ v ∧ Fr 288000000 100000000000000000000000000000 v
theorem PrOk.sz {w : Rat} (h : PrOk w) : Sz 70 w := h.2.sz (by omega) (by decide) (by decide)
theorem WsOk.sz {w : Rat} (h : WsOk w) : Sz 100 w := h.2.sz (by omega) (by decide) (by decide)
theorem split_at {R : List Row} {i : Nat} {a : Row} (h : R[i]? = some a) : R = R.take i ++ a :: R.drop (i + 1) := by
  have hi : i < R.length := (List.getElem?_eq_some_iff.mp h).1
  have e : R.drop i = a :: R.drop (i + 1) := by
    rw [List.drop_eq_getElem_cons hi]
    congr 1
    have := (List.getElem?_eq_some_iff.mp h).2
    exact this
  rw [← e, List.take_append_drop]
theorem filter_upto {A B : List Row} {a : Row} {w : Rat} (hs : (A ++ a :: B).Pairwise fun a b => a.1.1 < b.1.1 ∧ a.1.2 ≤ b.1.2) (h1 : a.1.1 ≤ w) (h2 : ∀ b, B[0]? = some b → w < b.1.1) : (A ++ a :: B).filter (fun r => !decide (w < r.1.1)) = A ++ [a] := by
  obtain ⟨p1, p2, p3⟩ := List.pairwise_append.mp hs
  obtain ⟨p4, p5⟩ := List.pairwise_cons.mp p2
  rw [List.filter_append, List.filter_cons]
  have e1 : A.filter (fun r => !decide (w < r.1.1)) = A := by
    rw [List.filter_eq_self]
    intro x hx
    have := (p3 x hx a (by simp)).1
    have : ¬ w < x.1.1 := by grind
    simp [this]
  have e2 : (!decide (w < a.1.1)) = true := by
    have : ¬ w < a.1.1 := Rat.not_lt.mpr h1
    simp [this]
  have e3 : B.filter (fun r => !decide (w < r.1.1)) = [] := by
    rw [List.filter_eq_nil_iff]
    intro x hx
    have : w < x.1.1 := by
      cases B with
      | nil => cases hx
      | cons b B =>
        have hb := h2 b rfl
        rcases List.mem_cons.mp hx with rfl | hx
        · exact hb
        · have := ((List.pairwise_cons.mp p5).1 x hx).1
          grind
    simp [this]
  rw [e1, e2, e3]
  simp
theorem fld_c (cs ms : D) : ([("kept_corners", cs), ("kept_slopes", ms)] : List (Str × D)).lookup ("kept_corners" : Str) = some cs := by kernel_rfl
theorem fld_s (cs ms : D) : ([("kept_corners", cs), ("kept_slopes", ms)] : List (Str × D)).lookup ("kept_slopes" : Str) = some ms := by kernel_rfl
theorem k_place {Φ : Tab} {R : List Row} {w : Rat} {i : Nat} (e : f_place_of.run [.tup (R.map cD), ofQ w] = .ok (.int i) .non) (ρ : Vn) (h : Φ "place_of" = some f_place_of) : callF Φ "place_of" [.tup (R.map cD), ofQ w] ρ = .ok (false, .int i) ρ := callF_ok h rfl rfl e
def valAt (a : Row) (w : Rat) : Rat := a.1.2 + (w - a.1.1) * a.2
def lcW : ME := .lc (.var 3) [3] (.nm 3) 0 [(.rd 0)] (some (.not (.call "_law_less" [(.var 1), (.ix (.ix (.rd 3) (.cst (.int 0))) (.cst (.int 0)))])))
theorem m_l_piece_eq : m_l_piece = [.set (.nm 2) (.ix lcW (.neg (.cst (.int 1)))), .ret (.tup [(.call "_law_sum" [(.lst [(.ix (.ix (.rd 2) (.cst (.int 0))) (.cst (.int 1))), (.call "_law_times" [(.ix (.rd 2) (.cst (.int 1))), (.call "_law_minus" [(.var 1), (.ix (.ix (.rd 2) (.cst (.int 0))) (.cst (.int 0)))])])])]), (.ix (.rd 2) (.cst (.int 1)))])] := rfl
theorem r_at {R : List Row} {last w : Rat} (h : Lk last R) (h0 : ∀ a, R[0]? = some a → a.1.1 = 0) (hl : R.length ≤ 900) (hw : PrOk w) : ∃ a ∈ R, f_Curve_at.run [crv R, ofQ w] = .ok (ofQ (valAt a w)) .non ∧ f_Curve_slope_behind.run [crv R, ofQ w] = .ok (ofQ a.2) .non ∧
    f_l_piece.run [.lst (R.map rD), ofQ w] = .ok (.tup [ofQ (valAt a w), ofQ a.2]) .non ∧ a.1.1 ≤ w := by
  obtain ⟨i, a, e, ha, q1, q2⟩ := r_place (R := R) (w := w) (k := 70) (by omega) (by omega) hw.sz (fun a ha => (h.all a ha).1) (fun a ha => by rw [h0 a ha]; exact hw.1) h.ne (by omega)
  have hm := List.mem_of_getElem? ha
  obtain ⟨⟨o1, o2, o3, o4⟩, o5, o6⟩ := h.all a hm
  have zx := (fr_szX o3).mono (show 40 ≤ 70 by omega)
  have zy := (fr_szY o4).mono (show 60 ≤ 282 by omega)
  have zm := (fr_sz o6).mono (show 30 ≤ 141 by omega)
  have zw := hw.sz
  have ic : ixD (.tup (R.map cD)) (.int (i : Int)) = some (cD a) := ix_tup (by omega) (by rw [show (i : Int).toNat = i by omega]; exact get_map ha)
  have im : ixD (.tup (R.map mD)) (.int (i : Int)) = some (mD a) := ix_tup (by omega) (by rw [show (i : Int).toNat = i by omega]; exact get_map ha)
  refine ⟨a, hm, ?_, ?_, ?_, q1⟩
  · have p0 := fun ρ => k_require0 (Φ := tblO t_Curve_at o_Curve_at) (by omega) zw hw.1 ρ rfl
    have p1 := fun ρ => k_place (Φ := tblO t_Curve_at o_Curve_at) e ρ rfl
    have p2 := fun ρ => k_minus (Φ := tblO t_Curve_at o_Curve_at) (by omega) zw zx ρ rfl
    have p3 := fun ρ => k_times (Φ := tblO t_Curve_at o_Curve_at) (by omega) (sz_sub zw zx) zm ρ rfl
    have p4 := fun ρ => k_plus (Φ := tblO t_Curve_at o_Curve_at) (by omega) zy (sz_mul (sz_sub zw zx) zm) ρ rfl
    have u1 : (tblO t_Curve_at o_Curve_at).own "Curve" "kept_corners" = some .fld := by kernel_rfl
    have u2 : (tblO t_Curve_at o_Curve_at).own "Curve" "kept_slopes" = some .fld := by kernel_rfl
    unfold crv
    generalize R.map cD = cs at *
    generalize R.map mD = ms at *
    rw [f_Curve_at, run_mk, m_Curve_at]
    simp [sl0, b_nil, b_cons, s_set, s_stp, s_stq, s_tri, s_setF, s_mut, s_par, s_setIx, s_expr, s_app, s_ite, s_rvar, s_ret, s_raise, s_brk, s_pass, e_var, e_rd, e_cst, e_tup, e_lst, e_bin, e_neg, e_not, e_and, e_or, e_cmp, e_chain, e_ite, e_call, e_callio, e_bi, e_isi, e_iso, e_mem, e_get, e_getd, e_fld, e_meth, e_stup, e_slst, e_dup, e_ix, e_slc, e_dsp, l_nil, l_cons, o_none, o_some, x_nil, x_cons, setS, asgT, asgTs, sets, updS, Out.fr, io0, wrAt, Sl.isWr, ME.isRd, io_hd, fldF, u1, u2, fld_c, fld_s, p0, p1, p2, p3, p4, ic, im, cD, ptD, mD, valAt]
  · have p0 := fun ρ => k_require0 (Φ := tblO t_Curve_slope_behind o_Curve_slope_behind) (by omega) zw hw.1 ρ rfl
    have p1 := fun ρ => k_place (Φ := tblO t_Curve_slope_behind o_Curve_slope_behind) e ρ rfl
    have u1 : (tblO t_Curve_slope_behind o_Curve_slope_behind).own "Curve" "kept_corners" = some .fld := by kernel_rfl
    have u2 : (tblO t_Curve_slope_behind o_Curve_slope_behind).own "Curve" "kept_slopes" = some .fld := by kernel_rfl
    unfold crv
    generalize R.map cD = cs at *
    generalize R.map mD = ms at *
    rw [f_Curve_slope_behind, run_mk, m_Curve_slope_behind]
    simp [sl0, b_nil, b_cons, s_set, s_stp, s_stq, s_tri, s_setF, s_mut, s_par, s_setIx, s_expr, s_app, s_ite, s_rvar, s_ret, s_raise, s_brk, s_pass, e_var, e_rd, e_cst, e_tup, e_lst, e_bin, e_neg, e_not, e_and, e_or, e_cmp, e_chain, e_ite, e_call, e_callio, e_bi, e_isi, e_iso, e_mem, e_get, e_getd, e_fld, e_meth, e_stup, e_slst, e_dup, e_ix, e_slc, e_dsp, l_nil, l_cons, o_none, o_some, x_nil, x_cons, setS, asgT, asgTs, sets, updS, Out.fr, io0, wrAt, Sl.isWr, ME.isRd, io_hd, fldF, u1, u2, fld_c, fld_s, p0, p1, im, mD]
  · have sp := split_at ha
    have so := h.sorted
    rw [sp] at so
    have fl := filter_upto so q1 (fun b hb => q2 b (by rw [← hb]; simp))
    rw [← sp] at fl
    have lc : evE (tbl t_l_piece) lcW [.val (.lst (R.map rD)), .val (ofQ w), .non, .non] = .ok (true, .lst ((R.filter (fun r => !decide (w < r.1.1))).map rD)) [.val (.lst (R.map rD)), .val (ofQ w), .non, .non] := by
      refine lc_filter (ds := [.lst (R.map rD)]) rD R (fun r => !decide (w < r.1.1)) rD (by simp [sl0, b_nil, b_cons, s_set, s_stp, s_stq, s_tri, s_setF, s_mut, s_par, s_setIx, s_expr, s_app, s_ite, s_rvar, s_ret, s_raise, s_brk, s_pass, e_var, e_rd, e_cst, e_tup, e_lst, e_bin, e_neg, e_not, e_and, e_or, e_cmp, e_chain, e_ite, e_call, e_callio, e_bi, e_isi, e_iso, e_mem, e_get, e_getd, e_fld, e_meth, e_stup, e_slst, e_dup, e_ix, e_slc, e_dsp, l_nil, l_cons, o_none, o_some, x_nil, x_cons, setS, asgT, asgTs, sets, updS, Out.fr, io0, wrAt, Sl.isWr, ME.isRd, io_hd]) rfl (by unfold lim; omega) rfl fun t ht => ?_
      have zt := (fr_szX (h.all t ht).1.2.2.1).mono (show 40 ≤ 70 by omega)
      have p1 := fun ρ => k_lless (Φ := tbl t_l_piece) (by omega) (pair_q w) (pair_q t.1.1) zw zt ρ rfl
      generalize R.map rD = rs at *
      by_cases hq : w < t.1.1
      · simp [sl0, b_nil, b_cons, s_set, s_stp, s_stq, s_tri, s_setF, s_mut, s_par, s_setIx, s_expr, s_app, s_ite, s_rvar, s_ret, s_raise, s_brk, s_pass, e_var, e_rd, e_cst, e_tup, e_lst, e_bin, e_neg, e_not, e_and, e_or, e_cmp, e_chain, e_ite, e_call, e_callio, e_bi, e_isi, e_iso, e_mem, e_get, e_getd, e_fld, e_meth, e_stup, e_slst, e_dup, e_ix, e_slc, e_dsp, l_nil, l_cons, o_none, o_some, x_nil, x_cons, setS, asgT, asgTs, sets, updS, Out.fr, io0, wrAt, Sl.isWr, ME.isRd, io_hd, step1, lockV, wipeV, rdIdx, rD, cD, ptD, mD, p1, hq]
      · simp [sl0, b_nil, b_cons, s_set, s_stp, s_stq, s_tri, s_setF, s_mut, s_par, s_setIx, s_expr, s_app, s_ite, s_rvar, s_ret, s_raise, s_brk, s_pass, e_var, e_rd, e_cst, e_tup, e_lst, e_bin, e_neg, e_not, e_and, e_or, e_cmp, e_chain, e_ite, e_call, e_callio, e_bi, e_isi, e_iso, e_mem, e_get, e_getd, e_fld, e_meth, e_stup, e_slst, e_dup, e_ix, e_slc, e_dsp, l_nil, l_cons, o_none, o_some, x_nil, x_cons, setS, asgT, asgTs, sets, updS, Out.fr, io0, wrAt, Sl.isWr, ME.isRd, io_hd, step1, lockV, wipeV, rdIdx, rD, cD, ptD, mD, p1, hq]
    rw [fl, List.map_append, show [a].map rD = [rD a] from rfl] at lc
    have il := ix_last_l ((R.take i).map rD) (rD a)
    have p2 := fun ρ => k_lminus (Φ := tbl t_l_piece) (by omega) (pair_q w) (pair_q a.1.1) zw zx ρ rfl
    have p3 := fun ρ => k_ltimes (Φ := tbl t_l_piece) (by omega) (pair_q a.2) (pair_q (w - a.1.1)) zm (sz_sub zw zx) ρ rfl
    have p4 := fun ρ => C.k_sum2 (Φ := tbl t_l_piece) (by omega) (pair_q a.1.2) (pair_q (a.2 * (w - a.1.1))) zy (sz_mul zm (sz_sub zw zx)) ρ rfl
    have ev : a.1.2 + a.2 * (w - a.1.1) = valAt a w := by unfold valAt; grind
    generalize (R.take i).map rD ++ [rD a] = rs' at *
    generalize R.map rD = rs at *
    rw [f_l_piece, run_mk, m_l_piece_eq]
    simp [sl0, b_nil, b_cons, s_set, s_stp, s_stq, s_tri, s_setF, s_mut, s_par, s_setIx, s_expr, s_app, s_ite, s_rvar, s_ret, s_raise, s_brk, s_pass, e_var, e_rd, e_cst, e_tup, e_lst, e_bin, e_neg, e_not, e_and, e_or, e_cmp, e_chain, e_ite, e_call, e_callio, e_bi, e_isi, e_iso, e_mem, e_get, e_getd, e_fld, e_meth, e_stup, e_slst, e_dup, e_ix, e_slc, e_dsp, l_nil, l_cons, o_none, o_some, x_nil, x_cons, setS, asgT, asgTs, sets, updS, Out.fr, io0, wrAt, Sl.isWr, ME.isRd, io_hd, lc, il, rD, cD, ptD, mD, p2, p3, p4, ev]
end C

set_option exponentiation.threshold 2000
namespace C
open PySem PySem.Spec L2 Z S
theorem cut_y {v : Rat} : ∀ {R : List Row}, (R.Pairwise fun a b => a.1.1 < b.1.1 ∧ a.1.2 ≤ b.1.2) → (∀ r ∈ R, ¬ r.1.2 < v) ∨ ∃ A a B, R = A ++ a :: B ∧ (∀ r ∈ A, r.1.2 < v) ∧ a.1.2 < v ∧ (∀ r ∈ B, ¬ r.1.2 < v)
  | [], _ => .inl (by simp)
  | r :: R, h => by
    obtain ⟨p1, p2⟩ := List.pairwise_cons.mp h
    by_cases hr : r.1.2 < v
    · rcases cut_y (v := v) p2 with q | ⟨A, a, B, e, q1, q2, q3⟩
      · exact .inr ⟨[], r, R, rfl, by simp, hr, q⟩
      · refine .inr ⟨r :: A, a, B, by rw [e]; rfl, fun x hx => ?_, q2, q3⟩
        rcases List.mem_cons.mp hx with rfl | hx
        · exact hr
        · exact q1 x hx
    · refine .inl fun x hx => ?_
      rcases List.mem_cons.mp hx with rfl | hx
      · exact hr
      · have := (p1 x hx).2
        grind
theorem zipIdx_mem {α : Type} {l : List α} {k : Nat} {p : α × Nat} (h : p ∈ l.zipIdx k) : p.1 ∈ l := by
  have : p.1 ∈ (l.zipIdx k).map (·.1) := List.mem_map.mpr ⟨p, h, rfl⟩
  rwa [List.zipIdx_map_fst] at this
def belowL (R : List Row) (v : Rat) : List Int := (R.zipIdx.filter (fun p => decide (p.1.1.2 < v))).map fun p => ((p.2 : Nat) : Int)
theorem below_nil {R : List Row} {v : Rat} (h : ∀ r ∈ R, ¬ r.1.2 < v) : belowL R v = [] := by
  unfold belowL
  rw [List.filter_eq_nil_iff.mpr (fun p hp => by have := h _ (zipIdx_mem hp); simp [this])]
  rfl
theorem below_snoc {A B : List Row} {a : Row} {v : Rat} (h1 : ∀ r ∈ A, r.1.2 < v) (h2 : a.1.2 < v) (h3 : ∀ r ∈ B, ¬ r.1.2 < v) : ∃ X, belowL (A ++ a :: B) v = X ++ [((A.length : Nat) : Int)] := by
  unfold belowL
  rw [List.zipIdx_append, List.zipIdx_cons, List.filter_append, List.filter_cons]
  have e1 : A.zipIdx.filter (fun p => decide (p.1.1.2 < v)) = A.zipIdx := by
    rw [List.filter_eq_self]
    intro p hp
    have := h1 _ (zipIdx_mem hp)
    simp [this]
  have e3 : (B.zipIdx (0 + A.length + 1)).filter (fun p => decide (p.1.1.2 < v)) = [] := by
    rw [List.filter_eq_nil_iff]
    intro p hp
    have := h3 _ (zipIdx_mem hp)
    simp [this]
  rw [e1, e3, if_pos (by simp [h2])]
  exact ⟨A.zipIdx.map fun p => ((p.2 : Nat) : Int), by simp⟩
theorem pyAll_ints : ∀ is : List Int, pyAll (is.map D.int) = some (is.map PyData.int)
  | [] => rfl
  | i :: is => by simp [pyAll, D.py, pyAll_ints is]
theorem eq_nil_ints (is : List Int) : cmpD .Eq (.lst (is.map D.int)) (.lst []) = some (decide (is = [])) := by
  show eqD _ _ = _
  refine eqD_of ?_
  have h1 : ∀ is : List Int, PyData.canLayAll0 (is.map PyData.int) = true := fun is => by
    induction is with
    | nil => rfl
    | cons i is ih => simp [PyData.canLayAll0, PyData.canLay0, ih]
  have h2 : ∀ is : List Int, PyData.depthAll (is.map PyData.int) ≤ 1 := fun is => by
    induction is with
    | nil => simp [PyData.depthAll]
    | cons i is ih => simp only [List.map_cons, PyData.depthAll, PyData.depth]; omega
  have h3 : ∀ is : List Int, SeqAt.shaped (.list (is.map PyData.int)) = true := fun is => by
    have h := h2 is
    have e : SeqAt.shaped (.list (is.map PyData.int)) = (PyData.canLayAll0 (is.map PyData.int) && decide (PyData.depth (.list (is.map PyData.int)) ≤ 64)) := rfl
    rw [e, h1, Bool.true_and, decide_eq_true_eq]
    simp only [PyData.depth]
    omega
  unfold eqP
  simp only [D.py, pyAll_ints, pyAll]
  rw [h3, show SeqAt.shaped (.list []) = true from h3 []]
  cases is <;> simp [PyData.eqv, PyData.eqvAll]
theorem Lk.adj {last : Rat} {a b : Row} {B : List Row} : ∀ {A : List Row}, Lk last (A ++ a :: b :: B) → a.1.1 < b.1.1 ∧ sl a.1 b.1 = a.2
  | [], h => ⟨h.2.1, h.2.2.2.1⟩
  | [c], h => Lk.adj (A := []) h.2.2.2.2
  | c :: d :: A, h => Lk.adj (A := d :: A) h.2.2.2.2
theorem sl_pos {last v : Rat} {A B : List Row} {a b : Row} (h : Lk last (A ++ a :: b :: B)) (h1 : a.1.2 < v) (h2 : ¬ b.1.2 < v) : 0 < a.2 := by
  obtain ⟨q1, q2⟩ := h.adj
  rw [← q2]
  unfold sl
  exact quo_pos (by grind) (by grind)
theorem it_enum_t (R : List Row) (f : Row → D) : itD 3 [.tup (R.map f)] = some (R.zipIdx.map fun p => D.tup [.int ((p.2 : Nat) : Int), f p.1]) := by
  show some (((R.map f).zipIdx).map fun p => D.tup [.int (p.2 : Nat), p.1]) = _
  rw [List.zipIdx_map, List.map_map]
  rfl
theorem it_enum_l (R : List Row) (f : Row → D) : itD 3 [.lst (R.map f)] = some (R.zipIdx.map fun p => D.tup [.int ((p.2 : Nat) : Int), f p.1]) := by
  show some (((R.map f).zipIdx).map fun p => D.tup [.int (p.2 : Nat), p.1]) = _
  rw [List.zipIdx_map, List.map_map]
  rfl
def lcL : ME := .lc (.var 6) [6, 7] (.tp [6, 7]) 3 [(.fld (.var 0) "kept_corners")] (some (.call "is_less" [(.ix (.rd 7) (.cst (.int 1))), (.var 1)]))
theorem m_Curve_least_eq : m_Curve_least = [.expr (.call "require_number" [(.var 1), (.cst (.int 0))]), .set (.nm 2) lcL, .ite (.cmp .Eq (.rd 2) (.lst [])) [.ret (.cst (.int 0))] [], .set (.tp [4, 5]) (.ix (.fld (.var 0) "kept_corners") (.ix (.rd 2) (.neg (.cst (.int 1))))), .set (.nm 3) (.ix (.fld (.var 0) "kept_slopes") (.ix (.rd 2) (.neg (.cst (.int 1))))), .ret (.ite
   (.cmp .Eq (.rd 3) (.cst (.int 0))) (.cst .non) (.call "plus" [(.var 4), (.call "over" [(.call "minus" [(.var 1), (.var 5)]), (.var 3)])]))] := rfl
/-- what least finds -/
def leastAt (a : Row) (v : Rat) : D := if a.2 = 0 then .non else ofQ (a.1.1 + (v - a.1.2) / a.2)
theorem least_cmp {R : List Row} {last v : Rat} (h : Lk last R) (hl : R.length ≤ 900) (hv : WsOk v) : evE (tblO t_Curve_least o_Curve_least) lcL [.val (crv R), .val (ofQ v), .non, .non, .non, .non, .non, .non] = .ok (true, .lst ((belowL R v).map D.int)) [.val (crv R), .val (ofQ v), .non, .non, .non, .non, .non, .non] := by
  have u1 : (tblO t_Curve_least o_Curve_least).own "Curve" "kept_corners" = some .fld := by kernel_rfl
  have e : (belowL R v).map D.int = (R.zipIdx.filter (fun p => decide (p.1.1.2 < v))).map fun p => D.int ((p.2 : Nat) : Int) := by
    unfold belowL
    rw [List.map_map]; rfl
  rw [e]
  have it := it_enum_t R cD
  have all := fun t ht => (h.all t ht).1.2.2.2
  have hv' := hv.sz
  have ln : R.zipIdx.length ≤ lim := by rw [List.length_zipIdx]; unfold lim; omega
  have mem : ∀ t ∈ R.zipIdx, t.1 ∈ R := fun t ht => zipIdx_mem ht
  unfold crv
  refine lc_filter (ds := [.tup (R.map cD)]) (fun p : Row × Nat => D.tup [.int ((p.2 : Nat) : Int), cD p.1]) R.zipIdx (fun p => decide (p.1.1.2 < v)) (fun p => D.int ((p.2 : Nat) : Int)) ?_ it ln rfl fun t ht => ?_
  · generalize R.map cD = cs at *
    simp [sl0, b_nil, b_cons, s_set, s_stp, s_stq, s_tri, s_setF, s_mut, s_par, s_setIx, s_expr, s_app, s_ite, s_rvar, s_ret, s_raise, s_brk, s_pass, e_var, e_rd, e_cst, e_tup, e_lst, e_bin, e_neg, e_not, e_and, e_or, e_cmp, e_chain, e_ite, e_call, e_callio, e_bi, e_isi, e_iso, e_mem, e_get, e_getd, e_fld, e_meth, e_stup, e_slst, e_dup, e_ix, e_slc, e_dsp, l_nil, l_cons, o_none, o_some, x_nil, x_cons, setS, asgT, asgTs, sets, updS, Out.fr, io0, wrAt, Sl.isWr, ME.isRd, io_hd, fldF, u1, fld_c]
  · have zy := (fr_szY (all t.1 (mem t ht))).mono (show 60 ≤ 100 by omega)
    have p1 := fun ρ => k_isless (Φ := tblO t_Curve_least o_Curve_least) (by omega) zy hv' ρ rfl
    generalize R.map cD = cs at *
    generalize R.map mD = ms at *
    by_cases hq : t.1.1.2 < v
    · simp [sl0, b_nil, b_cons, s_set, s_stp, s_stq, s_tri, s_setF, s_mut, s_par, s_setIx, s_expr, s_app, s_ite, s_rvar, s_ret, s_raise, s_brk, s_pass, e_var, e_rd, e_cst, e_tup, e_lst, e_bin, e_neg, e_not, e_and, e_or, e_cmp, e_chain, e_ite, e_call, e_callio, e_bi, e_isi, e_iso, e_mem, e_get, e_getd, e_fld, e_meth, e_stup, e_slst, e_dup, e_ix, e_slc, e_dsp, l_nil, l_cons, o_none, o_some, x_nil, x_cons, setS, asgT, asgTs, sets, updS, Out.fr, io0, wrAt, Sl.isWr, ME.isRd, io_hd, step1, lockV, wipeV, rdIdx, cD, ptD, p1, hq]
    · simp [sl0, b_nil, b_cons, s_set, s_stp, s_stq, s_tri, s_setF, s_mut, s_par, s_setIx, s_expr, s_app, s_ite, s_rvar, s_ret, s_raise, s_brk, s_pass, e_var, e_rd, e_cst, e_tup, e_lst, e_bin, e_neg, e_not, e_and, e_or, e_cmp, e_chain, e_ite, e_call, e_callio, e_bi, e_isi, e_iso, e_mem, e_get, e_getd, e_fld, e_meth, e_stup, e_slst, e_dup, e_ix, e_slc, e_dsp, l_nil, l_cons, o_none, o_some, x_nil, x_cons, setS, asgT, asgTs, sets, updS, Out.fr, io0, wrAt, Sl.isWr, ME.isRd, io_hd, step1, lockV, wipeV, rdIdx, cD, ptD, p1, hq]
theorem r_least {R : List Row} {last v : Rat} (h : Lk last R) (hl : R.length ≤ 900) (hv : WsOk v) :
    ((∀ r ∈ R, ¬ r.1.2 < v) → f_Curve_least.run [crv R, ofQ v] = .ok (.int 0) .non) ∧ ∀ A a B, R = A ++ a :: B → (∀ r ∈ A, r.1.2 < v) → a.1.2 < v → (∀ r ∈ B, ¬ r.1.2 < v) → f_Curve_least.run [crv R, ofQ v] = .ok (leastAt a v) .non := by
  have lc := least_cmp h hl hv
  have u1 : (tblO t_Curve_least o_Curve_least).own "Curve" "kept_corners" = some .fld := by kernel_rfl
  have u2 : (tblO t_Curve_least o_Curve_least).own "Curve" "kept_slopes" = some .fld := by kernel_rfl
  have p0 := fun ρ => k_require0 (Φ := tblO t_Curve_least o_Curve_least) (by omega) hv.sz hv.1 ρ rfl
  constructor
  · intro hb
    rw [below_nil hb] at lc
    have en := eq_nil_ints []
    rw [f_Curve_least, run_mk, m_Curve_least_eq]
    simp only [List.map_nil] at lc en
    simp [sl0, b_nil, b_cons, s_set, s_stp, s_stq, s_tri, s_setF, s_mut, s_par, s_setIx, s_expr, s_app, s_ite, s_rvar, s_ret, s_raise, s_brk, s_pass, e_var, e_rd, e_cst, e_tup, e_lst, e_bin, e_neg, e_not, e_and, e_or, e_cmp, e_chain, e_ite, e_call, e_callio, e_bi, e_isi, e_iso, e_mem, e_get, e_getd, e_fld, e_meth, e_stup, e_slst, e_dup, e_ix, e_slc, e_dsp, l_nil, l_cons, o_none, o_some, x_nil, x_cons, setS, asgT, asgTs, sets, updS, Out.fr, io0, wrAt, Sl.isWr, ME.isRd, io_hd, p0, lc, en]
  · intro A a B e h1 h2 h3
    obtain ⟨X, hX⟩ := below_snoc h1 h2 h3
    rw [← e] at hX
    rw [hX] at lc
    have en := eq_nil_ints (X ++ [((A.length : Nat) : Int)])
    rw [decide_eq_false (by simp)] at en
    have il := ix_last_l (X.map D.int) (.int ((A.length : Nat) : Int))
    rw [List.map_append, show [((A.length : Nat) : Int)].map D.int = [.int ((A.length : Nat) : Int)] from rfl] at lc en
    have ha : R[A.length]? = some a := by rw [e]; simp
    obtain ⟨⟨o1, o2, o3, o4⟩, o5, o6⟩ := h.all a (List.mem_of_getElem? ha)
    have zx := (fr_szX o3).mono (show 40 ≤ 402 by omega)
    have zy := (fr_szY o4).mono (show 60 ≤ 100 by omega)
    have zm := (fr_sz o6).mono (show 30 ≤ 201 by omega)
    have ic : ixD (.tup (R.map cD)) (.int ((A.length : Nat) : Int)) = some (cD a) := ix_tup (by omega) (by rw [show ((A.length : Nat) : Int).toNat = A.length by omega]; exact get_map ha)
    have im : ixD (.tup (R.map mD)) (.int ((A.length : Nat) : Int)) = some (mD a) := ix_tup (by omega) (by rw [show ((A.length : Nat) : Int).toNat = A.length by omega]; exact get_map ha)
    have ez := c_eqq a.2 0
    rw [z0] at ez
    have p2 := fun ρ => k_minus (Φ := tblO t_Curve_least o_Curve_least) (by omega) hv.sz zy ρ rfl
    unfold leastAt crv at *
    generalize X.map D.int ++ [D.int ((A.length : Nat) : Int)] = bs at *
    generalize R.map cD = cs at *
    generalize R.map mD = ms at *
    rw [f_Curve_least, run_mk, m_Curve_least_eq]
    by_cases hm : a.2 = 0
    · rw [decide_eq_true hm] at ez
      rw [if_pos hm]
      simp [sl0, b_nil, b_cons, s_set, s_stp, s_stq, s_tri, s_setF, s_mut, s_par, s_setIx, s_expr, s_app, s_ite, s_rvar, s_ret, s_raise, s_brk, s_pass, e_var, e_rd, e_cst, e_tup, e_lst, e_bin, e_neg, e_not, e_and, e_or, e_cmp, e_chain, e_ite, e_call, e_callio, e_bi, e_isi, e_iso, e_mem, e_get, e_getd, e_fld, e_meth, e_stup, e_slst, e_dup, e_ix, e_slc, e_dsp, l_nil, l_cons, o_none, o_some, x_nil, x_cons, setS, asgT, asgTs, sets, updS, Out.fr, io0, wrAt, Sl.isWr, ME.isRd, io_hd, p0, lc, en, il, fldF, u1, u2, fld_c, fld_s, ic, im, cD, ptD, mD, ez]
    · have p3 := fun ρ => k_over (Φ := tblO t_Curve_least o_Curve_least) (by omega) (sz_sub hv.sz zy) zm hm ρ rfl
      have p4 := fun ρ => k_plus (Φ := tblO t_Curve_least o_Curve_least) (by omega) zx (sz_quo (sz_sub hv.sz zy) zm hm) ρ rfl
      simp [sl0, b_nil, b_cons, s_set, s_stp, s_stq, s_tri, s_setF, s_mut, s_par, s_setIx, s_expr, s_app, s_ite, s_rvar, s_ret, s_raise, s_brk, s_pass, e_var, e_rd, e_cst, e_tup, e_lst, e_bin, e_neg, e_not, e_and, e_or, e_cmp, e_chain, e_ite, e_call, e_callio, e_bi, e_isi, e_iso, e_mem, e_get, e_getd, e_fld, e_meth, e_stup, e_slst, e_dup, e_ix, e_slc, e_dsp, l_nil, l_cons, o_none, o_some, x_nil, x_cons, setS, asgT, asgTs, sets, updS, Out.fr, io0, wrAt, Sl.isWr, ME.isRd, io_hd, p0, lc, en, il, fldF, u1, u2, fld_c, fld_s, ic, im, cD, ptD, mD, ez, hm, p2, p3, p4]
end C

set_option exponentiation.threshold 2000
namespace C
open PySem PySem.Spec L2 Z S
def IFi (rs : List D) (v : Rat) (ρ : Vn) : Prop := ∃ s2 s3 s4 s5 s6 s7 : Sl, ρ = [.val (.lst rs), .val (ofQ v), s2, s3, s4, s5, s6, s7] ∧ s2.free = true ∧ s3.free = true ∧ s4.free = true ∧ s5.free = true ∧ s6.free = true ∧ s7.free = true
def enD (p : Row × Nat) : D := .tup [.int ((p.2 : Nat) : Int), rD p.1]
/-- a turn that goes on -/
theorem first_next {R : List Row} {v : Rat} {j : Nat} {t n : Row} {ρ : Vn} (hv : WsOk v) (hn : R[j + 1]? = some n) (pn : PtOk n.1) (mt : SlOk t.2) (hy : n.1.2 < v) (hI : IFi (R.map rD) v ρ) : ∃ ρ1 ρ2, asgT (.tp [2, 3]) (enD (t, j)) ρ = some ρ1 ∧ exB (tbl t_l_first) fuelN b1_l_first ρ1 = .nx ρ2 ∧ IFi (R.map rD) v ρ2 := by
  obtain ⟨s2, s3, s4, s5, s6, s7, rfl, f2, f3, f4, f5, f6, f7⟩ := hI
  have hj : j + 1 < R.length := (List.getElem?_eq_some_iff.mp hn).1
  have ln : (R.map rD).length = R.length := List.length_map ..
  have i1 : ixD (.lst (R.map rD)) (.int ((j : Int) + 1)) = some (rD n) := ix_lst (by omega) (by rw [show ((j : Int) + 1).toNat = j + 1 by omega]; exact get_map hn)
  have zy := (fr_szY pn.2.2.2).mono (show 60 ≤ 100 by omega)
  have p1 := fun ρ => k_lless (Φ := tbl t_l_first) (by omega) (pair_q n.1.2) (pair_q v) zy hv.sz ρ rfl
  have c1 : (j : Int) + 1 < R.length := by omega
  have ez := c_neq t.2 0
  rw [z0] at ez
  generalize R.map rD = rs at *
  refine ⟨[.val (.lst rs), .val (ofQ v), .val (.int j), .val (rD t), s4, s5, s6, s7], [.val (.lst rs), .val (ofQ v), .val (.int j), .val (rD t), .val (.bl false), .val (ofQ t.2), .val (ofQ t.1.1), .val (ofQ t.1.2)], by simp [enD, asgT, sets, setS, f2, f3], ?_, _, _, _, _, _, _, rfl, rfl, rfl, rfl, rfl, rfl, rfl⟩
  simp [sl0, b_nil, b_cons, s_set, s_stp, s_stq, s_tri, s_setF, s_mut, s_par, s_setIx, s_expr, s_app, s_ite, s_rvar, s_ret, s_raise, s_brk, s_pass, e_var, e_rd, e_cst, e_tup, e_lst, e_bin, e_neg, e_not, e_and, e_or, e_cmp, e_chain, e_ite, e_call, e_callio, e_bi, e_isi, e_iso, e_mem, e_get, e_getd, e_fld, e_meth, e_stup, e_slst, e_dup, e_ix, e_slc, e_dsp, l_nil, l_cons, o_none, o_some, x_nil, x_cons, setS, asgT, asgTs, sets, updS, Out.fr, io0, wrAt, Sl.isWr, ME.isRd, io_hd, b1_l_first, rD, cD, ptD, mD, f4, f5, f6, f7, ez, ln, c1, i1, p1, hy]
/-- the turn that ends it, or the last -/
theorem first_stop {R : List Row} {v : Rat} {j : Nat} {t : Row} {ρ : Vn} (hv : WsOk v) (pt : PtOk t.1) (mt : SlOk t.2) (hn : ∀ n, R[j + 1]? = some n → PtOk n.1 ∧ ¬ n.1.2 < v ∧ 0 < t.2) (hjr : j < R.length) (hI : IFi (R.map rD) v ρ) :
    ∃ ρ1, asgT (.tp [2, 3]) (enD (t, j)) ρ = some ρ1 ∧ ((t.2 ≠ 0 ∧ ∃ ρ2, exB (tbl t_l_first) fuelN b1_l_first ρ1 = .rt false (ofQ (t.1.1 + (v - t.1.2) / t.2)) ρ2) ∨ (t.2 = 0 ∧ j + 1 = R.length ∧ ∃ ρ2, exB (tbl t_l_first) fuelN b1_l_first ρ1 = .nx ρ2)) := by
  obtain ⟨s2, s3, s4, s5, s6, s7, rfl, f2, f3, f4, f5, f6, f7⟩ := hI
  have ln : (R.map rD).length = R.length := List.length_map ..
  have zx := (fr_szX pt.2.2.1).mono (show 40 ≤ 402 by omega)
  have zy := (fr_szY pt.2.2.2).mono (show 60 ≤ 100 by omega)
  have zm := (sl_sz mt).mono (show 30 ≤ 201 by omega)
  have ez := c_neq t.2 0
  rw [z0] at ez
  have fin : 0 < t.2 → ∀ ρ, ρ = [Sl.val (.lst (R.map rD)), .val (ofQ v), .val (.int j), .val (rD t), .val (.bl true), .val (ofQ t.2), .val (ofQ t.1.1), .val (ofQ t.1.2)] → exB (tbl t_l_first) fuelN [.ite (.var 4) [.ret (.call "_law_sum" [(.lst [(.var 6), (.call "_law_over" [(.call "_law_minus" [(.var 1), (.var 7)]), (.var 5)])])])] []] ρ = .rt false (ofQ (t.1.1 + (v - t.1.2) / t.2)) ρ := fun hp ρ e => by
    subst e
    have p2 := fun ρ => k_lminus (Φ := tbl t_l_first) (by omega) (pair_q v) (pair_q t.1.2) hv.sz zy ρ rfl
    have p3 := fun ρ => k_lover (Φ := tbl t_l_first) (by omega) (pair_q (v - t.1.2)) (pair_q t.2) (sz_sub hv.sz zy) zm hp ρ rfl
    have p4 := fun ρ => C.k_sum2 (Φ := tbl t_l_first) (by omega) (pair_q t.1.1) (pair_q ((v - t.1.2) / t.2)) zx (sz_quo (sz_sub hv.sz zy) zm (by grind)) ρ rfl
    generalize R.map rD = rs at *
    simp [sl0, b_nil, b_cons, s_set, s_stp, s_stq, s_tri, s_setF, s_mut, s_par, s_setIx, s_expr, s_app, s_ite, s_rvar, s_ret, s_raise, s_brk, s_pass, e_var, e_rd, e_cst, e_tup, e_lst, e_bin, e_neg, e_not, e_and, e_or, e_cmp, e_chain, e_ite, e_call, e_callio, e_bi, e_isi, e_iso, e_mem, e_get, e_getd, e_fld, e_meth, e_stup, e_slst, e_dup, e_ix, e_slc, e_dsp, l_nil, l_cons, o_none, o_some, x_nil, x_cons, setS, asgT, asgTs, sets, updS, Out.fr, io0, wrAt, Sl.isWr, ME.isRd, io_hd, p2, p3, p4]
  have bd : b1_l_first = [.set (.tq [(.tq [(.nm 6), (.nm 7)]), (.nm 5)]) (.var 3), .set (.nm 4) (.cmp .NotEq (.rd 5) (.cst (.int 0))), .ite (.cmp .Lt (.bin .Add (.rd 2) (.cst (.int 1))) (.bi "len" [(.rd 0)])) [.set (.nm 4) (.not (.call "_law_less" [(.ix (.ix
   (.ix (.rd 0) (.bin .Add (.rd 2) (.cst (.int 1)))) (.cst (.int 0))) (.cst (.int 1))), (.var 1)]))] []] ++ [.ite (.var 4) [.ret (.call "_law_sum" [(.lst [(.var 6), (.call "_law_over" [(.call "_law_minus" [(.var 1), (.var 7)]), (.var 5)])])])]
   []] := rfl
  refine ⟨[.val (.lst (R.map rD)), .val (ofQ v), .val (.int j), .val (rD t), s4, s5, s6, s7], by simp [enD, asgT, sets, setS, f2, f3], ?_⟩
  by_cases hj : j + 1 < R.length
  · obtain ⟨n, hn'⟩ : ∃ n, R[j + 1]? = some n := ⟨R[j + 1], by simp⟩
    obtain ⟨pn, hy, hp⟩ := hn n hn'
    have i1 : ixD (.lst (R.map rD)) (.int ((j : Int) + 1)) = some (rD n) := ix_lst (by omega) (by rw [show ((j : Int) + 1).toNat = j + 1 by omega]; exact get_map hn')
    have zy' := (fr_szY pn.2.2.2).mono (show 60 ≤ 100 by omega)
    have p1 := fun ρ => k_lless (Φ := tbl t_l_first) (by omega) (pair_q n.1.2) (pair_q v) zy' hv.sz ρ rfl
    have c1 : (j : Int) + 1 < R.length := by omega
    have hne : t.2 ≠ 0 := by grind
    left
    refine ⟨hne, [.val (.lst (R.map rD)), .val (ofQ v), .val (.int j), .val (rD t), .val (.bl true), .val (ofQ t.2), .val (ofQ t.1.1), .val (ofQ t.1.2)], ?_⟩
    rw [bd, exB_app_nx (ρ1 := [.val (.lst (R.map rD)), .val (ofQ v), .val (.int j), .val (rD t), .val (.bl true), .val (ofQ t.2), .val (ofQ t.1.1), .val (ofQ t.1.2)]) ?_, fin hp _ rfl]
    generalize R.map rD = rs at *
    simp [sl0, b_nil, b_cons, s_set, s_stp, s_stq, s_tri, s_setF, s_mut, s_par, s_setIx, s_expr, s_app, s_ite, s_rvar, s_ret, s_raise, s_brk, s_pass, e_var, e_rd, e_cst, e_tup, e_lst, e_bin, e_neg, e_not, e_and, e_or, e_cmp, e_chain, e_ite, e_call, e_callio, e_bi, e_isi, e_iso, e_mem, e_get, e_getd, e_fld, e_meth, e_stup, e_slst, e_dup, e_ix, e_slc, e_dsp, l_nil, l_cons, o_none, o_some, x_nil, x_cons, setS, asgT, asgTs, sets, updS, Out.fr, io0, wrAt, Sl.isWr, ME.isRd, io_hd, rD, cD, ptD, mD, f4, f5, f6, f7, ez, ln, c1, i1, p1, hy]
  · have c1 : ¬ (j : Int) + 1 < R.length := by omega
    by_cases hm : t.2 = 0
    · right
      rw [decide_eq_true hm] at ez
      refine ⟨hm, by omega, [.val (.lst (R.map rD)), .val (ofQ v), .val (.int j), .val (rD t), .val (.bl false), .val (ofQ t.2), .val (ofQ t.1.1), .val (ofQ t.1.2)], ?_⟩
      generalize R.map rD = rs at *
      simp [sl0, b_nil, b_cons, s_set, s_stp, s_stq, s_tri, s_setF, s_mut, s_par, s_setIx, s_expr, s_app, s_ite, s_rvar, s_ret, s_raise, s_brk, s_pass, e_var, e_rd, e_cst, e_tup, e_lst, e_bin, e_neg, e_not, e_and, e_or, e_cmp, e_chain, e_ite, e_call, e_callio, e_bi, e_isi, e_iso, e_mem, e_get, e_getd, e_fld, e_meth, e_stup, e_slst, e_dup, e_ix, e_slc, e_dsp, l_nil, l_cons, o_none, o_some, x_nil, x_cons, setS, asgT, asgTs, sets, updS, Out.fr, io0, wrAt, Sl.isWr, ME.isRd, io_hd, b1_l_first, rD, cD, ptD, mD, f4, f5, f6, f7, ez, ln, c1]
    · left
      have hp : 0 < t.2 := by have := mt.1; grind
      rw [decide_eq_false hm] at ez
      refine ⟨hm, [.val (.lst (R.map rD)), .val (ofQ v), .val (.int j), .val (rD t), .val (.bl true), .val (ofQ t.2), .val (ofQ t.1.1), .val (ofQ t.1.2)], ?_⟩
      rw [bd, exB_app_nx (ρ1 := [.val (.lst (R.map rD)), .val (ofQ v), .val (.int j), .val (rD t), .val (.bl true), .val (ofQ t.2), .val (ofQ t.1.1), .val (ofQ t.1.2)]) ?_, fin hp _ rfl]
      generalize R.map rD = rs at *
      simp [sl0, b_nil, b_cons, s_set, s_stp, s_stq, s_tri, s_setF, s_mut, s_par, s_setIx, s_expr, s_app, s_ite, s_rvar, s_ret, s_raise, s_brk, s_pass, e_var, e_rd, e_cst, e_tup, e_lst, e_bin, e_neg, e_not, e_and, e_or, e_cmp, e_chain, e_ite, e_call, e_callio, e_bi, e_isi, e_iso, e_mem, e_get, e_getd, e_fld, e_meth, e_stup, e_slst, e_dup, e_ix, e_slc, e_dsp, l_nil, l_cons, o_none, o_some, x_nil, x_cons, setS, asgT, asgTs, sets, updS, Out.fr, io0, wrAt, Sl.isWr, ME.isRd, io_hd, rD, cD, ptD, mD, f4, f5, f6, f7, ez, ln, c1]
theorem r_lfirst {R : List Row} {last v : Rat} (h : Lk last R) (hv : WsOk v) :
    ((∀ r ∈ R, ¬ r.1.2 < v) → f_l_first.run [.lst (R.map rD), ofQ v] = .ok (.int 0) .non) ∧ ∀ A a B, R = A ++ a :: B → (∀ r ∈ A, r.1.2 < v) → a.1.2 < v → (∀ r ∈ B, ¬ r.1.2 < v) → f_l_first.run [.lst (R.map rD), ofQ v] = .ok (leastAt a v) .non := by
  obtain ⟨r0, R', e0⟩ : ∃ r0 R', R = r0 :: R' := by cases R with | nil => exact h.elim | cons a r => exact ⟨a, r, rfl⟩
  have h0 : r0 ∈ R := by rw [e0]; simp
  have i0 : ixD (.lst (R.map rD)) (.int 0) = some (rD r0) := by rw [e0]; rfl
  have zy := (fr_szY (h.all r0 h0).1.2.2.2).mono (show 60 ≤ 100 by omega)
  have p1 := fun ρ => k_lless (Φ := tbl t_l_first) (by omega) (pair_q r0.1.2) (pair_q v) zy hv.sz ρ rfl
  constructor
  · intro hb
    have hq := hb r0 h0
    generalize R.map rD = rs at *
    rw [f_l_first, run_mk, m_l_first]
    simp [sl0, b_nil, b_cons, s_set, s_stp, s_stq, s_tri, s_setF, s_mut, s_par, s_setIx, s_expr, s_app, s_ite, s_rvar, s_ret, s_raise, s_brk, s_pass, e_var, e_rd, e_cst, e_tup, e_lst, e_bin, e_neg, e_not, e_and, e_or, e_cmp, e_chain, e_ite, e_call, e_callio, e_bi, e_isi, e_iso, e_mem, e_get, e_getd, e_fld, e_meth, e_stup, e_slst, e_dup, e_ix, e_slc, e_dsp, l_nil, l_cons, o_none, o_some, x_nil, x_cons, setS, asgT, asgTs, sets, updS, Out.fr, io0, wrAt, Sl.isWr, ME.isRd, io_hd, i0, rD, cD, ptD, p1, hq]
  · intro A a B e h1 h2 h3
    have hq : r0.1.2 < v := by
      cases A with
      | nil => rw [e] at e0; cases e0; exact h2
      | cons x A => rw [e] at e0; cases e0; exact h1 _ (by simp)
    have ma : a ∈ R := by rw [e]; simp
    obtain ⟨ρ', pre, hI⟩ := forGo_pre (tg := .tp [2, 3]) (body := exB (tbl t_l_first) fuelN b1_l_first) enD (fun _ ρ => IFi (R.map rD) v ρ) (ts := A.zipIdx) (done := []) (ρ := [.val (.lst (R.map rD)), .val (ofQ v), .non, .non, .non, .non, .non, .non]) ⟨_, _, _, _, _, _, rfl, rfl, rfl, rfl, rfl, rfl, rfl⟩ (by
      intro d t r ρ hsp hI
      rw [List.nil_append] at hsp
      have ht : A.zipIdx[d.length]? = some t := by rw [hsp]; simp
      rw [List.getElem?_zipIdx] at ht
      obtain ⟨x, hx, ex⟩ := Option.map_eq_some_iff.mp ht
      subst ex
      have hd : d.length < A.length := (List.getElem?_eq_some_iff.mp hx).1
      obtain ⟨n, hn, hy⟩ : ∃ n, R[d.length + 1]? = some n ∧ n.1.2 < v := by
        by_cases hl : d.length + 1 < A.length
        · refine ⟨A[d.length + 1], by rw [e, List.getElem?_append_left hl]; simp, h1 _ (List.getElem_mem hl)⟩
        · refine ⟨a, by rw [e, List.getElem?_append_right (by omega), show d.length + 1 - A.length = 0 by omega]; rfl, h2⟩
      rw [Nat.zero_add]
      exact first_next hv hn (h.all n (List.mem_of_getElem? hn)).1 (h.all x (by rw [e]; exact List.mem_append_left _ (List.mem_of_getElem? hx))).2 hy hI)
    have hjr : A.length < R.length := by rw [e]; simp
    obtain ⟨ρ1, g1, g2⟩ := first_stop (R := R) (v := v) (j := A.length) (t := a) hv (h.all a ma).1 (h.all a ma).2 (fun n hn => by
      rw [e, List.getElem?_append_right (by omega), show A.length + 1 - A.length = 1 by omega] at hn
      cases B with
      | nil => simp at hn
      | cons b B =>
        simp at hn
        subst hn
        refine ⟨(h.all b (by rw [e]; simp)).1, h3 b (by simp), ?_⟩
        rw [e] at h
        exact sl_pos h h2 (h3 b (by simp))) hjr hI
    have split : R.zipIdx.map enD = A.zipIdx.map enD ++ enD (a, A.length) :: (B.zipIdx (A.length + 1)).map enD := by
      rw [e, List.zipIdx_append, List.zipIdx_cons, List.map_append, List.map_cons]
      simp
    have it : itD 3 [.lst (R.map rD)] = some (R.zipIdx.map enD) := it_enum_l R rD
    have es : ∀ X, exS (tbl t_l_first) fuelN (.ite (.not (.call "_law_less" [(.ix (.ix (.ix (.rd 0) (.cst (.int 0))) (.cst (.int 0))) (.cst (.int 1))), (.var 1)])) [.ret (.cst (.int 0))] []) [.val (.lst (R.map rD)), .val (ofQ v), .non, .non, .non, .non, .non, .non] = .nx [.val (.lst (R.map rD)), .val (ofQ v), .non, .non, .non, .non, .non, .non] ∨ X := fun X => .inl (by
      generalize R.map rD = rs at *
      simp [sl0, b_nil, b_cons, s_set, s_stp, s_stq, s_tri, s_setF, s_mut, s_par, s_setIx, s_expr, s_app, s_ite, s_rvar, s_ret, s_raise, s_brk, s_pass, e_var, e_rd, e_cst, e_tup, e_lst, e_bin, e_neg, e_not, e_and, e_or, e_cmp, e_chain, e_ite, e_call, e_callio, e_bi, e_isi, e_iso, e_mem, e_get, e_getd, e_fld, e_meth, e_stup, e_slst, e_dup, e_ix, e_slc, e_dsp, l_nil, l_cons, o_none, o_some, x_nil, x_cons, setS, asgT, asgTs, sets, updS, Out.fr, io0, wrAt, Sl.isWr, ME.isRd, io_hd, i0, rD, cD, ptD, p1, hq])
    have es := (es False).resolve_right id
    unfold leastAt
    rw [f_l_first, run_mk, m_l_first, show sl0 false 8 [.lst (R.map rD), ofQ v] = [.val (.lst (R.map rD)), .val (ofQ v), .non, .non, .non, .non, .non, .non] from rfl, exB_nx es]
    rcases g2 with ⟨hm, ρ2, g2⟩ | ⟨hm, hj, ρ2, g2⟩
    · rw [if_neg hm]
      have lp : forGo (.tp [2, 3]) (exB (tbl t_l_first) fuelN b1_l_first) (R.zipIdx.map enD) [.val (.lst (R.map rD)), .val (ofQ v), .non, .non, .non, .non, .non, .non] = .rt false (ofQ (a.1.1 + (v - a.1.2) / a.2)) ρ2 := by
        rw [split, pre]
        simp only [forGo, g1, g2]
      rw [exB_rt (for_rt (ρ1 := [.val (.lst (R.map rD)), .val (ofQ v), .non, .non, .non, .non, .non, .non]) (ds := [.lst (R.map rD)]) (by simp [sl0, b_nil, b_cons, s_set, s_stp, s_stq, s_tri, s_setF, s_mut, s_par, s_setIx, s_expr, s_app, s_ite, s_rvar, s_ret, s_raise, s_brk, s_pass, e_var, e_rd, e_cst, e_tup, e_lst, e_bin, e_neg, e_not, e_and, e_or, e_cmp, e_chain, e_ite, e_call, e_callio, e_bi, e_isi, e_iso, e_mem, e_get, e_getd, e_fld, e_meth, e_stup, e_slst, e_dup, e_ix, e_slc, e_dsp, l_nil, l_cons, o_none, o_some, x_nil, x_cons, setS, asgT, asgTs, sets, updS, Out.fr, io0, wrAt, Sl.isWr, ME.isRd, io_hd]) it lp rfl)]
      simp [Out.fr, io0]
    · rw [if_pos hm]
      have eB : B = [] := by
        rw [e] at hj
        simp at hj
        cases B with
        | nil => rfl
        | cons b B => simp at hj
      subst eB
      have lp : forGo (.tp [2, 3]) (exB (tbl t_l_first) fuelN b1_l_first) (R.zipIdx.map enD) [.val (.lst (R.map rD)), .val (ofQ v), .non, .non, .non, .non, .non, .non] = .nx ρ2 := by
        rw [split, pre]
        simp only [forGo, g1, g2, List.zipIdx_nil, List.map_nil]
      rw [exB_nx (for_nx (ρ1 := [.val (.lst (R.map rD)), .val (ofQ v), .non, .non, .non, .non, .non, .non]) (ds := [.lst (R.map rD)]) (by simp [sl0, b_nil, b_cons, s_set, s_stp, s_stq, s_tri, s_setF, s_mut, s_par, s_setIx, s_expr, s_app, s_ite, s_rvar, s_ret, s_raise, s_brk, s_pass, e_var, e_rd, e_cst, e_tup, e_lst, e_bin, e_neg, e_not, e_and, e_or, e_cmp, e_chain, e_ite, e_call, e_callio, e_bi, e_isi, e_iso, e_mem, e_get, e_getd, e_fld, e_meth, e_stup, e_slst, e_dup, e_ix, e_slc, e_dsp, l_nil, l_cons, o_none, o_some, x_nil, x_cons, setS, asgT, asgTs, sets, updS, Out.fr, io0, wrAt, Sl.isWr, ME.isRd, io_hd]) it lp rfl)]
      simp [sl0, b_nil, b_cons, s_set, s_stp, s_stq, s_tri, s_setF, s_mut, s_par, s_setIx, s_expr, s_app, s_ite, s_rvar, s_ret, s_raise, s_brk, s_pass, e_var, e_rd, e_cst, e_tup, e_lst, e_bin, e_neg, e_not, e_and, e_or, e_cmp, e_chain, e_ite, e_call, e_callio, e_bi, e_isi, e_iso, e_mem, e_get, e_getd, e_fld, e_meth, e_stup, e_slst, e_dup, e_ix, e_slc, e_dsp, l_nil, l_cons, o_none, o_some, x_nil, x_cons, setS, asgT, asgTs, sets, updS, Out.fr, io0, wrAt, Sl.isWr, ME.isRd, io_hd]
/-- both find the same -/
theorem r_both {R : List Row} {last v : Rat} (h : Lk last R) (hl : R.length ≤ 900) (hv : WsOk v) : ∃ d, f_Curve_least.run [crv R, ofQ v] = .ok d .non ∧ f_l_first.run [.lst (R.map rD), ofQ v] = .ok d .non ∧ (d = .non ∨ ∃ x, d = ofQ x ∧ Sz 805 x) := by
  rcases cut_y (v := v) h.sorted with hb | ⟨A, a, B, e, h1, h2, h3⟩
  · exact ⟨_, (r_least h hl hv).1 hb, (r_lfirst h hv).1 hb, .inr ⟨0, z0.symm, sz0 804⟩⟩
  · refine ⟨_, (r_least h hl hv).2 A a B e h1 h2 h3, (r_lfirst h hv).2 A a B e h1 h2 h3, ?_⟩
    unfold leastAt
    by_cases hm : a.2 = 0
    · rw [if_pos hm]; exact .inl rfl
    · rw [if_neg hm]
      obtain ⟨⟨o1, o2, o3, o4⟩, o5, o6⟩ := h.all a (by rw [e]; simp)
      have zx := (fr_szX o3).mono (show 40 ≤ 402 by omega)
      have zy := (fr_szY o4).mono (show 60 ≤ 100 by omega)
      have zm := (fr_sz o6).mono (show 30 ≤ 201 by omega)
      exact .inr ⟨_, rfl, sz_add zx (sz_quo (sz_sub hv.sz zy) zm hm)⟩
end C

set_option exponentiation.threshold 2000
namespace C
open PySem PySem.Spec L2 Z S
theorem sz_ofQ {x : Rat} {k : Nat} (h : Sz k x) (h0 : 0 < k) (hk : k ≤ 1900) : szD (ofQ x) ≤ 2 * k + 30 ∧ dpD (ofQ x) ≤ 1 := by
  obtain ⟨h1, h2⟩ := h
  have e : k - 1 + 1 = k := by omega
  have l1 : x.num.natAbs.log2 ≤ k - 1 := log2_le (by rw [e]; exact h1)
  have l2 : ((x.den : Nat) : Int).natAbs.log2 ≤ k - 1 := log2_le (by rw [e]; simpa using h2)
  unfold ofQ
  by_cases hd : x.den = 1
  · rw [if_pos hd]
    simp only [szD, dpD]
    rw [if_pos (by omega)]
    omega
  · rw [if_neg hd]
    simp only [szD, szL, dpD, dpL]
    rw [if_pos (by omega), if_pos (by omega)]
    omega
theorem fr24 {N : Nat} {x : Rat} (h : Fr 12 N x) : Fr 24000000 (N * 2000000) x := h.up (d := 12) 2000000 (by omega)
theorem fr_half {N : Nat} {x : Rat} (h : Fr 12 N x) : Fr 24000000 (N * 1000000) (x / ((2 : Int) : Rat)) := by
  have e : x / ((2 : Int) : Rat) = x * Rat.divInt 1 2 := by
    rw [Rat.divInt_eq_div]
    grind
  rw [e]
  have h2 : Fr 2 1 (Rat.divInt 1 2) := ⟨1, rfl, by decide⟩
  exact ((h.mul h2).up (d := 24) 1000000 (by omega)).mono (by omega)
theorem fr_mio : Fr 24000000 24 (Rat.divInt 1 1000000) := fr_div (c := 1000000) (e := 24) (by omega) (by omega) (by decide)
theorem r_somewhere {k : Nat} {p : D} {R : List Row} {last : Rat} (h : Sp k p) (hk : k + 10 < 1000000) (hR : Lk last R) (hl : R.length ≤ 900) : ∃ w p', f_l_somewhere.run [p, .lst (R.map rD)] = .ok (ofQ w) p' ∧ PrOk w ∧ Sp (k + 6) p' := by
  have n0 : 0 < R.length := List.length_pos_iff.mpr hR.ne
  have ln : (R.map rD).length = R.length := List.length_map ..
  obtain ⟨r1, p1, e1, a1, b1, h1⟩ := d_draw (Φ := tbl t_l_somewhere) (m := R.length) rfl h (by omega) (by omega) (by omega)
  obtain ⟨i, rfl⟩ : ∃ i : Nat, r1 = i := ⟨r1.toNat, by omega⟩
  obtain ⟨a, ha⟩ : ∃ a, R[i]? = some a := ⟨R[i]'(by omega), by simp⟩
  obtain ⟨⟨o1, o2, o3, o4⟩, o5, o6⟩ := hR.all a (List.mem_of_getElem? ha)
  have ia : ixD (.lst (R.map rD)) (.int (i : Int)) = some (rD a) := ix_lst (by omega) (by rw [show (i : Int).toNat = i by omega]; exact get_map ha)
  have zx := fr_szX o3
  -- what is later
  have later : ∃ (y : Rat) (p2 : D), exS (tbl t_l_somewhere) fuelN (.set (.nm 4) (.ite (.cmp .Lt (.bin .Add (.rd 2) (.cst (.int 1))) (.bi "len" [(.rd 1)]))
   (.ix (.ix (.ix (.rd 1) (.bin .Add (.rd 2) (.cst (.int 1)))) (.cst (.int 0))) (.cst (.int 0))) (.call "_law_sum" [(.lst [(.var 3), (.callio "_law_number" 0 [])])]))) [.io p1, .val (.lst (R.map rD)), .val (.int i), .val (ofQ a.1.1), .non, .non] = .nx [.io p2, .val (.lst (R.map rD)), .val (.int i), .val (ofQ a.1.1), .val (ofQ y), .non] ∧
      0 ≤ y ∧ Fr 12 (NX + 12000000) y ∧ Sp (k + 5) p2 := by
    by_cases hi : i + 1 < R.length
    · obtain ⟨b, hb⟩ : ∃ b, R[i + 1]? = some b := ⟨R[i + 1], by simp⟩
      obtain ⟨⟨u1, u2, u3, u4⟩, u5, u6⟩ := hR.all b (List.mem_of_getElem? hb)
      have ib : ixD (.lst (R.map rD)) (.int ((i : Int) + 1)) = some (rD b) := ix_lst (by omega) (by rw [show ((i : Int) + 1).toNat = i + 1 by omega]; exact get_map hb)
      have c1 : (i : Int) + 1 < R.length := by omega
      refine ⟨b.1.1, p1, ?_, u1, u3.mono (by omega), h1.mono (by omega)⟩
      generalize R.map rD = rs at *
      simp [sl0, b_nil, b_cons, s_set, s_stp, s_stq, s_tri, s_setF, s_mut, s_par, s_setIx, s_expr, s_app, s_ite, s_rvar, s_ret, s_raise, s_brk, s_pass, e_var, e_rd, e_cst, e_tup, e_lst, e_bin, e_neg, e_not, e_and, e_or, e_cmp, e_chain, e_ite, e_call, e_callio, e_bi, e_isi, e_iso, e_mem, e_get, e_getd, e_fld, e_meth, e_stup, e_slst, e_dup, e_ix, e_slc, e_dsp, l_nil, l_cons, o_none, o_some, x_nil, x_cons, setS, asgT, asgTs, sets, updS, Out.fr, io0, wrAt, Sl.isWr, ME.isRd, io_hd, ln, c1, ib, rD, cD, ptD]
    · obtain ⟨z, p2, e2, a2, b2, h2⟩ := d_number (Φ := tbl t_l_somewhere) rfl h1 (by omega)
      have c1 : ¬ (i : Int) + 1 < R.length := by omega
      have q := fun ρ => C.k_sum2 (Φ := tbl t_l_somewhere) (k := 40) (by omega) (pair_q a.1.1) (pair_q z) zx ((fr_sz b2).mono (by omega)) ρ rfl
      refine ⟨a.1.1 + z, p2, ?_, by grind, o3.add (by omega) b2, h2.mono (by omega)⟩
      generalize R.map rD = rs at *
      simp [sl0, b_nil, b_cons, s_set, s_stp, s_stq, s_tri, s_setF, s_mut, s_par, s_setIx, s_expr, s_app, s_ite, s_rvar, s_ret, s_raise, s_brk, s_pass, e_var, e_rd, e_cst, e_tup, e_lst, e_bin, e_neg, e_not, e_and, e_or, e_cmp, e_chain, e_ite, e_call, e_callio, e_bi, e_isi, e_iso, e_mem, e_get, e_getd, e_fld, e_meth, e_stup, e_slst, e_dup, e_ix, e_slc, e_dsp, l_nil, l_cons, o_none, o_some, x_nil, x_cons, setS, asgT, asgTs, sets, updS, Out.fr, io0, wrAt, Sl.isWr, ME.isRd, io_hd, ln, c1, e2, q]
  obtain ⟨y, p2, e2, hy, fy, h2⟩ := later
  obtain ⟨r3, p3, e3, a3, b3, h3⟩ := d_draw (Φ := tbl t_l_somewhere) (m := 5) rfl h2 (by omega) (by omega) (by omega)
  have zy : Sz 40 y := fy.sz (by omega) (by unfold NX; omega) (by decide)
  have q1 := fun ρ => C.k_sum2 (Φ := tbl t_l_somewhere) (k := 40) (by omega) (pair_q a.1.1) (pair_q y) zx zy ρ rfl
  have s2 : Sz 81 ((2 : Int) : Rat) := (fr_int (a := 2) (N := 24) (by decide)).sz (by omega) (by decide) (by decide)
  have q2 := fun ρ => k_lover (Φ := tbl t_l_somewhere) (k := 81) (by omega) (pair_q (a.1.1 + y)) (pair_i 2) (sz_add zx zy) s2 (Rat.intCast_pos.mpr (by omega)) ρ rfl
  have q3 := fun ρ => k_low (Φ := tbl t_l_somewhere) (k := 20) (a := 1) (b := 1000000) (by omega) (by omega) (by decide) ρ rfl
  have s3 : Sz 40 (Rat.divInt 1 1000000) := fr_mio.sz (by omega) (by decide) (by decide)
  have q4 := fun ρ => C.k_sum2 (Φ := tbl t_l_somewhere) (k := 40) (by omega) (pair_q a.1.1) (pair_q (Rat.divInt 1 1000000)) zx s3 ρ rfl
  have s4 : Sz 70 ((1000000000000 : Int) : Rat) := (fr_int (a := 1000000000000) (N := 12000000000000) (by decide)).sz (by omega) (by decide) (by decide)
  have q5 := fun ρ => C.k_sum2 (Φ := tbl t_l_somewhere) (k := 70) (by omega) (pair_q y) (pair_i 1000000000000) (zy.mono (by omega)) s4 ρ rfl
  obtain ⟨d, hd, ed⟩ := ix_pick (ds := [ofQ a.1.1, ofQ y, ofQ ((a.1.1 + y) / ((2 : Int) : Rat)), ofQ (a.1.1 + Rat.divInt 1 1000000), ofQ (y + ((1000000000000 : Int) : Rat))]) a3 b3
  have key : ∃ w, d = ofQ w ∧ PrOk w := by
    simp only [List.mem_cons, List.not_mem_nil, or_false] at hd
    have hm : (0 : Rat) ≤ Rat.divInt 1 1000000 := Rat.le_of_lt (div_pos' (by omega) (by omega))
    have ht : (0 : Rat) ≤ ((1000000000000 : Int) : Rat) := Rat.intCast_nonneg.mpr (by omega)
    rcases hd with rfl | rfl | rfl | rfl | rfl
    · exact ⟨_, rfl, o1, (fr24 o3).mono (by decide)⟩
    · exact ⟨_, rfl, hy, (fr24 fy).mono (by decide)⟩
    · refine ⟨_, rfl, quo_nonneg (by grind) (Rat.intCast_pos.mpr (by omega)), (fr_half (o3.add (by omega) fy)).mono (by decide)⟩
    · exact ⟨_, rfl, by grind, ((fr24 o3).add (by omega) fr_mio).mono (by decide)⟩
    · exact ⟨_, rfl, by grind, (fr24 (fy.add (by omega) (fr_int (a := 1000000000000) (N := 12000000000000) (by decide)))).mono (by decide)⟩
  obtain ⟨w, rfl, hw⟩ := key
  have e6 : powOk 10 6 = true := by decide
  have e12 : powOk 10 12 = true := by decide
  have ad : ∀ a b c d e : D, binD .Add (.lst [a, b, c, d]) (.lst [e]) = some (true, .lst [a, b, c, d, e]) := fun a b c d e => rfl
  refine ⟨w, p3, ?_, hw, h3⟩
  generalize R.map rD = rs at *
  generalize (a.1.1 + y) / ((2 : Int) : Rat) = u1 at *
  generalize y + ((1000000000000 : Int) : Rat) = u2 at *
  rw [f_l_somewhere, run_mk, m_l_somewhere]
  simp [sl0, b_nil, b_cons, s_set, s_stp, s_stq, s_tri, s_setF, s_mut, s_par, s_setIx, s_expr, s_app, s_ite, s_rvar, s_ret, s_raise, s_brk, s_pass, e_var, e_rd, e_cst, e_tup, e_lst, e_bin, e_neg, e_not, e_and, e_or, e_cmp, e_chain, e_ite, e_call, e_callio, e_bi, e_isi, e_iso, e_mem, e_get, e_getd, e_fld, e_meth, e_stup, e_slst, e_dup, e_ix, e_slc, e_dsp, l_nil, l_cons, o_none, o_some, x_nil, x_cons, setS, asgT, asgTs, sets, updS, Out.fr, io0, wrAt, Sl.isWr, ME.isRd, io_hd, ln, e1, ia, rD, cD, ptD, e2, q1, q2, n_pow e6, n_pow e12, q3, q4, q5, ad, e3, ed]
theorem d_somewhere {Φ : Tab} {k : Nat} {p : D} {R : List Row} {last : Rat} (hf : Φ "_law_somewhere" = some f_l_somewhere) (h : Sp k p) (hk : k + 10 < 1000000) (hR : Lk last R) (hl : R.length ≤ 900) : ∃ w p', (∀ ρ, callIo Φ "_law_somewhere" 0 [.lst (R.map rD)] (.io p :: ρ) = .ok (false, ofQ w) (.io p' :: ρ)) ∧ PrOk w ∧ Sp (k + 6) p' := by
  obtain ⟨w, p', e, a, b⟩ := r_somewhere h hk hR hl
  exact ⟨w, p', fun ρ => callIo_io hf rfl rfl rfl e, a, b⟩
end C

set_option exponentiation.threshold 2000
namespace C
open PySem PySem.Spec L2 Z S
abbrev TR : Tab := tblO t_l_right2 o_l_right2
theorem runF_ok {fn : Fn} {ds : List D} {ρ : Vn} {d s : D} (h : fn.run ds = .ok d s) : runF fn ds ρ = .ok (fn.fresh, d) ρ := by
  unfold runF
  rw [h]
theorem lk_none (C m : Str) (cs ms : D) (h : m ≠ "kept_corners") (h2 : m ≠ "kept_slopes") : ([("kept_corners", cs), ("kept_slopes", ms)] : List (Str × D)).lookup m = none := by
  have e1 : (m == ("kept_corners" : Str)) = false := by simpa using h
  have e2 : (m == ("kept_slopes" : Str)) = false := by simpa using h2
  simp only [List.lookup, e1, e2]
theorem m_at (R : List Row) : methOf TR "at" (crv R) = some f_Curve_at := by
  have o : TR.own "Curve" "at" = some (.meth f_Curve_at) := by kernel_rfl
  unfold methOf crv
  simp only [o, lk_none "Curve" "at" _ _ (by decide +kernel) (by decide +kernel), if_true]
theorem m_sb (R : List Row) : methOf TR "slope_behind" (crv R) = some f_Curve_slope_behind := by
  have o : TR.own "Curve" "slope_behind" = some (.meth f_Curve_slope_behind) := by kernel_rfl
  unfold methOf crv
  simp only [o, lk_none "Curve" "slope_behind" _ _ (by decide +kernel) (by decide +kernel), if_true]
theorem m_least (R : List Row) : methOf TR "least" (crv R) = some f_Curve_least := by
  have o : TR.own "Curve" "least" = some (.meth f_Curve_least) := by kernel_rfl
  unfold methOf crv
  simp only [o, lk_none "Curve" "least" _ _ (by decide +kernel) (by decide +kernel), if_true]
theorem r_corners {R : List Row} : f_Curve_corners.run [crv R] = .ok (.lst (R.map cD)) .non := by
  have u1 : (tblO t_Curve_corners o_Curve_corners).own "Curve" "kept_corners" = some .fld := by kernel_rfl
  rw [f_Curve_corners, run_mk, m_Curve_corners]
  unfold crv
  generalize R.map cD = cs at *
  simp [sl0, b_nil, b_cons, s_set, s_stp, s_stq, s_tri, s_setF, s_mut, s_par, s_setIx, s_expr, s_app, s_ite, s_rvar, s_ret, s_raise, s_brk, s_pass, e_var, e_rd, e_cst, e_tup, e_lst, e_bin, e_neg, e_not, e_and, e_or, e_cmp, e_chain, e_ite, e_call, e_callio, e_bi, e_isi, e_iso, e_mem, e_get, e_getd, e_fld, e_meth, e_stup, e_slst, e_dup, e_ix, e_slc, e_dsp, l_nil, l_cons, o_none, o_some, x_nil, x_cons, setS, asgT, asgTs, sets, updS, Out.fr, io0, wrAt, Sl.isWr, ME.isRd, io_hd, fldF, u1, fld_c]
theorem fld_corners (R : List Row) (ρ : Vn) : fldF TR false "corners" (crv R) ρ = .ok (true, .lst (R.map cD)) ρ := by
  have o : TR.own "Curve" "corners" = some (.prop f_Curve_corners) := by kernel_rfl
  have r := runF_ok (ρ := ρ) (r_corners (R := R))
  unfold fldF
  unfold crv at *
  simp only [o, r, Bool.false_eq_true, if_false, Res.noX_ok]
  rfl
theorem rp_ok {d : D} (h1 : szD d ≤ lim) (h2 : dpD d ≤ 50) : biD "repr" [d] = some (false, .str (rpD d)) := bi_repr h1 h2
theorem ar1 : (1 + 1 = f_Curve_least.ar) = True := by simp [f_Curve_least, mkFn]
theorem ar2 : (1 + 1 = f_Curve_at.ar) = True := by simp [f_Curve_at, mkFn]
theorem ar3 : (1 + 1 = f_Curve_slope_behind.ar) = True := by simp [f_Curve_slope_behind, mkFn]
/-- one wish -/
theorem right_wish {R : List Row} {last v : Rat} {p a b c e f g h' i : Sl} (h : Lk last R) (hl : R.length ≤ 900) (hv : WsOk v) : exB TR fuelN b1_l_right2 [p, a, b, c, .val (.lst (R.map rD)), .val (crv R), e, f, .val (ofQ v), g, h', i] = .nx [p, a, b, c, .val (.lst (R.map rD)), .val (crv R), e, f, .val (ofQ v), g, h', i] := by
  obtain ⟨d, r1, r2, hd⟩ := r_both h hl hv
  have hs : szD d ≤ lim ∧ dpD d ≤ 50 := by
    rcases hd with rfl | ⟨x, rfl, hx⟩
    · exact ⟨by decide, by decide⟩
    · have := sz_ofQ hx (by omega) (by omega)
      unfold lim
      omega
  have rp := rp_ok hs.1 hs.2
  have c1 := fun ρ => runF_ok (ρ := ρ) r1
  have c2 : ∀ ρ, callF TR "_law_first" [.lst (R.map rD), ofQ v] ρ = .ok (f_l_first.fresh, d) ρ := fun ρ => callF_ok rfl rfl rfl r2
  have mm := m_least R
  generalize crv R = cv at *
  generalize R.map rD = rs at *
  simp [sl0, b_nil, b_cons, s_set, s_stp, s_stq, s_tri, s_setF, s_mut, s_par, s_setIx, s_expr, s_app, s_ite, s_rvar, s_ret, s_raise, s_brk, s_pass, e_var, e_rd, e_cst, e_tup, e_lst, e_bin, e_neg, e_not, e_and, e_or, e_cmp, e_chain, e_ite, e_call, e_callio, e_bi, e_isi, e_iso, e_mem, e_get, e_getd, e_fld, e_meth, e_stup, e_slst, e_dup, e_ix, e_slc, e_dsp, l_nil, l_cons, o_none, o_some, x_nil, x_cons, setS, asgT, asgTs, sets, updS, Out.fr, io0, wrAt, Sl.isWr, ME.isRd, io_hd, b1_l_right2, mm, ar1, c1, c2, rp]
end C
namespace C
open PySem PySem.Spec L2 Z S
def IR (k : Nat) (d1 d2 rs cv : D) (done : List Int) (ρ : Vn) : Prop := ∃ (p' : D) (s3 s6 s7 s8 s9 s10 : Sl), ρ = [.io p', .val d1, .val d2, s3, .val rs, .val cv, s6, s7, s8, s9, s10, .non] ∧ s3.free = true ∧ s6.free = true ∧ s7.free = true ∧ s8.free = true ∧ s9.free = true ∧ s10.free = true ∧ S.Sp (k + 11 * done.length) p'
theorem val_ok {a : Row} {w : Rat} (h1 : PtOk a.1) (h2 : SlOk a.2) (hw : PrOk w) (hx : a.1.1 ≤ w) : 0 ≤ valAt a w ∧ Fr 288000000 2000000000000000000000000000 (valAt a w) := by
  obtain ⟨o1, o2, o3, o4⟩ := h1
  obtain ⟨o5, o6⟩ := h2
  have q1 : Fr 24000000 (100000000000000000000 + NX * 2000000) (w - a.1.1) := hw.2.sub (by omega) (fr24 o3)
  have q2 := q1.mul o6
  have q3 : Fr 288000000 (NY * 2000000) a.1.2 := o4.up (d := 144) 2000000 (by omega)
  refine ⟨?_, ?_⟩
  · unfold valAt
    have := Rat.mul_nonneg (show 0 ≤ w - a.1.1 by grind) o5
    grind
  · unfold valAt
    refine (q3.add (by omega) q2).mono ?_
    unfold NX NY
    omega
theorem right_turn {k : Nat} {R : List Row} {last : Rat} {d1 d2 : D} {dn : List Int} {t : Int} {ρ : Vn} (h : Lk last R) (h0 : ∀ a, R[0]? = some a → a.1.1 = 0) (hl : R.length ≤ 900) (hk : k + 11 * dn.length + 20 < 1000000) (hI : IR k d1 d2 (.lst (R.map rD)) (crv R) dn ρ) :
    ∃ ρ1 ρ2, asgT (.nm 3) (.int t) ρ = some ρ1 ∧ exB TR fuelN b2_l_right2 ρ1 = .nx ρ2 ∧ IR k d1 d2 (.lst (R.map rD)) (crv R) (dn ++ [t]) ρ2 := by
  obtain ⟨p, s3, s6, s7, s8, s9, s10, rfl, f3, f6, f7, f8, f9, f10, hp⟩ := hI
  obtain ⟨w, p1, e1, hw, hp1⟩ := d_somewhere (Φ := TR) rfl hp (by omega) h hl
  obtain ⟨a, ha, r1, r2, r3, hx⟩ := r_at h h0 hl hw
  obtain ⟨pa, ma⟩ := h.all a ha
  obtain ⟨hv, fv⟩ := val_ok pa ma hw hx
  obtain ⟨z, p2, e2, hz, fz, hp2⟩ := d_number (Φ := TR) rfl hp1 (by omega)
  obtain ⟨r4, p3, e3, a3, b3, hp3⟩ := d_draw (Φ := TR) (m := 4) rfl hp2 (by omega) (by omega) (by omega)
  obtain ⟨d, hd, ed⟩ := ix_pick (ds := [.int 0, .tup [.int 1, .int 1000000], ofQ z, .int 100000000000000000000]) a3 b3
  have key : ∃ x, PairOf d x ∧ 0 ≤ x ∧ Fr 288000000 30000000000000000000000000000 x := by
    simp only [List.mem_cons, List.not_mem_nil, or_false] at hd
    have up : ∀ {N : Nat} {x : Rat}, Fr 12 N x → Fr 288000000 (N * 24000000) x := fun hx => hx.up (d := 12) 24000000 (by omega)
    rcases hd with rfl | rfl | rfl | rfl
    · exact ⟨_, pair_i 0, Rat.intCast_nonneg.mpr (by omega), (up (fr_int (a := 0) (N := 0) (by decide))).mono (by decide)⟩
    · exact ⟨Rat.divInt 1 1000000, .inl (by kernel_rfl), Rat.le_of_lt (div_pos' (by omega) (by omega)), (fr_div (c := 1000000) (e := 288) (N := 288) (by omega) (by omega) (by decide)).mono (by decide)⟩
    · exact ⟨z, pair_q z, Rat.le_of_lt hz, (up fz).mono (by decide)⟩
    · exact ⟨_, pair_i _, Rat.intCast_nonneg.mpr (by omega), (up (fr_int (a := 100000000000000000000) (N := 1200000000000000000000) (by decide))).mono (by decide)⟩
  obtain ⟨x, hpx, hx0, fx⟩ := key
  have wv : WsOk (valAt a w) := ⟨hv, fv.mono (by decide)⟩
  have wm : WsOk (valAt a w + x) := ⟨by grind, (fv.add (by omega) fx).mono (by decide)⟩
  have sx : Sz 100 x := fx.sz (by omega) (by decide) (by decide)
  have q1 := fun ρ => C.k_sum2 (Φ := TR) (k := 100) (by omega) (pair_q (valAt a w)) hpx wv.sz sx ρ rfl
  obtain ⟨Ri, rl, eR⟩ : ∃ Ri rl, R = Ri ++ [rl] := ⟨R.dropLast, R.getLast h.ne, (List.dropLast_concat_getLast h.ne).symm⟩
  have il : ixD (.lst (R.map rD)) (.int (-1)) = some (rD rl) := by
    have := ix_last_l (Ri.map rD) (rD rl)
    rw [eR, List.map_append]
    exact this
  obtain ⟨⟨u1, u2, u3, u4⟩, u5, u6⟩ := h.all rl (by rw [eR]; simp)
  have wl : WsOk rl.1.2 := ⟨u2, (u4.up (d := 144) 2000000 (by omega)).mono (by unfold NY; omega)⟩
  have w0 : WsOk 0 := ⟨Rat.le_refl, (fr_int (a := 0) (N := 0) (by decide)).up (d := 12) 24000000 (by omega) |>.mono (by decide)⟩
  -- the four wishes
  have inner : ∀ p' a' b' c' e' f' g' h' i', ∃ s8', s8'.free = true ∧ forGo (.nm 8) (exB TR fuelN b1_l_right2) [ofQ (valAt a w), ofQ (valAt a w + x), .int 0, ofQ rl.1.2] [p', a', b', c', .val (.lst (R.map rD)), .val (crv R), e', f', s8, g', h', i'] = .nx [p', a', b', c', .val (.lst (R.map rD)), .val (crv R), e', f', s8', g', h', i'] := fun p' a' b' c' e' f' g' h' i' => by
    refine ⟨.val (ofQ rl.1.2), rfl, ?_⟩
    have asg : ∀ (s : Sl) (v : Rat), s.free = true → asgT (.nm 8) (ofQ v) [p', a', b', c', .val (.lst (R.map rD)), .val (crv R), e', f', s, g', h', i'] = some [p', a', b', c', .val (.lst (R.map rD)), .val (crv R), e', f', .val (ofQ v), g', h', i'] := fun s v hs => by simp [asgT, setS, hs]
    rw [← z0, forGo_cons (asg _ _ f8) (right_wish h hl wv), forGo_cons (asg _ _ rfl) (right_wish h hl wm), forGo_cons (asg _ _ rfl) (right_wish h hl w0), forGo_cons (asg _ _ rfl) (right_wish h hl wl)]
    rfl
  obtain ⟨s8', f8', lp⟩ := inner (.io p3) (.val d1) (.val d2) (.val (.int t)) (.val (ofQ w)) (.val (ofQ (valAt a w + x))) (.val (ofQ (valAt a w))) (.val (ofQ a.2)) .non
  have fin : IR k d1 d2 (.lst (R.map rD)) (crv R) (dn ++ [t]) [.io p3, .val d1, .val d2, .val (.int t), .val (.lst (R.map rD)), .val (crv R), .val (ofQ w), .val (ofQ (valAt a w + x)), s8', .val (ofQ (valAt a w)), .val (ofQ a.2), .non] :=
    ⟨p3, _, _, _, _, _, _, rfl, rfl, rfl, rfl, f8', rfl, rfl, by rw [List.length_append, List.length_singleton]; exact hp3.mono (by omega)⟩
  refine ⟨[.io p, .val d1, .val d2, .val (.int t), .val (.lst (R.map rD)), .val (crv R), s6, s7, s8, s9, s10, .non], _, by simp [asgT, setS, f3], ?_, fin⟩
  have c1 := fun ρ => runF_ok (ρ := ρ) r1
  have c2 := fun ρ => runF_ok (ρ := ρ) r2
  have c3 : ∀ ρ, callF TR "_law_piece" [.lst (R.map rD), ofQ w] ρ = .ok (f_l_piece.fresh, .tup [ofQ (valAt a w), ofQ a.2]) ρ := fun ρ => callF_ok rfl rfl rfl r3
  have m1 := m_at R
  have m2 := m_sb R
  have rp : biD "repr" [.lst [ofQ (valAt a w), ofQ a.2]] = some (false, .str (rpD (.lst [ofQ (valAt a w), ofQ a.2]))) := by
    have y1 := sz_ofQ wv.sz (by omega) (by omega)
    have y2 := sz_ofQ (sl_sz ma) (by omega) (by omega)
    refine rp_ok ?_ ?_
    · simp only [szD, szL, lim]; omega
    · simp only [dpD, dpL]; omega
  have e6 : powOk 10 6 = true := by decide
  have e20 : powOk 10 20 = true := by decide
  have wl : exS TR fuelN (.for (.nm 8) 0 [(.tup [(.var 9), (.var 7), (.cst (.int 0)), (.ix (.ix (.ix (.rd 4) (.neg (.cst (.int 1)))) (.cst (.int 0))) (.cst (.int 1)))])] b1_l_right2) [.io p3, .val d1, .val d2, .val (.int t), .val (.lst (R.map rD)), .val (crv R), .val (ofQ w), .val (ofQ (valAt a w + x)), s8, .val (ofQ (valAt a w)), .val (ofQ a.2), .non] = .nx [.io p3, .val d1, .val d2, .val (.int t), .val (.lst (R.map rD)), .val (crv R), .val (ofQ w), .val (ofQ (valAt a w + x)), s8', .val (ofQ (valAt a w)), .val (ofQ a.2), .non] := by
    refine for_nx (ρ1 := [.io p3, .val d1, .val d2, .val (.int t), .val (.lst (R.map rD)), .val (crv R), .val (ofQ w), .val (ofQ (valAt a w + x)), s8, .val (ofQ (valAt a w)), .val (ofQ a.2), .non]) (ds := [.tup [ofQ (valAt a w), ofQ (valAt a w + x), .int 0, ofQ rl.1.2]]) ?_ rfl lp rfl
    generalize R.map rD = rs at *
    generalize crv R = cv at *
    simp [sl0, b_nil, b_cons, s_set, s_stp, s_stq, s_tri, s_setF, s_mut, s_par, s_setIx, s_expr, s_app, s_ite, s_rvar, s_ret, s_raise, s_brk, s_pass, e_var, e_rd, e_cst, e_tup, e_lst, e_bin, e_neg, e_not, e_and, e_or, e_cmp, e_chain, e_ite, e_call, e_callio, e_bi, e_isi, e_iso, e_mem, e_get, e_getd, e_fld, e_meth, e_stup, e_slst, e_dup, e_ix, e_slc, e_dsp, l_nil, l_cons, o_none, o_some, x_nil, x_cons, setS, asgT, asgTs, sets, updS, Out.fr, io0, wrAt, Sl.isWr, ME.isRd, io_hd, il, rD, cD, ptD]
  generalize R.map rD = rs at *
  generalize crv R = cv at *
  generalize valAt a w + x = vx at *
  generalize valAt a w = va at *
  simp [sl0, b_nil, b_cons, s_set, s_stp, s_stq, s_tri, s_setF, s_mut, s_par, s_setIx, s_expr, s_app, s_ite, s_rvar, s_ret, s_raise, s_brk, s_pass, e_var, e_rd, e_cst, e_tup, e_lst, e_bin, e_neg, e_not, e_and, e_or, e_cmp, e_chain, e_ite, e_call, e_callio, e_bi, e_isi, e_iso, e_mem, e_get, e_getd, e_fld, e_meth, e_stup, e_slst, e_dup, e_ix, e_slc, e_dsp, l_nil, l_cons, o_none, o_some, x_nil, x_cons, setS, asgT, asgTs, sets, updS, Out.fr, io0, wrAt, Sl.isWr, ME.isRd, io_hd, b2_l_right2, f6, f7, f9, f10, e1, c3, m1, m2, ar2, ar3, c1, c2, rp, n_pow e6, n_pow e20, e2, e3, ed, q1, wl]
theorem r_lright {k : Nat} {p : D} {L : List Row} {last : Rat} (hp : S.Sp k p) (hk : k + 200 < 1000000) (h : Lk last L) (hh : headX (L.map (·.1))) (hl : L.length ≤ 890) : ∃ p', f_l_right2.run [p, .lst (L.map cD), ofQ last] = .ok (.bl true) p' ∧ S.Sp (k + 66) p' := by
  have hR := h.rowsOf
  have hl2 : (C.rowsOf L).length ≤ 900 := by have := rowsOf_len (L := L); omega
  have h0 : ∀ a, (C.rowsOf L)[0]? = some a → a.1.1 = 0 := by
    intro a ha
    obtain ⟨y, r, e⟩ := hh
    cases L with
    | nil => cases e
    | cons x L =>
      simp [C.rowsOf] at ha
      subst ha
      simp at e
      rw [e.1]
  have t1 := fun ρ => k_ltrue (Φ := TR) h (by omega) ρ rfl
  have t2 := fun ρ => k_Curve (Φ := TR) h hh (by omega) ρ rfl
  generalize C.rowsOf L = R at *
  obtain ⟨ρ', eL, p', s3, s6, s7, s8, s9, s10, rfl, f3, f6, f7, f8, f9, f10, hp'⟩ := forGo_typ (tg := .nm 3) (body := exB TR fuelN b2_l_right2) D.int (IR k (.lst (L.map cD)) (ofQ last) (.lst (R.map rD)) (crv R)) (ts := (List.range 6).map fun i => ((i : Nat) : Int)) (done := []) (ρ := [.io p, .val (.lst (L.map cD)), .val (ofQ last), .non, .val (.lst (R.map rD)), .val (crv R), .non, .non, .non, .non, .non, .non])
    ⟨p, _, _, _, _, _, _, rfl, rfl, rfl, rfl, rfl, rfl, rfl, by simpa using hp⟩ (by
    intro d t r ρ hsp hI
    have hd : d.length < 6 := by
      have := congrArg List.length hsp
      simp at this
      omega
    exact right_turn hR h0 hl2 (by omega) hI)
  have fr : exS TR fuelN (.for (.nm 3) 1 [(.cst (.int 6))] b2_l_right2) [.io p, .val (.lst (L.map cD)), .val (ofQ last), .non, .val (.lst (R.map rD)), .val (crv R), .non, .non, .non, .non, .non, .non] = .nx [.io p', .val (.lst (L.map cD)), .val (ofQ last), s3, .val (.lst (R.map rD)), .val (crv R), s6, s7, s8, s9, s10, .non] :=
    for_nx (ρ1 := [.io p, .val (.lst (L.map cD)), .val (ofQ last), .non, .val (.lst (R.map rD)), .val (crv R), .non, .non, .non, .non, .non, .non]) (ds := [.int 6]) (by simp [sl0, b_nil, b_cons, s_set, s_stp, s_stq, s_tri, s_setF, s_mut, s_par, s_setIx, s_expr, s_app, s_ite, s_rvar, s_ret, s_raise, s_brk, s_pass, e_var, e_rd, e_cst, e_tup, e_lst, e_bin, e_neg, e_not, e_and, e_or, e_cmp, e_chain, e_ite, e_call, e_callio, e_bi, e_isi, e_iso, e_mem, e_get, e_getd, e_fld, e_meth, e_stup, e_slst, e_dup, e_ix, e_slc, e_dsp, l_nil, l_cons, o_none, o_some, x_nil, x_cons, setS, asgT, asgTs, sets, updS, Out.fr, io0, wrAt, Sl.isWr, ME.isRd, io_hd]) (it_range 6 (by omega)) eL rfl
  have lc : evE TR (.lc (.ix (.rd 11) (.cst (.int 0))) [11] (.nm 11) 0 [(.rd 4)] none) [.io p', .val (.lst (L.map cD)), .val (ofQ last), s3, .val (.lst (R.map rD)), .val (crv R), s6, s7, s8, s9, s10, .non] = .ok (true, .lst (R.map cD)) [.io p', .val (.lst (L.map cD)), .val (ofQ last), s3, .val (.lst (R.map rD)), .val (crv R), s6, s7, s8, s9, s10, .non] := by
    refine lc_map (ds := [.lst (R.map rD)]) rD R cD ?_ rfl (by unfold lim; omega) rfl fun t ht => ?_
    · generalize R.map rD = rs at *
      simp [sl0, b_nil, b_cons, s_set, s_stp, s_stq, s_tri, s_setF, s_mut, s_par, s_setIx, s_expr, s_app, s_ite, s_rvar, s_ret, s_raise, s_brk, s_pass, e_var, e_rd, e_cst, e_tup, e_lst, e_bin, e_neg, e_not, e_and, e_or, e_cmp, e_chain, e_ite, e_call, e_callio, e_bi, e_isi, e_iso, e_mem, e_get, e_getd, e_fld, e_meth, e_stup, e_slst, e_dup, e_ix, e_slc, e_dsp, l_nil, l_cons, o_none, o_some, x_nil, x_cons, setS, asgT, asgTs, sets, updS, Out.fr, io0, wrAt, Sl.isWr, ME.isRd, io_hd]
    · generalize R.map rD = rs at *
      generalize L.map cD = ls at *
      simp [sl0, b_nil, b_cons, s_set, s_stp, s_stq, s_tri, s_setF, s_mut, s_par, s_setIx, s_expr, s_app, s_ite, s_rvar, s_ret, s_raise, s_brk, s_pass, e_var, e_rd, e_cst, e_tup, e_lst, e_bin, e_neg, e_not, e_and, e_or, e_cmp, e_chain, e_ite, e_call, e_callio, e_bi, e_isi, e_iso, e_mem, e_get, e_getd, e_fld, e_meth, e_stup, e_slst, e_dup, e_ix, e_slc, e_dsp, l_nil, l_cons, o_none, o_some, x_nil, x_cons, setS, asgT, asgTs, sets, updS, Out.fr, io0, wrAt, Sl.isWr, ME.isRd, io_hd, step0, lockV, wipeV, rdIdx, rD]
  have es : cmpD .Eq (.lst (R.map cD)) (.lst (R.map cD)) = some true := by
    refine eq_self_l ?_ ?_
    · have := szL_map (f := cD) (c := 300) (l := R) fun a ha => by
        obtain ⟨⟨u1, u2, u3, u4⟩, u5, u6⟩ := hR.all a ha
        have y1 := sz_ofQ (fr_szX u3) (by omega) (by omega)
        have y2 := sz_ofQ (fr_szY u4) (by omega) (by omega)
        simp only [cD, ptD, szD, szL]
        omega
      simp only [szD, lim]
      omega
    · have := dpL_map (f := cD) (c := 5) (l := R) fun a ha => by
        obtain ⟨⟨u1, u2, u3, u4⟩, u5, u6⟩ := hR.all a ha
        have y1 := sz_ofQ (fr_szX u3) (by omega) (by omega)
        have y2 := sz_ofQ (fr_szY u4) (by omega) (by omega)
        simp only [cD, ptD, dpD, dpL]
        omega
      simp only [dpD]
      omega
  have fc := fld_corners R
  refine ⟨p', ?_, hp'.mono (by simp)⟩
  generalize R.map cD = rc at *
  generalize R.map rD = rs at *
  generalize crv R = cv at *
  generalize L.map cD = ls at *
  rw [f_l_right2, run_mk, m_l_right2]
  simp [sl0, b_nil, b_cons, s_set, s_stp, s_stq, s_tri, s_setF, s_mut, s_par, s_setIx, s_expr, s_app, s_ite, s_rvar, s_ret, s_raise, s_brk, s_pass, e_var, e_rd, e_cst, e_tup, e_lst, e_bin, e_neg, e_not, e_and, e_or, e_cmp, e_chain, e_ite, e_call, e_callio, e_bi, e_isi, e_iso, e_mem, e_get, e_getd, e_fld, e_meth, e_stup, e_slst, e_dup, e_ix, e_slc, e_dsp, l_nil, l_cons, o_none, o_some, x_nil, x_cons, setS, asgT, asgTs, sets, updS, Out.fr, io0, wrAt, Sl.isWr, ME.isRd, io_hd, t1, t2, fr, fc, lc, es]
end C

namespace K22
open PySem PySem.Spec L2 Z
def c_pair_of : Cfg := ⟨["one"], [], [], ["abs", "all", "bool", "enumerate", "int", "isinstance", "len", "list", "max", "min", "property", "range", "repr", "tuple", "zip"], ["InvalidCurve", "InvalidNumber"], [], false⟩
def c_less : Cfg := ⟨["one", "other", "first", "second"], [("pair_of", "pair_of", false)], [], ["abs", "all", "bool", "enumerate", "int", "isinstance", "len", "list", "max", "min", "property", "range", "repr", "tuple", "zip"], ["InvalidCurve", "InvalidNumber"], [], false⟩
def c_common_divisor : Cfg := ⟨["one", "other"], [], [], ["abs", "all", "bool", "enumerate", "int", "isinstance", "len", "list", "max", "min", "property", "range", "repr", "tuple", "zip"], ["InvalidCurve", "InvalidNumber"], [], false⟩
def c_is_int : Cfg := ⟨["value"], [], [], ["abs", "all", "bool", "enumerate", "int", "isinstance", "len", "list", "max", "min", "property", "range", "repr", "tuple", "zip"], ["InvalidCurve", "InvalidNumber"], [], false⟩
def c_is_number : Cfg := ⟨["value"], [("common_divisor", "common_divisor", false), ("is_int", "is_int", false)], [], ["abs", "all", "bool", "enumerate", "int", "isinstance", "len", "list", "max", "min", "property", "range", "repr", "tuple", "zip"], ["InvalidCurve", "InvalidNumber"], [], false⟩
def c_require_number : Cfg := ⟨["value", "least"], [("is_number", "is_number", false), ("less", "less", false)], [], ["abs", "all", "bool", "enumerate", "int", "isinstance", "len", "list", "max", "min", "property", "range", "repr", "tuple", "zip"], ["InvalidCurve", "InvalidNumber"], [], false⟩
def c_is_less : Cfg := ⟨["one", "other"], [("less", "less", false), ("require_number", "require_number", false)], [], ["abs", "all", "bool", "enumerate", "int", "isinstance", "len", "list", "max", "min", "property", "range", "repr", "tuple", "zip"], ["InvalidCurve", "InvalidNumber"], [], false⟩
def c_is_point : Cfg := ⟨["value"], [("is_less", "is_less", false), ("is_number", "is_number", false)], [], ["abs", "all", "bool", "enumerate", "int", "isinstance", "len", "list", "max", "min", "property", "range", "repr", "tuple", "zip"], ["InvalidCurve", "InvalidNumber"], [], false⟩
def c_are_points : Cfg := ⟨["value", "rising", "one", "other"], [("is_less", "is_less", false), ("is_point", "is_point", false)], [], ["abs", "all", "bool", "enumerate", "int", "isinstance", "len", "list", "max", "min", "property", "range", "repr", "tuple", "zip"], ["InvalidCurve", "InvalidNumber"], [], false⟩
def c_number_of : Cfg := ⟨["top", "bottom", "divisor"], [("common_divisor", "common_divisor", false)], [], ["abs", "all", "bool", "enumerate", "int", "isinstance", "len", "list", "max", "min", "property", "range", "repr", "tuple", "zip"], ["InvalidCurve", "InvalidNumber"], [], false⟩
def c_minus : Cfg := ⟨["one", "other", "first", "second"], [("number_of", "number_of", false), ("pair_of", "pair_of", false), ("require_number", "require_number", false)], [], ["abs", "all", "bool", "enumerate", "int", "isinstance", "len", "list", "max", "min", "property", "range", "repr", "tuple", "zip"], ["InvalidCurve", "InvalidNumber"], [], false⟩
def c_over : Cfg := ⟨["one", "other", "first", "second"], [("number_of", "number_of", false), ("pair_of", "pair_of", false), ("require_number", "require_number", false)], [], ["abs", "all", "bool", "enumerate", "int", "isinstance", "len", "list", "max", "min", "property", "range", "repr", "tuple", "zip"], ["InvalidCurve", "InvalidNumber"], [], false⟩
def c_slope_between : Cfg := ⟨["one", "other"], [("minus", "minus", false), ("over", "over", false)], [], ["abs", "all", "bool", "enumerate", "int", "isinstance", "len", "list", "max", "min", "property", "range", "repr", "tuple", "zip"], ["InvalidCurve", "InvalidNumber"], [], false⟩
def c_slopes_of : Cfg := ⟨["points", "slope", "one", "other"], [("slope_between", "slope_between", false)], [], ["abs", "all", "bool", "enumerate", "int", "isinstance", "len", "list", "max", "min", "property", "range", "repr", "tuple", "zip"], ["InvalidCurve", "InvalidNumber"], [], false⟩
def c_true_corners : Cfg := ⟨["points", "slope", "slopes", "bent", "place"], [("slopes_of", "slopes_of", false)], [], ["abs", "all", "bool", "enumerate", "int", "isinstance", "len", "list", "max", "min", "property", "range", "repr", "tuple", "zip"], ["InvalidCurve", "InvalidNumber"], [], false⟩
def c_Curve_init : Cfg := ⟨["self", "corners", "slope"], [("are_points", "are_points", false), ("is_less", "is_less", false), ("is_number", "is_number", false), ("slopes_of", "slopes_of", false), ("true_corners", "true_corners", false)], [], ["abs", "all", "bool", "enumerate", "int", "isinstance", "len", "list", "max", "min", "property", "range", "repr", "tuple", "zip"], ["InvalidCurve", "InvalidNumber"], [], true⟩
def c_place_of : Cfg := ⟨["points", "price", "low", "high", "middle"], [("is_less", "is_less", false)], [], ["abs", "all", "bool", "enumerate", "int", "isinstance", "len", "list", "max", "min", "property", "range", "repr", "tuple", "zip"], ["InvalidCurve", "InvalidNumber"], [], false⟩
def c_total : Cfg := ⟨["numbers", "one", "top", "bottom", "first"], [("number_of", "number_of", false), ("pair_of", "pair_of", false)], [], ["abs", "all", "bool", "enumerate", "int", "isinstance", "len", "list", "max", "min", "property", "range", "repr", "tuple", "zip"], ["InvalidCurve", "InvalidNumber"], [], false⟩
def c_plus : Cfg := ⟨["one", "other"], [("require_number", "require_number", false), ("total", "total", false)], [], ["abs", "all", "bool", "enumerate", "int", "isinstance", "len", "list", "max", "min", "property", "range", "repr", "tuple", "zip"], ["InvalidCurve", "InvalidNumber"], [], false⟩
def c_times : Cfg := ⟨["one", "other", "first", "second"], [("number_of", "number_of", false), ("pair_of", "pair_of", false), ("require_number", "require_number", false)], [], ["abs", "all", "bool", "enumerate", "int", "isinstance", "len", "list", "max", "min", "property", "range", "repr", "tuple", "zip"], ["InvalidCurve", "InvalidNumber"], [], false⟩
def c_Curve_at : Cfg := ⟨["self", "price", "place", "begin", "value"], [("minus", "minus", false), ("place_of", "place_of", false), ("plus", "plus", false), ("require_number", "require_number", false), ("times", "times", false)], [], ["abs", "all", "bool", "enumerate", "int", "isinstance", "len", "list", "max", "min", "property", "range", "repr", "tuple", "zip"], ["InvalidCurve", "InvalidNumber"], [], false⟩
def c_Curve_least : Cfg := ⟨["self", "amount", "below", "slope", "begin", "value", "place", "corner"], [("is_less", "is_less", false), ("minus", "minus", false), ("over", "over", false), ("plus", "plus", false), ("require_number", "require_number", false)], [], ["abs", "all", "bool", "enumerate", "int", "isinstance", "len", "list", "max", "min", "property", "range", "repr", "tuple", "zip"], ["InvalidCurve", "InvalidNumber"], [], false⟩
def c_Curve_slope_behind : Cfg := ⟨["self", "price"], [("place_of", "place_of", false), ("require_number", "require_number", false)], [], ["abs", "all", "bool", "enumerate", "int", "isinstance", "len", "list", "max", "min", "property", "range", "repr", "tuple", "zip"], ["InvalidCurve", "InvalidNumber"], [], false⟩
def c_l_draw : Cfg := ⟨["spring", "many", "mixed", "digit"], [], [], ["abs", "all", "bool", "enumerate", "int", "isinstance", "len", "list", "max", "min", "property", "range", "repr", "tuple", "zip"], ["InvalidCurve", "InvalidNumber"], [], false⟩
def c_l_low : Cfg := ⟨["top", "bottom", "one", "rest"], [], [], ["abs", "all", "bool", "enumerate", "int", "isinstance", "len", "list", "max", "min", "property", "range", "repr", "tuple", "zip"], ["InvalidCurve", "InvalidNumber"], [], false⟩
def c_l_number : Cfg := ⟨["spring", "small", "some"], [("_law_draw", "_law_draw", true), ("_law_low", "_law_low", false)], [], ["abs", "all", "bool", "enumerate", "int", "isinstance", "len", "list", "max", "min", "property", "range", "repr", "tuple", "zip"], ["InvalidCurve", "InvalidNumber"], [], false⟩
def c_l_pair : Cfg := ⟨["one"], [], [], ["abs", "all", "bool", "enumerate", "int", "isinstance", "len", "list", "max", "min", "property", "range", "repr", "tuple", "zip"], ["InvalidCurve", "InvalidNumber"], [], false⟩
def c_l_sum : Cfg := ⟨["some", "one", "top", "bottom", "up", "down"], [("_law_low", "_law_low", false), ("_law_pair", "_law_pair", false)], [], ["abs", "all", "bool", "enumerate", "int", "isinstance", "len", "list", "max", "min", "property", "range", "repr", "tuple", "zip"], ["InvalidCurve", "InvalidNumber"], [], false⟩
def c_l_times : Cfg := ⟨["one", "two", "top", "bottom", "up", "down"], [("_law_low", "_law_low", false), ("_law_pair", "_law_pair", false)], [], ["abs", "all", "bool", "enumerate", "int", "isinstance", "len", "list", "max", "min", "property", "range", "repr", "tuple", "zip"], ["InvalidCurve", "InvalidNumber"], [], false⟩
def c_l_drawn : Cfg := ⟨["spring", "many", "steep", "turn", "paid", "worth", "found", "step", "slope"], [("_law_draw", "_law_draw", true), ("_law_number", "_law_number", true), ("_law_sum", "_law_sum", false), ("_law_times", "_law_times", false)], [], ["abs", "all", "bool", "enumerate", "int", "isinstance", "len", "list", "max", "min", "property", "range", "repr", "tuple", "zip"], ["InvalidCurve", "InvalidNumber"], [], false⟩
def c_Curve_corners : Cfg := ⟨["self"], [], [], ["abs", "all", "bool", "enumerate", "int", "isinstance", "len", "list", "max", "min", "property", "range", "repr", "tuple", "zip"], ["InvalidCurve", "InvalidNumber"], [], false⟩
def c_l_less : Cfg := ⟨["one", "two", "top", "bottom", "up", "down"], [("_law_pair", "_law_pair", false)], [], ["abs", "all", "bool", "enumerate", "int", "isinstance", "len", "list", "max", "min", "property", "range", "repr", "tuple", "zip"], ["InvalidCurve", "InvalidNumber"], [], false⟩
def c_l_minus : Cfg := ⟨["one", "two", "up", "down"], [("_law_pair", "_law_pair", false), ("_law_sum", "_law_sum", false)], [], ["abs", "all", "bool", "enumerate", "int", "isinstance", "len", "list", "max", "min", "property", "range", "repr", "tuple", "zip"], ["InvalidCurve", "InvalidNumber"], [], false⟩
def c_l_over : Cfg := ⟨["one", "two", "top", "bottom", "up", "down"], [("_law_low", "_law_low", false), ("_law_pair", "_law_pair", false)], [], ["abs", "all", "bool", "enumerate", "int", "isinstance", "len", "list", "max", "min", "property", "range", "repr", "tuple", "zip"], ["InvalidCurve", "InvalidNumber"], [], false⟩
def c_l_first : Cfg := ⟨["rows", "worth", "spot", "row", "reached", "slope", "paid", "here"], [("_law_less", "_law_less", false), ("_law_minus", "_law_minus", false), ("_law_over", "_law_over", false), ("_law_sum", "_law_sum", false)], [], ["abs", "all", "bool", "enumerate", "int", "isinstance", "len", "list", "max", "min", "property", "range", "repr", "tuple", "zip"], ["InvalidCurve", "InvalidNumber"], [], false⟩
def c_l_piece : Cfg := ⟨["rows", "paid", "row", "one"], [("_law_less", "_law_less", false), ("_law_minus", "_law_minus", false), ("_law_sum", "_law_sum", false), ("_law_times", "_law_times", false)], [], ["abs", "all", "bool", "enumerate", "int", "isinstance", "len", "list", "max", "min", "property", "range", "repr", "tuple", "zip"], ["InvalidCurve", "InvalidNumber"], [], false⟩
def c_l_somewhere : Cfg := ⟨["spring", "rows", "spot", "here", "later", "some"], [("_law_draw", "_law_draw", true), ("_law_low", "_law_low", false), ("_law_number", "_law_number", true), ("_law_over", "_law_over", false), ("_law_sum", "_law_sum", false)], [], ["abs", "all", "bool", "enumerate", "int", "isinstance", "len", "list", "max", "min", "property", "range", "repr", "tuple", "zip"], ["InvalidCurve", "InvalidNumber"], [], false⟩
def c_l_true : Cfg := ⟨["points", "last", "slopes", "found", "spot", "one", "two"], [("_law_minus", "_law_minus", false), ("_law_over", "_law_over", false)], [], ["abs", "all", "bool", "enumerate", "int", "isinstance", "len", "list", "max", "min", "property", "range", "repr", "tuple", "zip"], ["InvalidCurve", "InvalidNumber"], [], false⟩
def c_l_right : Cfg := ⟨["spring", "points", "last", "turn", "rows", "curve", "paid", "more", "wish", "worth", "slope", "row"], [("_law_draw", "_law_draw", true), ("_law_first", "_law_first", false), ("_law_number", "_law_number", true), ("_law_piece", "_law_piece", false), ("_law_somewhere", "_law_somewhere", true), ("_law_sum", "_law_sum", false), ("_law_true", "_law_true", false), ("Curve", "Curve", false)], [], ["abs", "all", "bool", "enumerate", "int", "isinstance", "len", "list", "max", "min", "property", "range", "repr", "tuple", "zip"], ["InvalidCurve", "InvalidNumber"], ["at", "least", "slope_behind"], false⟩
def c_l_spring : Cfg := ⟨["script", "at", "cell"], [], [], ["abs", "all", "bool", "enumerate", "int", "isinstance", "len", "list", "max", "min", "property", "range", "repr", "tuple", "zip"], ["InvalidCurve", "InvalidNumber"], [], false⟩
def c_law : Cfg := ⟨["script", "at", "flat", "told", "spring", "turn", "many", "points", "last"], [("_law_draw", "_law_draw", true), ("_law_drawn", "_law_drawn", true), ("_law_right", "_law_right", true), ("_law_spring", "_law_spring", false), ("Curve", "Curve", false)], [], ["abs", "all", "bool", "enumerate", "int", "isinstance", "len", "list", "max", "min", "property", "range", "repr", "tuple", "zip"], ["InvalidCurve", "InvalidNumber"], ["at", "least", "slope_behind"], false⟩
def b1_law : List MS := [.set (.nm 6) (.ix (.lst [(.bin .Add (.cst (.int 1)) (.callio "_law_draw" 4 [(.cst (.int 9))])), (.bin .Add (.cst (.int 23)) (.callio "_law_draw" 4 [(.cst (.int 38))]))]) (.bi "int" [(.cmp .Eq (.rd 5) (.cst (.int 0)))])), .set (.tp
   [7, 8]) (.callio "_law_drawn" 4 [(.var 6)]), .ite (.not (.callio "_law_right" 4 [(.var 7), (.var 8)])) [.ret (.cst (.bl false))] []]
def b2_law : List MS := [.set (.nm 4) (.call "_law_spring" [(.var 0), (.var 1)]), .for (.nm 5) 1 [(.cst (.int 4))] b1_law]
def m_law : List MS := [.for (.nm 1) 1 [(.bi "max" [(.cst (.int 1)), (.bi "min" [(.cst (.int 5)), (.bi "len" [(.rd 0)])])])] b2_law, .set (.nm 2) (.call "Curve" [(.lst [(.tup [(.cst (.int 0)), (.cst (.int 1))]), (.tup [(.cst (.int 2)), (.cst (.int 1))]),
   (.tup [(.cst (.int 4)), (.cst (.int 5))])]), (.cst (.int 0))]), .set (.nm 3) (.lst [(.meth (.var 2) "at" [(.cst (.int 3))]), (.meth (.var 2) "at" [(.cst (.int 9))]), (.meth (.var 2) "least" [(.cst (.int 1))]), (.meth (.var 2) "least"
   [(.cst (.int 5))]), (.meth (.var 2) "least" [(.cst (.int 6))]), (.meth (.var 2) "slope_behind" [(.cst (.int 2))])]), .ret (.cmp .Eq (.rd 3) (.lst [(.cst (.int 3)), (.cst (.int 5)), (.cst (.int 0)), (.cst (.int 4)), (.cst .non), (.cst
   (.int 2))]))]
def t_law : List (String × Fn) := [("_law_draw", S.f_l_draw), ("_law_drawn", S.f_l_drawn), ("_law_right", S.f_l_right2), ("_law_spring", S.f_l_spring), ("Curve", ctorFn "Curve" S.f_Curve_init)]
def o_law : List (Str × Str × OwnM) := [("Curve", "at", .meth S.f_Curve_at), ("Curve", "least", .meth S.f_Curve_least), ("Curve", "slope_behind", .meth S.f_Curve_slope_behind)]
def f_law : Fn := mkFn false false 1 [] 9 m_law (tblO t_law o_law)
end K22

set_option exponentiation.threshold 2000
namespace K22
open PySem PySem.Spec L2 Z S C
theorem r_spring {ns : List Int} {i : Nat} (hi : i < 10) : ∃ p, f_l_spring.run [.lst (ns.map D.int), .int i] = .ok p .non ∧ S.Sp 0 p := by
  have e18 : powOk 10 18 = true := by decide
  have e39 : powOk 10 39 = true := by decide
  have ln : (ns.map D.int).length = ns.length := List.length_map ..
  have cell : ∃ x : Nat, exS (tbl t_l_spring) fuelN (.set (.nm 2) (.ite (.cmp .Lt (.rd 1) (.bi "len" [(.rd 0)])) (.bi "abs" [(.bi "int" [(.ix (.rd 0) (.var 1))])]) (.cst (.int 0)))) [.val (.lst (ns.map D.int)), .val (.int i), .non] = .nx [.val (.lst (ns.map D.int)), .val (.int i), .val (.int x)] := by
    by_cases h : i < ns.length
    · have ix : ixD (.lst (ns.map D.int)) (.int (i : Int)) = some (.int ns[i]) := ix_lst (by omega) (by rw [show (i : Int).toNat = i by omega, List.getElem?_map]; simp [h])
      have c : (i : Int) < ns.length := by omega
      refine ⟨ns[i].natAbs, ?_⟩
      generalize ns.map D.int = l at *
      simp [sl0, b_nil, b_cons, s_set, s_stp, s_stq, s_tri, s_setF, s_mut, s_par, s_setIx, s_expr, s_app, s_ite, s_rvar, s_ret, s_raise, s_brk, s_pass, e_var, e_rd, e_cst, e_tup, e_lst, e_bin, e_neg, e_not, e_and, e_or, e_cmp, e_chain, e_ite, e_call, e_callio, e_bi, e_isi, e_iso, e_mem, e_get, e_getd, e_fld, e_meth, e_stup, e_slst, e_dup, e_ix, e_slc, e_dsp, l_nil, l_cons, o_none, o_some, x_nil, x_cons, setS, asgT, asgTs, sets, updS, Out.fr, io0, wrAt, Sl.isWr, ME.isRd, io_hd, ln, c, h, ix]
    · have c : ¬ (i : Int) < ns.length := by omega
      refine ⟨0, ?_⟩
      generalize ns.map D.int = l at *
      simp [sl0, b_nil, b_cons, s_set, s_stp, s_stq, s_tri, s_setF, s_mut, s_par, s_setIx, s_expr, s_app, s_ite, s_rvar, s_ret, s_raise, s_brk, s_pass, e_var, e_rd, e_cst, e_tup, e_lst, e_bin, e_neg, e_not, e_and, e_or, e_cmp, e_chain, e_ite, e_call, e_callio, e_bi, e_isi, e_iso, e_mem, e_get, e_getd, e_fld, e_meth, e_stup, e_slst, e_dup, e_ix, e_slc, e_dsp, l_nil, l_cons, o_none, o_some, x_nil, x_cons, setS, asgT, asgTs, sets, updS, Out.fr, io0, wrAt, Sl.isWr, ME.isRd, io_hd, ln, c, h]
  obtain ⟨x, ex⟩ := cell
  have a1 := Int.fmod_nonneg_of_pos (x : Int) (b := 1000000000000000000000000000000000000003) (by omega)
  have a2 := Int.fmod_lt_of_pos (x : Int) (b := 1000000000000000000000000000000000000003) (by omega)
  have m1 : mulOk ((x : Int).fmod 1000000000000000000000000000000000000003) 32 = true := mulOk_of (a := 140) (b := 10) (by omega) (by omega) (by omega)
  have m2 : mulOk 15485867 32 = true := by decide
  refine ⟨.lst [.int (if 0 < (x : Int) - 1000000000000000000 then (x : Int) - 1000000000000000000 else 0), .int ((x : Int).fmod 1000000000000000000000000000000000000003 * 32 + 15485867 * 32 + i), .int 0], ?_, _, _, _, rfl, by split <;> omega, by omega, by omega, by omega, by omega⟩
  generalize ns.map D.int = l at *
  rw [f_l_spring, run_mk, m_l_spring]
  simp [sl0, b_nil, b_cons, s_set, s_stp, s_stq, s_tri, s_setF, s_mut, s_par, s_setIx, s_expr, s_app, s_ite, s_rvar, s_ret, s_raise, s_brk, s_pass, e_var, e_rd, e_cst, e_tup, e_lst, e_bin, e_neg, e_not, e_and, e_or, e_cmp, e_chain, e_ite, e_call, e_callio, e_bi, e_isi, e_iso, e_mem, e_get, e_getd, e_fld, e_meth, e_stup, e_slst, e_dup, e_ix, e_slc, e_dsp, l_nil, l_cons, o_none, o_some, x_nil, x_cons, setS, asgT, asgTs, sets, updS, Out.fr, io0, wrAt, Sl.isWr, ME.isRd, io_hd, ex, n_pow e18, n_pow e39, n_mul m1, n_mul m2]
/-- a curve and its check -/
theorem turn {k : Nat} {p : D} {sv : D} {t : Nat} {s1 s2 s3 s5 s6 s7 s8 : Sl} (hp : S.Sp k p) (hk : k + 2000 < 1000000) (f5 : s5.free = true) (f6 : s6.free = true) (f7 : s7.free = true) (f8 : s8.free = true) :
    ∃ p' s6' s7' s8', asgT (.nm 5) (.int t) [sv' , s1, s2, s3, .own p, s5, s6, s7, s8] = some [sv', s1, s2, s3, .own p, .val (.int t), s6, s7, s8] ∧ exB (tblO t_law o_law) fuelN b1_law [sv', s1, s2, s3, .own p, .val (.int t), s6, s7, s8] = .nx [sv', s1, s2, s3, .own p', .val (.int t), s6', s7', s8'] ∧ S.Sp (k + 600) p' ∧ s6'.free = true ∧ s7'.free = true ∧ s8'.free = true := by
  have hf : (tblO t_law o_law) "_law_draw" = some f_l_draw := rfl
  obtain ⟨r1, p1, e1, a1, b1, h1⟩ := r_draw (m := 9) hp (by omega) (by omega) (by omega)
  obtain ⟨r2, p2, e2, a2, b2, h2⟩ := r_draw (m := 38) h1 (by omega) (by omega) (by omega)
  have c1 : ∀ ρ, callIo (tblO t_law o_law) "_law_draw" 4 [.int 9] (sv' :: s1 :: s2 :: s3 :: .own p :: ρ) = .ok (false, .int r1) (sv' :: s1 :: s2 :: s3 :: .own p1 :: ρ) := fun ρ => callIo_own rfl rfl rfl rfl e1
  have c2 : ∀ ρ, callIo (tblO t_law o_law) "_law_draw" 4 [.int 38] (sv' :: s1 :: s2 :: s3 :: .own p1 :: ρ) = .ok (false, .int r2) (sv' :: s1 :: s2 :: s3 :: .own p2 :: ρ) := fun ρ => callIo_own rfl rfl rfl rfl e2
  obtain ⟨m, g1, g2, em⟩ : ∃ m : Nat, 1 ≤ m ∧ m ≤ 60 ∧ ixD (.lst [.int (1 + r1), .int (23 + r2)]) (.int (if (t : Int) = 0 then 1 else 0)) = some (.int m) := by
    by_cases ht : (t : Int) = 0
    · rw [if_pos ht]
      refine ⟨(23 + r2).toNat, by omega, by omega, ?_⟩
      rw [show (((23 + r2).toNat : Nat) : Int) = 23 + r2 by omega]
      rfl
    · rw [if_neg ht]
      refine ⟨(1 + r1).toNat, by omega, by omega, ?_⟩
      rw [show (((1 + r1).toNat : Nat) : Int) = 1 + r1 by omega]
      rfl
  obtain ⟨pts, last, p3, e3, q1, q2, q3, q4, h3⟩ := r_ldrawn h2 g1 g2 (by omega)
  have c3 : ∀ ρ, callIo (tblO t_law o_law) "_law_drawn" 4 [.int m] (sv' :: s1 :: s2 :: s3 :: .own p2 :: ρ) = .ok (false, .tup [.lst (pts.map ptD), ofQ last]) (sv' :: s1 :: s2 :: s3 :: .own p3 :: ρ) := fun ρ => callIo_own rfl rfl rfl rfl e3
  have ne : pts ≠ [] := by intro e; subst e; simp at q1; omega
  have lk := Lk.of q4 ne q2
  have fs : (pts.zip (slopesQ pts last)).map (·.1) = pts := List.map_fst_zip (by rw [slopesQ_len ne]; exact Nat.le_refl _)
  obtain ⟨p4, e4, h4⟩ := r_lright h3 (by omega) lk (by rw [fs]; exact q3) (by rw [List.length_zip]; omega)
  have ec : (pts.zip (slopesQ pts last)).map cD = pts.map ptD := by rw [← lk.fst, fs]
  rw [ec] at e4
  have c4 : ∀ ρ, callIo (tblO t_law o_law) "_law_right" 4 [.lst (pts.map ptD), ofQ last] (sv' :: s1 :: s2 :: s3 :: .own p3 :: ρ) = .ok (false, .bl true) (sv' :: s1 :: s2 :: s3 :: .own p4 :: ρ) := fun ρ => callIo_own rfl rfl rfl rfl e4
  generalize pts.map ptD = ps at *
  refine ⟨p4, .val (.int m), .val (.lst ps), .val (ofQ last), by simp [asgT, setS, f5], ?_, h4.mono (by omega), rfl, rfl, rfl⟩
  have ei : (if t = 0 then (1 : Int) else 0) = (if (t : Int) = 0 then 1 else 0) := by
    by_cases h : t = 0
    · rw [if_pos h, if_pos (by omega)]
    · rw [if_neg h, if_neg (by omega)]
  rw [← ei] at em
  simp [sl0, b_nil, b_cons, s_set, s_stp, s_stq, s_tri, s_setF, s_mut, s_par, s_setIx, s_expr, s_app, s_ite, s_rvar, s_ret, s_raise, s_brk, s_pass, e_var, e_rd, e_cst, e_tup, e_lst, e_bin, e_neg, e_not, e_and, e_or, e_cmp, e_chain, e_ite, e_call, e_callio, e_bi, e_isi, e_iso, e_mem, e_get, e_getd, e_fld, e_meth, e_stup, e_slst, e_dup, e_ix, e_slc, e_dsp, l_nil, l_cons, o_none, o_some, x_nil, x_cons, setS, asgT, asgTs, sets, updS, Out.fr, io0, wrAt, Sl.isWr, ME.isRd, io_hd, b1_law, c1, c2, em, c3, f6, f7, f8, c4]
end K22
namespace K22
open PySem PySem.Spec L2 Z S C
def IIn (sv : D) (s1 : Sl) (done : List Int) (ρ : Vn) : Prop := ∃ (p : D) (s5 s6 s7 s8 : Sl), ρ = [.val sv, s1, .non, .non, .own p, s5, s6, s7, s8] ∧ S.Sp (600 * done.length) p ∧ s5.free = true ∧ s6.free = true ∧ s7.free = true ∧ s8.free = true
def IOut (sv : D) (ρ : Vn) : Prop := ∃ (s1 s4 s5 s6 s7 s8 : Sl), ρ = [.val sv, s1, .non, .non, s4, s5, s6, s7, s8] ∧ s1.free = true ∧ s4.free = true ∧ s5.free = true ∧ s6.free = true ∧ s7.free = true ∧ s8.free = true
theorem outer {ns : List Int} {i : Nat} {ρ : Vn} (hi : i < 10) (h : IOut (.lst (ns.map D.int)) ρ) : ∃ ρ1 ρ2, asgT (.nm 1) (.int i) ρ = some ρ1 ∧ exB (tblO t_law o_law) fuelN b2_law ρ1 = .nx ρ2 ∧ IOut (.lst (ns.map D.int)) ρ2 := by
  obtain ⟨s1, s4, s5, s6, s7, s8, rfl, f1, f4, f5, f6, f7, f8⟩ := h
  obtain ⟨p, ep, hp⟩ := r_spring (ns := ns) hi
  have cp : ∀ ρ, callF (tblO t_law o_law) "_law_spring" [.lst (ns.map D.int), .int i] ρ = .ok (true, p) ρ := fun ρ => callF_ok rfl rfl rfl ep
  generalize D.lst (ns.map D.int) = sv at *
  obtain ⟨ρ', eL, p', s5', s6', s7', s8', rfl, hp', g5, g6, g7, g8⟩ := forGo_typ (tg := .nm 5) (body := exB (tblO t_law o_law) fuelN b1_law) D.int (IIn sv (.val (.int i))) (ts := (List.range 4).map fun i => ((i : Nat) : Int)) (done := []) (ρ := [.val sv, .val (.int i), .non, .non, .own p, s5, s6, s7, s8])
    ⟨p, _, _, _, _, rfl, by simpa using hp, f5, f6, f7, f8⟩ (by
    rintro d t r ρ hsp ⟨p, s5, s6, s7, s8, rfl, hp, f5, f6, f7, f8⟩
    have hd : d.length < 4 := by
      have := congrArg List.length hsp
      simp at this
      omega
    have ht : t ∈ (List.range 4).map fun i => ((i : Nat) : Int) := by rw [List.nil_append] at hsp; rw [hsp]; simp
    obtain ⟨t', _, rfl⟩ := List.mem_map.mp ht
    obtain ⟨p', s6', s7', s8', e1, e2, hp', g6, g7, g8⟩ := turn (sv := sv) (t := t') (sv' := .val sv) (s1 := .val (.int i)) (s2 := .non) (s3 := .non) hp (by omega) f5 f6 f7 f8
    exact ⟨_, _, e1, e2, p', _, _, _, _, rfl, by rw [List.length_append, List.length_singleton]; exact hp'.mono (by omega), rfl, g6, g7, g8⟩)
  refine ⟨[.val sv, .val (.int i), .non, .non, s4, s5, s6, s7, s8], _, by simp [asgT, setS, f1], ?_, .val (.int i), .own p', s5', s6', s7', s8', rfl, rfl, rfl, g5, g6, g7, g8⟩
  have fr : exS (tblO t_law o_law) fuelN (.for (.nm 5) 1 [(.cst (.int 4))] b1_law) [.val sv, .val (.int i), .non, .non, .own p, s5, s6, s7, s8] = .nx [.val sv, .val (.int i), .non, .non, .own p', s5', s6', s7', s8'] :=
    for_nx (ρ1 := [.val sv, .val (.int i), .non, .non, .own p, s5, s6, s7, s8]) (ds := [.int 4]) (by simp [sl0, b_nil, b_cons, s_set, s_stp, s_stq, s_tri, s_setF, s_mut, s_par, s_setIx, s_expr, s_app, s_ite, s_rvar, s_ret, s_raise, s_brk, s_pass, e_var, e_rd, e_cst, e_tup, e_lst, e_bin, e_neg, e_not, e_and, e_or, e_cmp, e_chain, e_ite, e_call, e_callio, e_bi, e_isi, e_iso, e_mem, e_get, e_getd, e_fld, e_meth, e_stup, e_slst, e_dup, e_ix, e_slc, e_dsp, l_nil, l_cons, o_none, o_some, x_nil, x_cons, setS, asgT, asgTs, sets, updS, Out.fr, io0, wrAt, Sl.isWr, ME.isRd, io_hd]) (it_range 4 (by omega)) eL rfl
  simp [sl0, b_nil, b_cons, s_set, s_stp, s_stq, s_tri, s_setF, s_mut, s_par, s_setIx, s_expr, s_app, s_ite, s_rvar, s_ret, s_raise, s_brk, s_pass, e_var, e_rd, e_cst, e_tup, e_lst, e_bin, e_neg, e_not, e_and, e_or, e_cmp, e_chain, e_ite, e_call, e_callio, e_bi, e_isi, e_iso, e_mem, e_get, e_getd, e_fld, e_meth, e_stup, e_slst, e_dup, e_ix, e_slc, e_dsp, l_nil, l_cons, o_none, o_some, x_nil, x_cons, setS, asgT, asgTs, sets, updS, Out.fr, io0, wrAt, Sl.isWr, ME.isRd, io_hd, b2_law, cp, f4, fr]
def isTrue : Out → Bool
  | .rt false (.bl true) _ => true
  | _ => false
theorem isTrue_fr {o : Out} (h : isTrue o = true) : o.fr false false = .ok (.bl true) .non := by
  unfold isTrue at h
  split at h
  · rfl
  · cases h
theorem tail (sv : D) (s1 s4 s5 s6 s7 s8 : Sl) : isTrue (exB (tblO t_law o_law) fuelN (m_law.drop 1) [.val sv, s1, .non, .non, s4, s5, s6, s7, s8]) = true := by kernel_rfl
theorem main : ∀ ns : List Int, ns.length ≤ 63 → ∃ s, f_law.run [.lst (ns.map D.int)] = .ok (.bl true) s := by
  intro ns _
  obtain ⟨n, h1, h2, en⟩ : ∃ n : Nat, n ≤ 5 ∧ 1 ≤ n ∧ evL (tblO t_law o_law) [(.bi "max" [(.cst (.int 1)), (.bi "min" [(.cst (.int 5)), (.bi "len" [(.rd 0)])])])] [.val (.lst (ns.map D.int)), .non, .non, .non, .non, .non, .non, .non, .non] = .ok [.int n] [.val (.lst (ns.map D.int)), .non, .non, .non, .non, .non, .non, .non, .non] := by
    have ln : (ns.map D.int).length = ns.length := List.length_map ..
    refine ⟨max 1 (min 5 ns.length), by omega, by omega, ?_⟩
    have e : (if 1 < (if (ns.length : Int) < 5 then (ns.length : Int) else 5) then (if (ns.length : Int) < 5 then (ns.length : Int) else 5) else 1) = ((max 1 (min 5 ns.length) : Nat) : Int) := by
      split <;> split <;> omega
    generalize ns.map D.int = l at *
    simp [sl0, b_nil, b_cons, s_set, s_stp, s_stq, s_tri, s_setF, s_mut, s_par, s_setIx, s_expr, s_app, s_ite, s_rvar, s_ret, s_raise, s_brk, s_pass, e_var, e_rd, e_cst, e_tup, e_lst, e_bin, e_neg, e_not, e_and, e_or, e_cmp, e_chain, e_ite, e_call, e_callio, e_bi, e_isi, e_iso, e_mem, e_get, e_getd, e_fld, e_meth, e_stup, e_slst, e_dup, e_ix, e_slc, e_dsp, l_nil, l_cons, o_none, o_some, x_nil, x_cons, setS, asgT, asgTs, sets, updS, Out.fr, io0, wrAt, Sl.isWr, ME.isRd, io_hd, ln]
    split <;> split <;> omega
  obtain ⟨ρ', eL, s1, s4, s5, s6, s7, s8, rfl, _⟩ := forGo_typ (tg := .nm 1) (body := exB (tblO t_law o_law) fuelN b2_law) D.int (fun _ ρ => IOut (.lst (ns.map D.int)) ρ) (ts := (List.range n).map fun i => ((i : Nat) : Int)) (done := []) (ρ := [.val (.lst (ns.map D.int)), .non, .non, .non, .non, .non, .non, .non, .non])
    ⟨_, _, _, _, _, _, rfl, rfl, rfl, rfl, rfl, rfl, rfl⟩ (by
    intro d t r ρ hsp h
    have ht : t ∈ (List.range n).map fun i => ((i : Nat) : Int) := by rw [List.nil_append] at hsp; rw [hsp]; simp
    obtain ⟨t', ht', rfl⟩ := List.mem_map.mp ht
    have := List.mem_range.mp ht'
    exact outer (by omega) h)
  refine ⟨.non, ?_⟩
  have sp : m_law = .for (.nm 1) 1 [(.bi "max" [(.cst (.int 1)), (.bi "min" [(.cst (.int 5)), (.bi "len" [(.rd 0)])])])] b2_law :: m_law.drop 1 := rfl
  rw [f_law, run_mk, sp, show sl0 false 9 [.lst (ns.map D.int)] = [.val (.lst (ns.map D.int)), .non, .non, .non, .non, .non, .non, .non, .non] from rfl, exB_nx (for_nx en (it_range n (by omega)) eL rfl)]
  exact isTrue_fr (tail _ _ _ _ _ _ _)
end K22

set_option maxHeartbeats 0
namespace K22
open PySem PySem.Spec L2 Z
open PyProof.Rows hiding St
def top (i : Nat) : Stmt := PySem.Challenge.pw_salesplit_k22_values_of_curves.main.body.getD i (.Pass ⟨0, 0, 0, 0⟩)
def d_pair_of : He.DefD := ⟨("pair_of", none), "pair_of", "pair_of", defArgs (top 9), defBody (top 9), defScope (top 9), [], []⟩
def d_less : He.DefD := ⟨("less", none), "less", "less", defArgs (top 11), defBody (top 11), defScope (top 11), [], []⟩
def d_common_divisor : He.DefD := ⟨("common_divisor", none), "common_divisor", "common_divisor", defArgs (top 7), defBody (top 7), defScope (top 7), [], []⟩
def d_is_int : He.DefD := ⟨("is_int", none), "is_int", "is_int", defArgs (top 6), defBody (top 6), defScope (top 6), [], []⟩
def d_is_number : He.DefD := ⟨("is_number", none), "is_number", "is_number", defArgs (top 8), defBody (top 8), defScope (top 8), [], []⟩
def d_require_number : He.DefD := ⟨("require_number", none), "require_number", "require_number", defArgs (top 12), defBody (top 12), defScope (top 12), [.non], []⟩
def d_is_less : He.DefD := ⟨("is_less", none), "is_less", "is_less", defArgs (top 17), defBody (top 17), defScope (top 17), [], []⟩
def d_is_point : He.DefD := ⟨("is_point", none), "is_point", "is_point", defArgs (top 21), defBody (top 21), defScope (top 21), [], []⟩
def d_are_points : He.DefD := ⟨("are_points", none), "are_points", "are_points", defArgs (top 22), defBody (top 22), defScope (top 22), [], []⟩
def d_number_of : He.DefD := ⟨("number_of", none), "number_of", "number_of", defArgs (top 10), defBody (top 10), defScope (top 10), [], []⟩
def d_minus : He.DefD := ⟨("minus", none), "minus", "minus", defArgs (top 14), defBody (top 14), defScope (top 14), [], []⟩
def d_over : He.DefD := ⟨("over", none), "over", "over", defArgs (top 16), defBody (top 16), defScope (top 16), [], []⟩
def d_slope_between : He.DefD := ⟨("slope_between", none), "slope_between", "slope_between", defArgs (top 23), defBody (top 23), defScope (top 23), [], []⟩
def d_slopes_of : He.DefD := ⟨("slopes_of", none), "slopes_of", "slopes_of", defArgs (top 24), defBody (top 24), defScope (top 24), [], []⟩
def d_true_corners : He.DefD := ⟨("true_corners", none), "true_corners", "true_corners", defArgs (top 25), defBody (top 25), defScope (top 25), [], []⟩
def d_Curve_init : He.DefD := ⟨("Curve", some "__init__"), "__init__", "Curve.__init__", defArgs (memOf (top 27) 0), defBody (memOf (top 27) 0), defScope (memOf (top 27) 0), [], []⟩
def d_place_of : He.DefD := ⟨("place_of", none), "place_of", "place_of", defArgs (top 26), defBody (top 26), defScope (top 26), [], []⟩
def d_total : He.DefD := ⟨("total", none), "total", "total", defArgs (top 18), defBody (top 18), defScope (top 18), [], []⟩
def d_plus : He.DefD := ⟨("plus", none), "plus", "plus", defArgs (top 13), defBody (top 13), defScope (top 13), [], []⟩
def d_times : He.DefD := ⟨("times", none), "times", "times", defArgs (top 15), defBody (top 15), defScope (top 15), [], []⟩
def d_Curve_at : He.DefD := ⟨("Curve", some "at"), "at", "Curve.at", defArgs (memOf (top 27) 6), defBody (memOf (top 27) 6), defScope (memOf (top 27) 6), [], []⟩
def d_Curve_least : He.DefD := ⟨("Curve", some "least"), "least", "Curve.least", defArgs (memOf (top 27) 7), defBody (memOf (top 27) 7), defScope (memOf (top 27) 7), [], []⟩
def d_Curve_slope_behind : He.DefD := ⟨("Curve", some "slope_behind"), "slope_behind", "Curve.slope_behind", defArgs (memOf (top 27) 8), defBody (memOf (top 27) 8), defScope (memOf (top 27) 8), [], []⟩
def d_l_draw : He.DefD := ⟨("_law_draw", none), "_law_draw", "_law_draw", defArgs (top 31), defBody (top 31), defScope (top 31), [], []⟩
def d_l_low : He.DefD := ⟨("_law_low", none), "_law_low", "_law_low", defArgs (top 32), defBody (top 32), defScope (top 32), [], []⟩
def d_l_number : He.DefD := ⟨("_law_number", none), "_law_number", "_law_number", defArgs (top 41), defBody (top 41), defScope (top 41), [], []⟩
def d_l_pair : He.DefD := ⟨("_law_pair", none), "_law_pair", "_law_pair", defArgs (top 33), defBody (top 33), defScope (top 33), [], []⟩
def d_l_sum : He.DefD := ⟨("_law_sum", none), "_law_sum", "_law_sum", defArgs (top 34), defBody (top 34), defScope (top 34), [], []⟩
def d_l_times : He.DefD := ⟨("_law_times", none), "_law_times", "_law_times", defArgs (top 36), defBody (top 36), defScope (top 36), [], []⟩
def d_l_drawn : He.DefD := ⟨("_law_drawn", none), "_law_drawn", "_law_drawn", defArgs (top 42), defBody (top 42), defScope (top 42), [], []⟩
def p_Curve_corners : PrD := ⟨"Curve", "corners", "corners", "Curve.corners", defArgs (memOf (top 27) 1), defBody (memOf (top 27) 1), defScope (memOf (top 27) 1)⟩
def d_l_less : He.DefD := ⟨("_law_less", none), "_law_less", "_law_less", defArgs (top 38), defBody (top 38), defScope (top 38), [], []⟩
def d_l_minus : He.DefD := ⟨("_law_minus", none), "_law_minus", "_law_minus", defArgs (top 35), defBody (top 35), defScope (top 35), [], []⟩
def d_l_over : He.DefD := ⟨("_law_over", none), "_law_over", "_law_over", defArgs (top 37), defBody (top 37), defScope (top 37), [], []⟩
def d_l_first : He.DefD := ⟨("_law_first", none), "_law_first", "_law_first", defArgs (top 46), defBody (top 46), defScope (top 46), [], []⟩
def d_l_piece : He.DefD := ⟨("_law_piece", none), "_law_piece", "_law_piece", defArgs (top 44), defBody (top 44), defScope (top 44), [], []⟩
def d_l_somewhere : He.DefD := ⟨("_law_somewhere", none), "_law_somewhere", "_law_somewhere", defArgs (top 45), defBody (top 45), defScope (top 45), [], []⟩
def d_l_true : He.DefD := ⟨("_law_true", none), "_law_true", "_law_true", defArgs (top 43), defBody (top 43), defScope (top 43), [], []⟩
def d_l_right : He.DefD := ⟨("_law_right", none), "_law_right", "_law_right", defArgs (top 47), defBody (top 47), defScope (top 47), [], []⟩
def d_l_spring : He.DefD := ⟨("_law_spring", none), "_law_spring", "_law_spring", defArgs (top 30), defBody (top 30), defScope (top 30), [], []⟩
def d_law : He.DefD := ⟨("law", none), "law", "law", defArgs (top 48), defBody (top 48), defScope (top 48), [], []⟩
def fn : List He.DefD := [d_pair_of, d_less, d_common_divisor, d_is_int, d_is_number, d_require_number, d_is_less, d_is_point, d_are_points, d_number_of, d_minus, d_over, d_slope_between, d_slopes_of, d_true_corners, d_Curve_init, d_place_of, d_total, d_plus, d_times, d_Curve_at, d_Curve_least, d_Curve_slope_behind, d_l_draw, d_l_low, d_l_number, d_l_pair, d_l_sum, d_l_times, d_l_drawn, d_l_less, d_l_minus, d_l_over, d_l_first, d_l_piece, d_l_somewhere, d_l_true, d_l_right, d_l_spring, d_law]
def pr : List PrD := [p_Curve_corners]
def fa : List He.Fa := [.glo "pair_of", .glo "less", .glo "common_divisor", .glo "is_int", .glo "is_number", .glo "require_number", .glo "is_less", .glo "is_point", .glo "are_points", .glo "number_of", .glo "minus", .glo "over", .glo "slope_between", .glo
   "slopes_of", .glo "true_corners", .glo "place_of", .glo "total", .glo "plus", .glo "times", .glo "_law_draw", .glo "_law_low", .glo "_law_number", .glo "_law_pair", .glo "_law_sum", .glo "_law_times", .glo "_law_drawn", .glo "_law_less",
   .glo "_law_minus", .glo "_law_over", .glo "_law_first", .glo "_law_piece", .glo "_law_somewhere", .glo "_law_true", .glo "_law_right", .glo "_law_spring", .glo "law", .free "abs", .free "all", .free "bool", .free "enumerate", .free
   "int", .free "isinstance", .free "len", .free "list", .free "max", .free "min", .free "property", .free "range", .free "repr", .free "tuple", .free "zip", .glo "InvalidCurve", .exc "InvalidCurve", .glo "InvalidNumber", .exc "InvalidNumber",
   .glo "Curve", .cls "Curve", .mkr "Curve", .meth "Curve" "at", .meth "Curve" "least", .meth "Curve" "slope_behind", .noat "Curve" "kept_corners", .noat "Curve" "kept_slopes"]
def lo0 : List PySem.Str := ["Curve", "InvalidCurve", "InvalidNumber", "SaleError", "_law_draw", "_law_drawn", "_law_first", "_law_great", "_law_less", "_law_low", "_law_minus", "_law_number", "_law_over", "_law_pair", "_law_piece", "_law_right", "_law_somewhere", "_law_sorted", "_law_spring", "_law_sum", "_law_times", "_law_true", "_wall", "are_points", "ascending", "common_divisor", "curve_sum", "is_int", "is_less", "is_number"]
def lo1 : List PySem.Str := ["is_point", "less", "minus", "number_of", "over", "pair_of", "place_of", "plus", "require_number", "slope_between", "slopes_of", "times", "total", "true_corners"]
def lo : List PySem.Str := lo0 ++ lo1
abbrev R : PySem.W.OpenRow := PySem.W.OpenLaw.row PySem.Challenge.rw_salesplit_k22_values_of_curves
abbrev hk : PySem.W.Hook := hookP 5 fa fn pr
def ob (s : PySem.W.SharedT) : AlP := obsPG 5 fa fn pr (HandSHeadRun.getT s)
theorem obEq (s : PySem.W.SharedT) : ob s = hk.obs s.abs := obsPG_eq (HandSHeadRun.getT_eq s)
theorem runs (w : World) : HandSHeadRun.RunEq R (PySem.W.view R.prog [48]) hk ob 20000 lo w := by
  intro o
  kernel_rfl
section
variable {P : Program} {w : World} {K : PySem.W.Frag} {h : Heap} {mg : Str → Option Value} {base : Heap}
theorem mdl (X : K.In h) (G : h.Ns mainGlobals mg) (c : He.SaysD fa fn K) {cc : Cfg} (e1 : cc.free = c_law.free) (e2 : cc.cst = c_law.cst) (e3 : cc.excs = c_law.excs) : Mdl cc P w K mg := by
  refine ⟨?_, ?_, ?_⟩
  · rw [e1]
    exact free_cons (He.free_ok X G (c.fact 36 (f := .free "abs") rfl)) (free_cons (He.free_ok X G (c.fact 37 (f := .free "all") rfl)) (free_cons (He.free_ok X G (c.fact 38 (f := .free "bool") rfl)) (free_cons (He.free_ok X G (c.fact 39 (f := .free "enumerate") rfl)) (free_cons (He.free_ok X G (c.fact 40 (f := .free "int") rfl)) (free_cons (He.free_ok X G (c.fact 41 (f := .free "isinstance") rfl)) (free_cons (He.free_ok X G (c.fact 42 (f := .free "len") rfl)) (free_cons (He.free_ok X G (c.fact 43 (f := .free "list") rfl)) (free_cons (He.free_ok X G (c.fact 44 (f := .free "max") rfl)) (free_cons (He.free_ok X G (c.fact 45 (f := .free "min") rfl)) (free_cons (He.free_ok X G (c.fact 46 (f := .free "property") rfl)) (free_cons (He.free_ok X G (c.fact 47 (f := .free "range") rfl)) (free_cons (He.free_ok X G (c.fact 48 (f := .free "repr") rfl)) (free_cons (He.free_ok X G (c.fact 49 (f := .free "tuple") rfl)) (free_cons (He.free_ok X G (c.fact 50 (f := .free "zip") rfl)) (free_nil)))))))))))))))
  · rw [e2]
    exact cst_nil
  · rw [e3]
    exact exc_cons (He.glo_ok X G (c.fact 51 (f := .glo "InvalidCurve") rfl)) (He.exc_ok (c.fact 52 (f := .exc "InvalidCurve") rfl)) (exc_cons (He.glo_ok X G (c.fact 53 (f := .glo "InvalidNumber") rfl)) (He.exc_ok (c.fact 54 (f := .exc "InvalidNumber") rfl)) (exc_nil))
theorem f_Curve_kept_corners (c : SaysP fa fn pr K) : OwnAt P w K mg base 0 "Curve" "kept_corners" .fld := ⟨(He.cls_ok (c.d.fact 56 (f := .cls "Curve") rfl)), He.noat_ok (c.d.fact 61 (f := .noat "Curve" "kept_corners") rfl)⟩
theorem f_Curve_kept_slopes (c : SaysP fa fn pr K) : OwnAt P w K mg base 0 "Curve" "kept_slopes" .fld := ⟨(He.cls_ok (c.d.fact 56 (f := .cls "Curve") rfl)), He.noat_ok (c.d.fact 62 (f := .noat "Curve" "kept_slopes") rfl)⟩
theorem s_pair_of : FnScope c_pair_of.N ["one"] (defScope (top 9)) := ⟨rfl, rfl, rfl, by decide +kernel, rfl, by decide +kernel, by decide +kernel⟩
theorem tr_pair_of : trSs c_pair_of 60 (defScope (top 9)) (defBody (top 9)) = S.m_l_pair := by kernel_rfl
theorem a_pair_of (X : K.In h) (G : h.Ns mainGlobals mg) (c : SaysP fa fn pr K)  : FnAt P w K mg base 1 "pair_of" S.f_l_pair := by
  obtain ⟨fd, F⟩ := c.d.def_ 0 (d := d_pair_of) rfl
  exact fnAt_mk F s_pair_of rfl (He.glo_ok X G (c.d.fact 0 (f := .glo "pair_of") rfl)) (fun _ z => by cases z) (binds_nil (FunD.bindsN F fun _ _ _ _ _ _ us hl => match us, hl with | [_], _ => rfl)) (mdl X G c.d rfl rfl rfl) (fns_nil) (own_nil) tr_pair_of
theorem s_less : FnScope c_less.N ["one", "other"] (defScope (top 11)) := ⟨rfl, rfl, rfl, by decide +kernel, rfl, by decide +kernel, by decide +kernel⟩
theorem tr_less : trSs c_less 60 (defScope (top 11)) (defBody (top 11)) = S.m_less := by kernel_rfl
theorem a_less (X : K.In h) (G : h.Ns mainGlobals mg) (c : SaysP fa fn pr K) (a_pair_of : FnAt P w K mg base 1 "pair_of" S.f_l_pair) : FnAt P w K mg base 2 "less" S.f_less := by
  obtain ⟨fd, F⟩ := c.d.def_ 1 (d := d_less) rfl
  exact fnAt_mk F s_less rfl (He.glo_ok X G (c.d.fact 1 (f := .glo "less") rfl)) (fun _ z => by cases z) (binds_nil (FunD.bindsN F fun _ _ _ _ _ _ us hl => match us, hl with | [_, _], _ => rfl)) (mdl X G c.d rfl rfl rfl) (fns_cons ⟨_, rfl, rfl, a_pair_of.mono (by decide)⟩ (fns_nil)) (own_nil) tr_less
theorem s_common_divisor : FnScope c_common_divisor.N ["one", "other"] (defScope (top 7)) := ⟨rfl, rfl, rfl, by decide +kernel, rfl, by decide +kernel, by decide +kernel⟩
theorem tr_common_divisor : trSs c_common_divisor 60 (defScope (top 7)) (defBody (top 7)) = S.m_common_divisor := by kernel_rfl
theorem a_common_divisor (X : K.In h) (G : h.Ns mainGlobals mg) (c : SaysP fa fn pr K)  : FnAt P w K mg base 1 "common_divisor" S.f_common_divisor := by
  obtain ⟨fd, F⟩ := c.d.def_ 2 (d := d_common_divisor) rfl
  exact fnAt_mk F s_common_divisor rfl (He.glo_ok X G (c.d.fact 2 (f := .glo "common_divisor") rfl)) (fun _ z => by cases z) (binds_nil (FunD.bindsN F fun _ _ _ _ _ _ us hl => match us, hl with | [_, _], _ => rfl)) (mdl X G c.d rfl rfl rfl) (fns_nil) (own_nil) tr_common_divisor
theorem s_is_int : FnScope c_is_int.N ["value"] (defScope (top 6)) := ⟨rfl, rfl, rfl, by decide +kernel, rfl, by decide +kernel, by decide +kernel⟩
theorem tr_is_int : trSs c_is_int 60 (defScope (top 6)) (defBody (top 6)) = S.m_is_int := by kernel_rfl
theorem a_is_int (X : K.In h) (G : h.Ns mainGlobals mg) (c : SaysP fa fn pr K)  : FnAt P w K mg base 1 "is_int" S.f_is_int := by
  obtain ⟨fd, F⟩ := c.d.def_ 3 (d := d_is_int) rfl
  exact fnAt_mk F s_is_int rfl (He.glo_ok X G (c.d.fact 3 (f := .glo "is_int") rfl)) (fun _ z => by cases z) (binds_nil (FunD.bindsN F fun _ _ _ _ _ _ us hl => match us, hl with | [_], _ => rfl)) (mdl X G c.d rfl rfl rfl) (fns_nil) (own_nil) tr_is_int
theorem s_is_number : FnScope c_is_number.N ["value"] (defScope (top 8)) := ⟨rfl, rfl, rfl, by decide +kernel, rfl, by decide +kernel, by decide +kernel⟩
theorem tr_is_number : trSs c_is_number 60 (defScope (top 8)) (defBody (top 8)) = S.m_is_number := by kernel_rfl
theorem a_is_number (X : K.In h) (G : h.Ns mainGlobals mg) (c : SaysP fa fn pr K) (a_common_divisor : FnAt P w K mg base 1 "common_divisor" S.f_common_divisor) (a_is_int : FnAt P w K mg base 1 "is_int" S.f_is_int) : FnAt P w K mg base 2 "is_number" S.f_is_number := by
  obtain ⟨fd, F⟩ := c.d.def_ 4 (d := d_is_number) rfl
  exact fnAt_mk F s_is_number rfl (He.glo_ok X G (c.d.fact 4 (f := .glo "is_number") rfl)) (fun _ z => by cases z) (binds_nil (FunD.bindsN F fun _ _ _ _ _ _ us hl => match us, hl with | [_], _ => rfl)) (mdl X G c.d rfl rfl rfl) (fns_cons ⟨_, rfl, rfl, a_common_divisor.mono (by decide)⟩ (fns_cons ⟨_, rfl, rfl, a_is_int.mono (by decide)⟩ (fns_nil))) (own_nil) tr_is_number
theorem s_require_number : FnScope c_require_number.N ["value", "least"] (defScope (top 12)) := ⟨rfl, rfl, rfl, by decide +kernel, rfl, by decide +kernel, by decide +kernel⟩
theorem tr_require_number : trSs c_require_number 60 (defScope (top 12)) (defBody (top 12)) = S.m_require_number := by kernel_rfl
theorem a_require_number (X : K.In h) (G : h.Ns mainGlobals mg) (c : SaysP fa fn pr K) (a_is_number : FnAt P w K mg base 2 "is_number" S.f_is_number) (a_less : FnAt P w K mg base 2 "less" S.f_less) : FnAt P w K mg base 3 "require_number" S.f_require_number := by
  obtain ⟨fd, F⟩ := c.d.def_ 5 (d := d_require_number) rfl
  refine fnAt_mk F s_require_number rfl (He.glo_ok X G (c.d.fact 5 (f := .glo "require_number") rfl)) (fun d z => by simp at z; rcases z with rfl <;> rfl) ?_ (mdl X G c.d rfl rfl rfl) (fns_cons ⟨_, rfl, rfl, a_is_number.mono (by decide)⟩ (fns_cons ⟨_, rfl, rfl, a_less.mono (by decide)⟩ (fns_nil))) (own_nil) tr_require_number
  exact fun j hj => match j, hj with
    | 0, _ => FunD.binds1 F 1 0 (List.cons_ne_nil _ _) rfl (fun _ _ _ _ _ _ _ us its hu hi => match us, hu, its, hi with | [_], _, [_], _ => ⟨_, rfl, rfl⟩)
    | 1, _ => FunD.binds1 F 2 1 (List.cons_ne_nil _ _) rfl (fun _ _ _ _ _ _ _ us its hu hi => match us, hu, its, hi with | [_, _], _, [_], _ => ⟨_, rfl, rfl⟩)
    | _ + 2, hj => absurd hj (by simp)
theorem s_is_less : FnScope c_is_less.N ["one", "other"] (defScope (top 17)) := ⟨rfl, rfl, rfl, by decide +kernel, rfl, by decide +kernel, by decide +kernel⟩
theorem tr_is_less : trSs c_is_less 60 (defScope (top 17)) (defBody (top 17)) = S.m_is_less := by kernel_rfl
theorem a_is_less (X : K.In h) (G : h.Ns mainGlobals mg) (c : SaysP fa fn pr K) (a_less : FnAt P w K mg base 2 "less" S.f_less) (a_require_number : FnAt P w K mg base 3 "require_number" S.f_require_number) : FnAt P w K mg base 4 "is_less" S.f_is_less := by
  obtain ⟨fd, F⟩ := c.d.def_ 6 (d := d_is_less) rfl
  exact fnAt_mk F s_is_less rfl (He.glo_ok X G (c.d.fact 6 (f := .glo "is_less") rfl)) (fun _ z => by cases z) (binds_nil (FunD.bindsN F fun _ _ _ _ _ _ us hl => match us, hl with | [_, _], _ => rfl)) (mdl X G c.d rfl rfl rfl) (fns_cons ⟨_, rfl, rfl, a_less.mono (by decide)⟩ (fns_cons ⟨_, rfl, rfl, a_require_number.mono (by decide)⟩ (fns_nil))) (own_nil) tr_is_less
theorem s_is_point : FnScope c_is_point.N ["value"] (defScope (top 21)) := ⟨rfl, rfl, rfl, by decide +kernel, rfl, by decide +kernel, by decide +kernel⟩
theorem tr_is_point : trSs c_is_point 60 (defScope (top 21)) (defBody (top 21)) = S.m_is_point := by kernel_rfl
theorem a_is_point (X : K.In h) (G : h.Ns mainGlobals mg) (c : SaysP fa fn pr K) (a_is_less : FnAt P w K mg base 4 "is_less" S.f_is_less) (a_is_number : FnAt P w K mg base 2 "is_number" S.f_is_number) : FnAt P w K mg base 5 "is_point" S.f_is_point := by
  obtain ⟨fd, F⟩ := c.d.def_ 7 (d := d_is_point) rfl
  exact fnAt_mk F s_is_point rfl (He.glo_ok X G (c.d.fact 7 (f := .glo "is_point") rfl)) (fun _ z => by cases z) (binds_nil (FunD.bindsN F fun _ _ _ _ _ _ us hl => match us, hl with | [_], _ => rfl)) (mdl X G c.d rfl rfl rfl) (fns_cons ⟨_, rfl, rfl, a_is_less.mono (by decide)⟩ (fns_cons ⟨_, rfl, rfl, a_is_number.mono (by decide)⟩ (fns_nil))) (own_nil) tr_is_point
theorem s_are_points : FnScope c_are_points.N ["value"] (defScope (top 22)) := ⟨rfl, rfl, rfl, by decide +kernel, rfl, by decide +kernel, by decide +kernel⟩
theorem tr_are_points : trSs c_are_points 60 (defScope (top 22)) (defBody (top 22)) = S.m_are_points := by kernel_rfl
theorem a_are_points (X : K.In h) (G : h.Ns mainGlobals mg) (c : SaysP fa fn pr K) (a_is_less : FnAt P w K mg base 4 "is_less" S.f_is_less) (a_is_point : FnAt P w K mg base 5 "is_point" S.f_is_point) : FnAt P w K mg base 6 "are_points" S.f_are_points := by
  obtain ⟨fd, F⟩ := c.d.def_ 8 (d := d_are_points) rfl
  exact fnAt_mk F s_are_points rfl (He.glo_ok X G (c.d.fact 8 (f := .glo "are_points") rfl)) (fun _ z => by cases z) (binds_nil (FunD.bindsN F fun _ _ _ _ _ _ us hl => match us, hl with | [_], _ => rfl)) (mdl X G c.d rfl rfl rfl) (fns_cons ⟨_, rfl, rfl, a_is_less.mono (by decide)⟩ (fns_cons ⟨_, rfl, rfl, a_is_point.mono (by decide)⟩ (fns_nil))) (own_nil) tr_are_points
theorem s_number_of : FnScope c_number_of.N ["top", "bottom"] (defScope (top 10)) := ⟨rfl, rfl, rfl, by decide +kernel, rfl, by decide +kernel, by decide +kernel⟩
theorem tr_number_of : trSs c_number_of 60 (defScope (top 10)) (defBody (top 10)) = S.m_number_of := by kernel_rfl
theorem a_number_of (X : K.In h) (G : h.Ns mainGlobals mg) (c : SaysP fa fn pr K) (a_common_divisor : FnAt P w K mg base 1 "common_divisor" S.f_common_divisor) : FnAt P w K mg base 2 "number_of" S.f_number_of := by
  obtain ⟨fd, F⟩ := c.d.def_ 9 (d := d_number_of) rfl
  exact fnAt_mk F s_number_of rfl (He.glo_ok X G (c.d.fact 9 (f := .glo "number_of") rfl)) (fun _ z => by cases z) (binds_nil (FunD.bindsN F fun _ _ _ _ _ _ us hl => match us, hl with | [_, _], _ => rfl)) (mdl X G c.d rfl rfl rfl) (fns_cons ⟨_, rfl, rfl, a_common_divisor.mono (by decide)⟩ (fns_nil)) (own_nil) tr_number_of
theorem s_minus : FnScope c_minus.N ["one", "other"] (defScope (top 14)) := ⟨rfl, rfl, rfl, by decide +kernel, rfl, by decide +kernel, by decide +kernel⟩
theorem tr_minus : trSs c_minus 60 (defScope (top 14)) (defBody (top 14)) = S.m_minus := by kernel_rfl
theorem a_minus (X : K.In h) (G : h.Ns mainGlobals mg) (c : SaysP fa fn pr K) (a_number_of : FnAt P w K mg base 2 "number_of" S.f_number_of) (a_pair_of : FnAt P w K mg base 1 "pair_of" S.f_l_pair) (a_require_number : FnAt P w K mg base 3 "require_number" S.f_require_number) : FnAt P w K mg base 4 "minus" S.f_minus := by
  obtain ⟨fd, F⟩ := c.d.def_ 10 (d := d_minus) rfl
  exact fnAt_mk F s_minus rfl (He.glo_ok X G (c.d.fact 10 (f := .glo "minus") rfl)) (fun _ z => by cases z) (binds_nil (FunD.bindsN F fun _ _ _ _ _ _ us hl => match us, hl with | [_, _], _ => rfl)) (mdl X G c.d rfl rfl rfl) (fns_cons ⟨_, rfl, rfl, a_number_of.mono (by decide)⟩ (fns_cons ⟨_, rfl, rfl, a_pair_of.mono (by decide)⟩ (fns_cons ⟨_, rfl, rfl, a_require_number.mono (by decide)⟩ (fns_nil)))) (own_nil) tr_minus
theorem s_over : FnScope c_over.N ["one", "other"] (defScope (top 16)) := ⟨rfl, rfl, rfl, by decide +kernel, rfl, by decide +kernel, by decide +kernel⟩
theorem tr_over : trSs c_over 60 (defScope (top 16)) (defBody (top 16)) = S.m_over := by kernel_rfl
theorem a_over (X : K.In h) (G : h.Ns mainGlobals mg) (c : SaysP fa fn pr K) (a_number_of : FnAt P w K mg base 2 "number_of" S.f_number_of) (a_pair_of : FnAt P w K mg base 1 "pair_of" S.f_l_pair) (a_require_number : FnAt P w K mg base 3 "require_number" S.f_require_number) : FnAt P w K mg base 4 "over" S.f_over := by
  obtain ⟨fd, F⟩ := c.d.def_ 11 (d := d_over) rfl
  exact fnAt_mk F s_over rfl (He.glo_ok X G (c.d.fact 11 (f := .glo "over") rfl)) (fun _ z => by cases z) (binds_nil (FunD.bindsN F fun _ _ _ _ _ _ us hl => match us, hl with | [_, _], _ => rfl)) (mdl X G c.d rfl rfl rfl) (fns_cons ⟨_, rfl, rfl, a_number_of.mono (by decide)⟩ (fns_cons ⟨_, rfl, rfl, a_pair_of.mono (by decide)⟩ (fns_cons ⟨_, rfl, rfl, a_require_number.mono (by decide)⟩ (fns_nil)))) (own_nil) tr_over
theorem s_slope_between : FnScope c_slope_between.N ["one", "other"] (defScope (top 23)) := ⟨rfl, rfl, rfl, by decide +kernel, rfl, by decide +kernel, by decide +kernel⟩
theorem tr_slope_between : trSs c_slope_between 60 (defScope (top 23)) (defBody (top 23)) = S.m_slope_between := by kernel_rfl
theorem a_slope_between (X : K.In h) (G : h.Ns mainGlobals mg) (c : SaysP fa fn pr K) (a_minus : FnAt P w K mg base 4 "minus" S.f_minus) (a_over : FnAt P w K mg base 4 "over" S.f_over) : FnAt P w K mg base 5 "slope_between" S.f_slope_between := by
  obtain ⟨fd, F⟩ := c.d.def_ 12 (d := d_slope_between) rfl
  exact fnAt_mk F s_slope_between rfl (He.glo_ok X G (c.d.fact 12 (f := .glo "slope_between") rfl)) (fun _ z => by cases z) (binds_nil (FunD.bindsN F fun _ _ _ _ _ _ us hl => match us, hl with | [_, _], _ => rfl)) (mdl X G c.d rfl rfl rfl) (fns_cons ⟨_, rfl, rfl, a_minus.mono (by decide)⟩ (fns_cons ⟨_, rfl, rfl, a_over.mono (by decide)⟩ (fns_nil))) (own_nil) tr_slope_between
theorem s_slopes_of : FnScope c_slopes_of.N ["points", "slope"] (defScope (top 24)) := ⟨rfl, rfl, rfl, by decide +kernel, rfl, by decide +kernel, by decide +kernel⟩
theorem tr_slopes_of : trSs c_slopes_of 60 (defScope (top 24)) (defBody (top 24)) = S.m_slopes_of := by kernel_rfl
theorem a_slopes_of (X : K.In h) (G : h.Ns mainGlobals mg) (c : SaysP fa fn pr K) (a_slope_between : FnAt P w K mg base 5 "slope_between" S.f_slope_between) : FnAt P w K mg base 6 "slopes_of" S.f_slopes_of := by
  obtain ⟨fd, F⟩ := c.d.def_ 13 (d := d_slopes_of) rfl
  exact fnAt_mk F s_slopes_of rfl (He.glo_ok X G (c.d.fact 13 (f := .glo "slopes_of") rfl)) (fun _ z => by cases z) (binds_nil (FunD.bindsN F fun _ _ _ _ _ _ us hl => match us, hl with | [_, _], _ => rfl)) (mdl X G c.d rfl rfl rfl) (fns_cons ⟨_, rfl, rfl, a_slope_between.mono (by decide)⟩ (fns_nil)) (own_nil) tr_slopes_of
theorem s_true_corners : FnScope c_true_corners.N ["points", "slope"] (defScope (top 25)) := ⟨rfl, rfl, rfl, by decide +kernel, rfl, by decide +kernel, by decide +kernel⟩
theorem tr_true_corners : trSs c_true_corners 60 (defScope (top 25)) (defBody (top 25)) = S.m_true_corners := by kernel_rfl
theorem a_true_corners (X : K.In h) (G : h.Ns mainGlobals mg) (c : SaysP fa fn pr K) (a_slopes_of : FnAt P w K mg base 6 "slopes_of" S.f_slopes_of) : FnAt P w K mg base 7 "true_corners" S.f_true_corners := by
  obtain ⟨fd, F⟩ := c.d.def_ 14 (d := d_true_corners) rfl
  exact fnAt_mk F s_true_corners rfl (He.glo_ok X G (c.d.fact 14 (f := .glo "true_corners") rfl)) (fun _ z => by cases z) (binds_nil (FunD.bindsN F fun _ _ _ _ _ _ us hl => match us, hl with | [_, _], _ => rfl)) (mdl X G c.d rfl rfl rfl) (fns_cons ⟨_, rfl, rfl, a_slopes_of.mono (by decide)⟩ (fns_nil)) (own_nil) tr_true_corners
theorem s_Curve_init : FnScope c_Curve_init.N ["self", "corners", "slope"] (defScope (memOf (top 27) 0)) := ⟨rfl, rfl, rfl, by decide +kernel, rfl, by decide +kernel, by decide +kernel⟩
theorem tr_Curve_init : trSs c_Curve_init 60 (defScope (memOf (top 27) 0)) (defBody (memOf (top 27) 0)) = S.m_Curve_init := by kernel_rfl
theorem k_Curve (X : K.In h) (G : h.Ns mainGlobals mg) (c : SaysP fa fn pr K) (a_are_points : FnAt P w K mg base 6 "are_points" S.f_are_points) (a_is_less : FnAt P w K mg base 4 "is_less" S.f_is_less) (a_is_number : FnAt P w K mg base 2 "is_number" S.f_is_number) (a_slopes_of : FnAt P w K mg base 6 "slopes_of" S.f_slopes_of) (a_true_corners : FnAt P w K mg base 7 "true_corners" S.f_true_corners) (f_Curve_kept_corners : OwnAt P w K mg base 0 "Curve" "kept_corners" .fld) (f_Curve_kept_slopes : OwnAt P w K mg base 0 "Curve" "kept_slopes" .fld) : FnAt P w K mg base 9 "Curve" (ctorFn "Curve" S.f_Curve_init) := by
  obtain ⟨fd, F⟩ := c.d.def_ 15 (d := d_Curve_init) rfl
  exact ctor_at (He.mkr_ok (c.d.fact 57 (f := .mkr "Curve") rfl)) (He.glo_ok X G (c.d.fact 55 (f := .glo "Curve") rfl)) (ps := ["self", "corners", "slope"]) (mk_body F s_Curve_init rfl (mdl X G c.d rfl rfl rfl) (fns_cons ⟨_, rfl, rfl, a_are_points.mono (by decide)⟩ (fns_cons ⟨_, rfl, rfl, a_is_less.mono (by decide)⟩ (fns_cons ⟨_, rfl, rfl, a_is_number.mono (by decide)⟩ (fns_cons ⟨_, rfl, rfl, a_slopes_of.mono (by decide)⟩ (fns_cons ⟨_, rfl, rfl, a_true_corners.mono (by decide)⟩ (fns_nil)))))) (own_consO (f_Curve_kept_corners.mono (by decide)) (own_consO (f_Curve_kept_slopes.mono (by decide)) (own_nilO))) tr_Curve_init) rfl (by decide) rfl (FunD.bindsN F fun _ _ _ _ _ _ us hl => match us, hl with | [_, _, _], _ => rfl)
theorem s_place_of : FnScope c_place_of.N ["points", "price"] (defScope (top 26)) := ⟨rfl, rfl, rfl, by decide +kernel, rfl, by decide +kernel, by decide +kernel⟩
theorem tr_place_of : trSs c_place_of 60 (defScope (top 26)) (defBody (top 26)) = S.m_place_of := by kernel_rfl
theorem a_place_of (X : K.In h) (G : h.Ns mainGlobals mg) (c : SaysP fa fn pr K) (a_is_less : FnAt P w K mg base 4 "is_less" S.f_is_less) : FnAt P w K mg base 5 "place_of" S.f_place_of := by
  obtain ⟨fd, F⟩ := c.d.def_ 16 (d := d_place_of) rfl
  exact fnAt_mk F s_place_of rfl (He.glo_ok X G (c.d.fact 15 (f := .glo "place_of") rfl)) (fun _ z => by cases z) (binds_nil (FunD.bindsN F fun _ _ _ _ _ _ us hl => match us, hl with | [_, _], _ => rfl)) (mdl X G c.d rfl rfl rfl) (fns_cons ⟨_, rfl, rfl, a_is_less.mono (by decide)⟩ (fns_nil)) (own_nil) tr_place_of
theorem s_total : FnScope c_total.N ["numbers"] (defScope (top 18)) := ⟨rfl, rfl, rfl, by decide +kernel, rfl, by decide +kernel, by decide +kernel⟩
theorem tr_total : trSs c_total 60 (defScope (top 18)) (defBody (top 18)) = S.m_total := by kernel_rfl
theorem a_total (X : K.In h) (G : h.Ns mainGlobals mg) (c : SaysP fa fn pr K) (a_number_of : FnAt P w K mg base 2 "number_of" S.f_number_of) (a_pair_of : FnAt P w K mg base 1 "pair_of" S.f_l_pair) : FnAt P w K mg base 3 "total" S.f_total := by
  obtain ⟨fd, F⟩ := c.d.def_ 17 (d := d_total) rfl
  exact fnAt_mk F s_total rfl (He.glo_ok X G (c.d.fact 16 (f := .glo "total") rfl)) (fun _ z => by cases z) (binds_nil (FunD.bindsN F fun _ _ _ _ _ _ us hl => match us, hl with | [_], _ => rfl)) (mdl X G c.d rfl rfl rfl) (fns_cons ⟨_, rfl, rfl, a_number_of.mono (by decide)⟩ (fns_cons ⟨_, rfl, rfl, a_pair_of.mono (by decide)⟩ (fns_nil))) (own_nil) tr_total
theorem s_plus : FnScope c_plus.N ["one", "other"] (defScope (top 13)) := ⟨rfl, rfl, rfl, by decide +kernel, rfl, by decide +kernel, by decide +kernel⟩
theorem tr_plus : trSs c_plus 60 (defScope (top 13)) (defBody (top 13)) = S.m_plus := by kernel_rfl
theorem a_plus (X : K.In h) (G : h.Ns mainGlobals mg) (c : SaysP fa fn pr K) (a_require_number : FnAt P w K mg base 3 "require_number" S.f_require_number) (a_total : FnAt P w K mg base 3 "total" S.f_total) : FnAt P w K mg base 4 "plus" S.f_plus := by
  obtain ⟨fd, F⟩ := c.d.def_ 18 (d := d_plus) rfl
  exact fnAt_mk F s_plus rfl (He.glo_ok X G (c.d.fact 17 (f := .glo "plus") rfl)) (fun _ z => by cases z) (binds_nil (FunD.bindsN F fun _ _ _ _ _ _ us hl => match us, hl with | [_, _], _ => rfl)) (mdl X G c.d rfl rfl rfl) (fns_cons ⟨_, rfl, rfl, a_require_number.mono (by decide)⟩ (fns_cons ⟨_, rfl, rfl, a_total.mono (by decide)⟩ (fns_nil))) (own_nil) tr_plus
theorem s_times : FnScope c_times.N ["one", "other"] (defScope (top 15)) := ⟨rfl, rfl, rfl, by decide +kernel, rfl, by decide +kernel, by decide +kernel⟩
theorem tr_times : trSs c_times 60 (defScope (top 15)) (defBody (top 15)) = S.m_times := by kernel_rfl
theorem a_times (X : K.In h) (G : h.Ns mainGlobals mg) (c : SaysP fa fn pr K) (a_number_of : FnAt P w K mg base 2 "number_of" S.f_number_of) (a_pair_of : FnAt P w K mg base 1 "pair_of" S.f_l_pair) (a_require_number : FnAt P w K mg base 3 "require_number" S.f_require_number) : FnAt P w K mg base 4 "times" S.f_times := by
  obtain ⟨fd, F⟩ := c.d.def_ 19 (d := d_times) rfl
  exact fnAt_mk F s_times rfl (He.glo_ok X G (c.d.fact 18 (f := .glo "times") rfl)) (fun _ z => by cases z) (binds_nil (FunD.bindsN F fun _ _ _ _ _ _ us hl => match us, hl with | [_, _], _ => rfl)) (mdl X G c.d rfl rfl rfl) (fns_cons ⟨_, rfl, rfl, a_number_of.mono (by decide)⟩ (fns_cons ⟨_, rfl, rfl, a_pair_of.mono (by decide)⟩ (fns_cons ⟨_, rfl, rfl, a_require_number.mono (by decide)⟩ (fns_nil)))) (own_nil) tr_times
theorem s_Curve_at : FnScope c_Curve_at.N ["self", "price"] (defScope (memOf (top 27) 6)) := ⟨rfl, rfl, rfl, by decide +kernel, rfl, by decide +kernel, by decide +kernel⟩
theorem tr_Curve_at : trSs c_Curve_at 60 (defScope (memOf (top 27) 6)) (defBody (memOf (top 27) 6)) = S.m_Curve_at := by kernel_rfl
theorem o_Curve_at (X : K.In h) (G : h.Ns mainGlobals mg) (c : SaysP fa fn pr K) (a_minus : FnAt P w K mg base 4 "minus" S.f_minus) (a_place_of : FnAt P w K mg base 5 "place_of" S.f_place_of) (a_plus : FnAt P w K mg base 4 "plus" S.f_plus) (a_require_number : FnAt P w K mg base 3 "require_number" S.f_require_number) (a_times : FnAt P w K mg base 4 "times" S.f_times) (f_Curve_kept_corners : OwnAt P w K mg base 0 "Curve" "kept_corners" .fld) (f_Curve_kept_slopes : OwnAt P w K mg base 0 "Curve" "kept_slopes" .fld) : OwnAt P w K mg base 6 "Curve" "at" (.meth S.f_Curve_at) := by
  obtain ⟨fd, F⟩ := c.d.def_ 20 (d := d_Curve_at) rfl
  exact meth_at (He.cls_ok (c.d.fact 56 (f := .cls "Curve") rfl)) (He.meth_ok (c.d.fact 58 (f := .meth "Curve" "at") rfl)) rfl (ps := ["self", "price"]) (mk_body F s_Curve_at rfl (mdl X G c.d rfl rfl rfl) (fns_cons ⟨_, rfl, rfl, a_minus.mono (by decide)⟩ (fns_cons ⟨_, rfl, rfl, a_place_of.mono (by decide)⟩ (fns_cons ⟨_, rfl, rfl, a_plus.mono (by decide)⟩ (fns_cons ⟨_, rfl, rfl, a_require_number.mono (by decide)⟩ (fns_cons ⟨_, rfl, rfl, a_times.mono (by decide)⟩ (fns_nil)))))) (own_consO (f_Curve_kept_corners.mono (by decide)) (own_consO (f_Curve_kept_slopes.mono (by decide)) (own_nilO))) tr_Curve_at) (FunD.bindsN F fun _ _ _ _ _ _ us hl => match us, hl with | [_, _], _ => rfl)
theorem s_Curve_least : FnScope c_Curve_least.N ["self", "amount"] (defScope (memOf (top 27) 7)) := ⟨rfl, rfl, rfl, by decide +kernel, rfl, by decide +kernel, by decide +kernel⟩
theorem tr_Curve_least : trSs c_Curve_least 60 (defScope (memOf (top 27) 7)) (defBody (memOf (top 27) 7)) = S.m_Curve_least := by kernel_rfl
theorem o_Curve_least (X : K.In h) (G : h.Ns mainGlobals mg) (c : SaysP fa fn pr K) (a_is_less : FnAt P w K mg base 4 "is_less" S.f_is_less) (a_minus : FnAt P w K mg base 4 "minus" S.f_minus) (a_over : FnAt P w K mg base 4 "over" S.f_over) (a_plus : FnAt P w K mg base 4 "plus" S.f_plus) (a_require_number : FnAt P w K mg base 3 "require_number" S.f_require_number) (f_Curve_kept_corners : OwnAt P w K mg base 0 "Curve" "kept_corners" .fld) (f_Curve_kept_slopes : OwnAt P w K mg base 0 "Curve" "kept_slopes" .fld) : OwnAt P w K mg base 5 "Curve" "least" (.meth S.f_Curve_least) := by
  obtain ⟨fd, F⟩ := c.d.def_ 21 (d := d_Curve_least) rfl
  exact meth_at (He.cls_ok (c.d.fact 56 (f := .cls "Curve") rfl)) (He.meth_ok (c.d.fact 59 (f := .meth "Curve" "least") rfl)) rfl (ps := ["self", "amount"]) (mk_body F s_Curve_least rfl (mdl X G c.d rfl rfl rfl) (fns_cons ⟨_, rfl, rfl, a_is_less.mono (by decide)⟩ (fns_cons ⟨_, rfl, rfl, a_minus.mono (by decide)⟩ (fns_cons ⟨_, rfl, rfl, a_over.mono (by decide)⟩ (fns_cons ⟨_, rfl, rfl, a_plus.mono (by decide)⟩ (fns_cons ⟨_, rfl, rfl, a_require_number.mono (by decide)⟩ (fns_nil)))))) (own_consO (f_Curve_kept_corners.mono (by decide)) (own_consO (f_Curve_kept_slopes.mono (by decide)) (own_nilO))) tr_Curve_least) (FunD.bindsN F fun _ _ _ _ _ _ us hl => match us, hl with | [_, _], _ => rfl)
theorem s_Curve_slope_behind : FnScope c_Curve_slope_behind.N ["self", "price"] (defScope (memOf (top 27) 8)) := ⟨rfl, rfl, rfl, by decide +kernel, rfl, by decide +kernel, by decide +kernel⟩
theorem tr_Curve_slope_behind : trSs c_Curve_slope_behind 60 (defScope (memOf (top 27) 8)) (defBody (memOf (top 27) 8)) = S.m_Curve_slope_behind := by kernel_rfl
theorem o_Curve_slope_behind (X : K.In h) (G : h.Ns mainGlobals mg) (c : SaysP fa fn pr K) (a_place_of : FnAt P w K mg base 5 "place_of" S.f_place_of) (a_require_number : FnAt P w K mg base 3 "require_number" S.f_require_number) (f_Curve_kept_corners : OwnAt P w K mg base 0 "Curve" "kept_corners" .fld) (f_Curve_kept_slopes : OwnAt P w K mg base 0 "Curve" "kept_slopes" .fld) : OwnAt P w K mg base 6 "Curve" "slope_behind" (.meth S.f_Curve_slope_behind) := by
  obtain ⟨fd, F⟩ := c.d.def_ 22 (d := d_Curve_slope_behind) rfl
  exact meth_at (He.cls_ok (c.d.fact 56 (f := .cls "Curve") rfl)) (He.meth_ok (c.d.fact 60 (f := .meth "Curve" "slope_behind") rfl)) rfl (ps := ["self", "price"]) (mk_body F s_Curve_slope_behind rfl (mdl X G c.d rfl rfl rfl) (fns_cons ⟨_, rfl, rfl, a_place_of.mono (by decide)⟩ (fns_cons ⟨_, rfl, rfl, a_require_number.mono (by decide)⟩ (fns_nil))) (own_consO (f_Curve_kept_corners.mono (by decide)) (own_consO (f_Curve_kept_slopes.mono (by decide)) (own_nilO))) tr_Curve_slope_behind) (FunD.bindsN F fun _ _ _ _ _ _ us hl => match us, hl with | [_, _], _ => rfl)
theorem s_l_draw : FnScope c_l_draw.N ["spring", "many"] (defScope (top 31)) := ⟨rfl, rfl, rfl, by decide +kernel, rfl, by decide +kernel, by decide +kernel⟩
theorem tr_l_draw : trSs c_l_draw 60 (defScope (top 31)) (defBody (top 31)) = S.m_l_draw := by kernel_rfl
theorem a_l_draw (X : K.In h) (G : h.Ns mainGlobals mg) (c : SaysP fa fn pr K)  : FnAt P w K mg base 1 "_law_draw" S.f_l_draw := by
  obtain ⟨fd, F⟩ := c.d.def_ 23 (d := d_l_draw) rfl
  exact fnAt_mk F s_l_draw rfl (He.glo_ok X G (c.d.fact 19 (f := .glo "_law_draw") rfl)) (fun _ z => by cases z) (binds_nil (FunD.bindsN F fun _ _ _ _ _ _ us hl => match us, hl with | [_, _], _ => rfl)) (mdl X G c.d rfl rfl rfl) (fns_nil) (own_nil) tr_l_draw
theorem s_l_low : FnScope c_l_low.N ["top", "bottom"] (defScope (top 32)) := ⟨rfl, rfl, rfl, by decide +kernel, rfl, by decide +kernel, by decide +kernel⟩
theorem tr_l_low : trSs c_l_low 60 (defScope (top 32)) (defBody (top 32)) = S.m_l_low := by kernel_rfl
theorem a_l_low (X : K.In h) (G : h.Ns mainGlobals mg) (c : SaysP fa fn pr K)  : FnAt P w K mg base 1 "_law_low" S.f_l_low := by
  obtain ⟨fd, F⟩ := c.d.def_ 24 (d := d_l_low) rfl
  exact fnAt_mk F s_l_low rfl (He.glo_ok X G (c.d.fact 20 (f := .glo "_law_low") rfl)) (fun _ z => by cases z) (binds_nil (FunD.bindsN F fun _ _ _ _ _ _ us hl => match us, hl with | [_, _], _ => rfl)) (mdl X G c.d rfl rfl rfl) (fns_nil) (own_nil) tr_l_low
theorem s_l_number : FnScope c_l_number.N ["spring"] (defScope (top 41)) := ⟨rfl, rfl, rfl, by decide +kernel, rfl, by decide +kernel, by decide +kernel⟩
theorem tr_l_number : trSs c_l_number 60 (defScope (top 41)) (defBody (top 41)) = S.m_l_number := by kernel_rfl
theorem a_l_number (X : K.In h) (G : h.Ns mainGlobals mg) (c : SaysP fa fn pr K) (a_l_draw : FnAt P w K mg base 1 "_law_draw" S.f_l_draw) (a_l_low : FnAt P w K mg base 1 "_law_low" S.f_l_low) : FnAt P w K mg base 2 "_law_number" S.f_l_number := by
  obtain ⟨fd, F⟩ := c.d.def_ 25 (d := d_l_number) rfl
  exact fnAt_mk F s_l_number rfl (He.glo_ok X G (c.d.fact 21 (f := .glo "_law_number") rfl)) (fun _ z => by cases z) (binds_nil (FunD.bindsN F fun _ _ _ _ _ _ us hl => match us, hl with | [_], _ => rfl)) (mdl X G c.d rfl rfl rfl) (fns_cons ⟨_, rfl, rfl, a_l_draw.mono (by decide)⟩ (fns_cons ⟨_, rfl, rfl, a_l_low.mono (by decide)⟩ (fns_nil))) (own_nil) tr_l_number
theorem s_l_pair : FnScope c_l_pair.N ["one"] (defScope (top 33)) := ⟨rfl, rfl, rfl, by decide +kernel, rfl, by decide +kernel, by decide +kernel⟩
theorem tr_l_pair : trSs c_l_pair 60 (defScope (top 33)) (defBody (top 33)) = S.m_l_pair := by kernel_rfl
theorem a_l_pair (X : K.In h) (G : h.Ns mainGlobals mg) (c : SaysP fa fn pr K)  : FnAt P w K mg base 1 "_law_pair" S.f_l_pair := by
  obtain ⟨fd, F⟩ := c.d.def_ 26 (d := d_l_pair) rfl
  exact fnAt_mk F s_l_pair rfl (He.glo_ok X G (c.d.fact 22 (f := .glo "_law_pair") rfl)) (fun _ z => by cases z) (binds_nil (FunD.bindsN F fun _ _ _ _ _ _ us hl => match us, hl with | [_], _ => rfl)) (mdl X G c.d rfl rfl rfl) (fns_nil) (own_nil) tr_l_pair
theorem s_l_sum : FnScope c_l_sum.N ["some"] (defScope (top 34)) := ⟨rfl, rfl, rfl, by decide +kernel, rfl, by decide +kernel, by decide +kernel⟩
theorem tr_l_sum : trSs c_l_sum 60 (defScope (top 34)) (defBody (top 34)) = S.m_l_sum2 := by kernel_rfl
theorem a_l_sum (X : K.In h) (G : h.Ns mainGlobals mg) (c : SaysP fa fn pr K) (a_l_low : FnAt P w K mg base 1 "_law_low" S.f_l_low) (a_l_pair : FnAt P w K mg base 1 "_law_pair" S.f_l_pair) : FnAt P w K mg base 2 "_law_sum" S.f_l_sum2 := by
  obtain ⟨fd, F⟩ := c.d.def_ 27 (d := d_l_sum) rfl
  exact fnAt_mk F s_l_sum rfl (He.glo_ok X G (c.d.fact 23 (f := .glo "_law_sum") rfl)) (fun _ z => by cases z) (binds_nil (FunD.bindsN F fun _ _ _ _ _ _ us hl => match us, hl with | [_], _ => rfl)) (mdl X G c.d rfl rfl rfl) (fns_cons ⟨_, rfl, rfl, a_l_low.mono (by decide)⟩ (fns_cons ⟨_, rfl, rfl, a_l_pair.mono (by decide)⟩ (fns_nil))) (own_nil) tr_l_sum
theorem s_l_times : FnScope c_l_times.N ["one", "two"] (defScope (top 36)) := ⟨rfl, rfl, rfl, by decide +kernel, rfl, by decide +kernel, by decide +kernel⟩
theorem tr_l_times : trSs c_l_times 60 (defScope (top 36)) (defBody (top 36)) = S.m_l_times := by kernel_rfl
theorem a_l_times (X : K.In h) (G : h.Ns mainGlobals mg) (c : SaysP fa fn pr K) (a_l_low : FnAt P w K mg base 1 "_law_low" S.f_l_low) (a_l_pair : FnAt P w K mg base 1 "_law_pair" S.f_l_pair) : FnAt P w K mg base 2 "_law_times" S.f_l_times := by
  obtain ⟨fd, F⟩ := c.d.def_ 28 (d := d_l_times) rfl
  exact fnAt_mk F s_l_times rfl (He.glo_ok X G (c.d.fact 24 (f := .glo "_law_times") rfl)) (fun _ z => by cases z) (binds_nil (FunD.bindsN F fun _ _ _ _ _ _ us hl => match us, hl with | [_, _], _ => rfl)) (mdl X G c.d rfl rfl rfl) (fns_cons ⟨_, rfl, rfl, a_l_low.mono (by decide)⟩ (fns_cons ⟨_, rfl, rfl, a_l_pair.mono (by decide)⟩ (fns_nil))) (own_nil) tr_l_times
theorem s_l_drawn : FnScope c_l_drawn.N ["spring", "many"] (defScope (top 42)) := ⟨rfl, rfl, rfl, by decide +kernel, rfl, by decide +kernel, by decide +kernel⟩
theorem tr_l_drawn : trSs c_l_drawn 60 (defScope (top 42)) (defBody (top 42)) = S.m_l_drawn := by kernel_rfl
theorem a_l_drawn (X : K.In h) (G : h.Ns mainGlobals mg) (c : SaysP fa fn pr K) (a_l_draw : FnAt P w K mg base 1 "_law_draw" S.f_l_draw) (a_l_number : FnAt P w K mg base 2 "_law_number" S.f_l_number) (a_l_sum : FnAt P w K mg base 2 "_law_sum" S.f_l_sum2) (a_l_times : FnAt P w K mg base 2 "_law_times" S.f_l_times) : FnAt P w K mg base 3 "_law_drawn" S.f_l_drawn := by
  obtain ⟨fd, F⟩ := c.d.def_ 29 (d := d_l_drawn) rfl
  exact fnAt_mk F s_l_drawn rfl (He.glo_ok X G (c.d.fact 25 (f := .glo "_law_drawn") rfl)) (fun _ z => by cases z) (binds_nil (FunD.bindsN F fun _ _ _ _ _ _ us hl => match us, hl with | [_, _], _ => rfl)) (mdl X G c.d rfl rfl rfl) (fns_cons ⟨_, rfl, rfl, a_l_draw.mono (by decide)⟩ (fns_cons ⟨_, rfl, rfl, a_l_number.mono (by decide)⟩ (fns_cons ⟨_, rfl, rfl, a_l_sum.mono (by decide)⟩ (fns_cons ⟨_, rfl, rfl, a_l_times.mono (by decide)⟩ (fns_nil))))) (own_nil) tr_l_drawn
theorem s_Curve_corners : FnScope c_Curve_corners.N ["self"] (defScope (memOf (top 27) 1)) := ⟨rfl, rfl, rfl, by decide +kernel, rfl, by decide +kernel, by decide +kernel⟩
theorem tr_Curve_corners : trSs c_Curve_corners 60 (defScope (memOf (top 27) 1)) (defBody (memOf (top 27) 1)) = S.m_Curve_corners := by kernel_rfl
theorem o_Curve_corners (X : K.In h) (G : h.Ns mainGlobals mg) (c : SaysP fa fn pr K) (f_Curve_kept_corners : OwnAt P w K mg base 0 "Curve" "kept_corners" .fld) : OwnAt P w K mg base 2 "Curve" "corners" (.prop S.f_Curve_corners) := by
  obtain ⟨PO, fd, F⟩ := c.prop 0 (d := p_Curve_corners) rfl
  exact prop_at (He.cls_ok (c.d.fact 56 (f := .cls "Curve") rfl)) PO rfl rfl (ps := ["self"]) rfl (mk_body F s_Curve_corners rfl (mdl X G c.d rfl rfl rfl) (fns_nil) (own_consO (f_Curve_kept_corners.mono (by decide)) (own_nilO)) tr_Curve_corners) (FunD.bindsN F fun _ _ _ _ _ _ us hl => match us, hl with | [_], _ => rfl)
theorem s_l_less : FnScope c_l_less.N ["one", "two"] (defScope (top 38)) := ⟨rfl, rfl, rfl, by decide +kernel, rfl, by decide +kernel, by decide +kernel⟩
theorem tr_l_less : trSs c_l_less 60 (defScope (top 38)) (defBody (top 38)) = S.m_l_less := by kernel_rfl
theorem a_l_less (X : K.In h) (G : h.Ns mainGlobals mg) (c : SaysP fa fn pr K) (a_l_pair : FnAt P w K mg base 1 "_law_pair" S.f_l_pair) : FnAt P w K mg base 2 "_law_less" S.f_l_less := by
  obtain ⟨fd, F⟩ := c.d.def_ 30 (d := d_l_less) rfl
  exact fnAt_mk F s_l_less rfl (He.glo_ok X G (c.d.fact 26 (f := .glo "_law_less") rfl)) (fun _ z => by cases z) (binds_nil (FunD.bindsN F fun _ _ _ _ _ _ us hl => match us, hl with | [_, _], _ => rfl)) (mdl X G c.d rfl rfl rfl) (fns_cons ⟨_, rfl, rfl, a_l_pair.mono (by decide)⟩ (fns_nil)) (own_nil) tr_l_less
theorem s_l_minus : FnScope c_l_minus.N ["one", "two"] (defScope (top 35)) := ⟨rfl, rfl, rfl, by decide +kernel, rfl, by decide +kernel, by decide +kernel⟩
theorem tr_l_minus : trSs c_l_minus 60 (defScope (top 35)) (defBody (top 35)) = S.m_l_minus := by kernel_rfl
theorem a_l_minus (X : K.In h) (G : h.Ns mainGlobals mg) (c : SaysP fa fn pr K) (a_l_pair : FnAt P w K mg base 1 "_law_pair" S.f_l_pair) (a_l_sum : FnAt P w K mg base 2 "_law_sum" S.f_l_sum2) : FnAt P w K mg base 3 "_law_minus" S.f_l_minus := by
  obtain ⟨fd, F⟩ := c.d.def_ 31 (d := d_l_minus) rfl
  exact fnAt_mk F s_l_minus rfl (He.glo_ok X G (c.d.fact 27 (f := .glo "_law_minus") rfl)) (fun _ z => by cases z) (binds_nil (FunD.bindsN F fun _ _ _ _ _ _ us hl => match us, hl with | [_, _], _ => rfl)) (mdl X G c.d rfl rfl rfl) (fns_cons ⟨_, rfl, rfl, a_l_pair.mono (by decide)⟩ (fns_cons ⟨_, rfl, rfl, a_l_sum.mono (by decide)⟩ (fns_nil))) (own_nil) tr_l_minus
theorem s_l_over : FnScope c_l_over.N ["one", "two"] (defScope (top 37)) := ⟨rfl, rfl, rfl, by decide +kernel, rfl, by decide +kernel, by decide +kernel⟩
theorem tr_l_over : trSs c_l_over 60 (defScope (top 37)) (defBody (top 37)) = S.m_l_over := by kernel_rfl
theorem a_l_over (X : K.In h) (G : h.Ns mainGlobals mg) (c : SaysP fa fn pr K) (a_l_low : FnAt P w K mg base 1 "_law_low" S.f_l_low) (a_l_pair : FnAt P w K mg base 1 "_law_pair" S.f_l_pair) : FnAt P w K mg base 2 "_law_over" S.f_l_over := by
  obtain ⟨fd, F⟩ := c.d.def_ 32 (d := d_l_over) rfl
  exact fnAt_mk F s_l_over rfl (He.glo_ok X G (c.d.fact 28 (f := .glo "_law_over") rfl)) (fun _ z => by cases z) (binds_nil (FunD.bindsN F fun _ _ _ _ _ _ us hl => match us, hl with | [_, _], _ => rfl)) (mdl X G c.d rfl rfl rfl) (fns_cons ⟨_, rfl, rfl, a_l_low.mono (by decide)⟩ (fns_cons ⟨_, rfl, rfl, a_l_pair.mono (by decide)⟩ (fns_nil))) (own_nil) tr_l_over
theorem s_l_first : FnScope c_l_first.N ["rows", "worth"] (defScope (top 46)) := ⟨rfl, rfl, rfl, by decide +kernel, rfl, by decide +kernel, by decide +kernel⟩
theorem tr_l_first : trSs c_l_first 60 (defScope (top 46)) (defBody (top 46)) = S.m_l_first := by kernel_rfl
theorem a_l_first (X : K.In h) (G : h.Ns mainGlobals mg) (c : SaysP fa fn pr K) (a_l_less : FnAt P w K mg base 2 "_law_less" S.f_l_less) (a_l_minus : FnAt P w K mg base 3 "_law_minus" S.f_l_minus) (a_l_over : FnAt P w K mg base 2 "_law_over" S.f_l_over) (a_l_sum : FnAt P w K mg base 2 "_law_sum" S.f_l_sum2) : FnAt P w K mg base 4 "_law_first" S.f_l_first := by
  obtain ⟨fd, F⟩ := c.d.def_ 33 (d := d_l_first) rfl
  exact fnAt_mk F s_l_first rfl (He.glo_ok X G (c.d.fact 29 (f := .glo "_law_first") rfl)) (fun _ z => by cases z) (binds_nil (FunD.bindsN F fun _ _ _ _ _ _ us hl => match us, hl with | [_, _], _ => rfl)) (mdl X G c.d rfl rfl rfl) (fns_cons ⟨_, rfl, rfl, a_l_less.mono (by decide)⟩ (fns_cons ⟨_, rfl, rfl, a_l_minus.mono (by decide)⟩ (fns_cons ⟨_, rfl, rfl, a_l_over.mono (by decide)⟩ (fns_cons ⟨_, rfl, rfl, a_l_sum.mono (by decide)⟩ (fns_nil))))) (own_nil) tr_l_first
theorem s_l_piece : FnScope c_l_piece.N ["rows", "paid"] (defScope (top 44)) := ⟨rfl, rfl, rfl, by decide +kernel, rfl, by decide +kernel, by decide +kernel⟩
theorem tr_l_piece : trSs c_l_piece 60 (defScope (top 44)) (defBody (top 44)) = S.m_l_piece := by kernel_rfl
theorem a_l_piece (X : K.In h) (G : h.Ns mainGlobals mg) (c : SaysP fa fn pr K) (a_l_less : FnAt P w K mg base 2 "_law_less" S.f_l_less) (a_l_minus : FnAt P w K mg base 3 "_law_minus" S.f_l_minus) (a_l_sum : FnAt P w K mg base 2 "_law_sum" S.f_l_sum2) (a_l_times : FnAt P w K mg base 2 "_law_times" S.f_l_times) : FnAt P w K mg base 4 "_law_piece" S.f_l_piece := by
  obtain ⟨fd, F⟩ := c.d.def_ 34 (d := d_l_piece) rfl
  exact fnAt_mk F s_l_piece rfl (He.glo_ok X G (c.d.fact 30 (f := .glo "_law_piece") rfl)) (fun _ z => by cases z) (binds_nil (FunD.bindsN F fun _ _ _ _ _ _ us hl => match us, hl with | [_, _], _ => rfl)) (mdl X G c.d rfl rfl rfl) (fns_cons ⟨_, rfl, rfl, a_l_less.mono (by decide)⟩ (fns_cons ⟨_, rfl, rfl, a_l_minus.mono (by decide)⟩ (fns_cons ⟨_, rfl, rfl, a_l_sum.mono (by decide)⟩ (fns_cons ⟨_, rfl, rfl, a_l_times.mono (by decide)⟩ (fns_nil))))) (own_nil) tr_l_piece
theorem s_l_somewhere : FnScope c_l_somewhere.N ["spring", "rows"] (defScope (top 45)) := ⟨rfl, rfl, rfl, by decide +kernel, rfl, by decide +kernel, by decide +kernel⟩
theorem tr_l_somewhere : trSs c_l_somewhere 60 (defScope (top 45)) (defBody (top 45)) = S.m_l_somewhere := by kernel_rfl
theorem a_l_somewhere (X : K.In h) (G : h.Ns mainGlobals mg) (c : SaysP fa fn pr K) (a_l_draw : FnAt P w K mg base 1 "_law_draw" S.f_l_draw) (a_l_low : FnAt P w K mg base 1 "_law_low" S.f_l_low) (a_l_number : FnAt P w K mg base 2 "_law_number" S.f_l_number) (a_l_over : FnAt P w K mg base 2 "_law_over" S.f_l_over) (a_l_sum : FnAt P w K mg base 2 "_law_sum" S.f_l_sum2) : FnAt P w K mg base 3 "_law_somewhere" S.f_l_somewhere := by
  obtain ⟨fd, F⟩ := c.d.def_ 35 (d := d_l_somewhere) rfl
  exact fnAt_mk F s_l_somewhere rfl (He.glo_ok X G (c.d.fact 31 (f := .glo "_law_somewhere") rfl)) (fun _ z => by cases z) (binds_nil (FunD.bindsN F fun _ _ _ _ _ _ us hl => match us, hl with | [_, _], _ => rfl)) (mdl X G c.d rfl rfl rfl) (fns_cons ⟨_, rfl, rfl, a_l_draw.mono (by decide)⟩ (fns_cons ⟨_, rfl, rfl, a_l_low.mono (by decide)⟩ (fns_cons ⟨_, rfl, rfl, a_l_number.mono (by decide)⟩ (fns_cons ⟨_, rfl, rfl, a_l_over.mono (by decide)⟩ (fns_cons ⟨_, rfl, rfl, a_l_sum.mono (by decide)⟩ (fns_nil)))))) (own_nil) tr_l_somewhere
theorem s_l_true : FnScope c_l_true.N ["points", "last"] (defScope (top 43)) := ⟨rfl, rfl, rfl, by decide +kernel, rfl, by decide +kernel, by decide +kernel⟩
theorem tr_l_true : trSs c_l_true 60 (defScope (top 43)) (defBody (top 43)) = S.m_l_true := by kernel_rfl
theorem a_l_true (X : K.In h) (G : h.Ns mainGlobals mg) (c : SaysP fa fn pr K) (a_l_minus : FnAt P w K mg base 3 "_law_minus" S.f_l_minus) (a_l_over : FnAt P w K mg base 2 "_law_over" S.f_l_over) : FnAt P w K mg base 4 "_law_true" S.f_l_true := by
  obtain ⟨fd, F⟩ := c.d.def_ 36 (d := d_l_true) rfl
  exact fnAt_mk F s_l_true rfl (He.glo_ok X G (c.d.fact 32 (f := .glo "_law_true") rfl)) (fun _ z => by cases z) (binds_nil (FunD.bindsN F fun _ _ _ _ _ _ us hl => match us, hl with | [_, _], _ => rfl)) (mdl X G c.d rfl rfl rfl) (fns_cons ⟨_, rfl, rfl, a_l_minus.mono (by decide)⟩ (fns_cons ⟨_, rfl, rfl, a_l_over.mono (by decide)⟩ (fns_nil))) (own_nil) tr_l_true
theorem s_l_right : FnScope c_l_right.N ["spring", "points", "last"] (defScope (top 47)) := ⟨rfl, rfl, rfl, by decide +kernel, rfl, by decide +kernel, by decide +kernel⟩
theorem tr_l_right : trSs c_l_right 60 (defScope (top 47)) (defBody (top 47)) = S.m_l_right2 := by kernel_rfl
theorem a_l_right (X : K.In h) (G : h.Ns mainGlobals mg) (c : SaysP fa fn pr K) (a_l_draw : FnAt P w K mg base 1 "_law_draw" S.f_l_draw) (a_l_first : FnAt P w K mg base 4 "_law_first" S.f_l_first) (a_l_number : FnAt P w K mg base 2 "_law_number" S.f_l_number) (a_l_piece : FnAt P w K mg base 4 "_law_piece" S.f_l_piece) (a_l_somewhere : FnAt P w K mg base 3 "_law_somewhere" S.f_l_somewhere) (a_l_sum : FnAt P w K mg base 2 "_law_sum" S.f_l_sum2) (a_l_true : FnAt P w K mg base 4 "_law_true" S.f_l_true) (k_Curve : FnAt P w K mg base 9 "Curve" (ctorFn "Curve" S.f_Curve_init)) (o_Curve_at : OwnAt P w K mg base 6 "Curve" "at" (.meth S.f_Curve_at)) (o_Curve_corners : OwnAt P w K mg base 2 "Curve" "corners" (.prop S.f_Curve_corners)) (o_Curve_least : OwnAt P w K mg base 5 "Curve" "least" (.meth S.f_Curve_least)) (o_Curve_slope_behind : OwnAt P w K mg base 6 "Curve" "slope_behind" (.meth S.f_Curve_slope_behind)) : FnAt P w K mg base 10 "_law_right" S.f_l_right2 := by
  obtain ⟨fd, F⟩ := c.d.def_ 37 (d := d_l_right) rfl
  exact fnAt_mk F s_l_right rfl (He.glo_ok X G (c.d.fact 33 (f := .glo "_law_right") rfl)) (fun _ z => by cases z) (binds_nil (FunD.bindsN F fun _ _ _ _ _ _ us hl => match us, hl with | [_, _, _], _ => rfl)) (mdl X G c.d rfl rfl rfl) (fns_cons ⟨_, rfl, rfl, a_l_draw.mono (by decide)⟩ (fns_cons ⟨_, rfl, rfl, a_l_first.mono (by decide)⟩ (fns_cons ⟨_, rfl, rfl, a_l_number.mono (by decide)⟩ (fns_cons ⟨_, rfl, rfl, a_l_piece.mono (by decide)⟩ (fns_cons ⟨_, rfl, rfl, a_l_somewhere.mono (by decide)⟩ (fns_cons ⟨_, rfl, rfl, a_l_sum.mono (by decide)⟩ (fns_cons ⟨_, rfl, rfl, a_l_true.mono (by decide)⟩ (fns_cons ⟨_, rfl, rfl, k_Curve.mono (by decide)⟩ (fns_nil))))))))) (own_consO (o_Curve_at.mono (by decide)) (own_consO (o_Curve_corners.mono (by decide)) (own_consO (o_Curve_least.mono (by decide)) (own_consO (o_Curve_slope_behind.mono (by decide)) (own_nilO))))) tr_l_right
theorem s_l_spring : FnScope c_l_spring.N ["script", "at"] (defScope (top 30)) := ⟨rfl, rfl, rfl, by decide +kernel, rfl, by decide +kernel, by decide +kernel⟩
theorem tr_l_spring : trSs c_l_spring 60 (defScope (top 30)) (defBody (top 30)) = S.m_l_spring := by kernel_rfl
theorem a_l_spring (X : K.In h) (G : h.Ns mainGlobals mg) (c : SaysP fa fn pr K)  : FnAt P w K mg base 1 "_law_spring" S.f_l_spring := by
  obtain ⟨fd, F⟩ := c.d.def_ 38 (d := d_l_spring) rfl
  exact fnAt_mk F s_l_spring rfl (He.glo_ok X G (c.d.fact 34 (f := .glo "_law_spring") rfl)) (fun _ z => by cases z) (binds_nil (FunD.bindsN F fun _ _ _ _ _ _ us hl => match us, hl with | [_, _], _ => rfl)) (mdl X G c.d rfl rfl rfl) (fns_nil) (own_nil) tr_l_spring
theorem s_law : FnScope c_law.N ["script"] (defScope (top 48)) := ⟨rfl, rfl, rfl, by decide +kernel, rfl, by decide +kernel, by decide +kernel⟩
theorem tr_law : trSs c_law 60 (defScope (top 48)) (defBody (top 48)) = m_law := by kernel_rfl
theorem g_law (X : K.In h) (G : h.Ns mainGlobals mg) (c : SaysP fa fn pr K) (a_l_draw : FnAt P w K mg base 1 "_law_draw" S.f_l_draw) (a_l_drawn : FnAt P w K mg base 3 "_law_drawn" S.f_l_drawn) (a_l_right : FnAt P w K mg base 10 "_law_right" S.f_l_right2) (a_l_spring : FnAt P w K mg base 1 "_law_spring" S.f_l_spring) (k_Curve : FnAt P w K mg base 9 "Curve" (ctorFn "Curve" S.f_Curve_init)) (o_Curve_at : OwnAt P w K mg base 6 "Curve" "at" (.meth S.f_Curve_at)) (o_Curve_least : OwnAt P w K mg base 5 "Curve" "least" (.meth S.f_Curve_least)) (o_Curve_slope_behind : OwnAt P w K mg base 6 "Curve" "slope_behind" (.meth S.f_Curve_slope_behind)) {fd : FuncData} (F : FunD K "law" "law" (defArgs (top 48)) (defBody (top 48)) (defScope (top 48)) [] [] (He.ga K "law") fd) : FnG P w K mg base 11 (He.ga K "law") fd ["script"] (spF K f_law) :=
  mk_body F s_law rfl (mdl X G c.d rfl rfl rfl) (fns_cons ⟨_, rfl, rfl, a_l_draw.mono (by decide)⟩ (fns_cons ⟨_, rfl, rfl, a_l_drawn.mono (by decide)⟩ (fns_cons ⟨_, rfl, rfl, a_l_right.mono (by decide)⟩ (fns_cons ⟨_, rfl, rfl, a_l_spring.mono (by decide)⟩ (fns_cons ⟨_, rfl, rfl, k_Curve.mono (by decide)⟩ (fns_nil)))))) (own_consO (o_Curve_at.mono (by decide)) (own_consO (o_Curve_least.mono (by decide)) (own_consO (o_Curve_slope_behind.mono (by decide)) (own_nilO)))) tr_law
end
theorem facts {P : Program} {w : World} {K : PySem.W.Frag} {h : Heap} {mg : Str → Option Value} {f : Addr} (X : K.In h) (G : h.Ns mainGlobals mg) (hf : mg ("law" : Str) = some (.ref f)) (c : SaysP fa fn pr K) :
    ∃ fd : FuncData, (∀ (s : Shared) (u : Value), BindsTo s fd ⟨[u], []⟩ [("script", u)]) ∧ ∀ base : Heap, K.In base → base.Ns mainGlobals mg → FnG P w K mg base 11 f fd ["script"] (spF K f_law) := by
  obtain ⟨fd, F⟩ := c.d.def_ 39 (d := d_law) rfl
  have e := hf.symm.trans (He.glo_ok X G (c.d.fact 35 (f := .glo "law") rfl))
  cases e
  have b := FunD.bindsA (ps := ["script"]) F fun _ _ _ _ _ _ us hl => match us, hl with | [_], _ => rfl
  refine ⟨fd, fun s u => b s [u] rfl, fun base _ _ => ?_⟩
  have h_f_Curve_kept_corners := f_Curve_kept_corners (P := P) (w := w) (mg := mg) (base := base) c
  have h_f_Curve_kept_slopes := f_Curve_kept_slopes (P := P) (w := w) (mg := mg) (base := base) c
  have h_a_pair_of := a_pair_of (P := P) (w := w) (base := base) X G c 
  have h_a_less := a_less (P := P) (w := w) (base := base) X G c h_a_pair_of
  have h_a_common_divisor := a_common_divisor (P := P) (w := w) (base := base) X G c 
  have h_a_is_int := a_is_int (P := P) (w := w) (base := base) X G c 
  have h_a_is_number := a_is_number (P := P) (w := w) (base := base) X G c h_a_common_divisor h_a_is_int
  have h_a_require_number := a_require_number (P := P) (w := w) (base := base) X G c h_a_is_number h_a_less
  have h_a_is_less := a_is_less (P := P) (w := w) (base := base) X G c h_a_less h_a_require_number
  have h_a_is_point := a_is_point (P := P) (w := w) (base := base) X G c h_a_is_less h_a_is_number
  have h_a_are_points := a_are_points (P := P) (w := w) (base := base) X G c h_a_is_less h_a_is_point
  have h_a_number_of := a_number_of (P := P) (w := w) (base := base) X G c h_a_common_divisor
  have h_a_minus := a_minus (P := P) (w := w) (base := base) X G c h_a_number_of h_a_pair_of h_a_require_number
  have h_a_over := a_over (P := P) (w := w) (base := base) X G c h_a_number_of h_a_pair_of h_a_require_number
  have h_a_slope_between := a_slope_between (P := P) (w := w) (base := base) X G c h_a_minus h_a_over
  have h_a_slopes_of := a_slopes_of (P := P) (w := w) (base := base) X G c h_a_slope_between
  have h_a_true_corners := a_true_corners (P := P) (w := w) (base := base) X G c h_a_slopes_of
  have h_k_Curve := k_Curve (P := P) (w := w) (base := base) X G c h_a_are_points h_a_is_less h_a_is_number h_a_slopes_of h_a_true_corners h_f_Curve_kept_corners h_f_Curve_kept_slopes
  have h_a_place_of := a_place_of (P := P) (w := w) (base := base) X G c h_a_is_less
  have h_a_total := a_total (P := P) (w := w) (base := base) X G c h_a_number_of h_a_pair_of
  have h_a_plus := a_plus (P := P) (w := w) (base := base) X G c h_a_require_number h_a_total
  have h_a_times := a_times (P := P) (w := w) (base := base) X G c h_a_number_of h_a_pair_of h_a_require_number
  have h_o_Curve_at := o_Curve_at (P := P) (w := w) (base := base) X G c h_a_minus h_a_place_of h_a_plus h_a_require_number h_a_times h_f_Curve_kept_corners h_f_Curve_kept_slopes
  have h_o_Curve_least := o_Curve_least (P := P) (w := w) (base := base) X G c h_a_is_less h_a_minus h_a_over h_a_plus h_a_require_number h_f_Curve_kept_corners h_f_Curve_kept_slopes
  have h_o_Curve_slope_behind := o_Curve_slope_behind (P := P) (w := w) (base := base) X G c h_a_place_of h_a_require_number h_f_Curve_kept_corners h_f_Curve_kept_slopes
  have h_a_l_draw := a_l_draw (P := P) (w := w) (base := base) X G c 
  have h_a_l_low := a_l_low (P := P) (w := w) (base := base) X G c 
  have h_a_l_number := a_l_number (P := P) (w := w) (base := base) X G c h_a_l_draw h_a_l_low
  have h_a_l_pair := a_l_pair (P := P) (w := w) (base := base) X G c 
  have h_a_l_sum := a_l_sum (P := P) (w := w) (base := base) X G c h_a_l_low h_a_l_pair
  have h_a_l_times := a_l_times (P := P) (w := w) (base := base) X G c h_a_l_low h_a_l_pair
  have h_a_l_drawn := a_l_drawn (P := P) (w := w) (base := base) X G c h_a_l_draw h_a_l_number h_a_l_sum h_a_l_times
  have h_o_Curve_corners := o_Curve_corners (P := P) (w := w) (base := base) X G c h_f_Curve_kept_corners
  have h_a_l_less := a_l_less (P := P) (w := w) (base := base) X G c h_a_l_pair
  have h_a_l_minus := a_l_minus (P := P) (w := w) (base := base) X G c h_a_l_pair h_a_l_sum
  have h_a_l_over := a_l_over (P := P) (w := w) (base := base) X G c h_a_l_low h_a_l_pair
  have h_a_l_first := a_l_first (P := P) (w := w) (base := base) X G c h_a_l_less h_a_l_minus h_a_l_over h_a_l_sum
  have h_a_l_piece := a_l_piece (P := P) (w := w) (base := base) X G c h_a_l_less h_a_l_minus h_a_l_sum h_a_l_times
  have h_a_l_somewhere := a_l_somewhere (P := P) (w := w) (base := base) X G c h_a_l_draw h_a_l_low h_a_l_number h_a_l_over h_a_l_sum
  have h_a_l_true := a_l_true (P := P) (w := w) (base := base) X G c h_a_l_minus h_a_l_over
  have h_a_l_right := a_l_right (P := P) (w := w) (base := base) X G c h_a_l_draw h_a_l_first h_a_l_number h_a_l_piece h_a_l_somewhere h_a_l_sum h_a_l_true h_k_Curve h_o_Curve_at h_o_Curve_corners h_o_Curve_least h_o_Curve_slope_behind
  have h_a_l_spring := a_l_spring (P := P) (w := w) (base := base) X G c 
  exact g_law X G c h_a_l_draw h_a_l_drawn h_a_l_right h_a_l_spring h_k_Curve h_o_Curve_at h_o_Curve_least h_o_Curve_slope_behind F
end K22
open PySem PySem.W PySem.Calls
open PyProof.Rows hiding St
theorem PySem.Challenge.cw_salesplit_k22_values_of_curves_holds : PySem.Challenge.rw_salesplit_k22_values_of_curves.Holds := by
  w_on; o_law
  refine HandSHeadRun.head_any (r := OpenLaw.row PySem.Challenge.rw_salesplit_k22_values_of_curves) (q := view (OpenLaw.row PySem.Challenge.rw_salesplit_k22_values_of_curves).prog [48]) (H := K22.hk) (ob := K22.ob) (M := 20000) (loose := K22.lo)
    (d := HandSHeadRun.topDef (OpenLaw.row PySem.Challenge.rw_salesplit_k22_values_of_curves).prog 48) (kwd := []) K22.obEq
    (by kernel_rfl) (fun s => by kernel_rfl) K22.runs (by kernel_rfl) (by kernel_rfl) (by kernel_rfl) (by rfl) (by first | assumption | decide +kernel) (by decide +kernel) ⟨rfl, rfl, rfl, rfl, rfl, by decide +kernel⟩ ?hw ?hc
  case hw => w_witness2
  case hc =>
    refine Z.end_law (l := PySem.Challenge.rw_salesplit_k22_values_of_curves) (n := 63) (k := 11) (x := "script") (fn := K22.f_law) rfl (by decide) (by kernel_rfl) ⟨rfl, by decide, by decide⟩ rfl rfl rfl K22.main ?_
    intro w mg f h Y G nm0
    obtain ⟨K, X, c⟩ := Y
    have nm : mg ("law" : PySem.Str) = some (.ref f) := by
      have e : (HandSHeadRun.topDef (OpenLaw.row PySem.Challenge.rw_salesplit_k22_values_of_curves).prog 48).name = ("law" : PySem.Str) := by kernel_rfl
      rw [← e]
      exact nm0
    obtain ⟨fd, b, F⟩ := K22.facts (P := (PySem.Challenge.rw_salesplit_k22_values_of_curves).prog) (w := w) X G nm c
    exact ⟨K, fd, X, b, F⟩
